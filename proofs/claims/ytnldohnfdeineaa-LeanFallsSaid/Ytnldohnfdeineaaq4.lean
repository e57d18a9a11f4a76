/- Part 4 of the proof: an abstract machine for the loaded code, and what the functions compute. No conditions. -/
import Derived.Test.Ytnldohnfdeineaaq3
set_option linter.unusedVariables false
set_option linter.unusedSimpArgs false
/- Tokens: what the document's tokens are, as plain functions; the walks of ref02. -/
namespace Go.Proofs.Ytnldohnfdeineaa.Abs
open Go
set_option maxRecDepth 100000

def isLetter (c : Nat) : Bool := (decide (97 ≤ c) && decide (c ≤ 122)) || (decide (65 ≤ c) && decide (c ≤ 90)) || decide (c = 95)
def isDigit (c : Nat) : Bool := decide (48 ≤ c) && decide (c ≤ 57)
theorem letter_ok {Q : ARes → List AO → Prop} {c : Nat} {hp} (h : Q (.ret (.bool (isLetter c))) hp) : callK CC 69 [.int .u8 c] hp Q := by
  refine callK_intro rfl (c69 ?_)
  by_cases h1 : 97 ≤ c <;> by_cases h2 : c ≤ 122 <;> by_cases h3 : 65 ≤ c <;> by_cases h4 : c ≤ 90 <;> by_cases h5 : c = 95 <;>
    simp -implicitDefEqProofs (maxSteps := 5000000) only [isLetter, h1, h2, h3, h4, h5, go_sem, Nat.reduceBEq, Nat.reduceBNe, reduceIte, reduceCtorEq, Nat.reduceLeDiff, Nat.reduceAdd, Nat.reduceEqDiff] at h <;> first | (exfalso; omega) | simp -implicitDefEqProofs (maxSteps := 5000000) only [s69, s69_0, nat_le_lit, nat_le_lit', nat_eq_lit, h1, h2, h3, h4, h5, go_sem, Nat.reduceBEq, Nat.reduceBNe, reduceIte, reduceCtorEq, Nat.reduceLeDiff, Nat.reduceAdd, Nat.reduceEqDiff] <;> exact h
theorem digit_ok {Q : ARes → List AO → Prop} {c : Nat} {hp} (h : Q (.ret (.bool (isDigit c))) hp) : callK CC 70 [.int .u8 c] hp Q := by
  refine callK_intro rfl (c70 ?_)
  by_cases h1 : 48 ≤ c <;> by_cases h2 : c ≤ 57 <;> simp -implicitDefEqProofs (maxSteps := 5000000) only [isDigit, h1, h2, go_sem, Nat.reduceBEq, Nat.reduceBNe, reduceIte, reduceCtorEq, Nat.reduceLeDiff, Nat.reduceAdd, Nat.reduceEqDiff] at h <;> simp -implicitDefEqProofs (maxSteps := 5000000) only [s70, s70_0, nat_le_lit, nat_le_lit', h1, h2, go_sem, Nat.reduceBEq, Nat.reduceBNe, reduceIte, reduceCtorEq, Nat.reduceLeDiff, Nat.reduceAdd, Nat.reduceEqDiff] <;> exact h
def hasM (l : List (List Nat)) (s : List Nat) : Bool := l.any fun x => decide (x = s)
theorem has_ok {Q : ARes → List AO → Prop} {l : List (List Nat)} {s : List Nat} {t} {hp} (hl : l.length < 1000000) (h : Q (.ret (.bool (hasM l s))) hp) : callK CC 71 [.sl t 1 (l.map AV.str), .str s] hp Q := by
  refine callK_intro rfl (c71 ?_)
  simp only [s71, s71_0]
  intro J1 J2 h1 h2
  simp -implicitDefEqProofs (maxSteps := 5000000) only [len_map, go_sem, Nat.reduceBEq, Nat.reduceBNe, reduceIte, reduceCtorEq, Nat.reduceLeDiff, Nat.reduceAdd, Nat.reduceEqDiff]
  have key : ∀ (n i : Nat), l.length - i = n → hasM (l.drop i) s = hasM l s → J1 (.sl t 1 (l.map AV.str)) (.str s) (.int .i64 (l.length : Nat)) (.int .i64 (i : Nat)) hp := by
    intro n
    induction n with
    | zero =>
      intro i hn hi
      apply h1
      rw [List.drop_eq_nil_of_le (by omega)] at hi
      have : ¬ i < l.length := by omega
      simp -implicitDefEqProofs (maxSteps := 5000000) only [s71_1, nat_lt, this, go_sem, Nat.reduceBEq, Nat.reduceBNe, reduceIte, reduceCtorEq, Nat.reduceLeDiff, Nat.reduceAdd, Nat.reduceEqDiff]
      apply h2
      simp -implicitDefEqProofs (maxSteps := 5000000) only [s71_2, go_sem, Nat.reduceBEq, Nat.reduceBNe, reduceIte, reduceCtorEq, Nat.reduceLeDiff, Nat.reduceAdd, Nat.reduceEqDiff]
      rw [← hi] at h
      exact h
    | succ n ih =>
      intro i hn hi
      apply h1
      have hlt : i < l.length := by omega
      have hx : l[i]? = some l[i] := List.getElem?_eq_getElem hlt
      have hd : l.drop i = l[i] :: l.drop (i + 1) := List.drop_eq_getElem_cons hlt
      simp -implicitDefEqProofs (maxSteps := 5000000) only [s71_1, nat_lt, hlt, ixa_map, hx, cells_str, nth_zero, go_sem, Nat.reduceBEq, Nat.reduceBNe, reduceIte, reduceCtorEq, Nat.reduceLeDiff, Nat.reduceAdd, Nat.reduceEqDiff]
      by_cases he : l[i] = s
      · simp -implicitDefEqProofs (maxSteps := 5000000) only [he, go_sem, Nat.reduceBEq, Nat.reduceBNe, reduceIte, reduceCtorEq, Nat.reduceLeDiff, Nat.reduceAdd, Nat.reduceEqDiff]
        rw [hd] at hi
        simp -implicitDefEqProofs (maxSteps := 5000000) only [hasM, List.any_cons, he, go_sem, Nat.reduceBEq, Nat.reduceBNe, reduceIte, reduceCtorEq, Nat.reduceLeDiff, Nat.reduceAdd, Nat.reduceEqDiff] at hi
        simp only [hasM, ← hi] at h
        exact h
      · simp -implicitDefEqProofs (maxSteps := 5000000) (disch := omega) only [he, wrap_add1, go_sem, Nat.reduceBEq, Nat.reduceBNe, reduceIte, reduceCtorEq, Nat.reduceLeDiff, Nat.reduceAdd, Nat.reduceEqDiff]
        refine ih (i + 1) (by omega) ?_
        rw [hd] at hi
        simp -implicitDefEqProofs (maxSteps := 5000000) only [hasM, List.any_cons, he, go_sem, Nat.reduceBEq, Nat.reduceBNe, reduceIte, reduceCtorEq, Nat.reduceLeDiff, Nat.reduceAdd, Nat.reduceEqDiff] at hi
        exact hi
  exact key _ 0 rfl rfl
/-! blanks -/
def skipL : Bool → List Nat → Nat
  | _, [] => 0
  | false, c :: l => if c = 32 ∨ c = 9 ∨ c = 10 ∨ c = 13 then 1 + skipL false l else if c = 35 then 1 + skipL true l else 0
  | true, c :: l => if c = 10 then 1 + skipL false l else 1 + skipL true l
theorem skipL_le : ∀ (l : List Nat) (b : Bool), skipL b l ≤ l.length
  | [], b => by cases b <;> simp [skipL]
  | c :: l, false => by
    have h1 := skipL_le l false
    have h2 := skipL_le l true
    simp only [skipL, List.length_cons]
    split
    · omega
    · split <;> omega
  | c :: l, true => by
    have h1 := skipL_le l false
    have h2 := skipL_le l true
    simp only [skipL, List.length_cons]
    split <;> omega
theorem skip_ok {Q : ARes → List AO → Prop} {s : List Nat} {i : Nat} {hp} (hi : i ≤ s.length) (hs : s.length < 1000000) (h : Q (.ret (eN (i + skipL false (s.drop i)))) hp) : callK CC 68 [.str s, eN i] hp Q := by
  refine callK_intro rfl (c68 ?_)
  simp only [s68, s68_0]
  intro J1 J2 J3 h1 h2 h3
  have key : ∀ (n i : Nat), i ≤ s.length → s.length - i = n →
      ((Q (.ret (eN (i + skipL false (s.drop i)))) hp → J1 (.str s) (eN i) hp) ∧ (Q (.ret (eN (i + skipL true (s.drop i)))) hp → J2 (.str s) (eN i) hp)) := by
    intro n
    induction n with
    | zero =>
      intro i hi hn
      have e : i = s.length := by omega
      subst e
      have hJ1 : Q (.ret (eN s.length)) hp → J1 (.str s) (eN s.length) hp := fun hq => by
        apply h1
        simp -implicitDefEqProofs (maxSteps := 5000000) only [s68_1, nat_lt, Nat.lt_irrefl, go_sem, Nat.reduceBEq, Nat.reduceBNe, reduceIte, reduceCtorEq, Nat.reduceLeDiff, Nat.reduceAdd, Nat.reduceEqDiff]
        apply h3
        simp -implicitDefEqProofs (maxSteps := 5000000) only [s68_3, go_sem, Nat.reduceBEq, Nat.reduceBNe, reduceIte, reduceCtorEq, Nat.reduceLeDiff, Nat.reduceAdd, Nat.reduceEqDiff]
        exact hq
      refine ⟨fun hq => hJ1 (by simpa [skipL] using hq), fun hq => ?_⟩
      apply h2
      simp -implicitDefEqProofs (maxSteps := 5000000) only [s68_2, nat_lt, Nat.lt_irrefl, go_sem, Nat.reduceBEq, Nat.reduceBNe, reduceIte, reduceCtorEq, Nat.reduceLeDiff, Nat.reduceAdd, Nat.reduceEqDiff]
      exact hJ1 (by simpa [skipL] using hq)
    | succ n ih =>
      intro i hi hn
      have hlt : i < s.length := by omega
      have hx : s[i]? = some s[i] := List.getElem?_eq_getElem hlt
      have hd : s.drop i = s[i] :: s.drop (i + 1) := List.drop_eq_getElem_cons hlt
      obtain ⟨ih1, ih2⟩ := ih (i + 1) (by omega) (by omega)
      have hJ1 : Q (.ret (eN (i + skipL false (s.drop i)))) hp → J1 (.str s) (eN i) hp := fun hq => by
        apply h1
        rw [hd] at hq
        simp only [skipL] at hq
        by_cases a1 : s[i] = 32
        · rw [if_pos (by omega), ← Nat.add_assoc] at hq
          simp -implicitDefEqProofs (maxSteps := 5000000) (disch := omega) only [s68_1, hlt, hx, a1, go_sem, Nat.reduceBEq, Nat.reduceBNe, reduceIte, reduceCtorEq, Nat.reduceLeDiff, Nat.reduceAdd, Nat.reduceEqDiff]
          exact ih1 hq
        · by_cases a2 : s[i] = 9
          · rw [if_pos (by omega), ← Nat.add_assoc] at hq
            simp -implicitDefEqProofs (maxSteps := 5000000) (disch := omega) only [s68_1, hlt, hx, a1, a2, go_sem, Nat.reduceBEq, Nat.reduceBNe, reduceIte, reduceCtorEq, Nat.reduceLeDiff, Nat.reduceAdd, Nat.reduceEqDiff]
            exact ih1 hq
          · by_cases a3 : s[i] = 10
            · rw [if_pos (by omega), ← Nat.add_assoc] at hq
              simp -implicitDefEqProofs (maxSteps := 5000000) (disch := omega) only [s68_1, hlt, hx, a1, a2, a3, go_sem, Nat.reduceBEq, Nat.reduceBNe, reduceIte, reduceCtorEq, Nat.reduceLeDiff, Nat.reduceAdd, Nat.reduceEqDiff]
              exact ih1 hq
            · by_cases a4 : s[i] = 13
              · rw [if_pos (by omega), ← Nat.add_assoc] at hq
                simp -implicitDefEqProofs (maxSteps := 5000000) (disch := omega) only [s68_1, hlt, hx, a1, a2, a3, a4, go_sem, Nat.reduceBEq, Nat.reduceBNe, reduceIte, reduceCtorEq, Nat.reduceLeDiff, Nat.reduceAdd, Nat.reduceEqDiff]
                exact ih1 hq
              · rw [if_neg (by omega)] at hq
                by_cases a5 : s[i] = 35
                · rw [if_pos a5, ← Nat.add_assoc] at hq
                  simp -implicitDefEqProofs (maxSteps := 5000000) (disch := omega) only [s68_1, hlt, hx, a1, a2, a3, a4, a5, go_sem, Nat.reduceBEq, Nat.reduceBNe, reduceIte, reduceCtorEq, Nat.reduceLeDiff, Nat.reduceAdd, Nat.reduceEqDiff]
                  apply h2
                  simp -implicitDefEqProofs (maxSteps := 5000000) (disch := omega) only [s68_2, hlt, hx, a5, go_sem, Nat.reduceBEq, Nat.reduceBNe, reduceIte, reduceCtorEq, Nat.reduceLeDiff, Nat.reduceAdd, Nat.reduceEqDiff]
                  exact ih2 hq
                · rw [if_neg a5] at hq
                  simp -implicitDefEqProofs (maxSteps := 5000000) (disch := omega) only [s68_1, hlt, hx, a1, a2, a3, a4, a5, go_sem, Nat.reduceBEq, Nat.reduceBNe, reduceIte, reduceCtorEq, Nat.reduceLeDiff, Nat.reduceAdd, Nat.reduceEqDiff]
                  exact hq
      refine ⟨hJ1, fun hq => ?_⟩
      by_cases a3 : s[i] = 10
      · apply h2
        simp -implicitDefEqProofs (maxSteps := 5000000) (disch := omega) only [s68_2, hlt, hx, a3, go_sem, Nat.reduceBEq, Nat.reduceBNe, reduceIte, reduceCtorEq, Nat.reduceLeDiff, Nat.reduceAdd, Nat.reduceEqDiff]
        apply hJ1
        rw [hd] at hq ⊢
        simp only [skipL, a3] at hq ⊢
        simpa using hq
      · apply h2
        rw [hd] at hq
        simp only [skipL, a3, if_neg, if_false] at hq
        rw [← Nat.add_assoc] at hq
        simp -implicitDefEqProofs (maxSteps := 5000000) (disch := omega) only [s68_2, hlt, hx, a3, go_sem, Nat.reduceBEq, Nat.reduceBNe, reduceIte, reduceCtorEq, Nat.reduceLeDiff, Nat.reduceAdd, Nat.reduceEqDiff]
        exact ih2 hq
  exact (key _ i hi rfl).1 h
def wordsM : List (List Nat) := [[98, 114, 101, 97, 107], [99, 111, 110, 116, 105, 110, 117, 101], [101, 108, 115, 101], [102, 97, 108, 115, 101], [102, 117, 110, 99], [105, 102], [105, 110, 116], [112, 114, 105, 110, 116], [114, 101, 97, 100], [114, 101, 116, 117, 114, 110], [116, 114, 117, 101], [118, 97, 114], [119, 104, 105, 108, 101]]
def twoM : List (List Nat) := [[61, 61], [33, 61], [60, 61], [62, 61], [38, 38], [124, 124]]
def oneM : List (List Nat) := [[43], [45], [42], [47], [37], [60], [62], [33], [61], [40], [41], [123], [125], [91], [93], [44], [59]]
theorem words_ok {Q : ARes → List AO → Prop} {hp} (h : Q (.ret (.sl .no 1 (wordsM.map AV.str))) hp) : callK CC 72 [] hp Q := by
  refine callK_intro rfl (c72 ?_)
  simp -implicitDefEqProofs (maxSteps := 5000000) only [s72, s72_0, go_sem, Nat.reduceBEq, Nat.reduceBNe, reduceIte, reduceCtorEq, Nat.reduceLeDiff, Nat.reduceAdd, Nat.reduceEqDiff]
  exact h
structure Tk where
  k : Nat
  f : Nat
  t : Nat
  deriving DecidableEq
def eTk (t : Tk) : AV := .agg [eN t.k, eN t.f, eN t.t]
def cut (s : List Nat) (i j : Nat) : List Nat := (s.take j).drop i
def runL (p : Nat → Bool) : List Nat → Nat
  | [] => 0
  | c :: l => if p c = true then 1 + runL p l else 0
theorem runL_le (p : Nat → Bool) : ∀ (l : List Nat), runL p l ≤ l.length
  | [] => Nat.le_refl _
  | c :: l => by
    have := runL_le p l
    simp only [runL, List.length_cons]
    split <;> omega
def numBad (s : List Nat) (i j : Nat) : Bool := decide (18 < j - i) || (decide (1 < j - i) && decide (s[i]? = some 48)) || (match s[j]? with | some c => isLetter c | none => false)
def signTo (s : List Nat) (i : Nat) : Nat := if (decide (i + 2 ≤ s.length) && hasM twoM (cut s i (i + 2))) = true then i + 2 else if hasM oneM (cut s i (i + 1)) = true then i + 1 else i
/-- The token at a place that is no blank; an error's number. -/
def tokAt (s : List Nat) (i : Nat) : Tk × Nat :=
  match s[i]? with
  | none => (⟨0, i, i⟩, 0)
  | some c =>
    if isLetter c = true then
      let j := i + runL (fun c => isLetter c || isDigit c) (s.drop i)
      if hasM wordsM (cut s i j) = true then (⟨3, i, j⟩, 0) else (⟨1, i, j⟩, 0)
    else if isDigit c = true then
      let j := i + runL isDigit (s.drop i)
      if numBad s i j = true then (⟨0, i, i⟩, 2) else (⟨2, i, j⟩, 0)
    else if signTo s i = i then (⟨0, i, i⟩, 2) else (⟨4, i, signTo s i⟩, 0)
def nextM (s : List Nat) (i : Nat) : Tk × Nat := tokAt s (i + skipL false (s.drop i))
theorem bld_span {k j a b} : bld [.int .i64 0, .int .i64 0] [(0, 1, .int k a), (1, 1, .int j b)] = some (.agg [.int k a, .int j b]) := rfl
theorem bld_tk {k a x y} : bld [.int .i64 0, .int .i64 0, .int .i64 0] [(0, 1, .int k a), (1, 2, .agg [x, y])] = some (.agg [.int k a, x, y]) := rfl
theorem bld_tk0 {x y} : bld [.int .i64 0, .int .i64 0, .int .i64 0] [(1, 2, .agg [x, y])] = some (.agg [.int .i64 0, x, y]) := rfl
theorem okv_agg {n cs} (h : cs.length = n) : okv n (.agg cs) = true := by simp [okv, AV.mem, AV.cells, h]
theorem okv_agg2 {a b} : okv 2 (.agg [a, b]) = true := rfl
theorem okv_agg3 {a b c} : okv 3 (.agg [a, b, c]) = true := rfl
theorem runL_cons {p : Nat → Bool} {c l} : runL p (c :: l) = if p c = true then 1 + runL p l else 0 := rfl
theorem next_ok {Q : ARes → List AO → Prop} {s : List Nat} {i : Nat} {hp} (hi : i ≤ s.length) (hs : s.length < 1000000) (h : Q (.ret (.tup [eTk (nextM s i).1, eN (nextM s i).2])) hp) : callK CC 53 [.str s, eN i] hp Q := by
  refine callK_intro rfl (c53 ?_)
  simp only [s53]
  intro J1 J2 J3 J4 J5 J6 J7 h1 h2 h3 h4 h5 h6 h7
  simp -implicitDefEqProofs (maxSteps := 5000000) only [s53_0, go_sem, Nat.reduceBEq, Nat.reduceBNe, reduceIte, reduceCtorEq, Nat.reduceLeDiff, Nat.reduceAdd, Nat.reduceEqDiff]
  refine skip_ok hi hs ?_
  have hle : i + skipL false (s.drop i) ≤ s.length := by
    have := skipL_le (s.drop i) false
    rw [List.length_drop] at this
    omega
  unfold nextM at h
  generalize i + skipL false (s.drop i) = j at h hle
  by_cases hj : j = s.length
  · subst hj
    simp -implicitDefEqProofs (maxSteps := 5000000) (disch := omega) only [bld_span, bld_tk0, okv_agg3, go_sem, Nat.reduceBEq, Nat.reduceBNe, reduceIte, reduceCtorEq, Nat.reduceLeDiff, Nat.reduceAdd, Nat.reduceEqDiff]
    simp [tokAt] at h
    exact h
  · have hlt : j < s.length := by omega
    have hx : s[j]? = some s[j] := List.getElem?_eq_getElem hlt
    simp -implicitDefEqProofs (maxSteps := 5000000) (disch := omega) only [hj, hx, go_sem, Nat.reduceBEq, Nat.reduceBNe, reduceIte, reduceCtorEq, Nat.reduceLeDiff, Nat.reduceAdd, Nat.reduceEqDiff]
    refine letter_ok ?_
    simp -implicitDefEqProofs (maxSteps := 5000000) (disch := omega) only [go_sem, Nat.reduceBEq, Nat.reduceBNe, reduceIte, reduceCtorEq, Nat.reduceLeDiff, Nat.reduceAdd, Nat.reduceEqDiff]
    simp only [tokAt, hx] at h
    have bad : Q (.ret (.tup [eTk ⟨0, j, j⟩, eN 2])) hp → True := fun _ => trivial
    cases hl : isLetter s[j] with
    | true =>
      simp -implicitDefEqProofs (maxSteps := 5000000) (disch := omega) only [go_sem, Nat.reduceBEq, Nat.reduceBNe, reduceIte, reduceCtorEq, Nat.reduceLeDiff, Nat.reduceAdd, Nat.reduceEqDiff]
      rw [hl, if_pos rfl] at h
      have key : ∀ (n k : Nat), k ≤ s.length → j ≤ k → s.length - k = n → k + runL (fun c => isLetter c || isDigit c) (s.drop k) = j + runL (fun c => isLetter c || isDigit c) (s.drop j) → J1 (.str s) (eN j) (eN k) [.int .i64 0, .int .i64 0, .int .i64 0] hp := by
        intro n
        have fin : ∀ k, k ≤ s.length → j ≤ k → k = j + runL (fun c => isLetter c || isDigit c) (s.drop j) → J2 (.str s) (eN j) (eN k) [.int .i64 0, .int .i64 0, .int .i64 0] hp := fun k hk hjk e => by
          apply h2
          rw [← e] at h
          simp -implicitDefEqProofs (maxSteps := 5000000) (disch := omega) only [s53_2, slstr_nat, go_sem, Nat.reduceBEq, Nat.reduceBNe, reduceIte, reduceCtorEq, Nat.reduceLeDiff, Nat.reduceAdd, Nat.reduceEqDiff]
          refine words_ok ?_
          simp -implicitDefEqProofs (maxSteps := 5000000) (disch := omega) only [go_sem, Nat.reduceBEq, Nat.reduceBNe, reduceIte, reduceCtorEq, Nat.reduceLeDiff, Nat.reduceAdd, Nat.reduceEqDiff]
          refine has_ok (by decide) ?_
          simp -implicitDefEqProofs (maxSteps := 5000000) (disch := omega) only [go_sem, Nat.reduceBEq, Nat.reduceBNe, reduceIte, reduceCtorEq, Nat.reduceLeDiff, Nat.reduceAdd, Nat.reduceEqDiff]
          change Q (.ret (.tup [eTk (if hasM wordsM (cut s j k) = true then (_, _) else (_, _)).1, _])) hp at h
          cases hw : hasM wordsM (cut s j k) with
          | true =>
            rw [hw] at h
            have hw' : hasM wordsM (List.drop j (List.take k s)) = true := hw
            simp -implicitDefEqProofs (maxSteps := 5000000) (disch := omega) only [hw', bld_span, bld_tk, okv_agg3, go_sem, Nat.reduceBEq, Nat.reduceBNe, reduceIte, reduceCtorEq, Nat.reduceLeDiff, Nat.reduceAdd, Nat.reduceEqDiff]
            exact h
          | false =>
            rw [hw] at h
            have hw' : hasM wordsM (List.drop j (List.take k s)) = false := hw
            simp -implicitDefEqProofs (maxSteps := 5000000) (disch := omega) only [hw', bld_span, bld_tk, okv_agg3, go_sem, Nat.reduceBEq, Nat.reduceBNe, reduceIte, reduceCtorEq, Nat.reduceLeDiff, Nat.reduceAdd, Nat.reduceEqDiff]
            exact h
        induction n with
        | zero =>
          intro k hk hjk hn e
          apply h1
          have hnl : ¬ k < s.length := by omega
          simp -implicitDefEqProofs (maxSteps := 5000000) (disch := omega) only [s53_1, hnl, go_sem, Nat.reduceBEq, Nat.reduceBNe, reduceIte, reduceCtorEq, Nat.reduceLeDiff, Nat.reduceAdd, Nat.reduceEqDiff]
          refine fin k hk hjk ?_
          rw [← e, List.drop_eq_nil_of_le (by omega)]
          rfl
        | succ n ih =>
          intro k hk hjk hn e
          have hkl : k < s.length := by omega
          have hkx : s[k]? = some s[k] := List.getElem?_eq_getElem hkl
          have hd : s.drop k = s[k] :: s.drop (k + 1) := List.drop_eq_getElem_cons hkl
          rw [hd, runL_cons] at e
          apply h1
          simp -implicitDefEqProofs (maxSteps := 5000000) (disch := omega) only [s53_1, hkl, hkx, go_sem, Nat.reduceBEq, Nat.reduceBNe, reduceIte, reduceCtorEq, Nat.reduceLeDiff, Nat.reduceAdd, Nat.reduceEqDiff]
          refine letter_ok ?_
          cases ha : isLetter s[k] with
          | true =>
            simp -implicitDefEqProofs (maxSteps := 5000000) (disch := omega) only [go_sem, Nat.reduceBEq, Nat.reduceBNe, reduceIte, reduceCtorEq, Nat.reduceLeDiff, Nat.reduceAdd, Nat.reduceEqDiff]
            refine ih (k + 1) hkl (by omega) (by omega) ?_
            rw [ha] at e
            simpa [Nat.add_assoc] using e
          | false =>
            simp -implicitDefEqProofs (maxSteps := 5000000) (disch := omega) only [hkx, go_sem, Nat.reduceBEq, Nat.reduceBNe, reduceIte, reduceCtorEq, Nat.reduceLeDiff, Nat.reduceAdd, Nat.reduceEqDiff]
            refine digit_ok ?_
            cases hb : isDigit s[k] with
            | true =>
              simp -implicitDefEqProofs (maxSteps := 5000000) (disch := omega) only [go_sem, Nat.reduceBEq, Nat.reduceBNe, reduceIte, reduceCtorEq, Nat.reduceLeDiff, Nat.reduceAdd, Nat.reduceEqDiff]
              refine ih (k + 1) hkl (by omega) (by omega) ?_
              rw [ha, hb] at e
              simpa [Nat.add_assoc] using e
            | false =>
              simp -implicitDefEqProofs (maxSteps := 5000000) (disch := omega) only [go_sem, Nat.reduceBEq, Nat.reduceBNe, reduceIte, reduceCtorEq, Nat.reduceLeDiff, Nat.reduceAdd, Nat.reduceEqDiff]
              refine fin k hk hjk ?_
              rw [ha, hb] at e
              simpa using e
      exact key _ j hle (Nat.le_refl _) rfl rfl
    | false =>
      simp -implicitDefEqProofs (maxSteps := 5000000) (disch := omega) only [go_sem, Nat.reduceBEq, Nat.reduceBNe, reduceIte, reduceCtorEq, Nat.reduceLeDiff, Nat.reduceAdd, Nat.reduceEqDiff]
      rw [hl, if_neg (by simp)] at h
      apply h7
      simp -implicitDefEqProofs (maxSteps := 5000000) (disch := omega) only [s53_7, hx, go_sem, Nat.reduceBEq, Nat.reduceBNe, reduceIte, reduceCtorEq, Nat.reduceLeDiff, Nat.reduceAdd, Nat.reduceEqDiff]
      refine digit_ok ?_
      simp -implicitDefEqProofs (maxSteps := 5000000) (disch := omega) only [go_sem, Nat.reduceBEq, Nat.reduceBNe, reduceIte, reduceCtorEq, Nat.reduceLeDiff, Nat.reduceAdd, Nat.reduceEqDiff]
      cases hdg : isDigit s[j] with
      | true =>
        simp -implicitDefEqProofs (maxSteps := 5000000) (disch := omega) only [go_sem, Nat.reduceBEq, Nat.reduceBNe, reduceIte, reduceCtorEq, Nat.reduceLeDiff, Nat.reduceAdd, Nat.reduceEqDiff]
        rw [hdg, if_pos rfl] at h
        have key : ∀ (n k : Nat), k ≤ s.length → j ≤ k → s.length - k = n → k + runL isDigit (s.drop k) = j + runL isDigit (s.drop j) → J3 (.str s) (eN j) (eN k) [.int .i64 0, .int .i64 0, .int .i64 0] hp := by
          intro n
          have fin : ∀ k, k ≤ s.length → j ≤ k → k = j + runL isDigit (s.drop j) → J4 (.str s) (eN j) (eN k) [.int .i64 0, .int .i64 0, .int .i64 0] hp := fun k hk hjk e => by
            apply h4
            rw [← e] at h
            change Q (.ret (.tup [eTk (if numBad s j k = true then (_, _) else (_, _)).1, _])) hp at h
            have yes : numBad s j k = true → Q (.ret (.tup [eTk ⟨0, j, j⟩, eN 2])) hp := fun hb => by rw [hb] at h; exact h
            have no : numBad s j k = false → Q (.ret (.tup [eTk ⟨2, j, k⟩, eN 0])) hp := fun hb => by rw [hb] at h; exact h
            by_cases a1 : 18 < k - j
            · simp -implicitDefEqProofs (maxSteps := 5000000) (disch := omega) only [s53_4, a1, bld_span, bld_tk0, okv_agg3, go_sem, Nat.reduceBEq, Nat.reduceBNe, reduceIte, reduceCtorEq, Nat.reduceLeDiff, Nat.reduceAdd, Nat.reduceEqDiff]
              exact yes (by simp [numBad, a1])
            · by_cases a2 : 1 < k - j
              · by_cases a3 : s[j] = 48
                · simp -implicitDefEqProofs (maxSteps := 5000000) (disch := omega) only [s53_4, a1, a2, hx, a3, bld_span, bld_tk0, okv_agg3, go_sem, Nat.reduceBEq, Nat.reduceBNe, reduceIte, reduceCtorEq, Nat.reduceLeDiff, Nat.reduceAdd, Nat.reduceEqDiff]
                  exact yes (by simp [numBad, a2, hx, a3])
                · by_cases a4 : k < s.length
                  · have hkx : s[k]? = some s[k] := List.getElem?_eq_getElem a4
                    simp -implicitDefEqProofs (maxSteps := 5000000) (disch := omega) only [s53_4, a1, a2, hx, a3, a4, hkx, go_sem, Nat.reduceBEq, Nat.reduceBNe, reduceIte, reduceCtorEq, Nat.reduceLeDiff, Nat.reduceAdd, Nat.reduceEqDiff]
                    refine letter_ok ?_
                    cases a5 : isLetter s[k] with
                    | true =>
                      simp -implicitDefEqProofs (maxSteps := 5000000) (disch := omega) only [bld_span, bld_tk0, okv_agg3, go_sem, Nat.reduceBEq, Nat.reduceBNe, reduceIte, reduceCtorEq, Nat.reduceLeDiff, Nat.reduceAdd, Nat.reduceEqDiff]
                      exact yes (by simp [numBad, a5, hkx])
                    | false =>
                      simp -implicitDefEqProofs (maxSteps := 5000000) (disch := omega) only [bld_span, bld_tk, okv_agg3, go_sem, Nat.reduceBEq, Nat.reduceBNe, reduceIte, reduceCtorEq, Nat.reduceLeDiff, Nat.reduceAdd, Nat.reduceEqDiff]
                      exact no (by simp only [numBad, hx, hkx, a5]; simp [a3]; omega)
                  · simp -implicitDefEqProofs (maxSteps := 5000000) (disch := omega) only [s53_4, a1, a2, hx, a3, a4, bld_span, bld_tk, okv_agg3, go_sem, Nat.reduceBEq, Nat.reduceBNe, reduceIte, reduceCtorEq, Nat.reduceLeDiff, Nat.reduceAdd, Nat.reduceEqDiff]
                    exact no (by simp only [numBad, hx, List.getElem?_eq_none (Nat.le_of_not_lt a4)]; simp [a3]; omega)
              · by_cases a4 : k < s.length
                · have hkx : s[k]? = some s[k] := List.getElem?_eq_getElem a4
                  simp -implicitDefEqProofs (maxSteps := 5000000) (disch := omega) only [s53_4, a1, a2, hx, a4, hkx, go_sem, Nat.reduceBEq, Nat.reduceBNe, reduceIte, reduceCtorEq, Nat.reduceLeDiff, Nat.reduceAdd, Nat.reduceEqDiff]
                  refine letter_ok ?_
                  cases a5 : isLetter s[k] with
                  | true =>
                    simp -implicitDefEqProofs (maxSteps := 5000000) (disch := omega) only [bld_span, bld_tk0, okv_agg3, go_sem, Nat.reduceBEq, Nat.reduceBNe, reduceIte, reduceCtorEq, Nat.reduceLeDiff, Nat.reduceAdd, Nat.reduceEqDiff]
                    exact yes (by simp [numBad, a5, hkx])
                  | false =>
                    simp -implicitDefEqProofs (maxSteps := 5000000) (disch := omega) only [bld_span, bld_tk, okv_agg3, go_sem, Nat.reduceBEq, Nat.reduceBNe, reduceIte, reduceCtorEq, Nat.reduceLeDiff, Nat.reduceAdd, Nat.reduceEqDiff]
                    exact no (by simp only [numBad, hx, hkx, a5]; simp; omega)
                · simp -implicitDefEqProofs (maxSteps := 5000000) (disch := omega) only [s53_4, a1, a2, hx, a4, bld_span, bld_tk, okv_agg3, go_sem, Nat.reduceBEq, Nat.reduceBNe, reduceIte, reduceCtorEq, Nat.reduceLeDiff, Nat.reduceAdd, Nat.reduceEqDiff]
                  exact no (by simp only [numBad, hx, List.getElem?_eq_none (Nat.le_of_not_lt a4)]; simp; omega)
          induction n with
          | zero =>
            intro k hk hjk hn e
            apply h3
            have hnl : ¬ k < s.length := by omega
            simp -implicitDefEqProofs (maxSteps := 5000000) (disch := omega) only [s53_3, hnl, go_sem, Nat.reduceBEq, Nat.reduceBNe, reduceIte, reduceCtorEq, Nat.reduceLeDiff, Nat.reduceAdd, Nat.reduceEqDiff]
            refine fin k hk hjk ?_
            rw [← e, List.drop_eq_nil_of_le (by omega)]
            rfl
          | succ n ih =>
            intro k hk hjk hn e
            have hkl : k < s.length := by omega
            have hkx : s[k]? = some s[k] := List.getElem?_eq_getElem hkl
            have hd : s.drop k = s[k] :: s.drop (k + 1) := List.drop_eq_getElem_cons hkl
            rw [hd, runL_cons] at e
            apply h3
            simp -implicitDefEqProofs (maxSteps := 5000000) (disch := omega) only [s53_3, hkl, hkx, go_sem, Nat.reduceBEq, Nat.reduceBNe, reduceIte, reduceCtorEq, Nat.reduceLeDiff, Nat.reduceAdd, Nat.reduceEqDiff]
            refine digit_ok ?_
            cases ha : isDigit s[k] with
            | true =>
              simp -implicitDefEqProofs (maxSteps := 5000000) (disch := omega) only [go_sem, Nat.reduceBEq, Nat.reduceBNe, reduceIte, reduceCtorEq, Nat.reduceLeDiff, Nat.reduceAdd, Nat.reduceEqDiff]
              refine ih (k + 1) hkl (by omega) (by omega) ?_
              rw [ha] at e
              simpa [Nat.add_assoc] using e
            | false =>
              simp -implicitDefEqProofs (maxSteps := 5000000) (disch := omega) only [go_sem, Nat.reduceBEq, Nat.reduceBNe, reduceIte, reduceCtorEq, Nat.reduceLeDiff, Nat.reduceAdd, Nat.reduceEqDiff]
              refine fin k hk hjk ?_
              rw [ha] at e
              simpa using e
        exact key _ j hle (Nat.le_refl _) rfl rfl
      | false =>
        simp -implicitDefEqProofs (maxSteps := 5000000) (disch := omega) only [go_sem, Nat.reduceBEq, Nat.reduceBNe, reduceIte, reduceCtorEq, Nat.reduceLeDiff, Nat.reduceAdd, Nat.reduceEqDiff]
        rw [hdg, if_neg (by simp)] at h
        apply h6
        have fin : ∀ k, k = signTo s j → J5 (eN j) (eN k) [.int .i64 0, .int .i64 0, .int .i64 0] hp := fun k e => by
          apply h5
          subst e
          by_cases he : signTo s j = j
          · rw [if_pos he] at h
            simp -implicitDefEqProofs (maxSteps := 5000000) (disch := omega) only [s53_5, he, bld_span, bld_tk0, okv_agg3, go_sem, Nat.reduceBEq, Nat.reduceBNe, reduceIte, reduceCtorEq, Nat.reduceLeDiff, Nat.reduceAdd, Nat.reduceEqDiff]
            exact h
          · rw [if_neg he] at h
            simp -implicitDefEqProofs (maxSteps := 5000000) (disch := omega) only [s53_5, he, bld_span, bld_tk, okv_agg3, go_sem, Nat.reduceBEq, Nat.reduceBNe, reduceIte, reduceCtorEq, Nat.reduceLeDiff, Nat.reduceAdd, Nat.reduceEqDiff]
            exact h
        have one : (decide (j + 2 ≤ s.length) && hasM twoM (cut s j (j + 2))) = false → callK CC 71 [.sl .no 1 (oneM.map AV.str), .str (cut s j (j + 1))] hp (rx (pn Q) fun t133 hp10 =>
            cnd t133 (J5 (eN j) (eN (j + 1)) [.int .i64 0, .int .i64 0, .int .i64 0] hp10) (J5 (eN j) (eN j) [.int .i64 0, .int .i64 0, .int .i64 0] hp10)) := fun h2 => by
          refine has_ok (by decide) ?_
          simp -implicitDefEqProofs (maxSteps := 5000000) (disch := omega) only [go_sem, Nat.reduceBEq, Nat.reduceBNe, reduceIte, reduceCtorEq, Nat.reduceLeDiff, Nat.reduceAdd, Nat.reduceEqDiff]
          cases ho : hasM oneM (cut s j (j + 1)) with
          | true =>
            simp -implicitDefEqProofs (maxSteps := 5000000) (disch := omega) only [go_sem, Nat.reduceBEq, Nat.reduceBNe, reduceIte, reduceCtorEq, Nat.reduceLeDiff, Nat.reduceAdd, Nat.reduceEqDiff]
            exact fin _ (by simp [signTo, h2, ho])
          | false =>
            simp -implicitDefEqProofs (maxSteps := 5000000) (disch := omega) only [go_sem, Nat.reduceBEq, Nat.reduceBNe, reduceIte, reduceCtorEq, Nat.reduceLeDiff, Nat.reduceAdd, Nat.reduceEqDiff]
            exact fin _ (by simp [signTo, h2, ho])
        by_cases h22 : j + 2 ≤ s.length
        · simp -implicitDefEqProofs (maxSteps := 5000000) (disch := omega) only [s53_6, h22, slstr_nat, go_sem, Nat.reduceBEq, Nat.reduceBNe, reduceIte, reduceCtorEq, Nat.reduceLeDiff, Nat.reduceAdd, Nat.reduceEqDiff]
          refine has_ok (l := twoM) (by decide) ?_
          cases ht : hasM twoM (cut s j (j + 2)) with
          | true =>
            have ht' : hasM twoM (List.drop j (List.take (j + 2) s)) = true := ht
            simp -implicitDefEqProofs (maxSteps := 5000000) (disch := omega) only [ht', go_sem, Nat.reduceBEq, Nat.reduceBNe, reduceIte, reduceCtorEq, Nat.reduceLeDiff, Nat.reduceAdd, Nat.reduceEqDiff]
            exact fin _ (by simp [signTo, h22, ht])
          | false =>
            have ht' : hasM twoM (List.drop j (List.take (j + 2) s)) = false := ht
            simp -implicitDefEqProofs (maxSteps := 5000000) (disch := omega) only [ht', slstr_nat, go_sem, Nat.reduceBEq, Nat.reduceBNe, reduceIte, reduceCtorEq, Nat.reduceLeDiff, Nat.reduceAdd, Nat.reduceEqDiff]
            exact one (by simp [ht])
        · simp -implicitDefEqProofs (maxSteps := 5000000) (disch := omega) only [s53_6, h22, slstr_nat, go_sem, Nat.reduceBEq, Nat.reduceBNe, reduceIte, reduceCtorEq, Nat.reduceLeDiff, Nat.reduceAdd, Nat.reduceEqDiff]
          exact one (by simp [h22])
/-! all tokens -/
def allF (s : List Nat) : Nat → Nat → List Tk → List Tk ⊕ (Nat × Nat)
  | 0, _, _ => .inr (0, 0)
  | n + 1, i, out =>
    if (nextM s i).2 ≠ 0 then .inr ((nextM s i).1.f, (nextM s i).2)
    else if (nextM s i).1.k = 0 then .inl (out ++ [(nextM s i).1])
    else allF s n (nextM s i).1.t (out ++ [(nextM s i).1])
def lexM (s : List Nat) : List Tk ⊕ (Nat × Nat) := if 20000 < s.length then .inr (0, 1) else allF s (s.length + 2) 0 []
theorem signTo_le {s : List Nat} {j : Nat} (h : j < s.length) : j ≤ signTo s j ∧ signTo s j ≤ s.length := by
  unfold signTo
  split
  · rename_i h1
    simp only [Bool.and_eq_true, decide_eq_true_eq] at h1
    omega
  · split <;> omega
theorem runL_pos {p : Nat → Bool} {s : List Nat} {j : Nat} (h : j < s.length) (hp : p s[j] = true) : 1 ≤ runL p (s.drop j) := by
  rw [List.drop_eq_getElem_cons h, runL_cons, if_pos hp]; omega
theorem tokAt_le {s : List Nat} {j : Nat} (h : j ≤ s.length) : (tokAt s j).1.f = j ∧ j ≤ (tokAt s j).1.t ∧ (tokAt s j).1.t ≤ s.length ∧ ((tokAt s j).2 = 0 → (tokAt s j).1.k ≠ 0 → j < (tokAt s j).1.t) := by
  unfold tokAt
  by_cases hj : j < s.length
  · rw [List.getElem?_eq_getElem hj]
    simp only
    have r1 := runL_le (fun c => isLetter c || isDigit c) (s.drop j)
    have r2 := runL_le isDigit (s.drop j)
    rw [List.length_drop] at r1 r2
    split
    · rename_i hl
      have := runL_pos (p := fun c => isLetter c || isDigit c) hj (by simp [hl])
      split <;> simp <;> omega
    · split
      · rename_i hd
        have := runL_pos hj hd
        split <;> simp <;> omega
      · have := signTo_le hj
        split
        · simp; omega
        · simp; omega
  · rw [List.getElem?_eq_none (by omega)]
    simp [h]
theorem nextM_le {s : List Nat} {i : Nat} (h : i ≤ s.length) : i ≤ (nextM s i).1.f ∧ (nextM s i).1.f ≤ (nextM s i).1.t ∧ (nextM s i).1.t ≤ s.length ∧ ((nextM s i).2 = 0 → (nextM s i).1.k ≠ 0 → i < (nextM s i).1.t) := by
  have h1 := skipL_le (s.drop i) false
  rw [List.length_drop] at h1
  have h2 := tokAt_le (s := s) (j := i + skipL false (s.drop i)) (by omega)
  unfold nextM
  refine ⟨by omega, by omega, by omega, fun a b => ?_⟩
  have := h2.2.2.2 a b
  omega
theorem ld_tk0 {t : Tk} : ld 1 false (AV.cells (eTk t)) 0 = some (eN t.k) := rfl
theorem ld_tk1 {t : Tk} : ld 1 false (AV.cells (eTk t)) 1 = some (eN t.f) := rfl
theorem ld_tk2 {t : Tk} : ld 1 false (AV.cells (eTk t)) 2 = some (eN t.t) := rfl
theorem ld_tk {t : Tk} : ld 3 true (AV.cells (eTk t)) 0 = some (eTk t) := rfl
theorem okv_tk {t : Tk} : okv 3 (eTk t) = true := rfl
theorem upd_tk {t : Tk} {a b c : AV} : upd 0 (AV.cells (eTk t)) [a, b, c] = some (AV.cells (eTk t)) := rfl
theorem nl_tk {t : Tk} : nl (eTk t) = some (eTk t) := rfl
theorem nloc_tk {d} {t : Tk} : notLoc d (eTk t) = true := rfl
theorem allRef_ok' {Q : ARes → List AO → Prop} {s : List Nat} {hp} (hs : s.length < 1000000)
    (h : ∀ t hp', Same [] hp hp' → Q (.ret (match lexM s with | .inl l => .tup [.sl t 3 (l.map eTk), eN 0, eN 0] | .inr r => .tup [.sl .cap0 3 [], eN r.1, eN r.2])) hp') : CC 43 [.str s] hp Q := by
  refine c43 ?_
  simp only [s43]
  intro J1 h1
  unfold lexM at h
  by_cases hl : 20000 < s.length
  · rw [if_pos hl] at h
    simp -implicitDefEqProofs (maxSteps := 5000000) (disch := omega) only [s43_0, hl, go_sem, Nat.reduceBEq, Nat.reduceBNe, reduceIte, reduceCtorEq, Nat.reduceLeDiff, Nat.reduceAdd, Nat.reduceEqDiff]
    exact h .no _ Same.refl
  · rw [if_neg hl] at h
    simp -implicitDefEqProofs (maxSteps := 5000000) (disch := omega) only [s43_0, hl, go_sem, Nat.reduceBEq, Nat.reduceBNe, reduceIte, reduceCtorEq, Nat.reduceLeDiff, Nat.reduceAdd, Nat.reduceEqDiff]
    obtain ⟨r0, h0⟩ : ∃ r0, r0 = allF s (s.length + 2) 0 [] := ⟨_, rfl⟩
    rw [← h0] at h
    have key : ∀ (n i : Nat) (out : List Tk) (t : Tok) (hp2 : List AO), i ≤ s.length → s.length < i + n → out.length ≤ i → Gr hp2 t out.length → (∀ id, t = .own id → hp.length ≤ id) → Same [] hp hp2 → r0 = allF s (n + 1) i out → J1 (.str s) (.sl t 3 (out.map eTk)) (eN i) hp2 := by
      intro n
      induction n with
      | zero => intro i out t hp2 hi hn; omega
      | succ n ih =>
        intro i out t hp2 hi hn ho hg hid hsm e
        have hle := nextM_le hi
        apply h1
        simp only [s43_1]
        refine next_ok hi hs ?_
        simp -implicitDefEqProofs (maxSteps := 5000000) (disch := omega) only [ld_tk1, okv_tk, upd_tk, nl_tk, nloc_tk, go_sem, Nat.reduceBEq, Nat.reduceBNe, reduceIte, reduceCtorEq, Nat.reduceLeDiff, Nat.reduceAdd, Nat.reduceEqDiff]
        rw [allF] at e
        by_cases he : (nextM s i).2 = 0
        · rw [if_neg (by simp [he])] at e
          obtain ⟨hp3, ha, hlen, hg3, hsm3⟩ := app_gr (f := eTk) (e := 3) (t2 := .no) (y := (nextM s i).1) hg (by omega)
          have hsm' : Same [] hp hp3 := hsm.trans hsm3 (fun u hu => .inr fun j hj hu2 => by
            rw [List.mem_singleton.1 hu] at hu2
            have := hid j hu2
            omega)
          simp -implicitDefEqProofs (maxSteps := 5000000) (disch := omega) only [he, ld_tk, ld_tk0, ld_tk2, okv_tk, ha, go_sem, Nat.reduceBEq, Nat.reduceBNe, reduceIte, reduceCtorEq, Nat.reduceLeDiff, Nat.reduceAdd, Nat.reduceEqDiff]
          by_cases hk : (nextM s i).1.k = 0
          · rw [if_pos hk] at e
            simp -implicitDefEqProofs (maxSteps := 5000000) (disch := omega) only [hk, go_sem, Nat.reduceBEq, Nat.reduceBNe, reduceIte, reduceCtorEq, Nat.reduceLeDiff, Nat.reduceAdd, Nat.reduceEqDiff]
            have := h (.own hp2.length) hp3 hsm'
            rw [e] at this
            exact this
          · rw [if_neg hk] at e
            simp -implicitDefEqProofs (maxSteps := 5000000) (disch := omega) only [hk, go_sem, Nat.reduceBEq, Nat.reduceBNe, reduceIte, reduceCtorEq, Nat.reduceLeDiff, Nat.reduceAdd, Nat.reduceEqDiff]
            refine ih _ _ _ _ hle.2.2.1 ?_ ?_ hg3 ?_ hsm' e
            · have := hle.2.2.2 he hk; omega
            · have := hle.2.2.2 he hk; simp; omega
            · intro id hid'
              cases hid'
              exact hsm.1
        · rw [if_pos he] at e
          simp -implicitDefEqProofs (maxSteps := 5000000) (disch := omega) only [he, go_sem, Nat.reduceBEq, Nat.reduceBNe, reduceIte, reduceCtorEq, Nat.reduceLeDiff, Nat.reduceAdd, Nat.reduceEqDiff]
          have := h .no hp2 hsm
          rw [e] at this
          exact this
    exact key (s.length + 1) 0 [] .cap0 hp (Nat.zero_le _) (by omega) (Nat.le_refl _) (.inl ⟨rfl, rfl⟩) (fun _ e => by cases e) Same.refl h0
theorem allRef_ok {Q : ARes → List AO → Prop} {s : List Nat} {hp} (hs : s.length < 1000000)
    (h : ∀ hp', Same [] hp hp' → Q (.ret (match lexM s with | .inl l => .tup [.sl .no 3 (l.map eTk), eN 0, eN 0] | .inr r => .tup [.sl .no 3 [], eN r.1, eN r.2])) hp') : callK CC 43 [.str s] hp Q := by
  refine callK_intro rfl ?_
  refine Runs.weak (Q' := fun r hp' => ∃ t, Same [] hp hp' ∧ r = .ret (match lexM s with | .inl l => .tup [.sl t 3 (l.map eTk), eN 0, eN 0] | .inr r => .tup [.sl .cap0 3 [], eN r.1, eN r.2])) (allRef_ok' hs fun t hp' h1 => ⟨t, h1, rfl⟩) Wks.refl ?_
  rintro r hp' ⟨t, h1, rfl⟩
  refine ⟨_, ?_, h hp' h1⟩
  cases lexM s with
  | inl l => exact .tup (.cons (.sl (.inr rfl) Wks.refl) Wks.refl)
  | inr r => exact .tup (.cons (.sl (.inr rfl) Wks.refl) Wks.refl)
end Go.Proofs.Ytnldohnfdeineaa.Abs
/- The parser, as a plain function: what the document's programs are. No word of the given program. -/
namespace Go.Proofs.Ytnldohnfdeineaa.Abs
open Go

structure Ex where
  k : Nat
  f : Nat := 0
  t : Nat := 0
  num : Nat := 0
  name : List Nat := []
  op : List Nat := []
  a : Nat := 0
  b : Nat := 0
  l : List Nat := []
structure Sm where
  k : Nat
  f : Nat := 0
  t : Nat := 0
  name : List Nat := []
  num : Nat := 0
  a : Int := 0
  b : Nat := 0
  th : List Nat := []
  el : List Nat := []
structure Fn where
  name : List Nat
  f : Nat
  t : Nat
  params : List (List Nat)
  ty : Nat
  body : List Nat
/-- How far it is, and what was put. -/
structure PT where
  at_ : Nat
  ex : List Ex
  sm : List Sm
  fn : List Fn
def PT.adv (p : PT) : PT := { p with at_ := p.at_ + 1 }
inductive Res where
  | ok (p : PT) (v : List Nat)
  | er (c w : Nat)
inductive NT where
  | row (l d : Nat)
  | rowT (l d f a : Nat)
  | expr (d : Nat)
  | un (d : Nat)
  | prim (d : Nat)
  | args (f : Nat) (name : List Nat) (d : Nat) (acc : List Nat)
  | block (d : Nat)
  | stmts (d : Nat) (acc : List Nat)
  | stmt (d : Nat)
  | branch (f d : Nat)
  | func
  | params (f : Nat) (name : List Nat) (acc : List (List Nat))
  | funcs
def bnd' (m : Option Res) (k : PT → List Nat → Option Res) : Option Res := match m with
  | some (.ok p v) => k p v
  | some (.er c w) => some (.er c w)
  | none => none
section
variable (x : List Nat) (tk : List Tk)
def tkK (p : PT) : Nat := match tk[p.at_]? with
  | some t => t.k
  | none => 0
def here (p : PT) : Nat := match tk[p.at_]? with
  | some t => t.f
  | none => 0
def word (p : PT) : List Nat := match tk[p.at_]? with
  | some t => cut x t.f t.t
  | none => []
/-- Where the last token that was taken ends. -/
def upto (p : PT) : Nat := match tk[p.at_ - 1]? with
  | some t => t.t
  | none => 0
def isW (p : PT) (s : List Nat) : Bool := decide (tkK tk p ≠ 0) && decide (word x tk p = s)
def er (p : PT) (c : Nat) : Option Res := some (.er c (here tk p))
def putE (p : PT) (f : Nat) (e : Ex) : PT := { p with ex := p.ex ++ [{ e with f := f, t := upto tk p }] }
def put1 (p : PT) (f : Nat) (e : Ex) : Option Res := some (.ok (putE tk p f e) [p.ex.length])
def addS (p : PT) (f : Nat) (s : Sm) : Option Res :=
  if 1000 ≤ p.sm.length then er tk p 5 else some (.ok { p with sm := p.sm ++ [{ s with f := f, t := upto tk p }] } [p.sm.length])
def semi (p : PT) (f : Nat) (s : Sm) : Option Res := if isW x tk p [59] = true then addS tk p.adv f s else er tk p 3
def signsM : Nat → List (List Nat)
  | 0 => [[124, 124]]
  | 1 => [[38, 38]]
  | 2 => [[61, 61], [33, 61], [60], [60, 61], [62], [62, 61]]
  | 3 => [[43], [45]]
  | _ => [[42], [47], [37]]
def signOf (p : PT) (l : Nat) : Option (List Nat) := (signsM l).find? (isW x tk p)
def numM (s : List Nat) : Nat := s.foldl (fun n c => n * 10 + (c - 48)) 0
def hd0 : List Nat → Nat
  | [] => 0
  | a :: _ => a
def run : Nat → NT → PT → Option Res
  | 0, _, _ => none
  | n + 1, .row l d, p => if l = 5 then run n (.un d) p else bnd' (run n (.row (l + 1) d) p) fun q v => run n (.rowT l d (here tk p) (hd0 v)) q
  | n + 1, .rowT l d f a, p => match signOf x tk p l with
    | none => some (.ok p [a])
    | some op => bnd' (run n (.row (l + 1) d) p.adv) fun q v =>
      if l = 2 then put1 tk q f { k := 9, op := op, a := a, b := hd0 v } else run n (.rowT l d f q.ex.length) (putE tk q f { k := 9, op := op, a := a, b := hd0 v })
  | n + 1, .expr d, p => if 64 < d then er tk p 4 else run n (.row 0 d) p
  | n + 1, .un d, p => if (isW x tk p [45] || isW x tk p [33]) = true then
      (if 64 < d + 1 then er tk p.adv 4 else bnd' (run n (.un (d + 1)) p.adv) fun q v => put1 tk q (here tk p) { k := 8, op := word x tk p, a := hd0 v })
    else run n (.prim d) p
  | n + 1, .prim d, p =>
    if tkK tk p = 2 then put1 tk p.adv (here tk p) { k := 1, num := numM (word x tk p) }
    else if isW x tk p [116, 114, 117, 101] = true then put1 tk p.adv (here tk p) { k := 2 }
    else if isW x tk p [102, 97, 108, 115, 101] = true then put1 tk p.adv (here tk p) { k := 3 }
    else if isW x tk p [114, 101, 97, 100] = true then put1 tk p.adv (here tk p) { k := 7 }
    else if isW x tk p [40] = true then bnd' (run n (.expr (d + 1)) p.adv) fun q v => if isW x tk q [41] = true then some (.ok q.adv v) else er tk q 3
    else if tkK tk p = 1 then
      (if isW x tk p.adv [91] = true then bnd' (run n (.expr (d + 1)) p.adv.adv) fun q v => if isW x tk q [93] = true then put1 tk q.adv (here tk p) { k := 5, name := word x tk p, a := hd0 v } else er tk q 3
       else if isW x tk p.adv [40] = true then run n (.args (here tk p) (word x tk p) d []) p.adv.adv
       else put1 tk p.adv (here tk p) { k := 4, name := word x tk p })
    else er tk p 3
  | n + 1, .args f name d acc, p =>
    if isW x tk p [41] = true then put1 tk p.adv f { k := 6, name := name, l := acc }
    else if acc = [] then bnd' (run n (.expr (d + 1)) p) fun q v => run n (.args f name d (acc ++ [hd0 v])) q
    else if isW x tk p [44] = true then bnd' (run n (.expr (d + 1)) p.adv) fun q v => run n (.args f name d (acc ++ [hd0 v])) q
    else er tk p 3
  | n + 1, .block d, p => if isW x tk p [123] = true then (if 64 < d then er tk p 4 else run n (.stmts d []) p.adv) else er tk p 3
  | n + 1, .stmts d acc, p => if isW x tk p [125] = true then some (.ok p.adv acc) else bnd' (run n (.stmt d) p) fun q v => run n (.stmts d (acc ++ [hd0 v])) q
  | n + 1, .stmt d, p =>
    if isW x tk p [105, 102] = true then run n (.branch (here tk p) d) p.adv
    else if isW x tk p [119, 104, 105, 108, 101] = true then bnd' (run n (.expr d) p.adv) fun q v => bnd' (run n (.block (d + 1)) q) fun r b => addS tk r (here tk p) { k := 6, a := hd0 v, th := b }
    else if isW x tk p [118, 97, 114] = true then
      (if tkK tk p.adv = 1 then
        (if isW x tk p.adv.adv [91] = true then
          (if tkK tk p.adv.adv.adv = 2 then
            (if isW x tk p.adv.adv.adv.adv [93] = true then semi x tk p.adv.adv.adv.adv.adv (here tk p) { k := 2, name := word x tk p.adv, num := numM (word x tk p.adv.adv.adv) } else er tk p.adv.adv.adv.adv 3)
          else er tk p.adv.adv.adv 3)
        else if isW x tk p.adv.adv [61] = true then bnd' (run n (.expr d) p.adv.adv.adv) fun q v => semi x tk q (here tk p) { k := 1, name := word x tk p.adv, a := hd0 v }
        else er tk p.adv.adv 3)
      else er tk p.adv 3)
    else if isW x tk p [98, 114, 101, 97, 107] = true then semi x tk p.adv (here tk p) { k := 7 }
    else if isW x tk p [99, 111, 110, 116, 105, 110, 117, 101] = true then semi x tk p.adv (here tk p) { k := 8 }
    else if isW x tk p [114, 101, 116, 117, 114, 110] = true then
      (if isW x tk p.adv [59] = true then semi x tk p.adv (here tk p) { k := 9, a := -1 } else bnd' (run n (.expr d) p.adv) fun q v => semi x tk q (here tk p) { k := 9, a := hd0 v })
    else if isW x tk p [112, 114, 105, 110, 116] = true then bnd' (run n (.expr d) p.adv) fun q v => semi x tk q (here tk p) { k := 10, a := hd0 v }
    else if tkK tk p = 1 then
      (if isW x tk p.adv [40] = true then bnd' (run n (.args (here tk p) (word x tk p) d []) p.adv.adv) fun q v => semi x tk q (here tk p) { k := 11, a := hd0 v }
       else if isW x tk p.adv [91] = true then bnd' (run n (.expr (d + 1)) p.adv.adv) fun q v =>
         if isW x tk q [93] = true then (if isW x tk q.adv [61] = true then bnd' (run n (.expr d) q.adv.adv) fun r w => semi x tk r (here tk p) { k := 4, name := word x tk p, a := hd0 v, b := hd0 w } else er tk q.adv 3) else er tk q 3
       else if isW x tk p.adv [61] = true then bnd' (run n (.expr d) p.adv.adv) fun q v => semi x tk q (here tk p) { k := 3, name := word x tk p, a := hd0 v }
       else er tk p.adv 3)
    else er tk p 3
  | n + 1, .branch f d, p => bnd' (run n (.expr d) p) fun q v => bnd' (run n (.block (d + 1)) q) fun r th =>
    if isW x tk r [101, 108, 115, 101] = true then
      (if isW x tk r.adv [105, 102] = true then
        (if 64 < d + 1 then er tk r.adv 4 else bnd' (run n (.branch (here tk r.adv) (d + 1)) r.adv.adv) fun t w => addS tk t f { k := 5, a := hd0 v, th := th, el := [hd0 w] })
      else bnd' (run n (.block (d + 1)) r.adv) fun t w => addS tk t f { k := 5, a := hd0 v, th := th, el := w })
    else addS tk r f { k := 5, a := hd0 v, th := th }
  | n + 1, .func, p => if isW x tk p [102, 117, 110, 99] = true then
      (if 32 ≤ p.fn.length then er tk p 5
       else if tkK tk p.adv = 1 then (if isW x tk p.adv.adv [40] = true then run n (.params (here tk p) (word x tk p.adv) []) p.adv.adv.adv else er tk p.adv.adv 3)
       else er tk p.adv 3)
    else er tk p 3
  | n + 1, .params f name acc, p =>
    if isW x tk p [41] = true then
      (if isW x tk p.adv [105, 110, 116] = true then bnd' (run n (.block 1) p.adv.adv) fun r b => some (.ok { r with fn := r.fn ++ [⟨name, f, upto tk r, acc, 1, b⟩] } [])
       else bnd' (run n (.block 1) p.adv) fun r b => some (.ok { r with fn := r.fn ++ [⟨name, f, upto tk r, acc, 4, b⟩] } []))
    else if acc = [] then (if tkK tk p = 1 then run n (.params f name (acc ++ [word x tk p])) p.adv else er tk p 3)
    else if isW x tk p [44] = true then (if tkK tk p.adv = 1 then run n (.params f name (acc ++ [word x tk p.adv])) p.adv.adv else er tk p.adv 3)
    else er tk p 3
  | n + 1, .funcs, p => if p.fn = [] ∨ tkK tk p ≠ 0 then bnd' (run n .func p) fun q _ => run n .funcs q else some (.ok p [])

/-- What comes out in the end. -/
def Ev (m : Nat → Option Res) (r : Res) : Prop := ∃ n0, ∀ n, n0 ≤ n → m n = some r
end
theorem Ev.const {r : Res} : Ev (fun _ => some r) r := ⟨0, fun _ _ => rfl⟩
theorem Ev.bind {m : Nat → Option Res} {k : Nat → PT → List Nat → Option Res} {p v r} (h1 : Ev m (.ok p v)) (h2 : Ev (fun n => k n p v) r) : Ev (fun n => bnd' (m n) (k n)) r := by
  obtain ⟨a, ha⟩ := h1
  obtain ⟨b, hb⟩ := h2
  exact ⟨max a b, fun n hn => by show bnd' (m n) (k n) = _; rw [ha n (by omega)]; exact hb n (by omega)⟩
theorem Ev.bindE {m : Nat → Option Res} {k : Nat → PT → List Nat → Option Res} {c w} (h1 : Ev m (.er c w)) : Ev (fun n => bnd' (m n) (k n)) (.er c w) := by
  obtain ⟨a, ha⟩ := h1
  exact ⟨a, fun n hn => by show bnd' (m n) (k n) = _; rw [ha n hn]; rfl⟩
theorem Ev.succ {x tk nt p r} (h : Ev (fun n => run x tk (n + 1) nt p) r) : Ev (fun n => run x tk n nt p) r := by
  obtain ⟨a, ha⟩ := h
  refine ⟨a + 1, fun n hn => ?_⟩
  cases n with
  | zero => omega
  | succ n => exact ha n (by omega)
theorem Ev.det {m : Nat → Option Res} {r s} (h1 : Ev m r) (h2 : Ev m s) : r = s := by
  obtain ⟨a, ha⟩ := h1
  obtain ⟨b, hb⟩ := h2
  have e := (ha (max a b) (by omega)).symm.trans (hb (max a b) (by omega))
  exact Option.some.inj e

/-- Tokens that are whole: the last one is the end, no other one is. -/
structure TokOk (x : List Nat) (tk : List Tk) : Prop where
  span : ∀ (i : Nat) t, tk[i]? = some t → t.f ≤ t.t ∧ t.t ≤ x.length
  last : ∀ (i : Nat) t, tk[i]? = some t → t.k ≠ 0 → i + 1 < tk.length
  pos : 0 < tk.length
  short : tk.length < 1000000
  num : ∀ (i : Nat) t, tk[i]? = some t → t.k = 2 → (∀ c ∈ cut x t.f t.t, 48 ≤ c ∧ c ≤ 57) ∧ t.t - t.f ≤ 18
section
variable {x : List Nat} {tk : List Tk} {p : PT}
theorem adv_at : p.adv.at_ = p.at_ + 1 := rfl
theorem tkK_lt (H : TokOk x tk) (h : tkK tk p ≠ 0) : p.at_ + 1 < tk.length := by
  unfold tkK at h
  cases ht : tk[p.at_]? with
  | none => rw [ht] at h; exact absurd rfl h
  | some t => rw [ht] at h; exact H.last _ t ht h
theorem isW_lt (H : TokOk x tk) {s : List Nat} (h : isW x tk p s = true) : p.at_ + 1 < tk.length := by
  unfold isW at h
  simp only [Bool.and_eq_true, decide_eq_true_eq] at h
  exact tkK_lt H h.1
/-- From p to q: only forward; no more was put than was taken. -/
structure Fwd (tk : List Tk) (p q : PT) : Prop where
  at_ : p.at_ ≤ q.at_
  lt : p.at_ < tk.length → q.at_ < tk.length
  ex : q.ex.length + p.at_ ≤ p.ex.length + q.at_
  ex1 : p.ex.length ≤ q.ex.length
  sm : p.sm.length ≤ 1000 → q.sm.length ≤ 1000
  sm1 : p.sm.length ≤ q.sm.length
  fn : q.fn.length + p.at_ ≤ p.fn.length + q.at_
theorem Fwd.refl : Fwd tk p p := ⟨Nat.le_refl _, id, Nat.le_refl _, Nat.le_refl _, id, Nat.le_refl _, Nat.le_refl _⟩
theorem Fwd.trans {q r : PT} (h1 : Fwd tk p q) (h2 : Fwd tk q r) : Fwd tk p r := ⟨Nat.le_trans h1.at_ h2.at_, fun h => h2.lt (h1.lt h), by have := h1.ex; have := h2.ex; omega, Nat.le_trans h1.ex1 h2.ex1, fun h => h2.sm (h1.sm h), Nat.le_trans h1.sm1 h2.sm1, by have := h1.fn; have := h2.fn; omega⟩
theorem Fwd.adv (H : TokOk x tk) (h : tkK tk p ≠ 0) : Fwd tk p p.adv := ⟨by simp [adv_at], fun _ => tkK_lt H h, by simp [PT.adv], Nat.le_refl _, id, Nat.le_refl _, by simp [PT.adv]⟩
theorem isW_k {s : List Nat} (h : isW x tk p s = true) : tkK tk p ≠ 0 := by
  unfold isW at h
  simp only [Bool.and_eq_true, decide_eq_true_eq] at h
  exact h.1
/-- One was put, for one that was taken and not counted. -/
theorem Fwd.put (H : TokOk x tk) (hk : tkK tk p ≠ 0) {q : PT} {f : Nat} {e : Ex} (h : Fwd tk p.adv q) : Fwd tk p (putE tk q f e) := by
  refine ⟨?_, fun _ => ?_, ?_, ?_, h.sm, h.sm1, ?_⟩
  · have := h.at_; simp [putE, PT.adv] at *; omega
  · exact h.lt (tkK_lt H hk)
  · have := h.ex; simp [putE, PT.adv] at *; omega
  · have := h.ex1; simp [putE, PT.adv] at *; omega
  · have := h.fn; simp [putE, PT.adv] at *; omega
theorem bnd_ok {m : Option Res} {k : PT → List Nat → Option Res} {q v} (h : bnd' m k = some (.ok q v)) : ∃ p' v', m = some (.ok p' v') ∧ k p' v' = some (.ok q v) := by
  unfold bnd' at h
  split at h
  · rename_i p' v'; exact ⟨p', v', rfl, h⟩
  · cases h
  · cases h
theorem er_ok {c : Nat} {q v} (h : er tk p c = some (.ok q v)) : False := by cases h
theorem put1_ok {f : Nat} {e : Ex} {q v} (h : put1 tk p f e = some (.ok q v)) : q = putE tk p f e ∧ v = [p.ex.length] := by
  unfold put1 at h; cases h; exact ⟨rfl, rfl⟩
theorem addS_ok {f : Nat} {e : Sm} {q v} (h : addS tk p f e = some (.ok q v)) : p.sm.length < 1000 ∧ q = { p with sm := p.sm ++ [{ e with f := f, t := upto tk p }] } ∧ v = [p.sm.length] := by
  unfold addS at h
  split at h
  · cases h
  · cases h; exact ⟨by omega, rfl, rfl⟩
theorem addS_fwd {f : Nat} {e : Sm} {q v} (h : addS tk p f e = some (.ok q v)) : Fwd tk p q ∧ q.at_ = p.at_ := by
  obtain ⟨h0, rfl, _⟩ := addS_ok h
  exact ⟨⟨Nat.le_refl _, id, Nat.le_refl _, Nat.le_refl _, fun _ => by simp; omega, by simp, Nat.le_refl _⟩, rfl⟩
theorem semi_ok {f : Nat} {e : Sm} {q v} (h : semi x tk p f e = some (.ok q v)) : isW x tk p [59] = true ∧ addS tk p.adv f e = some (.ok q v) := by
  unfold semi at h
  split at h
  · exact ⟨by assumption, h⟩
  · cases h
theorem semi_fwd (H : TokOk x tk) {f : Nat} {e : Sm} {q v} (h : semi x tk p f e = some (.ok q v)) : Fwd tk p q ∧ p.at_ < q.at_ := by
  obtain ⟨h1, h2⟩ := semi_ok h
  have h3 := addS_fwd h2
  exact ⟨(Fwd.adv H (isW_k h1)).trans h3.1, by have := h3.2; simp [PT.adv] at this; omega⟩
def NT.st : NT → Nat
  | .rowT .. => 0
  | .funcs => 0
  | _ => 1
theorem signOf_k {l : Nat} {op : List Nat} (h : signOf x tk p l = some op) : tkK tk p ≠ 0 ∧ op ∈ signsM l ∧ isW x tk p op = true := by
  unfold signOf at h
  have h1 := List.find?_some h
  exact ⟨isW_k h1, List.mem_of_find?_eq_some h, h1⟩
theorem fn_fwd (H : TokOk x tk) (hk : tkK tk p ≠ 0) {q : PT} {e : Fn} (h : Fwd tk p.adv q) : Fwd tk p { q with fn := q.fn ++ [e] } :=
  ⟨by have := h.at_; simp [PT.adv] at *; omega, fun _ => h.lt (tkK_lt H hk), by have := h.ex; simp [PT.adv] at *; omega, by have := h.ex1; simp [PT.adv] at *; omega, h.sm, h.sm1, by have := h.fn; simp [PT.adv] at *; omega⟩
theorem ite_or {α : Type} {c : Prop} [Decidable c] {a b r : α} (h : (if c then a else b) = r) : (c ∧ a = r) ∨ (¬ c ∧ b = r) := by
  by_cases hc : c
  · rw [if_pos hc] at h; exact .inl ⟨hc, h⟩
  · rw [if_neg hc] at h; exact .inr ⟨hc, h⟩
theorem run_fwd (H : TokOk x tk) : ∀ (n : Nat) (nt : NT) (p q : PT) (v : List Nat), run x tk n nt p = some (.ok q v) → Fwd tk p q ∧ p.at_ + nt.st ≤ q.at_ := by
  intro n
  induction n with
  | zero => intro nt p q v h; cases h
  | succ n ih =>
    intro nt p q v h
    have one : tkK tk p = 1 → tkK tk p ≠ 0 := fun h => by omega
    have two : tkK tk p = 2 → tkK tk p ≠ 0 := fun h => by omega
    cases nt with
    | row l d =>
      simp only [run] at h
      split at h
      · have a := ih _ _ _ _ h; exact ⟨a.1, a.2⟩
      · obtain ⟨p', v', h1, h2⟩ := bnd_ok h
        have a := ih _ _ _ _ h1
        have b := ih _ _ _ _ h2
        exact ⟨a.1.trans b.1, by have := a.2; have := b.1.at_; simp only [NT.st] at *; omega⟩
    | rowT l d f a =>
      simp only [run] at h
      split at h
      · cases h; exact ⟨Fwd.refl, Nat.le_refl _⟩
      · rename_i op hs
        have hk := (signOf_k hs).1
        obtain ⟨p', v', h1, h2⟩ := bnd_ok h
        have a := ih _ _ _ _ h1
        split at h2
        · obtain ⟨rfl, _⟩ := put1_ok h2
          exact ⟨a.1.put H hk, by have := a.1.at_; simp only [NT.st, putE, PT.adv] at *; omega⟩
        · have b := ih _ _ _ _ h2
          exact ⟨(a.1.put H hk).trans b.1, by have := a.1.at_; have := b.1.at_; simp only [NT.st, putE, PT.adv] at *; omega⟩
    | expr d =>
      simp only [run] at h
      split at h
      · cases h
      · have a := ih _ _ _ _ h; exact ⟨a.1, a.2⟩
    | un d =>
      simp only [run] at h
      split at h
      · rename_i hw
        have hk : tkK tk p ≠ 0 := by
          simp only [Bool.or_eq_true] at hw
          rcases hw with hw | hw <;> exact isW_k hw
        split at h
        · cases h
        · obtain ⟨p', v', h1, h2⟩ := bnd_ok h
          have a := ih _ _ _ _ h1
          obtain ⟨rfl, _⟩ := put1_ok h2
          exact ⟨a.1.put H hk, by have := a.1.at_; simp only [NT.st, putE, PT.adv] at *; omega⟩
      · have a := ih _ _ _ _ h; exact ⟨a.1, a.2⟩
    | prim d =>
      have lit : ∀ {e : Ex}, tkK tk p ≠ 0 → put1 tk p.adv (here tk p) e = some (.ok q v) → Fwd tk p q ∧ p.at_ + 1 ≤ q.at_ := fun hk h => by
        obtain ⟨rfl, _⟩ := put1_ok h
        exact ⟨Fwd.refl.put H hk, by simp [putE, PT.adv]⟩
      simp only [run] at h
      split at h
      · exact lit (two (by assumption)) h
      split at h
      · exact lit (isW_k (by assumption)) h
      split at h
      · exact lit (isW_k (by assumption)) h
      split at h
      · exact lit (isW_k (by assumption)) h
      split at h
      · rename_i hw
        obtain ⟨p', v', h1, h2⟩ := bnd_ok h
        have a := ih _ _ _ _ h1
        split at h2
        · rename_i hw2
          cases h2
          exact ⟨((Fwd.adv H (isW_k hw)).trans a.1).trans (Fwd.adv H (isW_k hw2)), by have := a.1.at_; simp only [NT.st, PT.adv] at *; omega⟩
        · cases h2
      split at h
      · rename_i hk
        have hk := one hk
        split at h
        · rename_i hw
          obtain ⟨p', v', h1, h2⟩ := bnd_ok h
          have a := ih _ _ _ _ h1
          split at h2
          · rename_i hw2
            obtain ⟨rfl, _⟩ := put1_ok h2
            exact ⟨(((Fwd.adv H (isW_k hw)).trans a.1).trans (Fwd.adv H (isW_k hw2))).put H hk, by have := a.1.at_; simp only [NT.st, PT.adv, putE] at *; omega⟩
          · cases h2
        split at h
        · rename_i hw
          have a := ih _ _ _ _ h
          exact ⟨((Fwd.adv H hk).trans (Fwd.adv H (isW_k hw))).trans a.1, by have := a.1.at_; simp only [NT.st, PT.adv] at *; omega⟩
        · exact lit hk h
      · cases h
    | args f name d acc =>
      simp only [run] at h
      split at h
      · rename_i hw
        obtain ⟨rfl, _⟩ := put1_ok h
        exact ⟨Fwd.refl.put H (isW_k hw), by simp [putE, PT.adv, NT.st]⟩
      split at h
      · obtain ⟨p', v', h1, h2⟩ := bnd_ok h
        have a := ih _ _ _ _ h1
        have b := ih _ _ _ _ h2
        exact ⟨a.1.trans b.1, by have := a.1.at_; have := b.2; simp only [NT.st] at *; omega⟩
      split at h
      · rename_i hw
        obtain ⟨p', v', h1, h2⟩ := bnd_ok h
        have a := ih _ _ _ _ h1
        have b := ih _ _ _ _ h2
        exact ⟨((Fwd.adv H (isW_k hw)).trans a.1).trans b.1, by have := a.1.at_; have := b.2; simp only [NT.st, PT.adv] at *; omega⟩
      · cases h
    | block d =>
      simp only [run] at h
      split at h
      · rename_i hw
        split at h
        · cases h
        · have a := ih _ _ _ _ h
          exact ⟨(Fwd.adv H (isW_k hw)).trans a.1, by have := a.1.at_; simp only [NT.st, PT.adv] at *; omega⟩
      · cases h
    | stmts d acc =>
      simp only [run] at h
      split at h
      · rename_i hw
        cases h
        exact ⟨Fwd.adv H (isW_k hw), Nat.le_refl _⟩
      · obtain ⟨p', v', h1, h2⟩ := bnd_ok h
        have a := ih _ _ _ _ h1
        have b := ih _ _ _ _ h2
        exact ⟨a.1.trans b.1, by have := a.1.at_; have := b.2; simp only [NT.st] at *; omega⟩
    | stmt d =>
      have ex : ∀ {p1 : PT} {k : PT → List Nat → Option Res} {d}, Fwd tk p p1 → p.at_ < p1.at_ → bnd' (run x tk n (.expr d) p1) k = some (.ok q v) → ∃ p' v', Fwd tk p p' ∧ p.at_ < p'.at_ ∧ k p' v' = some (.ok q v) := fun f1 lt h => by
        obtain ⟨p', v', h1, h2⟩ := bnd_ok h
        have a := ih _ _ _ _ h1
        exact ⟨p', v', f1.trans a.1, by have := a.1.at_; omega, h2⟩
      have fin : ∀ {p1 : PT} {f} {e : Sm}, Fwd tk p p1 → p.at_ < p1.at_ → semi x tk p1 f e = some (.ok q v) → Fwd tk p q ∧ p.at_ + 1 ≤ q.at_ := fun f1 lt h => by
        have a := semi_fwd H h
        exact ⟨f1.trans a.1, by have := a.2; omega⟩
      have st1 : ∀ {s : List Nat}, isW x tk p s = true → Fwd tk p p.adv ∧ p.at_ < p.adv.at_ := fun hw => ⟨Fwd.adv H (isW_k hw), by simp [PT.adv]⟩
      have nx : ∀ {p1 : PT}, Fwd tk p p1 → p.at_ < p1.at_ → tkK tk p1 ≠ 0 → Fwd tk p p1.adv ∧ p.at_ < p1.adv.at_ := fun f1 lt hk => ⟨f1.trans (Fwd.adv H hk), by simp [PT.adv]; omega⟩
      rw [run] at h
      rcases ite_or h with ⟨hw, h⟩ | ⟨-, h⟩
      · have a := ih _ _ _ _ h
        exact ⟨(st1 hw).1.trans a.1, by have := a.1.at_; simp only [NT.st, PT.adv] at *; omega⟩
      rcases ite_or h with ⟨hw, h⟩ | ⟨-, h⟩
      · obtain ⟨p', v', f1, l1, h2⟩ := ex (st1 hw).1 (st1 hw).2 h
        obtain ⟨p'', v'', h3, h4⟩ := bnd_ok h2
        have a := ih _ _ _ _ h3
        have b := addS_fwd h4
        exact ⟨(f1.trans a.1).trans b.1, by have := a.1.at_; have := b.2; simp only [NT.st]; omega⟩
      rcases ite_or h with ⟨hw, h⟩ | ⟨-, h⟩
      · rcases ite_or h with ⟨hk, h⟩ | ⟨-, h⟩
        · have n1 := nx (st1 hw).1 (st1 hw).2 (by omega)
          rcases ite_or h with ⟨hw2, h⟩ | ⟨-, h⟩
          · have n2 := nx n1.1 n1.2 (isW_k hw2)
            rcases ite_or h with ⟨hk2, h⟩ | ⟨-, h⟩
            · have n3 := nx n2.1 n2.2 (by omega)
              rcases ite_or h with ⟨hw3, h⟩ | ⟨-, h⟩
              · have n4 := nx n3.1 n3.2 (isW_k hw3)
                exact fin n4.1 n4.2 h
              · cases h
            · cases h
          rcases ite_or h with ⟨hw2, h⟩ | ⟨-, h⟩
          · have n2 := nx n1.1 n1.2 (isW_k hw2)
            obtain ⟨p', v', f1, l1, h2⟩ := ex n2.1 n2.2 h
            exact fin f1 l1 h2
          · cases h
        · cases h
      rcases ite_or h with ⟨hw, h⟩ | ⟨-, h⟩
      · exact fin (st1 hw).1 (st1 hw).2 h
      rcases ite_or h with ⟨hw, h⟩ | ⟨-, h⟩
      · exact fin (st1 hw).1 (st1 hw).2 h
      rcases ite_or h with ⟨hw, h⟩ | ⟨-, h⟩
      · rcases ite_or h with ⟨-, h⟩ | ⟨-, h⟩
        · exact fin (st1 hw).1 (st1 hw).2 h
        · obtain ⟨p', v', f1, l1, h2⟩ := ex (st1 hw).1 (st1 hw).2 h
          exact fin f1 l1 h2
      rcases ite_or h with ⟨hw, h⟩ | ⟨-, h⟩
      · obtain ⟨p', v', f1, l1, h2⟩ := ex (st1 hw).1 (st1 hw).2 h
        exact fin f1 l1 h2
      rcases ite_or h with ⟨hk, h⟩ | ⟨-, h⟩
      · have n1 : Fwd tk p p.adv ∧ p.at_ < p.adv.at_ := ⟨Fwd.adv H (one hk), by simp [PT.adv]⟩
        rcases ite_or h with ⟨hw, h⟩ | ⟨-, h⟩
        · have n2 := nx n1.1 n1.2 (isW_k hw)
          obtain ⟨p', v', h1, h2⟩ := bnd_ok h
          have a := ih _ _ _ _ h1
          exact fin (n2.1.trans a.1) (by have := a.1.at_; have := n2.2; omega) h2
        rcases ite_or h with ⟨hw, h⟩ | ⟨-, h⟩
        · have n2 := nx n1.1 n1.2 (isW_k hw)
          obtain ⟨p', v', f1, l1, h2⟩ := ex n2.1 n2.2 h
          rcases ite_or h2 with ⟨hw2, h2⟩ | ⟨-, h2⟩
          · have n3 := nx f1 l1 (isW_k hw2)
            rcases ite_or h2 with ⟨hw3, h2⟩ | ⟨-, h2⟩
            · have n4 := nx n3.1 n3.2 (isW_k hw3)
              obtain ⟨p'', v'', f2, l2, h3⟩ := ex n4.1 n4.2 h2
              exact fin f2 l2 h3
            · cases h2
          · cases h2
        rcases ite_or h with ⟨hw, h⟩ | ⟨-, h⟩
        · have n2 := nx n1.1 n1.2 (isW_k hw)
          obtain ⟨p', v', f1, l1, h2⟩ := ex n2.1 n2.2 h
          exact fin f1 l1 h2
        · cases h
      · cases h
    | branch f d =>
      simp only [run] at h
      obtain ⟨p1, v1, h1, h2⟩ := bnd_ok h
      obtain ⟨p2, v2, h3, h4⟩ := bnd_ok h2
      have a := ih _ _ _ _ h1
      have b := ih _ _ _ _ h3
      have f2 := a.1.trans b.1
      have l2 : p.at_ < p2.at_ := by have := a.2; have := b.1.at_; simp only [NT.st] at *; omega
      have fin : ∀ {p3 : PT} {e : Sm}, Fwd tk p p3 → p.at_ < p3.at_ → addS tk p3 f e = some (.ok q v) → Fwd tk p q ∧ p.at_ + 1 ≤ q.at_ := fun f3 l3 h => by
        have c := addS_fwd h
        exact ⟨f3.trans c.1, by have := c.2; omega⟩
      split at h4
      · rename_i hw
        have f3 := f2.trans (Fwd.adv H (isW_k hw))
        split at h4
        · rename_i hw2
          have f4 := f3.trans (Fwd.adv H (isW_k hw2))
          split at h4
          · cases h4
          · obtain ⟨p5, v5, h5, h6⟩ := bnd_ok h4
            have c := ih _ _ _ _ h5
            exact fin (f4.trans c.1) (by have := c.1.at_; simp only [PT.adv] at *; omega) h6
        · obtain ⟨p5, v5, h5, h6⟩ := bnd_ok h4
          have c := ih _ _ _ _ h5
          exact fin (f3.trans c.1) (by have := c.1.at_; simp only [PT.adv] at *; omega) h6
      · exact fin f2 l2 h4
    | func =>
      simp only [run] at h
      split at h
      · rename_i hw
        split at h
        · cases h
        split at h
        · rename_i hk
          split at h
          · rename_i hw2
            have a := ih _ _ _ _ h
            exact ⟨(((Fwd.adv H (isW_k hw)).trans (Fwd.adv H (by omega))).trans (Fwd.adv H (isW_k hw2))).trans a.1, by have := a.1.at_; simp only [NT.st, PT.adv] at *; omega⟩
          · cases h
        · cases h
      · cases h
    | params f name acc =>
      simp only [run] at h
      split at h
      · rename_i hw
        have f1 := Fwd.adv H (isW_k hw)
        split at h
        · rename_i hw2
          obtain ⟨p1, v1, h1, h2⟩ := bnd_ok h
          have a := ih _ _ _ _ h1
          cases h2
          exact ⟨fn_fwd H (isW_k hw) ((Fwd.adv H (isW_k hw2)).trans a.1), by have := a.1.at_; simp only [NT.st, PT.adv] at *; omega⟩
        · obtain ⟨p1, v1, h1, h2⟩ := bnd_ok h
          have a := ih _ _ _ _ h1
          cases h2
          exact ⟨fn_fwd H (isW_k hw) a.1, by have := a.1.at_; simp only [NT.st, PT.adv] at *; omega⟩
      split at h
      · split at h
        · rename_i hk
          have a := ih _ _ _ _ h
          exact ⟨(Fwd.adv H (one hk)).trans a.1, by have := a.1.at_; simp only [NT.st, PT.adv] at *; omega⟩
        · cases h
      split at h
      · rename_i hw
        split at h
        · rename_i hk
          have a := ih _ _ _ _ h
          exact ⟨((Fwd.adv H (isW_k hw)).trans (Fwd.adv H (by omega))).trans a.1, by have := a.1.at_; simp only [NT.st, PT.adv] at *; omega⟩
        · cases h
      · cases h
    | funcs =>
      simp only [run] at h
      split at h
      · obtain ⟨p1, v1, h1, h2⟩ := bnd_ok h
        have a := ih _ _ _ _ h1
        have b := ih _ _ _ _ h2
        exact ⟨a.1.trans b.1, by have := a.1.at_; have := b.1.at_; simp only [NT.st] at *; omega⟩
      · cases h; exact ⟨Fwd.refl, Nat.le_refl _⟩
theorem ev_fwd (H : TokOk x tk) {nt : NT} {q : PT} {v} (h : Ev (fun n => run x tk n nt p) (.ok q v)) : Fwd tk p q ∧ p.at_ + nt.st ≤ q.at_ := by
  obtain ⟨a, ha⟩ := h
  exact run_fwd H a nt p q v (ha a (Nat.le_refl _))
end
end Go.Proofs.Ytnldohnfdeineaa.Abs
/- The document's parser: its small functions do what the plain ones do. -/
namespace Go.Proofs.Ytnldohnfdeineaa.Abs
open Go
set_option maxRecDepth 100000

structure TGood (s : List Nat) (t : Tk) : Prop where
  le : t.f ≤ t.t
  le2 : t.t ≤ s.length
  num : t.k = 2 → (∀ c ∈ cut s t.f t.t, 48 ≤ c ∧ c ≤ 57) ∧ t.t - t.f ≤ 18
theorem cut_run {s : List Nat} {j n : Nat} : cut s j (j + n) = (s.drop j).take n := by
  unfold cut; rw [List.drop_take]; congr 1; omega
theorem take_run (p : Nat → Bool) : ∀ (l : List Nat), ∀ c ∈ l.take (runL p l), p c = true
  | [], c, h => by simp at h
  | a :: l, c, h => by
    rw [runL_cons] at h
    split at h
    · rename_i ha
      rw [Nat.add_comm, List.take_succ_cons] at h
      rcases List.mem_cons.1 h with rfl | h
      · exact ha
      · exact take_run p l c h
    · simp at h
theorem tokAt_good {s : List Nat} {j : Nat} (h : j ≤ s.length) : TGood s (tokAt s j).1 := by
  have hle := tokAt_le h
  refine ⟨by omega, by omega, ?_⟩
  unfold tokAt
  by_cases hj : j < s.length
  · rw [List.getElem?_eq_getElem hj]
    simp only
    split
    · split <;> simp
    · split
      · split
        · simp
        · rename_i hn
          intro _
          simp only
          refine ⟨fun c hc => ?_, ?_⟩
          · rw [cut_run] at hc
            have := take_run isDigit _ c hc
            simpa [isDigit] using this
          · simp [numBad] at hn
            omega
      · split <;> simp
  · rw [List.getElem?_eq_none (by omega)]
    simp
theorem allF_ok {s : List Nat} : ∀ (n i : Nat) (out l : List Tk), i ≤ s.length → allF s n i out = .inl l → (∀ t ∈ out, TGood s t ∧ t.k ≠ 0) → out.length ≤ i →
    ∃ l' e, l = l' ++ [e] ∧ e.k = 0 ∧ TGood s e ∧ (∀ t ∈ l', TGood s t ∧ t.k ≠ 0) ∧ l'.length ≤ s.length := by
  intro n
  induction n with
  | zero => intro i out l _ h; cases h
  | succ n ih =>
    intro i out l hi h ho hl
    rw [allF] at h
    have hg : TGood s (nextM s i).1 := tokAt_good (by
      have := skipL_le (s.drop i) false
      rw [List.length_drop] at this
      omega)
    have hle := nextM_le hi
    rcases ite_or h with ⟨_, h⟩ | ⟨h0, h⟩
    · cases h
    · rcases ite_or h with ⟨hk, h⟩ | ⟨hk, h⟩
      · cases h
        exact ⟨out, _, rfl, hk, hg, ho, by omega⟩
      · have h0' : (nextM s i).2 = 0 := by simpa using h0
        have := hle.2.2.2 h0' hk
        refine ih _ _ _ hle.2.2.1 h (fun t ht => ?_) (by simp; omega)
        rcases List.mem_append.1 ht with ht | ht
        · exact ho t ht
        · rw [List.mem_singleton.1 ht]; exact ⟨hg, hk⟩
theorem lex_ok {s : List Nat} {l : List Tk} (h : lexM s = .inl l) : TokOk s l := by
  unfold lexM at h
  rcases ite_or h with ⟨_, h⟩ | ⟨h0, h⟩
  · cases h
  · obtain ⟨l', e, rfl, he, hg, hl, hlen⟩ := allF_ok _ _ _ _ (Nat.zero_le _) h (fun t ht => by simp at ht) (Nat.le_refl _)
    have hgood : ∀ (i : Nat) t, (l' ++ [e])[i]? = some t → TGood s t := fun i t ht => by
      rcases List.mem_append.1 (List.mem_of_getElem? ht) with h | h
      · exact (hl t h).1
      · rw [List.mem_singleton.1 h]; exact hg
    refine ⟨fun i t ht => ⟨(hgood i t ht).le, (hgood i t ht).le2⟩, fun i t ht hk => ?_, by simp, by simp; omega, fun i t ht => (hgood i t ht).num⟩
    by_cases hi : i < l'.length
    · simp; omega
    · exfalso
      have hlt := (List.getElem?_eq_some_iff.1 ht).1
      simp at hlt
      have : i = l'.length := by omega
      subst this
      simp at ht
      subst ht
      exact hk he

/-! the parser's state, as a value -/
def eEx (e : Ex) : AV := .agg [eN e.k, eN e.f, eN e.t, eN e.num, .str e.name, .str e.op, eN e.a, eN e.b, .sl .no 1 (e.l.map eN)]
def eSm (s : Sm) : AV := .agg [eN s.k, eN s.f, eN s.t, .str s.name, eN s.num, eI s.a, eN s.b, .sl .no 1 (s.th.map eN), .sl .no 1 (s.el.map eN)]
def eFn (f : Fn) : AV := .agg [.str f.name, eN f.f, eN f.t, .sl .no 1 (f.params.map AV.str), eN f.ty, .sl .no 1 (f.body.map eN)]
structure Tks where
  a : Tok
  b : Tok
  c : Tok
def eP (x : List Nat) (tk : List Tk) (ts : Tks) (p : PT) (code wh : Nat) : AV :=
  .agg [.str x, .sl .no 3 (tk.map eTk), eN p.at_, .sl ts.a 9 (p.ex.map eEx), .sl ts.b 9 (p.sm.map eSm), .sl ts.c 6 (p.fn.map eFn), eN code, eN wh]
section
variable {x : List Nat} {tk : List Tk} {ts : Tks} {p : PT} {c w : Nat}
theorem ldP0 : ld 1 false (AV.cells (eP x tk ts p c w)) 0 = some (.str x) := rfl
theorem ldP1 : ld 1 false (AV.cells (eP x tk ts p c w)) 1 = some (.sl .no 3 (tk.map eTk)) := rfl
theorem ldP2 : ld 1 false (AV.cells (eP x tk ts p c w)) 2 = some (eN p.at_) := rfl
theorem ldP3 : ld 1 false (AV.cells (eP x tk ts p c w)) 3 = some (.sl ts.a 9 (p.ex.map eEx)) := rfl
theorem ldP4 : ld 1 false (AV.cells (eP x tk ts p c w)) 4 = some (.sl ts.b 9 (p.sm.map eSm)) := rfl
theorem ldP5 : ld 1 false (AV.cells (eP x tk ts p c w)) 5 = some (.sl ts.c 6 (p.fn.map eFn)) := rfl
theorem ldP6 : ld 1 false (AV.cells (eP x tk ts p c w)) 6 = some (eN c) := rfl
theorem ldP7 : ld 1 false (AV.cells (eP x tk ts p c w)) 7 = some (eN w) := rfl
theorem ldP : ld 8 true (AV.cells (eP x tk ts p c w)) 0 = some (eP x tk ts p c w) := rfl
theorem ldPt : ld 3 true (AV.cells (eP x tk ts p c w)) 3 = some (.agg [.sl ts.a 9 (p.ex.map eEx), .sl ts.b 9 (p.sm.map eSm), .sl ts.c 6 (p.fn.map eFn)]) := rfl
theorem udP2 {n : Nat} : upd 2 [.int .i64 (n : Int)] (AV.cells (eP x tk ts p c w)) = some (AV.cells (eP x tk ts { p with at_ := n } c w)) := rfl
theorem udP3 {t : Tok} {l : List Ex} : upd 3 [.sl t 9 (l.map eEx)] (AV.cells (eP x tk ts p c w)) = some (AV.cells (eP x tk { ts with a := t } { p with ex := l } c w)) := rfl
theorem udP4 {t : Tok} {l : List Sm} : upd 4 [.sl t 9 (l.map eSm)] (AV.cells (eP x tk ts p c w)) = some (AV.cells (eP x tk { ts with b := t } { p with sm := l } c w)) := rfl
theorem udP5 {t : Tok} {l : List Fn} : upd 5 [.sl t 6 (l.map eFn)] (AV.cells (eP x tk ts p c w)) = some (AV.cells (eP x tk { ts with c := t } { p with fn := l } c w)) := rfl
theorem udP6 {n : Nat} : upd 6 [.int .i64 (n : Int)] (AV.cells (eP x tk ts p c w)) = some (AV.cells (eP x tk ts p n w)) := rfl
theorem udP6l {n : Nat} : upd 6 [.int .i64 (no_index (OfNat.ofNat n : Int))] (AV.cells (eP x tk ts p c w)) = some (AV.cells (eP x tk ts p n w)) := rfl
theorem udP7 {n : Nat} : upd 7 [.int .i64 (n : Int)] (AV.cells (eP x tk ts p c w)) = some (AV.cells (eP x tk ts p c n)) := rfl
theorem udPa {ts' : Tks} {p' : PT} {c' w' : Nat} : upd 0 (AV.cells (eP x tk ts p c w)) (AV.cells (eP x tk ts' p' c' w')) = some (AV.cells (eP x tk ts p c w)) := rfl
theorem udP0 {a b d e f g h i : AV} : upd 0 (AV.cells (eP x tk ts p c w)) [a, b, d, e, f, g, h, i] = some (AV.cells (eP x tk ts p c w)) := rfl
theorem okvP : okv 8 (eP x tk ts p c w) = true := rfl
theorem memP : AV.mem (eP x tk ts p c w) = true := rfl
theorem nlP : nl (eP x tk ts p c w) = some (eP x tk ts p c w) := rfl
theorem ld_tks {t : Tk} : ld 2 true (AV.cells (eTk t)) 1 = some (.agg [eN t.f, eN t.t]) := rfl
theorem nlocP {d} : notLoc d (eP x tk ts p c w) = true := rfl
end
attribute [go_sem] ldP0 ldP1 ldP2 ldP3 ldP4 ldP5 ldP6 ldP7 ldP ldPt udP2 udP3 udP4 udP5 udP6 udP6l udP7 udPa udP0 okvP memP nlP nlocP ld_tk0 ld_tk1 ld_tk2 ld_tk ld_tks okv_tk upd_tk nl_tk nloc_tk
section
variable {x : List Nat} {tk : List Tk} {ts : Tks} {p : PT} {c w : Nat} {hp : List AO} {Q : ARes → List AO → Prop}
theorem at_some (h : p.at_ < tk.length) : ∃ t, tk[p.at_]? = some t := ⟨_, List.getElem?_eq_getElem h⟩
theorem here_ok (h : p.at_ < tk.length) (hQ : Q (.ret (eN (here tk p))) hp) : callK CC 54 [eP x tk ts p c w] hp Q := by
  refine callK_intro rfl (c54 ?_)
  obtain ⟨t, ht⟩ := at_some h
  simp -implicitDefEqProofs (maxSteps := 5000000) (disch := omega) only [s54, s54_0, ht, go_sem, Nat.reduceBEq, Nat.reduceBNe, reduceIte, reduceCtorEq, Nat.reduceLeDiff, Nat.reduceAdd, Nat.reduceEqDiff]
  simpa only [here, ht] using hQ
theorem word_ok (H : TokOk x tk) (h : p.at_ < tk.length) (hQ : Q (.ret (.str (word x tk p))) hp) : callK CC 73 [eP x tk ts p c w] hp Q := by
  refine callK_intro rfl (c73 ?_)
  obtain ⟨t, ht⟩ := at_some h
  have hs := H.span _ _ ht
  simp -implicitDefEqProofs (maxSteps := 5000000) (disch := omega) only [s73, s73_0, ht, okv_agg2, slstr_nat hs.1 hs.2, go_sem, Nat.reduceBEq, Nat.reduceBNe, reduceIte, reduceCtorEq, Nat.reduceLeDiff, Nat.reduceAdd, Nat.reduceEqDiff]
  simpa only [word, ht, cut] using hQ
theorem is_no (hc : c ≠ 0) {s : List Nat} (hQ : Q (.ret (.bool false)) hp) : callK CC 55 [eP x tk ts p c w, .str s] hp Q := by
  refine callK_intro rfl (c55 ?_)
  simp -implicitDefEqProofs (maxSteps := 5000000) (disch := omega) only [s55, s55_0, hc, go_sem, Nat.reduceBEq, Nat.reduceBNe, reduceIte, reduceCtorEq, Nat.reduceLeDiff, Nat.reduceAdd, Nat.reduceEqDiff]
  exact hQ
theorem is_ok (H : TokOk x tk) (h : p.at_ < tk.length) {s : List Nat} (hQ : Q (.ret (.bool (isW x tk p s))) hp) : callK CC 55 [eP x tk ts p 0 w, .str s] hp Q := by
  refine callK_intro rfl (c55 ?_)
  obtain ⟨t, ht⟩ := at_some h
  by_cases hk : t.k = 0
  · simp -implicitDefEqProofs (maxSteps := 5000000) (disch := omega) only [s55, s55_0, ht, fnd_cons, ldL_loc, hk, go_sem, Nat.reduceBEq, Nat.reduceBNe, reduceIte, reduceCtorEq, Nat.reduceLeDiff, Nat.reduceAdd, Nat.reduceEqDiff]
    simpa [isW, tkK, ht, hk] using hQ
  · simp -implicitDefEqProofs (maxSteps := 5000000) (disch := omega) only [s55, s55_0, ht, fnd_cons, ldL_loc, hk, go_sem, Nat.reduceBEq, Nat.reduceBNe, reduceIte, reduceCtorEq, Nat.reduceLeDiff, Nat.reduceAdd, Nat.reduceEqDiff]
    refine word_ok H h ?_
    simp -implicitDefEqProofs (maxSteps := 5000000) (disch := omega) only [go_sem, Nat.reduceBEq, Nat.reduceBNe, reduceIte, reduceCtorEq, Nat.reduceLeDiff, Nat.reduceAdd, Nat.reduceEqDiff]
    simpa [isW, tkK, ht, hk] using hQ
theorem fail_no (hc : c ≠ 0) {n : Nat} (hQ : Q (.ret (eP x tk ts p c w)) hp) : callK CC 56 [eP x tk ts p c w, eN n] hp Q := by
  refine callK_intro rfl (c56 ?_)
  simp only [s56]
  intro J1 h1
  simp -implicitDefEqProofs (maxSteps := 5000000) (disch := omega) only [s56_0, hc, go_sem, Nat.reduceBEq, Nat.reduceBNe, reduceIte, reduceCtorEq, Nat.reduceLeDiff, Nat.reduceAdd, Nat.reduceEqDiff]
  apply h1
  simp -implicitDefEqProofs (maxSteps := 5000000) (disch := omega) only [s56_1, go_sem, Nat.reduceBEq, Nat.reduceBNe, reduceIte, reduceCtorEq, Nat.reduceLeDiff, Nat.reduceAdd, Nat.reduceEqDiff]
  exact hQ
theorem fail_ok (h : p.at_ < tk.length) {n : Nat} (hQ : Q (.ret (eP x tk ts p n (here tk p))) hp) : callK CC 56 [eP x tk ts p 0 w, eN n] hp Q := by
  refine callK_intro rfl (c56 ?_)
  simp only [s56]
  intro J1 h1
  simp -implicitDefEqProofs (maxSteps := 5000000) (disch := omega) only [s56_0, go_sem, Nat.reduceBEq, Nat.reduceBNe, reduceIte, reduceCtorEq, Nat.reduceLeDiff, Nat.reduceAdd, Nat.reduceEqDiff]
  refine here_ok h ?_
  simp -implicitDefEqProofs (maxSteps := 5000000) (disch := omega) only [go_sem, Nat.reduceBEq, Nat.reduceBNe, reduceIte, reduceCtorEq, Nat.reduceLeDiff, Nat.reduceAdd, Nat.reduceEqDiff]
  apply h1
  simp -implicitDefEqProofs (maxSteps := 5000000) (disch := omega) only [s56_1, go_sem, Nat.reduceBEq, Nat.reduceBNe, reduceIte, reduceCtorEq, Nat.reduceLeDiff, Nat.reduceAdd, Nat.reduceEqDiff]
  exact hQ
theorem want_no (hc : c ≠ 0) {s : List Nat} (hQ : Q (.ret (eP x tk ts p c w)) hp) : callK CC 58 [eP x tk ts p c w, .str s] hp Q := by
  refine callK_intro rfl (c58 ?_)
  simp -implicitDefEqProofs (maxSteps := 5000000) (disch := omega) only [s58, s58_0, go_sem, Nat.reduceBEq, Nat.reduceBNe, reduceIte, reduceCtorEq, Nat.reduceLeDiff, Nat.reduceAdd, Nat.reduceEqDiff]
  refine is_no hc ?_
  simp -implicitDefEqProofs (maxSteps := 5000000) (disch := omega) only [go_sem, Nat.reduceBEq, Nat.reduceBNe, reduceIte, reduceCtorEq, Nat.reduceLeDiff, Nat.reduceAdd, Nat.reduceEqDiff]
  refine fail_no (n := 3) hc ?_
  simp -implicitDefEqProofs (maxSteps := 5000000) (disch := omega) only [go_sem, Nat.reduceBEq, Nat.reduceBNe, reduceIte, reduceCtorEq, Nat.reduceLeDiff, Nat.reduceAdd, Nat.reduceEqDiff]
  exact hQ
theorem want_ok (H : TokOk x tk) (h : p.at_ < tk.length) {s : List Nat} (hQ : isW x tk p s = true → Q (.ret (eP x tk ts p.adv 0 w)) hp) (hQ' : isW x tk p s = false → Q (.ret (eP x tk ts p 3 (here tk p))) hp) : callK CC 58 [eP x tk ts p 0 w, .str s] hp Q := by
  refine callK_intro rfl (c58 ?_)
  simp -implicitDefEqProofs (maxSteps := 5000000) (disch := omega) only [s58, s58_0, go_sem, Nat.reduceBEq, Nat.reduceBNe, reduceIte, reduceCtorEq, Nat.reduceLeDiff, Nat.reduceAdd, Nat.reduceEqDiff]
  refine is_ok H h ?_
  cases hw : isW x tk p s with
  | true =>
    have := H.short
    simp -implicitDefEqProofs (maxSteps := 5000000) (disch := omega) only [go_sem, Nat.reduceBEq, Nat.reduceBNe, reduceIte, reduceCtorEq, Nat.reduceLeDiff, Nat.reduceAdd, Nat.reduceEqDiff]
    exact hQ hw
  | false =>
    simp -implicitDefEqProofs (maxSteps := 5000000) (disch := omega) only [go_sem, Nat.reduceBEq, Nat.reduceBNe, reduceIte, reduceCtorEq, Nat.reduceLeDiff, Nat.reduceAdd, Nat.reduceEqDiff]
    refine fail_ok (n := 3) h ?_
    simp -implicitDefEqProofs (maxSteps := 5000000) (disch := omega) only [go_sem, Nat.reduceBEq, Nat.reduceBNe, reduceIte, reduceCtorEq, Nat.reduceLeDiff, Nat.reduceAdd, Nat.reduceEqDiff]
    exact hQ' hw
theorem deep_no (hc : c ≠ 0) {d : Nat} (hQ : Q (.ret (eP x tk ts p c w)) hp) : callK CC 74 [eP x tk ts p c w, eN d] hp Q := by
  refine callK_intro rfl (c74 ?_)
  by_cases hd : 64 < d
  · simp -implicitDefEqProofs (maxSteps := 5000000) (disch := omega) only [s74, s74_0, hd, go_sem, Nat.reduceBEq, Nat.reduceBNe, reduceIte, reduceCtorEq, Nat.reduceLeDiff, Nat.reduceAdd, Nat.reduceEqDiff]
    refine fail_no (n := 4) hc ?_
    simp -implicitDefEqProofs (maxSteps := 5000000) (disch := omega) only [go_sem, Nat.reduceBEq, Nat.reduceBNe, reduceIte, reduceCtorEq, Nat.reduceLeDiff, Nat.reduceAdd, Nat.reduceEqDiff]
    exact hQ
  · simp -implicitDefEqProofs (maxSteps := 5000000) (disch := omega) only [s74, s74_0, hd, go_sem, Nat.reduceBEq, Nat.reduceBNe, reduceIte, reduceCtorEq, Nat.reduceLeDiff, Nat.reduceAdd, Nat.reduceEqDiff]
    exact hQ
theorem deep_ok (h : p.at_ < tk.length) {d : Nat} (hQ : ¬ 64 < d → Q (.ret (eP x tk ts p 0 w)) hp) (hQ' : 64 < d → Q (.ret (eP x tk ts p 4 (here tk p))) hp) : callK CC 74 [eP x tk ts p 0 w, eN d] hp Q := by
  refine callK_intro rfl (c74 ?_)
  by_cases hd : 64 < d
  · simp -implicitDefEqProofs (maxSteps := 5000000) (disch := omega) only [s74, s74_0, hd, go_sem, Nat.reduceBEq, Nat.reduceBNe, reduceIte, reduceCtorEq, Nat.reduceLeDiff, Nat.reduceAdd, Nat.reduceEqDiff]
    refine fail_ok (n := 4) h ?_
    simp -implicitDefEqProofs (maxSteps := 5000000) (disch := omega) only [go_sem, Nat.reduceBEq, Nat.reduceBNe, reduceIte, reduceCtorEq, Nat.reduceLeDiff, Nat.reduceAdd, Nat.reduceEqDiff]
    exact hQ' hd
  · simp -implicitDefEqProofs (maxSteps := 5000000) (disch := omega) only [s74, s74_0, hd, go_sem, Nat.reduceBEq, Nat.reduceBNe, reduceIte, reduceCtorEq, Nat.reduceLeDiff, Nat.reduceAdd, Nat.reduceEqDiff]
    exact hQ hd
theorem kind_no (hc : c ≠ 0) {k : Nat} (hQ : Q (.ret (.tup [eP x tk ts p c w, .str []])) hp) : callK CC 57 [eP x tk ts p c w, eN k] hp Q := by
  refine callK_intro rfl (c57 ?_)
  simp -implicitDefEqProofs (maxSteps := 5000000) (disch := omega) only [s57, s57_0, hc, go_sem, Nat.reduceBEq, Nat.reduceBNe, reduceIte, reduceCtorEq, Nat.reduceLeDiff, Nat.reduceAdd, Nat.reduceEqDiff]
  refine fail_no (n := 3) hc ?_
  simp -implicitDefEqProofs (maxSteps := 5000000) (disch := omega) only [go_sem, Nat.reduceBEq, Nat.reduceBNe, reduceIte, reduceCtorEq, Nat.reduceLeDiff, Nat.reduceAdd, Nat.reduceEqDiff]
  exact hQ
theorem kind_ok (H : TokOk x tk) (h : p.at_ < tk.length) {k : Nat} (hQ : tkK tk p = k → Q (.ret (.tup [eP x tk ts p.adv 0 w, .str (word x tk p)])) hp) (hQ' : tkK tk p ≠ k → Q (.ret (.tup [eP x tk ts p 3 (here tk p), .str []])) hp) : callK CC 57 [eP x tk ts p 0 w, eN k] hp Q := by
  refine callK_intro rfl (c57 ?_)
  obtain ⟨t, ht⟩ := at_some h
  have := H.short
  by_cases hk : t.k = k
  · simp -implicitDefEqProofs (maxSteps := 5000000) (disch := omega) only [s57, s57_0, ht, fnd_cons, ldL_loc, hk, go_sem, Nat.reduceBEq, Nat.reduceBNe, reduceIte, reduceCtorEq, Nat.reduceLeDiff, Nat.reduceAdd, Nat.reduceEqDiff]
    refine word_ok H h ?_
    simp -implicitDefEqProofs (maxSteps := 5000000) (disch := omega) only [go_sem, Nat.reduceBEq, Nat.reduceBNe, reduceIte, reduceCtorEq, Nat.reduceLeDiff, Nat.reduceAdd, Nat.reduceEqDiff]
    exact hQ (by simp [tkK, ht, hk])
  · simp -implicitDefEqProofs (maxSteps := 5000000) (disch := omega) only [s57, s57_0, ht, fnd_cons, ldL_loc, hk, go_sem, Nat.reduceBEq, Nat.reduceBNe, reduceIte, reduceCtorEq, Nat.reduceLeDiff, Nat.reduceAdd, Nat.reduceEqDiff]
    refine fail_ok (n := 3) h ?_
    simp -implicitDefEqProofs (maxSteps := 5000000) (disch := omega) only [go_sem, Nat.reduceBEq, Nat.reduceBNe, reduceIte, reduceCtorEq, Nat.reduceLeDiff, Nat.reduceAdd, Nat.reduceEqDiff]
    exact hQ' (by simp [tkK, ht, hk])
theorem signs_ok {l : Nat} (hQ : Q (.ret (.sl .no 1 ((signsM l).map AV.str))) hp) : callK CC 104 [eN l] hp Q := by
  refine callK_intro rfl (c104 ?_)
  by_cases h0 : l = 0
  · subst h0; simp -implicitDefEqProofs (maxSteps := 5000000) (disch := omega) only [s104, s104_0, go_sem, Nat.reduceBEq, Nat.reduceBNe, reduceIte, reduceCtorEq, Nat.reduceLeDiff, Nat.reduceAdd, Nat.reduceEqDiff]; exact hQ
  by_cases h1 : l = 1
  · subst h1; simp -implicitDefEqProofs (maxSteps := 5000000) (disch := omega) only [s104, s104_0, go_sem, Nat.reduceBEq, Nat.reduceBNe, reduceIte, reduceCtorEq, Nat.reduceLeDiff, Nat.reduceAdd, Nat.reduceEqDiff]; exact hQ
  by_cases h2 : l = 2
  · subst h2; simp -implicitDefEqProofs (maxSteps := 5000000) (disch := omega) only [s104, s104_0, go_sem, Nat.reduceBEq, Nat.reduceBNe, reduceIte, reduceCtorEq, Nat.reduceLeDiff, Nat.reduceAdd, Nat.reduceEqDiff]; exact hQ
  by_cases h3 : l = 3
  · subst h3; simp -implicitDefEqProofs (maxSteps := 5000000) (disch := omega) only [s104, s104_0, go_sem, Nat.reduceBEq, Nat.reduceBNe, reduceIte, reduceCtorEq, Nat.reduceLeDiff, Nat.reduceAdd, Nat.reduceEqDiff]; exact hQ
  · have e : signsM l = [[42], [47], [37]] := by
      unfold signsM
      split <;> first | rfl | omega
    rw [e] at hQ
    simp -implicitDefEqProofs (maxSteps := 5000000) (disch := omega) only [s104, s104_0, h0, h1, h2, h3, go_sem, Nat.reduceBEq, Nat.reduceBNe, reduceIte, reduceCtorEq, Nat.reduceLeDiff, Nat.reduceAdd, Nat.reduceEqDiff]; exact hQ
end
end Go.Proofs.Ytnldohnfdeineaa.Abs
/- The document's parser: putting; what a step leaves. -/
namespace Go.Proofs.Ytnldohnfdeineaa.Abs
open Go
set_option maxRecDepth 100000

def Tks.l (ts : Tks) : List Tok := [ts.a, ts.b, ts.c]
structure Own (hp : List AO) (ts : Tks) (p : PT) : Prop where
  a : Gr hp ts.a p.ex.length
  b : Gr hp ts.b p.sm.length
  c : Gr hp ts.c p.fn.length
  ab : ∀ i, ts.a = .own i → ts.b ≠ .own i
  ac : ∀ i, ts.a = .own i → ts.c ≠ .own i
  bc : ∀ i, ts.b = .own i → ts.c ≠ .own i
/-- What a step leaves: all but the parser's own slices; its new ones are new. -/
structure Step (hp : List AO) (ts : Tks) (hp' : List AO) (ts' : Tks) : Prop where
  same : Same ts.l hp hp'
  new : ∀ t ∈ ts'.l, t ∈ ts.l ∨ ∀ i, i < hp.length → t ≠ .own i
theorem Step.refl {hp ts} : Step hp ts hp ts := ⟨Same.refl, fun _ h => .inl h⟩
theorem Step.trans {hp ts hp' ts' hp'' ts''} (h1 : Step hp ts hp' ts') (h2 : Step hp' ts' hp'' ts'') : Step hp ts hp'' ts'' := by
  refine ⟨h1.same.trans h2.same h1.new, fun t ht => ?_⟩
  rcases h2.new t ht with h | h
  · exact h1.new t h
  · exact .inr fun i hi => h i (Nat.lt_of_lt_of_le hi h1.same.1)
def Apart (t : Tok) (ts : Tks) : Prop := ∀ u ∈ ts.l, ∀ i, t = .own i → u ≠ .own i
theorem Apart.cap0 {ts} : Apart .cap0 ts := fun _ _ _ h => by cases h
theorem Step.apart {hp ts hp' ts'} (h : Step hp ts hp' ts') {t : Tok} {n : Nat} (hg : Gr hp t n) (ha : Apart t ts) : Gr hp' t n ∧ Apart t ts' := by
  refine ⟨h.same.gr hg ha, fun u hu i hi => ?_⟩
  rcases h.new u hu with h | h
  · exact ha u h i hi
  · exact h i (hg.lt hi)
theorem Own.lt {hp ts p} (h : Own hp ts p) {t : Tok} (ht : t ∈ ts.l) {i : Nat} (e : t = .own i) : i < hp.length := by
  simp only [Tks.l, List.mem_cons, List.not_mem_nil, or_false] at ht
  rcases ht with rfl | rfl | rfl
  · exact h.a.lt e
  · exact h.b.lt e
  · exact h.c.lt e
/-- A local slice has grown. -/
theorem Own.same {hp ts p} (h : Own hp ts p) {hp' : List AO} {l : List Tok} (hs : Same l hp hp') (ha : ∀ t ∈ l, Apart t ts) : Own hp' ts p :=
  ⟨hs.gr h.a fun u hu i e he => ha u hu ts.a (by simp [Tks.l]) i he e, hs.gr h.b fun u hu i e he => ha u hu ts.b (by simp [Tks.l]) i he e, hs.gr h.c fun u hu i e he => ha u hu ts.c (by simp [Tks.l]) i he e, h.ab, h.ac, h.bc⟩
theorem Own.fresh {hp ts p} (h : Own hp ts p) : Apart (.own hp.length) ts := fun u hu i e he => by
  cases e
  have := h.lt hu he
  omega
theorem Own.adv {hp ts p} (h : Own hp ts p) {n : Nat} : Own hp ts { p with at_ := n } := ⟨h.a, h.b, h.c, h.ab, h.ac, h.bc⟩
theorem Own.putA {hp ts p} (h : Own hp ts p) {e : Ex} (hl : p.ex.length < 4294967296) {t2 : Tok} : ∃ hp', apx false 9 hp (.sl ts.a 9 (p.ex.map eEx)) (.sl t2 9 [eEx e]) = some (.sl (.own hp.length) 9 ((p.ex ++ [e]).map eEx), hp') ∧ Own hp' { ts with a := .own hp.length } { p with ex := p.ex ++ [e] } ∧ Step hp ts hp' { ts with a := .own hp.length } := by
  obtain ⟨hp', h1, h2, h3, h4⟩ := app_gr (f := eEx) (e := 9) (t2 := t2) (y := e) h.a hl
  have lb : ∀ i, ts.b = .own i → i < hp.length := fun i e => h.b.lt e
  have lc : ∀ i, ts.c = .own i → i < hp.length := fun i e => h.c.lt e
  refine ⟨hp', h1, ⟨h3, h4.gr h.b ?_, h4.gr h.c ?_, ?_, ?_, h.bc⟩, ⟨h4.weak (by simp [Tks.l]), fun t ht => ?_⟩⟩
  · intro u hu i e he; rw [List.mem_singleton.1 hu] at he; exact h.ab i he e
  · intro u hu i e he; rw [List.mem_singleton.1 hu] at he; exact h.ac i he e
  · intro i e he; cases e; have := lb _ he; omega
  · intro i e he; cases e; have := lc _ he; omega
  · simp only [Tks.l, List.mem_cons, List.not_mem_nil, or_false] at ht ⊢
    rcases ht with rfl | ht | ht
    · exact .inr fun i hi e => by cases e; omega
    · exact .inl (.inr (.inl ht))
    · exact .inl (.inr (.inr ht))
theorem Own.putB {hp ts p} (h : Own hp ts p) {e : Sm} (hl : p.sm.length < 4294967296) {t2 : Tok} : ∃ hp', apx false 9 hp (.sl ts.b 9 (p.sm.map eSm)) (.sl t2 9 [eSm e]) = some (.sl (.own hp.length) 9 ((p.sm ++ [e]).map eSm), hp') ∧ Own hp' { ts with b := .own hp.length } { p with sm := p.sm ++ [e] } ∧ Step hp ts hp' { ts with b := .own hp.length } := by
  obtain ⟨hp', h1, h2, h3, h4⟩ := app_gr (f := eSm) (e := 9) (t2 := t2) (y := e) h.b hl
  have la : ∀ i, ts.a = .own i → i < hp.length := fun i e => h.a.lt e
  have lc : ∀ i, ts.c = .own i → i < hp.length := fun i e => h.c.lt e
  refine ⟨hp', h1, ⟨h4.gr h.a ?_, h3, h4.gr h.c ?_, ?_, h.ac, ?_⟩, ⟨h4.weak (by simp [Tks.l]), fun t ht => ?_⟩⟩
  · intro u hu i e he; rw [List.mem_singleton.1 hu] at he; exact h.ab i e he
  · intro u hu i e he; rw [List.mem_singleton.1 hu] at he; exact h.bc i he e
  · intro i e he; cases he; have := la _ e; omega
  · intro i e he; cases e; have := lc _ he; omega
  · simp only [Tks.l, List.mem_cons, List.not_mem_nil, or_false] at ht ⊢
    rcases ht with ht | rfl | ht
    · exact .inl (.inl ht)
    · exact .inr fun i hi e => by cases e; omega
    · exact .inl (.inr (.inr ht))
theorem Own.putC {hp ts p} (h : Own hp ts p) {e : Fn} (hl : p.fn.length < 4294967296) {v : AV} (he : Wk v (eFn e)) {t2 : Tok} : ∃ hp' l, apx false 6 hp (.sl ts.c 6 (p.fn.map eFn)) (.sl t2 6 [v]) = some (.sl (.own hp.length) 6 l, hp') ∧ Wks l ((p.fn ++ [e]).map eFn) ∧ Own hp' { ts with c := .own hp.length } { p with fn := p.fn ++ [e] } ∧ Step hp ts hp' { ts with c := .own hp.length } := by
  obtain ⟨hp', h1, h2, h3, h4⟩ := app_gr (f := eFn) (e := 6) (t2 := t2) (y := e) h.c hl
  have la : ∀ i, ts.a = .own i → i < hp.length := fun i e => h.a.lt e
  have lb : ∀ i, ts.b = .own i → i < hp.length := fun i e => h.b.lt e
  have hw : ∀ (l : List AV), Wks (l ++ [v]) (l ++ [eFn e]) := fun l => by
    induction l with
    | nil => exact .cons he .nil
    | cons a l ih => exact .cons .refl ih
  refine ⟨hp', p.fn.map eFn ++ [v], ?_, by rw [List.map_append]; exact hw _, ⟨h4.gr h.a ?_, h4.gr h.b ?_, h3, h.ab, ?_, ?_⟩, ⟨h4.weak (by simp [Tks.l]), fun t ht => ?_⟩⟩
  · rcases h.c with ⟨e1, e2⟩ | ⟨id, e1, e2⟩
    · have : p.fn = [] := List.length_eq_zero_iff.1 e2
      rw [e1, this] at h1 ⊢
      rw [List.map_nil, app_cap0] at h1
      cases h1
      rw [List.map_nil, apx_cap0 (by simp)]
      rfl
    · rw [e1] at h1 ⊢
      rw [app_own e2 hl] at h1
      cases h1
      rw [apx_own e2 (by simp; omega)]
  · intro u hu i e he; rw [List.mem_singleton.1 hu] at he; exact h.ac i e he
  · intro u hu i e he; rw [List.mem_singleton.1 hu] at he; exact h.bc i e he
  · intro i e he; cases he; have := la _ e; omega
  · intro i e he; cases he; have := lb _ e; omega
  · simp only [Tks.l, List.mem_cons, List.not_mem_nil, or_false] at ht ⊢
    rcases ht with ht | ht | rfl
    · exact .inl (.inl ht)
    · exact .inl (.inr (.inl ht))
    · exact .inr fun i hi e => by cases e; omega
/-- An expression whose list may have a token. -/
def eExT (t : Tok) (e : Ex) : AV := .agg [eN e.k, eN e.f, eN e.t, eN e.num, .str e.name, .str e.op, eN e.a, eN e.b, .sl t 1 (e.l.map eN)]
def eSmT (t t' : Tok) (s : Sm) : AV := .agg [eN s.k, eN s.f, eN s.t, .str s.name, eN s.num, eI s.a, eN s.b, .sl t 1 (s.th.map eN), .sl t' 1 (s.el.map eN)]
theorem wk_ex {t e} : Wk (eExT t e) (eEx e) := .agg (.cons .refl (.cons .refl (.cons .refl (.cons .refl (.cons .refl (.cons .refl (.cons .refl (.cons .refl (.cons (.sl (.inr rfl) Wks.refl) .nil)))))))))
theorem wk_sm {t t' s} : Wk (eSmT t t' s) (eSm s) := .agg (.cons .refl (.cons .refl (.cons .refl (.cons .refl (.cons .refl (.cons .refl (.cons .refl (.cons (.sl (.inr rfl) Wks.refl) (.cons (.sl (.inr rfl) Wks.refl) .nil)))))))))
theorem udEx {e : Ex} {a b : Nat} : upd 1 [.int .i64 (a : Int), .int .i64 (b : Int)] (AV.cells (eEx e)) = some (AV.cells (eEx { e with f := a, t := b })) := rfl
theorem udSm {e : Sm} {a b : Nat} : upd 1 [.int .i64 (a : Int), .int .i64 (b : Int)] (AV.cells (eSm e)) = some (AV.cells (eSm { e with f := a, t := b })) := rfl
theorem ldEx {e : Ex} : ld 9 true (AV.cells (eEx e)) 0 = some (eEx e) := rfl
theorem ldSm {e : Sm} : ld 9 true (AV.cells (eSm e)) 0 = some (eSm e) := rfl
theorem memEx {e : Ex} : AV.mem (eEx e) = true := rfl
theorem memSm {e : Sm} : AV.mem (eSm e) = true := rfl
theorem nlocEx {d} {e : Ex} : notLoc d (eEx e) = true := rfl
theorem nlocSm {d} {e : Sm} : notLoc d (eSm e) = true := rfl
theorem okvEx {e : Ex} : okv 9 (eEx e) = true := rfl
theorem okvSm {e : Sm} : okv 9 (eSm e) = true := rfl
section
variable {x : List Nat} {tk : List Tk} {ts : Tks} {p : PT} {c w : Nat} {hp : List AO} {Q : ARes → List AO → Prop}
theorem put_no (hc : c ≠ 0) {f : Nat} {t : Tok} {e : Ex} (hQ : Q (.ret (.tup [eP x tk ts p c w, eN 0])) hp) : callK CC 99 [eP x tk ts p c w, eN f, eExT t e] hp Q := by
  refine callK_intro rfl (Runs.weak (args' := [eP x tk ts p c w, eN f, eEx e]) (Q' := Q) (c99 ?_) (.cons .refl (.cons .refl (.cons wk_ex .nil))) fun _ _ h => WkQ.intro h)
  simp -implicitDefEqProofs (maxSteps := 5000000) (disch := omega) only [s99, s99_0, hc, memEx, nlocEx, go_sem, Nat.reduceBEq, Nat.reduceBNe, reduceIte, reduceCtorEq, Nat.reduceLeDiff, Nat.reduceAdd, Nat.reduceEqDiff]
  exact hQ
theorem up_some (H : TokOk x tk) (h : p.at_ < tk.length) (h1 : 1 ≤ p.at_) : ∃ t, tk[p.at_ - 1]? = some t ∧ upto tk p = t.t := by
  have hl : p.at_ - 1 < tk.length := by omega
  exact ⟨_, List.getElem?_eq_getElem hl, by simp [upto, List.getElem?_eq_getElem hl]⟩
theorem put_ok (H : TokOk x tk) (h : p.at_ < tk.length) (h1 : 1 ≤ p.at_) (hl : p.ex.length ≤ p.at_) (ho : Own hp ts p) {f : Nat} {t : Tok} {e : Ex}
    (hQ : ∀ hp' ts', Own hp' ts' (putE tk p f e) → Step hp ts hp' ts' → Q (.ret (.tup [eP x tk ts' (putE tk p f e) 0 w, eN p.ex.length])) hp') : callK CC 99 [eP x tk ts p 0 w, eN f, eExT t e] hp Q := by
  refine callK_intro rfl (Runs.weak (args' := [eP x tk ts p 0 w, eN f, eEx e]) (Q' := Q) (c99 ?_) (.cons .refl (.cons .refl (.cons wk_ex .nil))) fun _ _ h => WkQ.intro h)
  obtain ⟨u, hu, he⟩ := up_some H h h1
  have := H.short
  obtain ⟨hp', ha, ho', hs⟩ := ho.putA (e := { e with f := f, t := u.t }) (by omega) (t2 := .no)
  simp -implicitDefEqProofs (maxSteps := 5000000) (disch := omega) only [s99, s99_0, memEx, nlocEx, hu, okv_agg2, bld_span, udEx, okvEx, ldEx, ha, List.length_append, List.length_cons, List.length_nil, Nat.add_sub_cancel, go_sem, Nat.reduceBEq, Nat.reduceBNe, reduceIte, reduceCtorEq, Nat.reduceLeDiff, Nat.reduceAdd, Nat.reduceEqDiff]
  have hq := hQ hp' _ (by unfold putE; rw [he]; exact ho') hs
  unfold putE at hq
  rw [he] at hq
  exact hq
theorem add_no (hc : c ≠ 0) {f : Nat} {t t' : Tok} {e : Sm} (hQ : Q (.ret (.tup [eP x tk ts p c w, eN 0])) hp) : callK CC 90 [eP x tk ts p c w, eN f, eSmT t t' e] hp Q := by
  refine callK_intro rfl (Runs.weak (args' := [eP x tk ts p c w, eN f, eSm e]) (Q' := Q) (c90 ?_) (.cons .refl (.cons .refl (.cons wk_sm .nil))) fun _ _ h => WkQ.intro h)
  simp only [s90]
  intro J1 h1
  simp -implicitDefEqProofs (maxSteps := 5000000) (disch := omega) only [s90_0, hc, memSm, nlocSm, go_sem, Nat.reduceBEq, Nat.reduceBNe, reduceIte, reduceCtorEq, Nat.reduceLeDiff, Nat.reduceAdd, Nat.reduceEqDiff]
  apply h1
  simp -implicitDefEqProofs (maxSteps := 5000000) (disch := omega) only [s90_1, hc, go_sem, Nat.reduceBEq, Nat.reduceBNe, reduceIte, reduceCtorEq, Nat.reduceLeDiff, Nat.reduceAdd, Nat.reduceEqDiff]
  exact hQ
theorem add_ok (H : TokOk x tk) (h : p.at_ < tk.length) (h1 : 1 ≤ p.at_) (hl : p.sm.length ≤ 1000) (ho : Own hp ts p) {f : Nat} {t t' : Tok} {e : Sm}
    (hQ : p.sm.length < 1000 → ∀ hp' ts' p', p' = { p with sm := p.sm ++ [{ e with f := f, t := upto tk p }] } → Own hp' ts' p' → Step hp ts hp' ts' → Q (.ret (.tup [eP x tk ts' p' 0 w, eN p.sm.length])) hp')
    (hQ' : 1000 ≤ p.sm.length → Q (.ret (.tup [eP x tk ts p 5 (here tk p), eN 0])) hp) : callK CC 90 [eP x tk ts p 0 w, eN f, eSmT t t' e] hp Q := by
  refine callK_intro rfl (Runs.weak (args' := [eP x tk ts p 0 w, eN f, eSm e]) (Q' := Q) (c90 ?_) (.cons .refl (.cons .refl (.cons wk_sm .nil))) fun _ _ h => WkQ.intro h)
  obtain ⟨u, hu, he⟩ := up_some H h h1
  have := H.short
  simp only [s90]
  intro J1 hJ
  by_cases hm : 1000 ≤ p.sm.length
  · simp -implicitDefEqProofs (maxSteps := 5000000) (disch := omega) only [s90_0, memSm, nlocSm, fnd_cons, ldL_loc, hm, go_sem, Nat.reduceBEq, Nat.reduceBNe, reduceIte, reduceCtorEq, Nat.reduceLeDiff, Nat.reduceAdd, Nat.reduceEqDiff]
    refine fail_ok (n := 5) h ?_
    simp -implicitDefEqProofs (maxSteps := 5000000) (disch := omega) only [go_sem, Nat.reduceBEq, Nat.reduceBNe, reduceIte, reduceCtorEq, Nat.reduceLeDiff, Nat.reduceAdd, Nat.reduceEqDiff]
    apply hJ
    simp -implicitDefEqProofs (maxSteps := 5000000) (disch := omega) only [s90_1, go_sem, Nat.reduceBEq, Nat.reduceBNe, reduceIte, reduceCtorEq, Nat.reduceLeDiff, Nat.reduceAdd, Nat.reduceEqDiff]
    exact hQ' hm
  · simp -implicitDefEqProofs (maxSteps := 5000000) (disch := omega) only [s90_0, memSm, nlocSm, fnd_cons, ldL_loc, hm, go_sem, Nat.reduceBEq, Nat.reduceBNe, reduceIte, reduceCtorEq, Nat.reduceLeDiff, Nat.reduceAdd, Nat.reduceEqDiff]
    apply hJ
    obtain ⟨hp', ha, ho', hs⟩ := ho.putB (e := { e with f := f, t := u.t }) (by omega) (t2 := .no)
    simp -implicitDefEqProofs (maxSteps := 5000000) (disch := omega) only [s90_1, memSm, nlocSm, hu, okv_agg2, bld_span, udSm, okvSm, ldSm, ha, List.length_append, List.length_cons, List.length_nil, Nat.add_sub_cancel, go_sem, Nat.reduceBEq, Nat.reduceBNe, reduceIte, reduceCtorEq, Nat.reduceLeDiff, Nat.reduceAdd, Nat.reduceEqDiff]
    exact hQ (by omega) hp' _ _ (by rw [he]) ho' hs
theorem number_ok {s : List Nat} (hs : ∀ c ∈ s, 48 ≤ c ∧ c ≤ 57) (hl : s.length ≤ 18) (hQ : Q (.ret (eN (numM s))) hp) : callK CC 91 [.str s] hp Q := by
  refine callK_intro rfl (c91 ?_)
  simp only [s91, s91_0]
  intro J1 J2 h1 h2
  have hpow : ∀ (k i : Nat), i ≤ 17 → k < 10 ^ i → k < 100000000000000000 + 1 := fun k i hi hk => by
    have : 10 ^ i ≤ 10 ^ 17 := Nat.pow_le_pow_right (by omega) hi
    omega
  have key : ∀ (n i k : Nat), i ≤ s.length → s.length - i = n → k < 10 ^ i → (s.drop i).foldl (fun n c => n * 10 + (c - 48)) k = numM s → J1 (.str s) (eN k) (eN i) hp := by
    intro n
    induction n with
    | zero =>
      intro i k hi hn hk e
      apply h1
      have : ¬ i < s.length := by omega
      simp -implicitDefEqProofs (maxSteps := 5000000) (disch := omega) only [s91_1, this, go_sem, Nat.reduceBEq, Nat.reduceBNe, reduceIte, reduceCtorEq, Nat.reduceLeDiff, Nat.reduceAdd, Nat.reduceEqDiff]
      apply h2
      simp -implicitDefEqProofs (maxSteps := 5000000) (disch := omega) only [s91_2, go_sem, Nat.reduceBEq, Nat.reduceBNe, reduceIte, reduceCtorEq, Nat.reduceLeDiff, Nat.reduceAdd, Nat.reduceEqDiff]
      rw [List.drop_eq_nil_of_le (by omega)] at e
      simp only [List.foldl_nil] at e
      rw [e]; exact hQ
    | succ n ih =>
      intro i k hi hn hk e
      have hlt : i < s.length := by omega
      have hx : s[i]? = some s[i] := List.getElem?_eq_getElem hlt
      have hd : s.drop i = s[i] :: s.drop (i + 1) := List.drop_eq_getElem_cons hlt
      have hc := hs s[i] (List.getElem_mem hlt)
      have hk1 := hpow k i (by omega) hk
      apply h1
      have e1 : IntKind.i64.wrap ((k : Int) * 10) = ((k * 10 : Nat) : Int) := by rw [wrap_i64 (by omega) (by omega)]; omega
      have e2 : IntKind.u8.wrap ((s[i] : Int) - 48) = ((s[i] - 48 : Nat) : Int) := by
        have : IntKind.u8.wrap ((s[i] : Int) - 48) = ((s[i] : Int) - 48) % 256 := by simp [IntKind.wrap, IntKind.bits, IntKind.signed]
        rw [this, Int.emod_eq_of_lt (by omega) (by omega)]; omega
      simp -implicitDefEqProofs (maxSteps := 5000000) (disch := omega) only [s91_1, hlt, hx, e1, e2, go_sem, Nat.reduceBEq, Nat.reduceBNe, reduceIte, reduceCtorEq, Nat.reduceLeDiff, Nat.reduceAdd, Nat.reduceEqDiff]
      refine ih (i + 1) _ (by omega) (by omega) ?_ ?_
      · rw [Nat.pow_succ]; omega
      · rw [hd] at e
        exact e
  exact key _ 0 0 (Nat.zero_le _) rfl (by simp) rfl
theorem sign_no (hc : c ≠ 0) {l : Nat} (hQ : Q (.ret (.str [])) hp) : callK CC 102 [eP x tk ts p c w, eN l] hp Q := by
  refine callK_intro rfl (c102 ?_)
  simp only [s102]
  intro J1 J2 h1 h2
  simp -implicitDefEqProofs (maxSteps := 5000000) (disch := omega) only [s102_0, go_sem, Nat.reduceBEq, Nat.reduceBNe, reduceIte, reduceCtorEq, Nat.reduceLeDiff, Nat.reduceAdd, Nat.reduceEqDiff]
  refine signs_ok ?_
  simp -implicitDefEqProofs (maxSteps := 5000000) (disch := omega) only [go_sem, Nat.reduceBEq, Nat.reduceBNe, reduceIte, reduceCtorEq, Nat.reduceLeDiff, Nat.reduceAdd, Nat.reduceEqDiff]
  have hlen : (signsM l).length ≤ 6 := by unfold signsM; split <;> simp
  have key : ∀ (n i : Nat), (signsM l).length - i = n → J1 (.sl .no 1 ((signsM l).map AV.str)) (eN (signsM l).length) (eN i) (AV.cells (eP x tk ts p c w)) hp := by
    intro n
    induction n with
    | zero =>
      intro i hn
      apply h1
      have : ¬ i < (signsM l).length := by omega
      simp -implicitDefEqProofs (maxSteps := 5000000) (disch := omega) only [s102_1, this, go_sem, Nat.reduceBEq, Nat.reduceBNe, reduceIte, reduceCtorEq, Nat.reduceLeDiff, Nat.reduceAdd, Nat.reduceEqDiff]
      apply h2
      simp -implicitDefEqProofs (maxSteps := 5000000) (disch := omega) only [s102_2, go_sem, Nat.reduceBEq, Nat.reduceBNe, reduceIte, reduceCtorEq, Nat.reduceLeDiff, Nat.reduceAdd, Nat.reduceEqDiff]
      exact hQ
    | succ n ih =>
      intro i hn
      have hlt : i < (signsM l).length := by omega
      have hx : (signsM l)[i]? = some (signsM l)[i] := List.getElem?_eq_getElem hlt
      apply h1
      simp -implicitDefEqProofs (maxSteps := 5000000) (disch := omega) only [s102_1, hlt, hx, go_sem, Nat.reduceBEq, Nat.reduceBNe, reduceIte, reduceCtorEq, Nat.reduceLeDiff, Nat.reduceAdd, Nat.reduceEqDiff]
      refine is_no hc ?_
      simp -implicitDefEqProofs (maxSteps := 5000000) (disch := omega) only [go_sem, Nat.reduceBEq, Nat.reduceBNe, reduceIte, reduceCtorEq, Nat.reduceLeDiff, Nat.reduceAdd, Nat.reduceEqDiff]
      exact ih (i + 1) (by omega)
  exact key _ 0 rfl
theorem find_drop {α : Type} {P : α → Bool} {l : List α} {i : Nat} (hlt : i < l.length) : (l.drop i).find? P = if P l[i] = true then some l[i] else (l.drop (i + 1)).find? P := by
  rw [List.drop_eq_getElem_cons hlt, List.find?_cons]
  cases P l[i] <;> simp
theorem sign_ok (H : TokOk x tk) (h : p.at_ < tk.length) {l : Nat} (hQ : Q (.ret (.str ((signOf x tk p l).getD []))) hp) : callK CC 102 [eP x tk ts p 0 w, eN l] hp Q := by
  refine callK_intro rfl (c102 ?_)
  simp only [s102]
  intro J1 J2 h1 h2
  simp -implicitDefEqProofs (maxSteps := 5000000) (disch := omega) only [s102_0, go_sem, Nat.reduceBEq, Nat.reduceBNe, reduceIte, reduceCtorEq, Nat.reduceLeDiff, Nat.reduceAdd, Nat.reduceEqDiff]
  refine signs_ok ?_
  simp -implicitDefEqProofs (maxSteps := 5000000) (disch := omega) only [go_sem, Nat.reduceBEq, Nat.reduceBNe, reduceIte, reduceCtorEq, Nat.reduceLeDiff, Nat.reduceAdd, Nat.reduceEqDiff]
  have hlen : (signsM l).length ≤ 6 := by unfold signsM; split <;> simp
  have key : ∀ (n i : Nat), (signsM l).length - i = n → ((signsM l).drop i).find? (isW x tk p) = signOf x tk p l → J1 (.sl .no 1 ((signsM l).map AV.str)) (eN (signsM l).length) (eN i) (AV.cells (eP x tk ts p 0 w)) hp := by
    intro n
    induction n with
    | zero =>
      intro i hn e
      apply h1
      have : ¬ i < (signsM l).length := by omega
      simp -implicitDefEqProofs (maxSteps := 5000000) (disch := omega) only [s102_1, this, go_sem, Nat.reduceBEq, Nat.reduceBNe, reduceIte, reduceCtorEq, Nat.reduceLeDiff, Nat.reduceAdd, Nat.reduceEqDiff]
      apply h2
      simp -implicitDefEqProofs (maxSteps := 5000000) (disch := omega) only [s102_2, go_sem, Nat.reduceBEq, Nat.reduceBNe, reduceIte, reduceCtorEq, Nat.reduceLeDiff, Nat.reduceAdd, Nat.reduceEqDiff]
      rw [List.drop_eq_nil_of_le (by omega)] at e
      rw [← e] at hQ
      exact hQ
    | succ n ih =>
      intro i hn e
      have hlt : i < (signsM l).length := by omega
      have hx : (signsM l)[i]? = some (signsM l)[i] := List.getElem?_eq_getElem hlt
      apply h1
      simp -implicitDefEqProofs (maxSteps := 5000000) (disch := omega) only [s102_1, hlt, hx, go_sem, Nat.reduceBEq, Nat.reduceBNe, reduceIte, reduceCtorEq, Nat.reduceLeDiff, Nat.reduceAdd, Nat.reduceEqDiff]
      refine is_ok H h ?_
      rw [find_drop hlt] at e
      cases hw : isW x tk p (signsM l)[i] with
      | true =>
        simp -implicitDefEqProofs (maxSteps := 5000000) (disch := omega) only [hx, go_sem, Nat.reduceBEq, Nat.reduceBNe, reduceIte, reduceCtorEq, Nat.reduceLeDiff, Nat.reduceAdd, Nat.reduceEqDiff]
        rw [hw, if_pos rfl] at e
        rw [← e] at hQ
        exact hQ
      | false =>
        simp -implicitDefEqProofs (maxSteps := 5000000) (disch := omega) only [go_sem, Nat.reduceBEq, Nat.reduceBNe, reduceIte, reduceCtorEq, Nat.reduceLeDiff, Nat.reduceAdd, Nat.reduceEqDiff]
        rw [hw, if_neg (by simp)] at e
        exact ih (i + 1) (by omega) e
  exact key _ 0 rfl rfl
end
end Go.Proofs.Ytnldohnfdeineaa.Abs
/- The document's parser: expressions. -/
namespace Go.Proofs.Ytnldohnfdeineaa.Abs
open Go
set_option maxRecDepth 100000

theorem bldE1 {n : Nat} : bld [.int .i64 0, .int .i64 0, .int .i64 0, .int .i64 0, .str [], .str [], .int .i64 0, .int .i64 0, .sl .cap0 1 []] [(0, 1, (.int .i64 1)), (3, 1, eN n)] = some (eExT .cap0 { k := 1, num := n }) := rfl
theorem bldE2 : bld [.int .i64 0, .int .i64 0, .int .i64 0, .int .i64 0, .str [], .str [], .int .i64 0, .int .i64 0, .sl .cap0 1 []] [(0, 1, (.int .i64 2))] = some (eExT .cap0 { k := 2 }) := rfl
theorem bldE3 : bld [.int .i64 0, .int .i64 0, .int .i64 0, .int .i64 0, .str [], .str [], .int .i64 0, .int .i64 0, .sl .cap0 1 []] [(0, 1, (.int .i64 3))] = some (eExT .cap0 { k := 3 }) := rfl
theorem bldE7 : bld [.int .i64 0, .int .i64 0, .int .i64 0, .int .i64 0, .str [], .str [], .int .i64 0, .int .i64 0, .sl .cap0 1 []] [(0, 1, (.int .i64 7))] = some (eExT .cap0 { k := 7 }) := rfl
theorem bldE5 {s a} : bld [.int .i64 0, .int .i64 0, .int .i64 0, .int .i64 0, .str [], .str [], .int .i64 0, .int .i64 0, .sl .cap0 1 []] [(0, 1, (.int .i64 5)), (4, 1, .str s), (6, 1, eN a)] = some (eExT .cap0 { k := 5, name := s, a := a }) := rfl
theorem bldE4 {s} : bld [.int .i64 0, .int .i64 0, .int .i64 0, .int .i64 0, .str [], .str [], .int .i64 0, .int .i64 0, .sl .cap0 1 []] [(0, 1, (.int .i64 4)), (4, 1, .str s)] = some (eExT .cap0 { k := 4, name := s }) := rfl
theorem bldE6 {s} : bld [.int .i64 0, .int .i64 0, .int .i64 0, .int .i64 0, .str [], .str [], .int .i64 0, .int .i64 0, .sl .cap0 1 []] [(0, 1, (.int .i64 6)), (4, 1, .str s)] = some (eExT .cap0 { k := 6, name := s }) := rfl
theorem bldE8 {s a} : bld [.int .i64 0, .int .i64 0, .int .i64 0, .int .i64 0, .str [], .str [], .int .i64 0, .int .i64 0, .sl .cap0 1 []] [(0, 1, (.int .i64 8)), (5, 1, .str s), (6, 1, eN a)] = some (eExT .cap0 { k := 8, op := s, a := a }) := rfl
theorem bldE9 {s a b} : bld [.int .i64 0, .int .i64 0, .int .i64 0, .int .i64 0, .str [], .str [], .int .i64 0, .int .i64 0, .sl .cap0 1 []] [(0, 1, (.int .i64 9)), (5, 1, .str s), (6, 1, eN a), (7, 1, eN b)] = some (eExT .cap0 { k := 9, op := s, a := a, b := b }) := rfl
theorem nlocExT {d t} {e : Ex} : notLoc d (eExT t e) = true := rfl
theorem okvExT {t} {e : Ex} : okv 9 (eExT t e) = true := rfl
theorem memExT {t} {e : Ex} : AV.mem (eExT t e) = true := rfl
theorem udExTa {t} {e : Ex} {a b c d f g h i j : AV} : upd 0 (AV.cells (eExT t e)) [a, b, c, d, f, g, h, i, j] = some (AV.cells (eExT t e)) := rfl
theorem ldExT {t} {e : Ex} : ld 9 true (AV.cells (eExT t e)) 0 = some (eExT t e) := rfl
theorem ldExT8 {t} {e : Ex} : ld 1 false (AV.cells (eExT t e)) 8 = some (.sl t 1 (e.l.map eN)) := rfl
theorem udExT8 {t t'} {e : Ex} {l : List Nat} : upd 8 [.sl t' 1 (l.map eN)] (AV.cells (eExT t e)) = some (AV.cells (eExT t' { e with l := l })) := rfl
structure Vl (x : List Nat) (tk : List Tk) (hp : List AO) (ts : Tks) (p : PT) : Prop where
  at_ : p.at_ < tk.length
  own : Own hp ts p
  ex : p.ex.length ≤ p.at_
  sm : p.sm.length ≤ 1000
  fn : p.fn.length ≤ p.at_
section
variable {x : List Nat} {tk : List Tk} {ts : Tks} {p : PT} {c w : Nat} {hp : List AO} {Q : ARes → List AO → Prop}
theorem Vl.fwd (V : Vl x tk hp ts p) {q : PT} (f : Fwd tk p q) {hp' ts'} (ho : Own hp' ts' q) : Vl x tk hp' ts' q := ⟨f.lt V.at_, ho, by have := f.ex; have := V.ex; omega, f.sm V.sm, by have := f.fn; have := V.fn; omega⟩
theorem Vl.adv (H : TokOk x tk) (V : Vl x tk hp ts p) (h : tkK tk p ≠ 0) : Vl x tk hp ts p.adv := V.fwd (Fwd.adv H h) V.own.adv
/-! where something is wrong already -/
theorem prim_no (hc : c ≠ 0) {d : Nat} (hQ : ∀ n, Q (.ret (.tup [eP x tk ts p c w, eN n])) hp) : callK CC 103 [eP x tk ts p c w, eN d] hp Q := by
  refine callK_intro rfl (c103 ?_)
  simp -implicitDefEqProofs (maxSteps := 5000000) (disch := omega) only [s103, s103_0, hc, go_sem, Nat.reduceBEq, Nat.reduceBNe, reduceIte, reduceCtorEq, Nat.reduceLeDiff, Nat.reduceAdd, Nat.reduceEqDiff]
  exact hQ 0
theorem un_no (h : p.at_ < tk.length) (hc : c ≠ 0) {d : Nat} (hQ : ∀ n, Q (.ret (.tup [eP x tk ts p c w, eN n])) hp) : callK CC 101 [eP x tk ts p c w, eN d] hp Q := by
  refine callK_intro rfl (c101 ?_)
  simp -implicitDefEqProofs (maxSteps := 5000000) (disch := omega) only [s101, s101_0, go_sem, Nat.reduceBEq, Nat.reduceBNe, reduceIte, reduceCtorEq, Nat.reduceLeDiff, Nat.reduceAdd, Nat.reduceEqDiff]
  refine here_ok h ?_
  simp -implicitDefEqProofs (maxSteps := 5000000) (disch := omega) only [hc, go_sem, Nat.reduceBEq, Nat.reduceBNe, reduceIte, reduceCtorEq, Nat.reduceLeDiff, Nat.reduceAdd, Nat.reduceEqDiff]
  refine prim_no hc fun n => ?_
  simp -implicitDefEqProofs (maxSteps := 5000000) (disch := omega) only [go_sem, Nat.reduceBEq, Nat.reduceBNe, reduceIte, reduceCtorEq, Nat.reduceLeDiff, Nat.reduceAdd, Nat.reduceEqDiff]
  exact hQ n
theorem row_no (h : p.at_ < tk.length) (hc : c ≠ 0) {d : Nat} : ∀ (k l : Nat), l + k = 5 → ∀ {Q : ARes → List AO → Prop}, (∀ n, Q (.ret (.tup [eP x tk ts p c w, eN n])) hp) → callK CC 98 [eP x tk ts p c w, eN l, eN d] hp Q := by
  intro k
  induction k with
  | zero =>
    intro l hl Q hQ
    have : l = 5 := by omega
    subst this
    refine callK_intro rfl (c98 ?_)
    simp only [s98]
    intro J1 J2 h1 h2
    simp -implicitDefEqProofs (maxSteps := 5000000) (disch := omega) only [s98_0, go_sem, Nat.reduceBEq, Nat.reduceBNe, reduceIte, reduceCtorEq, Nat.reduceLeDiff, Nat.reduceAdd, Nat.reduceEqDiff]
    refine un_no h hc fun n => ?_
    simp -implicitDefEqProofs (maxSteps := 5000000) (disch := omega) only [go_sem, Nat.reduceBEq, Nat.reduceBNe, reduceIte, reduceCtorEq, Nat.reduceLeDiff, Nat.reduceAdd, Nat.reduceEqDiff]
    exact hQ n
  | succ k ih =>
    intro l hl Q hQ
    have h5 : ¬ l = 5 := by omega
    refine callK_intro rfl (c98 ?_)
    simp only [s98]
    intro J1 J2 h1 h2
    simp -implicitDefEqProofs (maxSteps := 5000000) (disch := omega) only [s98_0, h5, go_sem, Nat.reduceBEq, Nat.reduceBNe, reduceIte, reduceCtorEq, Nat.reduceLeDiff, Nat.reduceAdd, Nat.reduceEqDiff]
    refine here_ok h ?_
    simp -implicitDefEqProofs (maxSteps := 5000000) (disch := omega) only [go_sem, Nat.reduceBEq, Nat.reduceBNe, reduceIte, reduceCtorEq, Nat.reduceLeDiff, Nat.reduceAdd, Nat.reduceEqDiff]
    refine ih (l + 1) (by omega) fun n => ?_
    simp -implicitDefEqProofs (maxSteps := 5000000) (disch := omega) only [go_sem, Nat.reduceBEq, Nat.reduceBNe, reduceIte, reduceCtorEq, Nat.reduceLeDiff, Nat.reduceAdd, Nat.reduceEqDiff]
    apply h1
    simp -implicitDefEqProofs (maxSteps := 5000000) (disch := omega) only [s98_1, go_sem, Nat.reduceBEq, Nat.reduceBNe, reduceIte, reduceCtorEq, Nat.reduceLeDiff, Nat.reduceAdd, Nat.reduceEqDiff]
    refine sign_no hc ?_
    simp -implicitDefEqProofs (maxSteps := 5000000) (disch := omega) only [go_sem, Nat.reduceBEq, Nat.reduceBNe, reduceIte, reduceCtorEq, Nat.reduceLeDiff, Nat.reduceAdd, Nat.reduceEqDiff]
    apply h2
    simp -implicitDefEqProofs (maxSteps := 5000000) (disch := omega) only [s98_2, go_sem, Nat.reduceBEq, Nat.reduceBNe, reduceIte, reduceCtorEq, Nat.reduceLeDiff, Nat.reduceAdd, Nat.reduceEqDiff]
    exact hQ n
theorem expr_no (h : p.at_ < tk.length) (hc : c ≠ 0) {d : Nat} (hQ : ∀ n, Q (.ret (.tup [eP x tk ts p c w, eN n])) hp) : callK CC 89 [eP x tk ts p c w, eN d] hp Q := by
  refine callK_intro rfl (c89 ?_)
  simp -implicitDefEqProofs (maxSteps := 5000000) (disch := omega) only [s89, s89_0, go_sem, Nat.reduceBEq, Nat.reduceBNe, reduceIte, reduceCtorEq, Nat.reduceLeDiff, Nat.reduceAdd, Nat.reduceEqDiff]
  refine deep_no hc ?_
  simp -implicitDefEqProofs (maxSteps := 5000000) (disch := omega) only [hc, go_sem, Nat.reduceBEq, Nat.reduceBNe, reduceIte, reduceCtorEq, Nat.reduceLeDiff, Nat.reduceAdd, Nat.reduceEqDiff]
  exact hQ 0
end
/-- What follows an expression. -/
def PE (x : List Nat) (tk : List Tk) (hp : List AO) (ts : Tks) (w : Nat) (Q : ARes → List AO → Prop) : Res → Prop
  | .ok q v => ∀ hp' ts', Vl x tk hp' ts' q → Step hp ts hp' ts' → Q (.ret (.tup [eP x tk ts' q 0 w, eN (hd0 v)])) hp'
  | .er c e => ∀ hp' ts' q n, c ≠ 0 → q.at_ < tk.length → Step hp ts hp' ts' → Q (.ret (.tup [eP x tk ts' q c e, eN n])) hp'
def mE (tk : List Tk) (p : PT) : Nat := (tk.length - p.at_) * 16
structure SpE (x : List Nat) (tk : List Tk) (m : Nat) : Prop where
  row : ∀ {p hp ts w d l} {Q : ARes → List AO → Prop}, l ≤ 5 → d ≤ 64 → mE tk p + (8 - l) < m → Vl x tk hp ts p → (∀ r, Ev (fun n => run x tk n (.row l d) p) r → PE x tk hp ts w Q r) → callK CC 98 [eP x tk ts p 0 w, eN l, eN d] hp Q
  expr : ∀ {p hp ts w d} {Q : ARes → List AO → Prop}, d ≤ 65 → mE tk p + 9 < m → Vl x tk hp ts p → (∀ r, Ev (fun n => run x tk n (.expr d) p) r → PE x tk hp ts w Q r) → callK CC 89 [eP x tk ts p 0 w, eN d] hp Q
  un : ∀ {p hp ts w d} {Q : ARes → List AO → Prop}, d ≤ 64 → mE tk p + 2 < m → Vl x tk hp ts p → (∀ r, Ev (fun n => run x tk n (.un d) p) r → PE x tk hp ts w Q r) → callK CC 101 [eP x tk ts p 0 w, eN d] hp Q
  prim : ∀ {p hp ts w d} {Q : ARes → List AO → Prop}, d ≤ 64 → mE tk p + 1 < m → Vl x tk hp ts p → (∀ r, Ev (fun n => run x tk n (.prim d) p) r → PE x tk hp ts w Q r) → callK CC 103 [eP x tk ts p 0 w, eN d] hp Q
  call : ∀ {p hp ts w d f s} {Q : ARes → List AO → Prop}, d ≤ 64 → mE tk p < m → Vl x tk hp ts p → isW x tk p [40] = true → (∀ r, Ev (fun n => run x tk n (.args f s d []) p.adv) r → PE x tk hp ts w Q r) → callK CC 92 [eP x tk ts p 0 w, eN f, .str s, eN d] hp Q
section
variable {x : List Nat} {tk : List Tk} {ts : Tks} {p : PT} {w : Nat} {hp : List AO} {Q : ARes → List AO → Prop} {m : Nat}
theorem mE_lt {p q : PT} (h : p.at_ < q.at_) (hq : q.at_ < tk.length) {k : Nat} (hk : k < 16) : mE tk q + k < mE tk p := by
  unfold mE; omega
/-- One is put behind the last one taken. -/
theorem put_at (H : TokOk x tk) (V : Vl x tk hp ts p) {p0 : PT} (h0 : tkK tk p0 ≠ 0) (f0 : Fwd tk p0.adv p) {f : Nat} {t : Tok} {e : Ex}
    (hQ : ∀ hp' ts', Vl x tk hp' ts' (putE tk p f e) → Step hp ts hp' ts' → Q (.ret (.tup [eP x tk ts' (putE tk p f e) 0 w, eN p.ex.length])) hp') (hx0 : p0.ex.length ≤ p0.at_) : callK CC 99 [eP x tk ts p 0 w, eN f, eExT t e] hp Q := by
  have h1 : 1 ≤ p.at_ := by have := f0.at_; simp [PT.adv] at this; omega
  refine put_ok H V.at_ h1 V.ex V.own fun hp' ts' ho hs => hQ hp' ts' ⟨V.at_, ho, ?_, V.sm, V.fn⟩ hs
  have := f0.ex
  simp only [putE, PT.adv, List.length_append, List.length_cons, List.length_nil] at *
  omega
theorem expr_step (H : TokOk x tk) (S : SpE x tk m) {d : Nat} (hd : d ≤ 65) (hm : mE tk p + 9 < m + 1) (V : Vl x tk hp ts p) (h : ∀ r, Ev (fun n => run x tk n (.expr d) p) r → PE x tk hp ts w Q r) : callK CC 89 [eP x tk ts p 0 w, eN d] hp Q := by
  refine callK_intro rfl (c89 ?_)
  simp -implicitDefEqProofs (maxSteps := 5000000) (disch := omega) only [s89, s89_0, go_sem, Nat.reduceBEq, Nat.reduceBNe, reduceIte, reduceCtorEq, Nat.reduceLeDiff, Nat.reduceAdd, Nat.reduceEqDiff]
  refine deep_ok V.at_ (fun hd' => ?_) fun hd' => ?_
  · simp -implicitDefEqProofs (maxSteps := 5000000) (disch := omega) only [go_sem, Nat.reduceBEq, Nat.reduceBNe, reduceIte, reduceCtorEq, Nat.reduceLeDiff, Nat.reduceAdd, Nat.reduceEqDiff]
    refine S.row (l := 0) (by omega) (by omega) (by omega) V fun r hr => ?_
    have := h r (Ev.succ (by simp only [run, hd', if_false]; exact hr))
    cases r with
    | ok q v => intro hp' ts' V' S'; simp -implicitDefEqProofs (maxSteps := 5000000) (disch := omega) only [go_sem, Nat.reduceBEq, Nat.reduceBNe, reduceIte, reduceCtorEq, Nat.reduceLeDiff, Nat.reduceAdd, Nat.reduceEqDiff]; exact this hp' ts' V' S'
    | er c e => intro hp' ts' q n hc hq S'; simp -implicitDefEqProofs (maxSteps := 5000000) (disch := omega) only [go_sem, Nat.reduceBEq, Nat.reduceBNe, reduceIte, reduceCtorEq, Nat.reduceLeDiff, Nat.reduceAdd, Nat.reduceEqDiff]; exact this hp' ts' q n hc hq S'
  · simp -implicitDefEqProofs (maxSteps := 5000000) (disch := omega) only [go_sem, Nat.reduceBEq, Nat.reduceBNe, reduceIte, reduceCtorEq, Nat.reduceLeDiff, Nat.reduceAdd, Nat.reduceEqDiff]
    exact h (.er 4 (here tk p)) (Ev.succ (by simp only [run, hd', if_true]; exact Ev.const)) hp ts p 0 (by omega) V.at_ Step.refl
theorem un_step (H : TokOk x tk) (S : SpE x tk m) {d : Nat} (hd : d ≤ 64) (hm : mE tk p + 2 < m + 1) (V : Vl x tk hp ts p) (h : ∀ r, Ev (fun n => run x tk n (.un d) p) r → PE x tk hp ts w Q r) : callK CC 101 [eP x tk ts p 0 w, eN d] hp Q := by
  have hsh := H.short
  have hat := V.at_
  refine callK_intro rfl (c101 ?_)
  simp -implicitDefEqProofs (maxSteps := 5000000) (disch := omega) only [s101, s101_0, go_sem, Nat.reduceBEq, Nat.reduceBNe, reduceIte, reduceCtorEq, Nat.reduceLeDiff, Nat.reduceAdd, Nat.reduceEqDiff]
  refine here_ok V.at_ ?_
  simp -implicitDefEqProofs (maxSteps := 5000000) (disch := omega) only [go_sem, Nat.reduceBEq, Nat.reduceBNe, reduceIte, reduceCtorEq, Nat.reduceLeDiff, Nat.reduceAdd, Nat.reduceEqDiff]
  have key : (isW x tk p [45] || isW x tk p [33]) = true → ∀ r, Ev (fun n => if 64 < d + 1 then er tk p.adv 4 else bnd' (run x tk n (.un (d + 1)) p.adv) fun q v => put1 tk q (here tk p) { k := 8, op := word x tk p, a := hd0 v }) r → PE x tk hp ts w Q r := fun hw r hr => h r (Ev.succ (by simp only [run, hw, if_true]; exact hr))
  refine is_ok H V.at_ ?_
  cases h1 : isW x tk p [45] with
  | true =>
    simp -implicitDefEqProofs (maxSteps := 5000000) (disch := omega) only [go_sem, Nat.reduceBEq, Nat.reduceBNe, reduceIte, reduceCtorEq, Nat.reduceLeDiff, Nat.reduceAdd, Nat.reduceEqDiff]
    have hk := isW_k h1
    have h' := key (by simp [h1])
    have V1 := V.adv H hk
    refine word_ok H V.at_ ?_
    simp -implicitDefEqProofs (maxSteps := 5000000) (disch := omega) only [go_sem, Nat.reduceBEq, Nat.reduceBNe, reduceIte, reduceCtorEq, Nat.reduceLeDiff, Nat.reduceAdd, Nat.reduceEqDiff]
    refine deep_ok (p := p.adv) V1.at_ (fun hd' => ?_) fun hd' => ?_
    · simp -implicitDefEqProofs (maxSteps := 5000000) (disch := omega) only [go_sem, Nat.reduceBEq, Nat.reduceBNe, reduceIte, reduceCtorEq, Nat.reduceLeDiff, Nat.reduceAdd, Nat.reduceEqDiff]
      refine S.un (p := p.adv) (d := d + 1) (by omega) (by have := mE_lt (tk := tk) (p := p) (q := p.adv) (by simp [PT.adv]) V1.at_ (k := 2) (by omega); omega) V1 fun r hr => ?_
      cases r with
      | ok q v =>
        intro hp' ts' V' S'
        have hf := ev_fwd H hr
        simp -implicitDefEqProofs (maxSteps := 5000000) (disch := omega) only [bldE8, go_sem, Nat.reduceBEq, Nat.reduceBNe, reduceIte, reduceCtorEq, Nat.reduceLeDiff, Nat.reduceAdd, Nat.reduceEqDiff]
        refine put_at H V' hk hf.1 (fun hp2 ts2 V2 S2 => ?_) V.ex
        simp -implicitDefEqProofs (maxSteps := 5000000) (disch := omega) only [go_sem, Nat.reduceBEq, Nat.reduceBNe, reduceIte, reduceCtorEq, Nat.reduceLeDiff, Nat.reduceAdd, Nat.reduceEqDiff]
        exact h' (.ok _ _) (by simp only [hd', if_false]; exact hr.bind Ev.const) hp2 ts2 V2 (S'.trans S2)
      | er c e =>
        intro hp' ts' q n hc hq S'
        simp -implicitDefEqProofs (maxSteps := 5000000) (disch := omega) only [bldE8, go_sem, Nat.reduceBEq, Nat.reduceBNe, reduceIte, reduceCtorEq, Nat.reduceLeDiff, Nat.reduceAdd, Nat.reduceEqDiff]
        refine put_no hc ?_
        simp -implicitDefEqProofs (maxSteps := 5000000) (disch := omega) only [go_sem, Nat.reduceBEq, Nat.reduceBNe, reduceIte, reduceCtorEq, Nat.reduceLeDiff, Nat.reduceAdd, Nat.reduceEqDiff]
        exact h' (.er c e) (by simp only [hd', if_false]; exact hr.bindE) hp' ts' q 0 hc hq S'
    · simp -implicitDefEqProofs (maxSteps := 5000000) (disch := omega) only [go_sem, Nat.reduceBEq, Nat.reduceBNe, reduceIte, reduceCtorEq, Nat.reduceLeDiff, Nat.reduceAdd, Nat.reduceEqDiff]
      exact h' (.er 4 (here tk p.adv)) (by simp only [hd', if_true]; exact Ev.const) hp ts p.adv 0 (by omega) V1.at_ Step.refl
  | false =>
    simp -implicitDefEqProofs (maxSteps := 5000000) (disch := omega) only [go_sem, Nat.reduceBEq, Nat.reduceBNe, reduceIte, reduceCtorEq, Nat.reduceLeDiff, Nat.reduceAdd, Nat.reduceEqDiff]
    refine is_ok H V.at_ ?_
    cases h2 : isW x tk p [33] with
    | true =>
      simp -implicitDefEqProofs (maxSteps := 5000000) (disch := omega) only [go_sem, Nat.reduceBEq, Nat.reduceBNe, reduceIte, reduceCtorEq, Nat.reduceLeDiff, Nat.reduceAdd, Nat.reduceEqDiff]
      have hk := isW_k h2
      have h' := key (by simp [h2])
      have V1 := V.adv H hk
      refine word_ok H V.at_ ?_
      simp -implicitDefEqProofs (maxSteps := 5000000) (disch := omega) only [go_sem, Nat.reduceBEq, Nat.reduceBNe, reduceIte, reduceCtorEq, Nat.reduceLeDiff, Nat.reduceAdd, Nat.reduceEqDiff]
      refine deep_ok (p := p.adv) V1.at_ (fun hd' => ?_) fun hd' => ?_
      · simp -implicitDefEqProofs (maxSteps := 5000000) (disch := omega) only [go_sem, Nat.reduceBEq, Nat.reduceBNe, reduceIte, reduceCtorEq, Nat.reduceLeDiff, Nat.reduceAdd, Nat.reduceEqDiff]
        refine S.un (p := p.adv) (d := d + 1) (by omega) (by have := mE_lt (tk := tk) (p := p) (q := p.adv) (by simp [PT.adv]) V1.at_ (k := 2) (by omega); omega) V1 fun r hr => ?_
        cases r with
        | ok q v =>
          intro hp' ts' V' S'
          have hf := ev_fwd H hr
          simp -implicitDefEqProofs (maxSteps := 5000000) (disch := omega) only [bldE8, go_sem, Nat.reduceBEq, Nat.reduceBNe, reduceIte, reduceCtorEq, Nat.reduceLeDiff, Nat.reduceAdd, Nat.reduceEqDiff]
          refine put_at H V' hk hf.1 (fun hp2 ts2 V2 S2 => ?_) V.ex
          simp -implicitDefEqProofs (maxSteps := 5000000) (disch := omega) only [go_sem, Nat.reduceBEq, Nat.reduceBNe, reduceIte, reduceCtorEq, Nat.reduceLeDiff, Nat.reduceAdd, Nat.reduceEqDiff]
          exact h' (.ok _ _) (by simp only [hd', if_false]; exact hr.bind Ev.const) hp2 ts2 V2 (S'.trans S2)
        | er c e =>
          intro hp' ts' q n hc hq S'
          simp -implicitDefEqProofs (maxSteps := 5000000) (disch := omega) only [bldE8, go_sem, Nat.reduceBEq, Nat.reduceBNe, reduceIte, reduceCtorEq, Nat.reduceLeDiff, Nat.reduceAdd, Nat.reduceEqDiff]
          refine put_no hc ?_
          simp -implicitDefEqProofs (maxSteps := 5000000) (disch := omega) only [go_sem, Nat.reduceBEq, Nat.reduceBNe, reduceIte, reduceCtorEq, Nat.reduceLeDiff, Nat.reduceAdd, Nat.reduceEqDiff]
          exact h' (.er c e) (by simp only [hd', if_false]; exact hr.bindE) hp' ts' q 0 hc hq S'
      · simp -implicitDefEqProofs (maxSteps := 5000000) (disch := omega) only [go_sem, Nat.reduceBEq, Nat.reduceBNe, reduceIte, reduceCtorEq, Nat.reduceLeDiff, Nat.reduceAdd, Nat.reduceEqDiff]
        exact h' (.er 4 (here tk p.adv)) (by simp only [hd', if_true]; exact Ev.const) hp ts p.adv 0 (by omega) V1.at_ Step.refl
    | false =>
      simp -implicitDefEqProofs (maxSteps := 5000000) (disch := omega) only [go_sem, Nat.reduceBEq, Nat.reduceBNe, reduceIte, reduceCtorEq, Nat.reduceLeDiff, Nat.reduceAdd, Nat.reduceEqDiff]
      refine S.prim hd (by omega) V fun r hr => ?_
      have := h r (Ev.succ (by simp only [run, h1, h2, Bool.or_self, Bool.false_eq_true, if_false]; exact hr))
      cases r with
      | ok q v => intro hp' ts' V' S'; simp -implicitDefEqProofs (maxSteps := 5000000) (disch := omega) only [go_sem, Nat.reduceBEq, Nat.reduceBNe, reduceIte, reduceCtorEq, Nat.reduceLeDiff, Nat.reduceAdd, Nat.reduceEqDiff]; exact this hp' ts' V' S'
      | er c e => intro hp' ts' q n hc hq S'; simp -implicitDefEqProofs (maxSteps := 5000000) (disch := omega) only [go_sem, Nat.reduceBEq, Nat.reduceBNe, reduceIte, reduceCtorEq, Nat.reduceLeDiff, Nat.reduceAdd, Nat.reduceEqDiff]; exact this hp' ts' q n hc hq S'
theorem Step.grow {hp ts hp' ts' hp''} {t : Tok} (h : Step hp ts hp' ts') (hs : Same [t] hp' hp'') (ht : ∀ i, t = .own i → hp.length ≤ i) : Step hp ts hp'' ts' := by
  refine ⟨h.same.trans hs fun u hu => .inr fun i hi e => ?_, fun u hu => h.new u hu⟩
  rw [List.mem_singleton.1 hu] at e
  have := ht i e
  omega
theorem row_step (H : TokOk x tk) (S : SpE x tk m) {l d : Nat} (hl : l ≤ 5) (hd : d ≤ 64) (hm : mE tk p + (8 - l) < m + 1) (V : Vl x tk hp ts p) (h : ∀ r, Ev (fun n => run x tk n (.row l d) p) r → PE x tk hp ts w Q r) : callK CC 98 [eP x tk ts p 0 w, eN l, eN d] hp Q := by
  have hsh := H.short
  have hat := V.at_
  refine callK_intro rfl (c98 ?_)
  simp only [s98]
  intro J1 J2 h1 h2
  by_cases h5 : l = 5
  · simp -implicitDefEqProofs (maxSteps := 5000000) (disch := omega) only [s98_0, h5, go_sem, Nat.reduceBEq, Nat.reduceBNe, reduceIte, reduceCtorEq, Nat.reduceLeDiff, Nat.reduceAdd, Nat.reduceEqDiff]
    refine S.un hd (by omega) V fun r hr => ?_
    have := h r (Ev.succ (by simp only [run, h5, if_true]; exact hr))
    cases r with
    | ok q v => intro hp' ts' V' S'; simp -implicitDefEqProofs (maxSteps := 5000000) (disch := omega) only [go_sem, Nat.reduceBEq, Nat.reduceBNe, reduceIte, reduceCtorEq, Nat.reduceLeDiff, Nat.reduceAdd, Nat.reduceEqDiff]; exact this hp' ts' V' S'
    | er c e => intro hp' ts' q n hc hq S'; simp -implicitDefEqProofs (maxSteps := 5000000) (disch := omega) only [go_sem, Nat.reduceBEq, Nat.reduceBNe, reduceIte, reduceCtorEq, Nat.reduceLeDiff, Nat.reduceAdd, Nat.reduceEqDiff]; exact this hp' ts' q n hc hq S'
  · simp -implicitDefEqProofs (maxSteps := 5000000) (disch := omega) only [s98_0, h5, go_sem, Nat.reduceBEq, Nat.reduceBNe, reduceIte, reduceCtorEq, Nat.reduceLeDiff, Nat.reduceAdd, Nat.reduceEqDiff]
    refine here_ok V.at_ ?_
    simp -implicitDefEqProofs (maxSteps := 5000000) (disch := omega) only [go_sem, Nat.reduceBEq, Nat.reduceBNe, reduceIte, reduceCtorEq, Nat.reduceLeDiff, Nat.reduceAdd, Nat.reduceEqDiff]
    generalize hf : here tk p = f at h
    have bad : ∀ (n f : Nat) c e hp' ts' q, c ≠ 0 → q.at_ < tk.length → Step hp ts hp' ts' → (∀ n, Q (.ret (.tup [eP x tk ts' q c e, eN n])) hp') → J1 (eN l) (eN d) (eN f) (eN n) (AV.cells (eP x tk ts' q c e)) [.str [], .sl .cap0 3 [], .int .i64 0, .sl .cap0 9 [], .sl .cap0 9 [], .sl .cap0 6 [], .int .i64 0, .int .i64 0] hp' := fun n f c e hp' ts' q hc hq hs hQ => by
      apply h1
      simp -implicitDefEqProofs (maxSteps := 5000000) (disch := omega) only [s98_1, go_sem, Nat.reduceBEq, Nat.reduceBNe, reduceIte, reduceCtorEq, Nat.reduceLeDiff, Nat.reduceAdd, Nat.reduceEqDiff]
      refine sign_no hc ?_
      simp -implicitDefEqProofs (maxSteps := 5000000) (disch := omega) only [go_sem, Nat.reduceBEq, Nat.reduceBNe, reduceIte, reduceCtorEq, Nat.reduceLeDiff, Nat.reduceAdd, Nat.reduceEqDiff]
      apply h2
      simp -implicitDefEqProofs (maxSteps := 5000000) (disch := omega) only [s98_2, go_sem, Nat.reduceBEq, Nat.reduceBNe, reduceIte, reduceCtorEq, Nat.reduceLeDiff, Nat.reduceAdd, Nat.reduceEqDiff]
      exact hQ n
    have loop : ∀ (k : Nat) (q : PT) (a : Nat) hp' ts', tk.length - q.at_ = k → p.at_ ≤ q.at_ → Vl x tk hp' ts' q → Step hp ts hp' ts' → (∀ r, Ev (fun n => run x tk n (.rowT l d f a) q) r → PE x tk hp ts w Q r) →
        J1 (eN l) (eN d) (eN f) (eN a) (AV.cells (eP x tk ts' q 0 w)) [.str [], .sl .cap0 3 [], .int .i64 0, .sl .cap0 9 [], .sl .cap0 9 [], .sl .cap0 6 [], .int .i64 0, .int .i64 0] hp' := by
      intro k
      induction k using Nat.strongRecOn with
      | _ k ih =>
        intro q a hp' ts' hk hpq V1 S1 hq
        have hat1 := V1.at_
        apply h1
        simp -implicitDefEqProofs (maxSteps := 5000000) (disch := omega) only [s98_1, go_sem, Nat.reduceBEq, Nat.reduceBNe, reduceIte, reduceCtorEq, Nat.reduceLeDiff, Nat.reduceAdd, Nat.reduceEqDiff]
        refine sign_ok H V1.at_ ?_
        cases hs : signOf x tk q l with
        | none =>
          simp -implicitDefEqProofs (maxSteps := 5000000) (disch := omega) only [Option.getD_none, go_sem, Nat.reduceBEq, Nat.reduceBNe, reduceIte, reduceCtorEq, Nat.reduceLeDiff, Nat.reduceAdd, Nat.reduceEqDiff]
          apply h2
          simp -implicitDefEqProofs (maxSteps := 5000000) (disch := omega) only [s98_2, go_sem, Nat.reduceBEq, Nat.reduceBNe, reduceIte, reduceCtorEq, Nat.reduceLeDiff, Nat.reduceAdd, Nat.reduceEqDiff]
          exact hq (.ok q [a]) (Ev.succ (by simp only [run, hs]; exact Ev.const)) hp' ts' V1 S1
        | some op =>
          obtain ⟨k0, hmem, hw⟩ := signOf_k hs
          have hop : op ≠ [] := by
            intro e
            subst e
            unfold signsM at hmem
            split at hmem <;> simp at hmem
          have V2 := V1.adv H k0
          have hat2 := V2.at_
          simp -implicitDefEqProofs (maxSteps := 5000000) (disch := omega) only [Option.getD_some, hop, go_sem, Nat.reduceBEq, Nat.reduceBNe, reduceIte, reduceCtorEq, Nat.reduceLeDiff, Nat.reduceAdd, Nat.reduceEqDiff]
          refine sign_ok H V1.at_ ?_
          simp -implicitDefEqProofs (maxSteps := 5000000) (disch := omega) only [hs, Option.getD_some, go_sem, Nat.reduceBEq, Nat.reduceBNe, reduceIte, reduceCtorEq, Nat.reduceLeDiff, Nat.reduceAdd, Nat.reduceEqDiff]
          have hmm : mE tk q.adv + 8 < mE tk p := mE_lt (by simp [PT.adv]; omega) hat2 (by omega)
          refine S.row (p := q.adv) (l := l + 1) (by omega) hd (by omega) V2 fun r hr => ?_
          cases r with
          | ok q1 v =>
            intro hp2 ts2 V3 S3
            have hf1 := ev_fwd H hr
            simp -implicitDefEqProofs (maxSteps := 5000000) (disch := omega) only [bldE9, go_sem, Nat.reduceBEq, Nat.reduceBNe, reduceIte, reduceCtorEq, Nat.reduceLeDiff, Nat.reduceAdd, Nat.reduceEqDiff]
            refine put_at H V3 k0 hf1.1 (fun hp3 ts3 V4 S4 => ?_) V1.ex
            have S5 := S1.trans (S3.trans S4)
            by_cases h22 : l = 2
            · simp -implicitDefEqProofs (maxSteps := 5000000) (disch := omega) only [h22, go_sem, Nat.reduceBEq, Nat.reduceBNe, reduceIte, reduceCtorEq, Nat.reduceLeDiff, Nat.reduceAdd, Nat.reduceEqDiff]
              exact hq (.ok _ _) (Ev.succ (by simp only [run, hs]; exact hr.bind (by simp only [if_pos h22]; exact Ev.const))) hp3 ts3 V4 S5
            · simp -implicitDefEqProofs (maxSteps := 5000000) (disch := omega) only [h22, go_sem, Nat.reduceBEq, Nat.reduceBNe, reduceIte, reduceCtorEq, Nat.reduceLeDiff, Nat.reduceAdd, Nat.reduceEqDiff]
              refine ih (tk.length - (putE tk q1 f { k := 9, op := op, a := a, b := hd0 v }).at_) ?_ _ _ hp3 ts3 rfl ?_ V4 S5 fun r hr2 => ?_
              · have := hf1.1.at_; simp [putE, PT.adv] at *; omega
              · have := hf1.1.at_; simp [putE, PT.adv] at *; omega
              · exact hq r (Ev.succ (by simp only [run, hs]; exact hr.bind (by simp only [if_neg h22]; exact hr2)))
          | er c e =>
            intro hp2 ts2 q1 n hc hq1 S3
            have hq' := hq (.er c e) (Ev.succ (by simp only [run, hs]; exact hr.bindE))
            simp -implicitDefEqProofs (maxSteps := 5000000) (disch := omega) only [bldE9, go_sem, Nat.reduceBEq, Nat.reduceBNe, reduceIte, reduceCtorEq, Nat.reduceLeDiff, Nat.reduceAdd, Nat.reduceEqDiff]
            refine put_no hc ?_
            by_cases h22 : l = 2
            · simp -implicitDefEqProofs (maxSteps := 5000000) (disch := omega) only [h22, go_sem, Nat.reduceBEq, Nat.reduceBNe, reduceIte, reduceCtorEq, Nat.reduceLeDiff, Nat.reduceAdd, Nat.reduceEqDiff]
              exact hq' hp2 ts2 q1 0 hc hq1 (S1.trans S3)
            · simp -implicitDefEqProofs (maxSteps := 5000000) (disch := omega) only [h22, go_sem, Nat.reduceBEq, Nat.reduceBNe, reduceIte, reduceCtorEq, Nat.reduceLeDiff, Nat.reduceAdd, Nat.reduceEqDiff]
              exact bad 0 f c e hp2 ts2 q1 hc hq1 (S1.trans S3) fun n => hq' hp2 ts2 q1 n hc hq1 (S1.trans S3)
    refine S.row (l := l + 1) (by omega) hd (by omega) V fun r hr => ?_
    cases r with
    | ok q v =>
      intro hp' ts' V' S'
      have hf1 := ev_fwd H hr
      simp -implicitDefEqProofs (maxSteps := 5000000) (disch := omega) only [go_sem, Nat.reduceBEq, Nat.reduceBNe, reduceIte, reduceCtorEq, Nat.reduceLeDiff, Nat.reduceAdd, Nat.reduceEqDiff]
      refine loop _ q (hd0 v) hp' ts' rfl hf1.1.at_ V' S' fun r hr2 => ?_
      exact h r (Ev.succ (by simp only [run, h5, if_false, hf]; exact hr.bind hr2))
    | er c e =>
      intro hp' ts' q n hc hq S'
      simp -implicitDefEqProofs (maxSteps := 5000000) (disch := omega) only [go_sem, Nat.reduceBEq, Nat.reduceBNe, reduceIte, reduceCtorEq, Nat.reduceLeDiff, Nat.reduceAdd, Nat.reduceEqDiff]
      have := h (.er c e) (Ev.succ (by simp only [run, h5, if_false]; exact hr.bindE))
      exact bad n f c e hp' ts' q hc hq S' fun n => this hp' ts' q n hc hq S'
theorem call_step (H : TokOk x tk) (S : SpE x tk m) {d f : Nat} {s : List Nat} (hd : d ≤ 64) (hm : mE tk p < m + 1) (V : Vl x tk hp ts p) (hw : isW x tk p [40] = true) (h : ∀ r, Ev (fun n => run x tk n (.args f s d []) p.adv) r → PE x tk hp ts w Q r) : callK CC 92 [eP x tk ts p 0 w, eN f, .str s, eN d] hp Q := by
  have hsh := H.short
  have hat := V.at_
  have V0 := V.adv H (isW_k hw)
  have hat0 := V0.at_
  refine callK_intro rfl (c92 ?_)
  simp only [s92]
  intro J1 J2 J3 h1 h2 h3
  simp -implicitDefEqProofs (maxSteps := 5000000) (disch := omega) only [s92_0, go_sem, Nat.reduceBEq, Nat.reduceBNe, reduceIte, reduceCtorEq, Nat.reduceLeDiff, Nat.reduceAdd, Nat.reduceEqDiff]
  refine want_ok H V.at_ (fun _ => ?_) (fun e => by rw [hw] at e; cases e)
  simp -implicitDefEqProofs (maxSteps := 5000000) (disch := omega) only [bldE6, nlocExT, okvExT, udExTa, go_sem, Nat.reduceBEq, Nat.reduceBNe, reduceIte, reduceCtorEq, Nat.reduceLeDiff, Nat.reduceAdd, Nat.reduceEqDiff]
  have bad : ∀ c e hp' ts' q t acc, c ≠ 0 → q.at_ < tk.length → (∀ n, Q (.ret (.tup [eP x tk ts' q c e, eN n])) hp') → J1 (eN f) (eN d) (AV.cells (eP x tk ts' q c e)) [.str [], .sl .cap0 3 [], .int .i64 0, .sl .cap0 9 [], .sl .cap0 9 [], .sl .cap0 6 [], .int .i64 0, .int .i64 0] (AV.cells (eExT t { k := 6, name := s, l := acc })) hp' := fun c e hp' ts' q t acc hc hq hQ => by
    apply h1
    simp -implicitDefEqProofs (maxSteps := 5000000) (disch := omega) only [s92_1, hc, go_sem, Nat.reduceBEq, Nat.reduceBNe, reduceIte, reduceCtorEq, Nat.reduceLeDiff, Nat.reduceAdd, Nat.reduceEqDiff]
    apply h3
    simp -implicitDefEqProofs (maxSteps := 5000000) (disch := omega) only [s92_3, ldExT, go_sem, Nat.reduceBEq, Nat.reduceBNe, reduceIte, reduceCtorEq, Nat.reduceLeDiff, Nat.reduceAdd, Nat.reduceEqDiff]
    refine want_no hc ?_
    simp -implicitDefEqProofs (maxSteps := 5000000) (disch := omega) only [go_sem, Nat.reduceBEq, Nat.reduceBNe, reduceIte, reduceCtorEq, Nat.reduceLeDiff, Nat.reduceAdd, Nat.reduceEqDiff]
    refine put_no hc ?_
    simp -implicitDefEqProofs (maxSteps := 5000000) (disch := omega) only [go_sem, Nat.reduceBEq, Nat.reduceBNe, reduceIte, reduceCtorEq, Nat.reduceLeDiff, Nat.reduceAdd, Nat.reduceEqDiff]
    exact hQ 0
  have loop : ∀ (k : Nat) (q : PT) (acc : List Nat) (t : Tok) hp' ts', tk.length - q.at_ = k → p.adv.at_ ≤ q.at_ → Vl x tk hp' ts' q → Step hp ts hp' ts' → Gr hp' t acc.length → Apart t ts' → (∀ i, t = .own i → hp.length ≤ i) → acc.length ≤ q.at_ → (∀ r, Ev (fun n => run x tk n (.args f s d acc) q) r → PE x tk hp ts w Q r) →
      J1 (eN f) (eN d) (AV.cells (eP x tk ts' q 0 w)) [.str [], .sl .cap0 3 [], .int .i64 0, .sl .cap0 9 [], .sl .cap0 9 [], .sl .cap0 6 [], .int .i64 0, .int .i64 0] (AV.cells (eExT t { k := 6, name := s, l := acc })) hp' := by
    intro k
    induction k using Nat.strongRecOn with
    | _ k ih =>
      intro q acc t hp' ts' hk hpq V1 S1 hg hap hfr hacc hq
      have hat1 := V1.at_
      apply h1
      simp -implicitDefEqProofs (maxSteps := 5000000) (disch := omega) only [s92_1, go_sem, Nat.reduceBEq, Nat.reduceBNe, reduceIte, reduceCtorEq, Nat.reduceLeDiff, Nat.reduceAdd, Nat.reduceEqDiff]
      refine is_ok H V1.at_ ?_
      cases hc : isW x tk q [41] with
      | true =>
        simp -implicitDefEqProofs (maxSteps := 5000000) (disch := omega) only [go_sem, Nat.reduceBEq, Nat.reduceBNe, reduceIte, reduceCtorEq, Nat.reduceLeDiff, Nat.reduceAdd, Nat.reduceEqDiff]
        apply h3
        simp -implicitDefEqProofs (maxSteps := 5000000) (disch := omega) only [s92_3, ldExT, go_sem, Nat.reduceBEq, Nat.reduceBNe, reduceIte, reduceCtorEq, Nat.reduceLeDiff, Nat.reduceAdd, Nat.reduceEqDiff]
        refine want_ok H V1.at_ (fun _ => ?_) (fun e => by rw [hc] at e; cases e)
        have V2 := V1.adv H (isW_k hc)
        simp -implicitDefEqProofs (maxSteps := 5000000) (disch := omega) only [go_sem, Nat.reduceBEq, Nat.reduceBNe, reduceIte, reduceCtorEq, Nat.reduceLeDiff, Nat.reduceAdd, Nat.reduceEqDiff]
        refine put_at H V2 (isW_k hc) Fwd.refl (fun hp3 ts3 V4 S4 => ?_) V1.ex
        simp -implicitDefEqProofs (maxSteps := 5000000) (disch := omega) only [go_sem, Nat.reduceBEq, Nat.reduceBNe, reduceIte, reduceCtorEq, Nat.reduceLeDiff, Nat.reduceAdd, Nat.reduceEqDiff]
        exact hq (.ok _ _) (Ev.succ (by simp only [run, hc, if_true]; exact Ev.const)) hp3 ts3 V4 (S1.trans S4)
      | false =>
        have more : ∀ (q1 : PT), Vl x tk hp' ts' q1 → q.at_ ≤ q1.at_ → (∀ r, Ev (fun n => bnd' (run x tk n (.expr (d + 1)) q1) fun q v => run x tk n (.args f s d (acc ++ [hd0 v])) q) r → PE x tk hp ts w Q r) → J2 (eN f) (eN d) (AV.cells (eP x tk ts' q1 0 w)) [.str [], .sl .cap0 3 [], .int .i64 0, .sl .cap0 9 [], .sl .cap0 9 [], .sl .cap0 6 [], .int .i64 0, .int .i64 0] (AV.cells (eExT t { k := 6, name := s, l := acc })) hp' := fun q1 V2 hqq hq => by
          apply h2
          have hat2 := V2.at_
          have hmm : mE tk q1 + 9 < mE tk p := mE_lt (by simp [PT.adv] at hpq; omega) hat2 (by omega)
          simp -implicitDefEqProofs (maxSteps := 5000000) (disch := omega) only [s92_2, go_sem, Nat.reduceBEq, Nat.reduceBNe, reduceIte, reduceCtorEq, Nat.reduceLeDiff, Nat.reduceAdd, Nat.reduceEqDiff]
          refine S.expr (d := d + 1) (by omega) (by omega) V2 fun r hr => ?_
          cases r with
          | ok q2 v =>
            intro hp2 ts2 V3 S3
            have hf1 := ev_fwd H hr
            have hat3 := V3.at_
            obtain ⟨hg2, hap2⟩ := S3.apart hg hap
            obtain ⟨hp3, ha, hlen, hg3, hsm⟩ := app_gr (f := eN) (e := 1) (t2 := .no) (y := hd0 v) hg2 (by omega)
            have V4 : Vl x tk hp3 ts2 q2 := ⟨V3.at_, V3.own.same hsm (fun u hu => by rw [List.mem_singleton.1 hu]; exact hap2), V3.ex, V3.sm, V3.fn⟩
            simp -implicitDefEqProofs (maxSteps := 5000000) (disch := omega) only [ldExT8, ha, udExT8, go_sem, Nat.reduceBEq, Nat.reduceBNe, reduceIte, reduceCtorEq, Nat.reduceLeDiff, Nat.reduceAdd, Nat.reduceEqDiff]
            refine ih (tk.length - q2.at_) ?_ q2 _ _ hp3 ts2 rfl ?_ V4 ((S1.trans S3).grow hsm hfr) hg3 ?_ ?_ ?_ fun r hr2 => ?_
            · have := hf1.2; simp only [NT.st] at this; omega
            · have := hf1.1.at_; omega
            · exact V3.own.fresh
            · intro i e; cases e; have := (S1.trans S3).same.1; omega
            · have := hf1.2; simp only [NT.st] at this; simp; omega
            · exact hq r (hr.bind hr2)
          | er c e =>
            intro hp2 ts2 q2 n hcc hq2 S3
            have hqq' := hq (.er c e) hr.bindE
            obtain ⟨hg2, hap2⟩ := S3.apart hg hap
            obtain ⟨hp3, ha, hlen, hg3, hsm⟩ := app_gr (f := eN) (e := 1) (t2 := .no) (y := n) hg2 (by omega)
            simp -implicitDefEqProofs (maxSteps := 5000000) (disch := omega) only [ldExT8, ha, udExT8, go_sem, Nat.reduceBEq, Nat.reduceBNe, reduceIte, reduceCtorEq, Nat.reduceLeDiff, Nat.reduceAdd, Nat.reduceEqDiff]
            exact bad c e hp3 ts2 q2 _ _ hcc hq2 fun n => hqq' hp3 ts2 q2 n hcc hq2 ((S1.trans S3).grow hsm hfr)
        by_cases hnil : acc = []
        · have h0 : ¬ 0 < acc.length := by simp [hnil]
          simp -implicitDefEqProofs (maxSteps := 5000000) (disch := omega) only [ldExT8, h0, go_sem, Nat.reduceBEq, Nat.reduceBNe, reduceIte, reduceCtorEq, Nat.reduceLeDiff, Nat.reduceAdd, Nat.reduceEqDiff]
          refine more q V1 (Nat.le_refl _) fun r hr => ?_
          exact hq r (Ev.succ (by simp only [run, hc, Bool.false_eq_true, if_false, if_pos hnil]; exact hr))
        · have h0 : 0 < acc.length := List.length_pos_iff.2 hnil
          simp -implicitDefEqProofs (maxSteps := 5000000) (disch := omega) only [ldExT8, h0, go_sem, Nat.reduceBEq, Nat.reduceBNe, reduceIte, reduceCtorEq, Nat.reduceLeDiff, Nat.reduceAdd, Nat.reduceEqDiff]
          refine want_ok H V1.at_ (fun hcm => ?_) (fun hcm => ?_)
          · simp -implicitDefEqProofs (maxSteps := 5000000) (disch := omega) only [go_sem, Nat.reduceBEq, Nat.reduceBNe, reduceIte, reduceCtorEq, Nat.reduceLeDiff, Nat.reduceAdd, Nat.reduceEqDiff]
            refine more q.adv (V1.adv H (isW_k hcm)) (by simp [PT.adv]) fun r hr => ?_
            exact hq r (Ev.succ (by simp only [run, hc, hcm, Bool.false_eq_true, if_false, if_true, if_neg hnil]; exact hr))
          · simp -implicitDefEqProofs (maxSteps := 5000000) (disch := omega) only [go_sem, Nat.reduceBEq, Nat.reduceBNe, reduceIte, reduceCtorEq, Nat.reduceLeDiff, Nat.reduceAdd, Nat.reduceEqDiff]
            have hq' := hq (.er 3 (here tk q)) (Ev.succ (by simp only [run, hc, hcm, Bool.false_eq_true, if_false, if_neg hnil]; exact Ev.const))
            apply h2
            simp -implicitDefEqProofs (maxSteps := 5000000) (disch := omega) only [s92_2, go_sem, Nat.reduceBEq, Nat.reduceBNe, reduceIte, reduceCtorEq, Nat.reduceLeDiff, Nat.reduceAdd, Nat.reduceEqDiff]
            refine expr_no (d := d + 1) V1.at_ (by omega) fun n => ?_
            obtain ⟨hp3, ha, hlen, hg3, hsm⟩ := app_gr (f := eN) (e := 1) (t2 := .no) (y := n) hg (by omega)
            simp -implicitDefEqProofs (maxSteps := 5000000) (disch := omega) only [ldExT8, ha, udExT8, go_sem, Nat.reduceBEq, Nat.reduceBNe, reduceIte, reduceCtorEq, Nat.reduceLeDiff, Nat.reduceAdd, Nat.reduceEqDiff]
            exact bad 3 (here tk q) hp3 ts' q _ _ (by omega) V1.at_ fun n => hq' hp3 ts' q n (by omega) V1.at_ (S1.grow hsm hfr)
  exact loop _ p.adv [] .cap0 hp ts rfl (Nat.le_refl _) V0 Step.refl (.inl ⟨rfl, rfl⟩) Apart.cap0 (fun _ e => by cases e) (Nat.zero_le _) h
theorem word_num (H : TokOk x tk) (h : tkK tk p = 2) : (∀ c ∈ word x tk p, 48 ≤ c ∧ c ≤ 57) ∧ (word x tk p).length ≤ 18 := by
  unfold tkK at h
  unfold word
  cases ht : tk[p.at_]? with
  | none => rw [ht] at h; cases h
  | some t =>
    rw [ht] at h
    have := H.num _ t ht h
    refine ⟨this.1, ?_⟩
    simp only [cut, List.length_drop, List.length_take]
    omega
theorem prim_step (H : TokOk x tk) (S : SpE x tk m) {d : Nat} (hd : d ≤ 64) (hm : mE tk p + 1 < m + 1) (V : Vl x tk hp ts p) (h : ∀ r, Ev (fun n => run x tk n (.prim d) p) r → PE x tk hp ts w Q r) : callK CC 103 [eP x tk ts p 0 w, eN d] hp Q := by
  have hsh := H.short
  have hat := V.at_
  obtain ⟨t, ht⟩ := at_some V.at_
  have hkt : tkK tk p = t.k := by simp only [tkK, ht]
  refine callK_intro rfl (c103 ?_)
  simp -implicitDefEqProofs (maxSteps := 5000000) (disch := omega) only [s103, s103_0, go_sem, Nat.reduceBEq, Nat.reduceBNe, reduceIte, reduceCtorEq, Nat.reduceLeDiff, Nat.reduceAdd, Nat.reduceEqDiff]
  refine here_ok V.at_ ?_
  by_cases k2 : tkK tk p = 2
  · have k2' : t.k = 2 := by omega
    have hne : tkK tk p ≠ 0 := by omega
    have V1 := V.adv H hne
    simp -implicitDefEqProofs (maxSteps := 5000000) (disch := omega) only [ht, k2', go_sem, Nat.reduceBEq, Nat.reduceBNe, reduceIte, reduceCtorEq, Nat.reduceLeDiff, Nat.reduceAdd, Nat.reduceEqDiff]
    refine kind_ok (k := 2) H V.at_ (fun _ => ?_) (fun e => absurd k2 e)
    simp -implicitDefEqProofs (maxSteps := 5000000) (disch := omega) only [go_sem, Nat.reduceBEq, Nat.reduceBNe, reduceIte, reduceCtorEq, Nat.reduceLeDiff, Nat.reduceAdd, Nat.reduceEqDiff]
    refine number_ok (word_num H k2).1 (word_num H k2).2 ?_
    simp -implicitDefEqProofs (maxSteps := 5000000) (disch := omega) only [bldE1, go_sem, Nat.reduceBEq, Nat.reduceBNe, reduceIte, reduceCtorEq, Nat.reduceLeDiff, Nat.reduceAdd, Nat.reduceEqDiff]
    refine put_at H V1 hne Fwd.refl (fun hp3 ts3 V4 S4 => ?_) V.ex
    simp -implicitDefEqProofs (maxSteps := 5000000) (disch := omega) only [go_sem, Nat.reduceBEq, Nat.reduceBNe, reduceIte, reduceCtorEq, Nat.reduceLeDiff, Nat.reduceAdd, Nat.reduceEqDiff]
    exact h (.ok _ _) (Ev.succ (by simp only [run, k2, if_true]; exact Ev.const)) hp3 ts3 V4 S4
  · have k2' : ¬ t.k = 2 := by omega
    simp -implicitDefEqProofs (maxSteps := 5000000) (disch := omega) only [ht, k2', go_sem, Nat.reduceBEq, Nat.reduceBNe, reduceIte, reduceCtorEq, Nat.reduceLeDiff, Nat.reduceAdd, Nat.reduceEqDiff]
    refine is_ok H V.at_ ?_
    cases c2 : isW x tk p [116, 114, 117, 101] with
    | true =>
      simp -implicitDefEqProofs (maxSteps := 5000000) (disch := omega) only [go_sem, Nat.reduceBEq, Nat.reduceBNe, reduceIte, reduceCtorEq, Nat.reduceLeDiff, Nat.reduceAdd, Nat.reduceEqDiff]
      refine want_ok H V.at_ (fun _ => ?_) (fun e => by rw [c2] at e; cases e)
      have V1 := V.adv H (isW_k c2)
      simp -implicitDefEqProofs (maxSteps := 5000000) (disch := omega) only [bldE2, go_sem, Nat.reduceBEq, Nat.reduceBNe, reduceIte, reduceCtorEq, Nat.reduceLeDiff, Nat.reduceAdd, Nat.reduceEqDiff]
      refine put_at H V1 (isW_k c2) Fwd.refl (fun hp3 ts3 V4 S4 => ?_) V.ex
      simp -implicitDefEqProofs (maxSteps := 5000000) (disch := omega) only [go_sem, Nat.reduceBEq, Nat.reduceBNe, reduceIte, reduceCtorEq, Nat.reduceLeDiff, Nat.reduceAdd, Nat.reduceEqDiff]
      exact h (.ok _ _) (Ev.succ (by simp only [run, k2, if_false, c2, if_true]; exact Ev.const)) hp3 ts3 V4 S4
    | false =>
    simp -implicitDefEqProofs (maxSteps := 5000000) (disch := omega) only [go_sem, Nat.reduceBEq, Nat.reduceBNe, reduceIte, reduceCtorEq, Nat.reduceLeDiff, Nat.reduceAdd, Nat.reduceEqDiff]
    refine is_ok H V.at_ ?_
    cases c3 : isW x tk p [102, 97, 108, 115, 101] with
    | true =>
      simp -implicitDefEqProofs (maxSteps := 5000000) (disch := omega) only [go_sem, Nat.reduceBEq, Nat.reduceBNe, reduceIte, reduceCtorEq, Nat.reduceLeDiff, Nat.reduceAdd, Nat.reduceEqDiff]
      refine want_ok H V.at_ (fun _ => ?_) (fun e => by rw [c3] at e; cases e)
      have V1 := V.adv H (isW_k c3)
      simp -implicitDefEqProofs (maxSteps := 5000000) (disch := omega) only [bldE3, go_sem, Nat.reduceBEq, Nat.reduceBNe, reduceIte, reduceCtorEq, Nat.reduceLeDiff, Nat.reduceAdd, Nat.reduceEqDiff]
      refine put_at H V1 (isW_k c3) Fwd.refl (fun hp3 ts3 V4 S4 => ?_) V.ex
      simp -implicitDefEqProofs (maxSteps := 5000000) (disch := omega) only [go_sem, Nat.reduceBEq, Nat.reduceBNe, reduceIte, reduceCtorEq, Nat.reduceLeDiff, Nat.reduceAdd, Nat.reduceEqDiff]
      exact h (.ok _ _) (Ev.succ (by simp only [run, k2, if_false, c2, c3, Bool.false_eq_true, if_true]; exact Ev.const)) hp3 ts3 V4 S4
    | false =>
    simp -implicitDefEqProofs (maxSteps := 5000000) (disch := omega) only [go_sem, Nat.reduceBEq, Nat.reduceBNe, reduceIte, reduceCtorEq, Nat.reduceLeDiff, Nat.reduceAdd, Nat.reduceEqDiff]
    refine is_ok H V.at_ ?_
    cases c7 : isW x tk p [114, 101, 97, 100] with
    | true =>
      simp -implicitDefEqProofs (maxSteps := 5000000) (disch := omega) only [go_sem, Nat.reduceBEq, Nat.reduceBNe, reduceIte, reduceCtorEq, Nat.reduceLeDiff, Nat.reduceAdd, Nat.reduceEqDiff]
      refine want_ok H V.at_ (fun _ => ?_) (fun e => by rw [c7] at e; cases e)
      have V1 := V.adv H (isW_k c7)
      simp -implicitDefEqProofs (maxSteps := 5000000) (disch := omega) only [bldE7, go_sem, Nat.reduceBEq, Nat.reduceBNe, reduceIte, reduceCtorEq, Nat.reduceLeDiff, Nat.reduceAdd, Nat.reduceEqDiff]
      refine put_at H V1 (isW_k c7) Fwd.refl (fun hp3 ts3 V4 S4 => ?_) V.ex
      simp -implicitDefEqProofs (maxSteps := 5000000) (disch := omega) only [go_sem, Nat.reduceBEq, Nat.reduceBNe, reduceIte, reduceCtorEq, Nat.reduceLeDiff, Nat.reduceAdd, Nat.reduceEqDiff]
      exact h (.ok _ _) (Ev.succ (by simp only [run, k2, if_false, c2, c3, c7, Bool.false_eq_true, if_true]; exact Ev.const)) hp3 ts3 V4 S4
    | false =>
    simp -implicitDefEqProofs (maxSteps := 5000000) (disch := omega) only [go_sem, Nat.reduceBEq, Nat.reduceBNe, reduceIte, reduceCtorEq, Nat.reduceLeDiff, Nat.reduceAdd, Nat.reduceEqDiff]
    refine is_ok H V.at_ ?_
    cases c40 : isW x tk p [40] with
    | true =>
      have V1 := V.adv H (isW_k c40)
      have hat1 := V1.at_
      have hmm : mE tk p.adv + 9 < mE tk p := mE_lt (by simp [PT.adv]) hat1 (by omega)
      have hr0 : ∀ r, Ev (fun n => bnd' (run x tk n (.expr (d + 1)) p.adv) fun q v => if isW x tk q [41] = true then some (.ok q.adv v) else er tk q 3) r → PE x tk hp ts w Q r := fun r hr => h r (Ev.succ (by simp only [run, k2, if_false, c2, c3, c7, c40, Bool.false_eq_true, if_true]; exact hr))
      simp -implicitDefEqProofs (maxSteps := 5000000) (disch := omega) only [go_sem, Nat.reduceBEq, Nat.reduceBNe, reduceIte, reduceCtorEq, Nat.reduceLeDiff, Nat.reduceAdd, Nat.reduceEqDiff]
      refine want_ok H V.at_ (fun _ => ?_) (fun e => by rw [c40] at e; cases e)
      simp -implicitDefEqProofs (maxSteps := 5000000) (disch := omega) only [go_sem, Nat.reduceBEq, Nat.reduceBNe, reduceIte, reduceCtorEq, Nat.reduceLeDiff, Nat.reduceAdd, Nat.reduceEqDiff]
      refine S.expr (p := p.adv) (d := d + 1) (by omega) (by omega) V1 fun r hr => ?_
      cases r with
      | ok q v =>
        intro hp2 ts2 V2 S2
        simp -implicitDefEqProofs (maxSteps := 5000000) (disch := omega) only [go_sem, Nat.reduceBEq, Nat.reduceBNe, reduceIte, reduceCtorEq, Nat.reduceLeDiff, Nat.reduceAdd, Nat.reduceEqDiff]
        refine want_ok H V2.at_ (fun e => ?_) (fun e => ?_)
        · simp -implicitDefEqProofs (maxSteps := 5000000) (disch := omega) only [go_sem, Nat.reduceBEq, Nat.reduceBNe, reduceIte, reduceCtorEq, Nat.reduceLeDiff, Nat.reduceAdd, Nat.reduceEqDiff]
          exact hr0 (.ok q.adv v) (hr.bind (by simp only [e, if_true]; exact Ev.const)) hp2 ts2 (V2.adv H (isW_k e)) S2
        · simp -implicitDefEqProofs (maxSteps := 5000000) (disch := omega) only [go_sem, Nat.reduceBEq, Nat.reduceBNe, reduceIte, reduceCtorEq, Nat.reduceLeDiff, Nat.reduceAdd, Nat.reduceEqDiff]
          exact hr0 (.er 3 (here tk q)) (hr.bind (by simp only [e, Bool.false_eq_true, if_false]; exact Ev.const)) hp2 ts2 q (hd0 v) (by omega) V2.at_ S2
      | er c e =>
        intro hp2 ts2 q n hc hq S2
        simp -implicitDefEqProofs (maxSteps := 5000000) (disch := omega) only [go_sem, Nat.reduceBEq, Nat.reduceBNe, reduceIte, reduceCtorEq, Nat.reduceLeDiff, Nat.reduceAdd, Nat.reduceEqDiff]
        refine want_no hc ?_
        simp -implicitDefEqProofs (maxSteps := 5000000) (disch := omega) only [go_sem, Nat.reduceBEq, Nat.reduceBNe, reduceIte, reduceCtorEq, Nat.reduceLeDiff, Nat.reduceAdd, Nat.reduceEqDiff]
        exact hr0 (.er c e) hr.bindE hp2 ts2 q n hc hq S2
    | false =>
    simp -implicitDefEqProofs (maxSteps := 5000000) (disch := omega) only [go_sem, Nat.reduceBEq, Nat.reduceBNe, reduceIte, reduceCtorEq, Nat.reduceLeDiff, Nat.reduceAdd, Nat.reduceEqDiff]
    refine kind_ok (k := 1) H V.at_ (fun k1 => ?_) (fun k1 => ?_)
    · have hne : tkK tk p ≠ 0 := by omega
      have V1 := V.adv H hne
      have hat1 := V1.at_
      have hr0 : ∀ r, Ev (fun n => if isW x tk p.adv [91] = true then bnd' (run x tk n (.expr (d + 1)) p.adv.adv) fun q v => if isW x tk q [93] = true then put1 tk q.adv (here tk p) { k := 5, name := word x tk p, a := hd0 v } else er tk q 3
          else if isW x tk p.adv [40] = true then run x tk n (.args (here tk p) (word x tk p) d []) p.adv.adv else put1 tk p.adv (here tk p) { k := 4, name := word x tk p }) r → PE x tk hp ts w Q r := fun r hr => h r (Ev.succ (by simp only [run, k2, if_false, c2, c3, c7, c40, Bool.false_eq_true, k1, if_true]; exact hr))
      simp -implicitDefEqProofs (maxSteps := 5000000) (disch := omega) only [go_sem, Nat.reduceBEq, Nat.reduceBNe, reduceIte, reduceCtorEq, Nat.reduceLeDiff, Nat.reduceAdd, Nat.reduceEqDiff]
      refine is_ok (p := p.adv) H V1.at_ ?_
      cases c91' : isW x tk p.adv [91] with
      | true =>
        have V2 := V1.adv H (isW_k c91')
        have hat2 := V2.at_
        have hmm : mE tk p.adv.adv + 9 < mE tk p := mE_lt (by simp [PT.adv]; omega) hat2 (by omega)
        simp -implicitDefEqProofs (maxSteps := 5000000) (disch := omega) only [go_sem, Nat.reduceBEq, Nat.reduceBNe, reduceIte, reduceCtorEq, Nat.reduceLeDiff, Nat.reduceAdd, Nat.reduceEqDiff]
        refine want_ok (p := p.adv) H V1.at_ (fun _ => ?_) (fun e => by rw [c91'] at e; cases e)
        simp -implicitDefEqProofs (maxSteps := 5000000) (disch := omega) only [go_sem, Nat.reduceBEq, Nat.reduceBNe, reduceIte, reduceCtorEq, Nat.reduceLeDiff, Nat.reduceAdd, Nat.reduceEqDiff]
        refine S.expr (p := p.adv.adv) (d := d + 1) (by omega) (by omega) V2 fun r hr => ?_
        cases r with
        | ok q v =>
          intro hp2 ts2 V3 S2
          have hf := ev_fwd H hr
          simp -implicitDefEqProofs (maxSteps := 5000000) (disch := omega) only [bldE5, go_sem, Nat.reduceBEq, Nat.reduceBNe, reduceIte, reduceCtorEq, Nat.reduceLeDiff, Nat.reduceAdd, Nat.reduceEqDiff]
          refine want_ok H V3.at_ (fun e => ?_) (fun e => ?_)
          · have V4 := V3.adv H (isW_k e)
            simp -implicitDefEqProofs (maxSteps := 5000000) (disch := omega) only [go_sem, Nat.reduceBEq, Nat.reduceBNe, reduceIte, reduceCtorEq, Nat.reduceLeDiff, Nat.reduceAdd, Nat.reduceEqDiff]
            refine put_at H V4 hne (((Fwd.adv H (isW_k c91')).trans hf.1).trans (Fwd.adv H (isW_k e))) (fun hp3 ts3 V5 S4 => ?_) V.ex
            simp -implicitDefEqProofs (maxSteps := 5000000) (disch := omega) only [go_sem, Nat.reduceBEq, Nat.reduceBNe, reduceIte, reduceCtorEq, Nat.reduceLeDiff, Nat.reduceAdd, Nat.reduceEqDiff]
            exact hr0 (.ok _ _) (by simp only [c91', if_true]; exact hr.bind (by simp only [e, if_true]; exact Ev.const)) hp3 ts3 V5 (S2.trans S4)
          · simp -implicitDefEqProofs (maxSteps := 5000000) (disch := omega) only [go_sem, Nat.reduceBEq, Nat.reduceBNe, reduceIte, reduceCtorEq, Nat.reduceLeDiff, Nat.reduceAdd, Nat.reduceEqDiff]
            refine put_no (by omega) ?_
            simp -implicitDefEqProofs (maxSteps := 5000000) (disch := omega) only [go_sem, Nat.reduceBEq, Nat.reduceBNe, reduceIte, reduceCtorEq, Nat.reduceLeDiff, Nat.reduceAdd, Nat.reduceEqDiff]
            exact hr0 (.er 3 (here tk q)) (by simp only [c91', if_true]; exact hr.bind (by simp only [e, Bool.false_eq_true, if_false]; exact Ev.const)) hp2 ts2 q 0 (by omega) V3.at_ S2
        | er c e =>
          intro hp2 ts2 q n hc hq S2
          simp -implicitDefEqProofs (maxSteps := 5000000) (disch := omega) only [bldE5, go_sem, Nat.reduceBEq, Nat.reduceBNe, reduceIte, reduceCtorEq, Nat.reduceLeDiff, Nat.reduceAdd, Nat.reduceEqDiff]
          refine want_no hc ?_
          simp -implicitDefEqProofs (maxSteps := 5000000) (disch := omega) only [go_sem, Nat.reduceBEq, Nat.reduceBNe, reduceIte, reduceCtorEq, Nat.reduceLeDiff, Nat.reduceAdd, Nat.reduceEqDiff]
          refine put_no hc ?_
          simp -implicitDefEqProofs (maxSteps := 5000000) (disch := omega) only [go_sem, Nat.reduceBEq, Nat.reduceBNe, reduceIte, reduceCtorEq, Nat.reduceLeDiff, Nat.reduceAdd, Nat.reduceEqDiff]
          exact hr0 (.er c e) (by simp only [c91', if_true]; exact hr.bindE) hp2 ts2 q 0 hc hq S2
      | false =>
        simp -implicitDefEqProofs (maxSteps := 5000000) (disch := omega) only [go_sem, Nat.reduceBEq, Nat.reduceBNe, reduceIte, reduceCtorEq, Nat.reduceLeDiff, Nat.reduceAdd, Nat.reduceEqDiff]
        refine is_ok (p := p.adv) H V1.at_ ?_
        cases c40' : isW x tk p.adv [40] with
        | true =>
          have hmm : mE tk p.adv + 0 < mE tk p := mE_lt (by simp [PT.adv]) hat1 (by omega)
          simp -implicitDefEqProofs (maxSteps := 5000000) (disch := omega) only [go_sem, Nat.reduceBEq, Nat.reduceBNe, reduceIte, reduceCtorEq, Nat.reduceLeDiff, Nat.reduceAdd, Nat.reduceEqDiff]
          refine S.call (p := p.adv) hd (by omega) V1 c40' fun r hr => ?_
          have := hr0 r (by simp only [c91', c40', Bool.false_eq_true, if_false, if_true]; exact hr)
          cases r with
          | ok q v => intro hp' ts' V' S'; simp -implicitDefEqProofs (maxSteps := 5000000) (disch := omega) only [go_sem, Nat.reduceBEq, Nat.reduceBNe, reduceIte, reduceCtorEq, Nat.reduceLeDiff, Nat.reduceAdd, Nat.reduceEqDiff]; exact this hp' ts' V' S'
          | er c e => intro hp' ts' q n hc hq S'; simp -implicitDefEqProofs (maxSteps := 5000000) (disch := omega) only [go_sem, Nat.reduceBEq, Nat.reduceBNe, reduceIte, reduceCtorEq, Nat.reduceLeDiff, Nat.reduceAdd, Nat.reduceEqDiff]; exact this hp' ts' q n hc hq S'
        | false =>
          simp -implicitDefEqProofs (maxSteps := 5000000) (disch := omega) only [bldE4, go_sem, Nat.reduceBEq, Nat.reduceBNe, reduceIte, reduceCtorEq, Nat.reduceLeDiff, Nat.reduceAdd, Nat.reduceEqDiff]
          refine put_at (p := p.adv) H V1 hne Fwd.refl (fun hp3 ts3 V4 S4 => ?_) V.ex
          simp -implicitDefEqProofs (maxSteps := 5000000) (disch := omega) only [go_sem, Nat.reduceBEq, Nat.reduceBNe, reduceIte, reduceCtorEq, Nat.reduceLeDiff, Nat.reduceAdd, Nat.reduceEqDiff]
          exact hr0 (.ok _ _) (by simp only [c91', c40', Bool.false_eq_true, if_false]; exact Ev.const) hp3 ts3 V4 S4
    · simp -implicitDefEqProofs (maxSteps := 5000000) (disch := omega) only [go_sem, Nat.reduceBEq, Nat.reduceBNe, reduceIte, reduceCtorEq, Nat.reduceLeDiff, Nat.reduceAdd, Nat.reduceEqDiff]
      have hq := h (.er 3 (here tk p)) (Ev.succ (by simp only [run, k2, if_false, c2, c3, c7, c40, Bool.false_eq_true, if_neg k1]; exact Ev.const))
      refine is_no (by omega) ?_
      simp -implicitDefEqProofs (maxSteps := 5000000) (disch := omega) only [go_sem, Nat.reduceBEq, Nat.reduceBNe, reduceIte, reduceCtorEq, Nat.reduceLeDiff, Nat.reduceAdd, Nat.reduceEqDiff]
      refine is_no (by omega) ?_
      simp -implicitDefEqProofs (maxSteps := 5000000) (disch := omega) only [bldE4, go_sem, Nat.reduceBEq, Nat.reduceBNe, reduceIte, reduceCtorEq, Nat.reduceLeDiff, Nat.reduceAdd, Nat.reduceEqDiff]
      refine put_no (by omega) ?_
      simp -implicitDefEqProofs (maxSteps := 5000000) (disch := omega) only [go_sem, Nat.reduceBEq, Nat.reduceBNe, reduceIte, reduceCtorEq, Nat.reduceLeDiff, Nat.reduceAdd, Nat.reduceEqDiff]
      exact hq hp ts p 0 (by omega) V.at_ Step.refl
theorem spE (H : TokOk x tk) : ∀ m, SpE x tk m := by
  intro m
  induction m with
  | zero => exact ⟨fun _ _ h => by omega, fun _ h => by omega, fun _ h => by omega, fun _ h => by omega, fun _ h => by omega⟩
  | succ m S => exact ⟨fun hl hd hm V h => row_step H S hl hd hm V h, fun hd hm V h => expr_step H S hd hm V h, fun hd hm V h => un_step H S hd hm V h, fun hd hm V h => prim_step H S hd hm V h, fun hd hm V hw h => call_step H S hd hm V hw h⟩
theorem expr_ok (H : TokOk x tk) {d : Nat} (hd : d ≤ 65) (V : Vl x tk hp ts p) (h : ∀ r, Ev (fun n => run x tk n (.expr d) p) r → PE x tk hp ts w Q r) : callK CC 89 [eP x tk ts p 0 w, eN d] hp Q := (spE H _).expr hd (Nat.lt_succ_self _) V h
theorem call_ok (H : TokOk x tk) {d f : Nat} {s : List Nat} (hd : d ≤ 64) (V : Vl x tk hp ts p) (hw : isW x tk p [40] = true) (h : ∀ r, Ev (fun n => run x tk n (.args f s d []) p.adv) r → PE x tk hp ts w Q r) : callK CC 92 [eP x tk ts p 0 w, eN f, .str s, eN d] hp Q := (spE H _).call hd (Nat.lt_succ_self _) V hw h
end
end Go.Proofs.Ytnldohnfdeineaa.Abs
/- The document's parser: statements. -/
namespace Go.Proofs.Ytnldohnfdeineaa.Abs
open Go
set_option maxRecDepth 100000

section
variable {x : List Nat} {tk : List Tk} {p : PT}
theorem ev_if {d r} (c0 : isW x tk p [105, 102] = true) (h : Ev (fun n => run x tk n (.branch (here tk p) d) p.adv) r) : Ev (fun n => run x tk n (.stmt d) p) r := by
  refine Ev.succ ?_
  have e : ∀ n, run x tk (n + 1) (.stmt d) p = (run x tk n (.branch (here tk p) d) p.adv) := fun n => by
    rw [run, if_pos c0]
  simp only [e]; exact h
theorem ev_while {d r} (c0 : isW x tk p [105, 102] = false) (c1 : isW x tk p [119, 104, 105, 108, 101] = true) (h : Ev (fun n => bnd' (run x tk n (.expr d) p.adv) fun q v => bnd' (run x tk n (.block (d + 1)) q) fun r b => addS tk r (here tk p) { k := 6, a := hd0 v, th := b }) r) : Ev (fun n => run x tk n (.stmt d) p) r := by
  refine Ev.succ ?_
  have e : ∀ n, run x tk (n + 1) (.stmt d) p = (bnd' (run x tk n (.expr d) p.adv) fun q v => bnd' (run x tk n (.block (d + 1)) q) fun r b => addS tk r (here tk p) { k := 6, a := hd0 v, th := b }) := fun n => by
    rw [run, if_neg (by rw [c0]; simp), if_pos c1]
  simp only [e]; exact h
theorem ev_var {d r} (c0 : isW x tk p [105, 102] = false) (c1 : isW x tk p [119, 104, 105, 108, 101] = false) (c2 : isW x tk p [118, 97, 114] = true) (h : Ev (fun n => if tkK tk p.adv = 1 then
        (if isW x tk p.adv.adv [91] = true then
          (if tkK tk p.adv.adv.adv = 2 then
            (if isW x tk p.adv.adv.adv.adv [93] = true then semi x tk p.adv.adv.adv.adv.adv (here tk p) { k := 2, name := word x tk p.adv, num := numM (word x tk p.adv.adv.adv) } else er tk p.adv.adv.adv.adv 3)
          else er tk p.adv.adv.adv 3)
        else if isW x tk p.adv.adv [61] = true then bnd' (run x tk n (.expr d) p.adv.adv.adv) fun q v => semi x tk q (here tk p) { k := 1, name := word x tk p.adv, a := hd0 v }
        else er tk p.adv.adv 3)
      else er tk p.adv 3) r) : Ev (fun n => run x tk n (.stmt d) p) r := by
  refine Ev.succ ?_
  have e : ∀ n, run x tk (n + 1) (.stmt d) p = (if tkK tk p.adv = 1 then
        (if isW x tk p.adv.adv [91] = true then
          (if tkK tk p.adv.adv.adv = 2 then
            (if isW x tk p.adv.adv.adv.adv [93] = true then semi x tk p.adv.adv.adv.adv.adv (here tk p) { k := 2, name := word x tk p.adv, num := numM (word x tk p.adv.adv.adv) } else er tk p.adv.adv.adv.adv 3)
          else er tk p.adv.adv.adv 3)
        else if isW x tk p.adv.adv [61] = true then bnd' (run x tk n (.expr d) p.adv.adv.adv) fun q v => semi x tk q (here tk p) { k := 1, name := word x tk p.adv, a := hd0 v }
        else er tk p.adv.adv 3)
      else er tk p.adv 3) := fun n => by
    rw [run, if_neg (by rw [c0]; simp), if_neg (by rw [c1]; simp), if_pos c2]
  simp only [e]; exact h
theorem ev_break {d r} (c0 : isW x tk p [105, 102] = false) (c1 : isW x tk p [119, 104, 105, 108, 101] = false) (c2 : isW x tk p [118, 97, 114] = false) (c3 : isW x tk p [98, 114, 101, 97, 107] = true) (h : Ev (fun n => semi x tk p.adv (here tk p) { k := 7 }) r) : Ev (fun n => run x tk n (.stmt d) p) r := by
  refine Ev.succ ?_
  have e : ∀ n, run x tk (n + 1) (.stmt d) p = (semi x tk p.adv (here tk p) { k := 7 }) := fun n => by
    rw [run, if_neg (by rw [c0]; simp), if_neg (by rw [c1]; simp), if_neg (by rw [c2]; simp), if_pos c3]
  simp only [e]; exact h
theorem ev_cont {d r} (c0 : isW x tk p [105, 102] = false) (c1 : isW x tk p [119, 104, 105, 108, 101] = false) (c2 : isW x tk p [118, 97, 114] = false) (c3 : isW x tk p [98, 114, 101, 97, 107] = false) (c4 : isW x tk p [99, 111, 110, 116, 105, 110, 117, 101] = true) (h : Ev (fun n => semi x tk p.adv (here tk p) { k := 8 }) r) : Ev (fun n => run x tk n (.stmt d) p) r := by
  refine Ev.succ ?_
  have e : ∀ n, run x tk (n + 1) (.stmt d) p = (semi x tk p.adv (here tk p) { k := 8 }) := fun n => by
    rw [run, if_neg (by rw [c0]; simp), if_neg (by rw [c1]; simp), if_neg (by rw [c2]; simp), if_neg (by rw [c3]; simp), if_pos c4]
  simp only [e]; exact h
theorem ev_ret {d r} (c0 : isW x tk p [105, 102] = false) (c1 : isW x tk p [119, 104, 105, 108, 101] = false) (c2 : isW x tk p [118, 97, 114] = false) (c3 : isW x tk p [98, 114, 101, 97, 107] = false) (c4 : isW x tk p [99, 111, 110, 116, 105, 110, 117, 101] = false) (c5 : isW x tk p [114, 101, 116, 117, 114, 110] = true) (h : Ev (fun n => if isW x tk p.adv [59] = true then semi x tk p.adv (here tk p) { k := 9, a := -1 } else bnd' (run x tk n (.expr d) p.adv) fun q v => semi x tk q (here tk p) { k := 9, a := hd0 v }) r) : Ev (fun n => run x tk n (.stmt d) p) r := by
  refine Ev.succ ?_
  have e : ∀ n, run x tk (n + 1) (.stmt d) p = (if isW x tk p.adv [59] = true then semi x tk p.adv (here tk p) { k := 9, a := -1 } else bnd' (run x tk n (.expr d) p.adv) fun q v => semi x tk q (here tk p) { k := 9, a := hd0 v }) := fun n => by
    rw [run, if_neg (by rw [c0]; simp), if_neg (by rw [c1]; simp), if_neg (by rw [c2]; simp), if_neg (by rw [c3]; simp), if_neg (by rw [c4]; simp), if_pos c5]
  simp only [e]; exact h
theorem ev_print {d r} (c0 : isW x tk p [105, 102] = false) (c1 : isW x tk p [119, 104, 105, 108, 101] = false) (c2 : isW x tk p [118, 97, 114] = false) (c3 : isW x tk p [98, 114, 101, 97, 107] = false) (c4 : isW x tk p [99, 111, 110, 116, 105, 110, 117, 101] = false) (c5 : isW x tk p [114, 101, 116, 117, 114, 110] = false) (c6 : isW x tk p [112, 114, 105, 110, 116] = true) (h : Ev (fun n => bnd' (run x tk n (.expr d) p.adv) fun q v => semi x tk q (here tk p) { k := 10, a := hd0 v }) r) : Ev (fun n => run x tk n (.stmt d) p) r := by
  refine Ev.succ ?_
  have e : ∀ n, run x tk (n + 1) (.stmt d) p = (bnd' (run x tk n (.expr d) p.adv) fun q v => semi x tk q (here tk p) { k := 10, a := hd0 v }) := fun n => by
    rw [run, if_neg (by rw [c0]; simp), if_neg (by rw [c1]; simp), if_neg (by rw [c2]; simp), if_neg (by rw [c3]; simp), if_neg (by rw [c4]; simp), if_neg (by rw [c5]; simp), if_pos c6]
  simp only [e]; exact h
theorem ev_named {d r} (c0 : isW x tk p [105, 102] = false) (c1 : isW x tk p [119, 104, 105, 108, 101] = false) (c2 : isW x tk p [118, 97, 114] = false) (c3 : isW x tk p [98, 114, 101, 97, 107] = false) (c4 : isW x tk p [99, 111, 110, 116, 105, 110, 117, 101] = false) (c5 : isW x tk p [114, 101, 116, 117, 114, 110] = false) (c6 : isW x tk p [112, 114, 105, 110, 116] = false) (k1 : tkK tk p = 1) (h : Ev (fun n => if isW x tk p.adv [40] = true then bnd' (run x tk n (.args (here tk p) (word x tk p) d []) p.adv.adv) fun q v => semi x tk q (here tk p) { k := 11, a := hd0 v }
       else if isW x tk p.adv [91] = true then bnd' (run x tk n (.expr (d + 1)) p.adv.adv) fun q v =>
         if isW x tk q [93] = true then (if isW x tk q.adv [61] = true then bnd' (run x tk n (.expr d) q.adv.adv) fun r w => semi x tk r (here tk p) { k := 4, name := word x tk p, a := hd0 v, b := hd0 w } else er tk q.adv 3) else er tk q 3
       else if isW x tk p.adv [61] = true then bnd' (run x tk n (.expr d) p.adv.adv) fun q v => semi x tk q (here tk p) { k := 3, name := word x tk p, a := hd0 v }
       else er tk p.adv 3) r) : Ev (fun n => run x tk n (.stmt d) p) r := by
  refine Ev.succ ?_
  have e : ∀ n, run x tk (n + 1) (.stmt d) p = (if isW x tk p.adv [40] = true then bnd' (run x tk n (.args (here tk p) (word x tk p) d []) p.adv.adv) fun q v => semi x tk q (here tk p) { k := 11, a := hd0 v }
       else if isW x tk p.adv [91] = true then bnd' (run x tk n (.expr (d + 1)) p.adv.adv) fun q v =>
         if isW x tk q [93] = true then (if isW x tk q.adv [61] = true then bnd' (run x tk n (.expr d) q.adv.adv) fun r w => semi x tk r (here tk p) { k := 4, name := word x tk p, a := hd0 v, b := hd0 w } else er tk q.adv 3) else er tk q 3
       else if isW x tk p.adv [61] = true then bnd' (run x tk n (.expr d) p.adv.adv) fun q v => semi x tk q (here tk p) { k := 3, name := word x tk p, a := hd0 v }
       else er tk p.adv 3) := fun n => by
    rw [run, if_neg (by rw [c0]; simp), if_neg (by rw [c1]; simp), if_neg (by rw [c2]; simp), if_neg (by rw [c3]; simp), if_neg (by rw [c4]; simp), if_neg (by rw [c5]; simp), if_neg (by rw [c6]; simp), if_pos k1]
  simp only [e]; exact h
theorem ev_none {d r} (c0 : isW x tk p [105, 102] = false) (c1 : isW x tk p [119, 104, 105, 108, 101] = false) (c2 : isW x tk p [118, 97, 114] = false) (c3 : isW x tk p [98, 114, 101, 97, 107] = false) (c4 : isW x tk p [99, 111, 110, 116, 105, 110, 117, 101] = false) (c5 : isW x tk p [114, 101, 116, 117, 114, 110] = false) (c6 : isW x tk p [112, 114, 105, 110, 116] = false) (k1 : tkK tk p ≠ 1) (h : Ev (fun _ => er tk p 3) r) : Ev (fun n => run x tk n (.stmt d) p) r := by
  refine Ev.succ ?_
  have e : ∀ n, run x tk (n + 1) (.stmt d) p = er tk p 3 := fun n => by
    rw [run, if_neg (by rw [c0]; simp), if_neg (by rw [c1]; simp), if_neg (by rw [c2]; simp), if_neg (by rw [c3]; simp), if_neg (by rw [c4]; simp), if_neg (by rw [c5]; simp), if_neg (by rw [c6]; simp), if_neg k1]
  simp only [e]; exact h
end
def ZS : List AV := [.int .i64 0, .int .i64 0, .int .i64 0, .str [], .int .i64 0, .int .i64 0, .int .i64 0, .sl .cap0 1 [], .sl .cap0 1 []]
theorem bldS0 : bld [.int .i64 0, .int .i64 0, .int .i64 0, .str [], .int .i64 0, .int .i64 0, .int .i64 0, .sl .cap0 1 [], .sl .cap0 1 []] [] = some (eSmT .cap0 .cap0 { k := 0 }) := rfl
theorem bldS6 {a : Nat} {l : List Nat} : bld [.int .i64 0, .int .i64 0, .int .i64 0, .str [], .int .i64 0, .int .i64 0, .int .i64 0, .sl .cap0 1 [], .sl .cap0 1 []] [(0, 1, (.int .i64 6)), (5, 1, eN a), (7, 1, .sl .no 1 (l.map eN))] = some (eSmT .no .cap0 { k := 6, a := a, th := l }) := rfl
theorem bldS5 {a : Nat} {l : List Nat} : bld [.int .i64 0, .int .i64 0, .int .i64 0, .str [], .int .i64 0, .int .i64 0, .int .i64 0, .sl .cap0 1 [], .sl .cap0 1 []] [(0, 1, (.int .i64 5)), (5, 1, eN a), (7, 1, .sl .no 1 (l.map eN))] = some (eSmT .no .cap0 { k := 5, a := a, th := l }) := rfl
theorem bldS2 {s : List Nat} {n : Nat} : bld [.int .i64 0, .int .i64 0, .int .i64 0, .str [], .int .i64 0, .int .i64 0, .int .i64 0, .sl .cap0 1 [], .sl .cap0 1 []] [(0, 1, (.int .i64 2)), (3, 1, .str s), (4, 1, eN n)] = some (eSmT .cap0 .cap0 { k := 2, name := s, num := n }) := rfl
theorem bldS1 {s : List Nat} {a : Nat} : bld [.int .i64 0, .int .i64 0, .int .i64 0, .str [], .int .i64 0, .int .i64 0, .int .i64 0, .sl .cap0 1 [], .sl .cap0 1 []] [(0, 1, (.int .i64 1)), (3, 1, .str s), (5, 1, eN a)] = some (eSmT .cap0 .cap0 { k := 1, name := s, a := a }) := rfl
theorem bldS3 {s : List Nat} {a : Nat} : bld [.int .i64 0, .int .i64 0, .int .i64 0, .str [], .int .i64 0, .int .i64 0, .int .i64 0, .sl .cap0 1 [], .sl .cap0 1 []] [(0, 1, (.int .i64 3)), (3, 1, .str s), (5, 1, eN a)] = some (eSmT .cap0 .cap0 { k := 3, name := s, a := a }) := rfl
theorem bldS4 {s : List Nat} {a b : Nat} : bld [.int .i64 0, .int .i64 0, .int .i64 0, .str [], .int .i64 0, .int .i64 0, .int .i64 0, .sl .cap0 1 [], .sl .cap0 1 []] [(0, 1, (.int .i64 4)), (3, 1, .str s), (5, 1, eN a), (6, 1, eN b)] = some (eSmT .cap0 .cap0 { k := 4, name := s, a := a, b := b }) := rfl
theorem bldS9  : bld [.int .i64 0, .int .i64 0, .int .i64 0, .str [], .int .i64 0, .int .i64 0, .int .i64 0, .sl .cap0 1 [], .sl .cap0 1 []] [(0, 1, (.int .i64 9)), (5, 1, (.int .i64 (-1)))] = some (eSmT .cap0 .cap0 { k := 9, a := -1 }) := rfl
theorem bldS10 {a : Nat} : bld [.int .i64 0, .int .i64 0, .int .i64 0, .str [], .int .i64 0, .int .i64 0, .int .i64 0, .sl .cap0 1 [], .sl .cap0 1 []] [(0, 1, (.int .i64 10)), (5, 1, eN a)] = some (eSmT .cap0 .cap0 { k := 10, a := a }) := rfl
theorem bldS11 {a : Nat} : bld [.int .i64 0, .int .i64 0, .int .i64 0, .str [], .int .i64 0, .int .i64 0, .int .i64 0, .sl .cap0 1 [], .sl .cap0 1 []] [(0, 1, (.int .i64 11)), (5, 1, eN a)] = some (eSmT .cap0 .cap0 { k := 11, a := a }) := rfl
theorem nlocSmT {d t t'} {s : Sm} : notLoc d (eSmT t t' s) = true := rfl
theorem okvSmT {t t'} {s : Sm} : okv 9 (eSmT t t' s) = true := rfl
theorem udSmTa {t t'} {s : Sm} {a b c d f g h i j : AV} : upd 0 (AV.cells (eSmT t t' s)) [a, b, c, d, f, g, h, i, j] = some (AV.cells (eSmT t t' s)) := rfl
theorem udSmTT {t t' u u'} {s s' : Sm} : upd 0 (AV.cells (eSmT t t' s)) (AV.cells (eSmT u u' s')) = some (AV.cells (eSmT t t' s)) := rfl
theorem udSmT07 {t t'} {s : Sm} : upd 0 [.int .i64 7] (AV.cells (eSmT t t' s)) = some (AV.cells (eSmT t t' { s with k := 7 })) := rfl
theorem udSmT08 {t t'} {s : Sm} : upd 0 [.int .i64 8] (AV.cells (eSmT t t' s)) = some (AV.cells (eSmT t t' { s with k := 8 })) := rfl
theorem udSmT5 {t t'} {s : Sm} {a : Nat} : upd 5 [.int .i64 (a : Int)] (AV.cells (eSmT t t' s)) = some (AV.cells (eSmT t t' { s with a := (a : Int) })) := rfl
theorem udSmT8 {t t' u} {s : Sm} {l : List Nat} : upd 8 [.sl u 1 (l.map eN)] (AV.cells (eSmT t t' s)) = some (AV.cells (eSmT t u { s with el := l })) := rfl
theorem ldSmT {t t'} {s : Sm} : ld 9 true (AV.cells (eSmT t t' s)) 0 = some (eSmT t t' s) := rfl
theorem udSmT81 {t t' u} {s : Sm} {a : Nat} : upd 8 [.sl u 1 [.int .i64 (a : Int)]] (AV.cells (eSmT t t' s)) = some (AV.cells (eSmT t u { s with el := [a] })) := rfl
section
variable {x : List Nat} {tk : List Tk} {ts : Tks} {p : PT} {c w : Nat} {hp : List AO} {Q : ARes → List AO → Prop}
/-! where something is wrong already -/
theorem block_no (hc : c ≠ 0) {d : Nat} (hQ : ∀ l : List Nat, Q (.ret (.tup [eP x tk ts p c w, .sl .no 1 (l.map eN)])) hp) : callK CC 59 [eP x tk ts p c w, eN d] hp Q := by
  refine callK_intro rfl (Runs.weak (Q' := fun r hp' => r = .ret (.tup [eP x tk ts p c w, .sl .cap0 1 []]) ∧ hp' = hp) (c59 ?_) Wks.refl ?_)
  · simp only [s59]
    intro J1 J2 J3 h1 h2 h3
    simp -implicitDefEqProofs (maxSteps := 5000000) (disch := omega) only [s59_0, go_sem, Nat.reduceBEq, Nat.reduceBNe, reduceIte, reduceCtorEq, Nat.reduceLeDiff, Nat.reduceAdd, Nat.reduceEqDiff]
    refine is_no hc ?_
    simp -implicitDefEqProofs (maxSteps := 5000000) (disch := omega) only [go_sem, Nat.reduceBEq, Nat.reduceBNe, reduceIte, reduceCtorEq, Nat.reduceLeDiff, Nat.reduceAdd, Nat.reduceEqDiff]
    apply h3
    simp -implicitDefEqProofs (maxSteps := 5000000) (disch := omega) only [s59_3, go_sem, Nat.reduceBEq, Nat.reduceBNe, reduceIte, reduceCtorEq, Nat.reduceLeDiff, Nat.reduceAdd, Nat.reduceEqDiff]
    refine want_no hc ?_
    simp -implicitDefEqProofs (maxSteps := 5000000) (disch := omega) only [go_sem, Nat.reduceBEq, Nat.reduceBNe, reduceIte, reduceCtorEq, Nat.reduceLeDiff, Nat.reduceAdd, Nat.reduceEqDiff]
    apply h1
    simp -implicitDefEqProofs (maxSteps := 5000000) (disch := omega) only [s59_1, hc, go_sem, Nat.reduceBEq, Nat.reduceBNe, reduceIte, reduceCtorEq, Nat.reduceLeDiff, Nat.reduceAdd, Nat.reduceEqDiff]
    apply h2
    simp -implicitDefEqProofs (maxSteps := 5000000) (disch := omega) only [s59_2, go_sem, Nat.reduceBEq, Nat.reduceBNe, reduceIte, reduceCtorEq, Nat.reduceLeDiff, Nat.reduceAdd, Nat.reduceEqDiff]
    refine want_no hc ?_
    simp -implicitDefEqProofs (maxSteps := 5000000) (disch := omega) only [go_sem, Nat.reduceBEq, Nat.reduceBNe, reduceIte, reduceCtorEq, Nat.reduceLeDiff, Nat.reduceAdd, Nat.reduceEqDiff]
  · rintro r hp' ⟨rfl, rfl⟩
    exact ⟨_, .tup (.cons .refl (.cons (.sl (.inr rfl) .nil) .nil)), hQ []⟩
theorem branch_no (h : p.at_ < tk.length) (hc : c ≠ 0) {f d : Nat} (hd : d ≤ 65) (hQ : ∀ n, Q (.ret (.tup [eP x tk ts p c w, eN n])) hp) : callK CC 88 [eP x tk ts p c w, eN f, eN d] hp Q := by
  refine callK_intro rfl (c88 ?_)
  simp only [s88]
  intro J1 h1
  simp -implicitDefEqProofs (maxSteps := 5000000) (disch := omega) only [s88_0, go_sem, Nat.reduceBEq, Nat.reduceBNe, reduceIte, reduceCtorEq, Nat.reduceLeDiff, Nat.reduceAdd, Nat.reduceEqDiff]
  refine expr_no h hc fun n => ?_
  simp -implicitDefEqProofs (maxSteps := 5000000) (disch := omega) only [go_sem, Nat.reduceBEq, Nat.reduceBNe, reduceIte, reduceCtorEq, Nat.reduceLeDiff, Nat.reduceAdd, Nat.reduceEqDiff]
  refine block_no hc fun l => ?_
  simp -implicitDefEqProofs (maxSteps := 5000000) (disch := omega) only [bldS5, nlocSmT, okvSmT, udSmTa, go_sem, Nat.reduceBEq, Nat.reduceBNe, reduceIte, reduceCtorEq, Nat.reduceLeDiff, Nat.reduceAdd, Nat.reduceEqDiff]
  refine is_no hc ?_
  simp -implicitDefEqProofs (maxSteps := 5000000) (disch := omega) only [go_sem, Nat.reduceBEq, Nat.reduceBNe, reduceIte, reduceCtorEq, Nat.reduceLeDiff, Nat.reduceAdd, Nat.reduceEqDiff]
  apply h1
  simp -implicitDefEqProofs (maxSteps := 5000000) (disch := omega) only [s88_1, ldSmT, go_sem, Nat.reduceBEq, Nat.reduceBNe, reduceIte, reduceCtorEq, Nat.reduceLeDiff, Nat.reduceAdd, Nat.reduceEqDiff]
  refine add_no hc ?_
  simp -implicitDefEqProofs (maxSteps := 5000000) (disch := omega) only [go_sem, Nat.reduceBEq, Nat.reduceBNe, reduceIte, reduceCtorEq, Nat.reduceLeDiff, Nat.reduceAdd, Nat.reduceEqDiff]
  exact hQ 0
end
/-- What follows a list of statements. -/
def PB (x : List Nat) (tk : List Tk) (hp : List AO) (ts : Tks) (w : Nat) (Q : ARes → List AO → Prop) : Res → Prop
  | .ok q v => ∀ hp' ts', Vl x tk hp' ts' q → Step hp ts hp' ts' → Q (.ret (.tup [eP x tk ts' q 0 w, .sl .no 1 (v.map eN)])) hp'
  | .er c e => ∀ hp' ts' q (l : List Nat), c ≠ 0 → q.at_ < tk.length → Step hp ts hp' ts' → Q (.ret (.tup [eP x tk ts' q c e, .sl .no 1 (l.map eN)])) hp'
structure SpS (x : List Nat) (tk : List Tk) (m : Nat) : Prop where
  stmt : ∀ {p hp ts w d} {Q : ARes → List AO → Prop}, d ≤ 64 → tk.length - p.at_ < m → Vl x tk hp ts p → (∀ r, Ev (fun n => run x tk n (.stmt d) p) r → PE x tk hp ts w Q r) → callK CC 75 [eP x tk ts p 0 w, eN d] hp Q
  block : ∀ {p hp ts w d} {Q : ARes → List AO → Prop}, d ≤ 65 → tk.length - p.at_ < m → Vl x tk hp ts p → (∀ r, Ev (fun n => run x tk n (.block d) p) r → PB x tk hp ts w Q r) → callK CC 59 [eP x tk ts p 0 w, eN d] hp Q
  branch : ∀ {p hp ts w d f} {Q : ARes → List AO → Prop}, d ≤ 64 → tk.length - p.at_ < m → Vl x tk hp ts p → (∀ r, Ev (fun n => run x tk n (.branch f d) p) r → PE x tk hp ts w Q r) → callK CC 88 [eP x tk ts p 0 w, eN f, eN d] hp Q
section
variable {x : List Nat} {tk : List Tk} {ts : Tks} {p : PT} {w : Nat} {hp : List AO} {Q : ARes → List AO → Prop} {m : Nat}
/-- A statement is put. -/
theorem add_at (H : TokOk x tk) {hp0 : List AO} {ts0 : Tks} (V : Vl x tk hp ts p) (h1 : 1 ≤ p.at_) (S0 : Step hp0 ts0 hp ts) {f : Nat} {t t' : Tok} {e : Sm} (hq : ∀ r, Ev (fun _ => addS tk p f e) r → PE x tk hp0 ts0 w Q r) : callK CC 90 [eP x tk ts p 0 w, eN f, eSmT t t' e] hp Q := by
  refine add_ok H V.at_ h1 V.sm V.own (fun hlt hp' ts' p' e' ho hs => ?_) (fun hge => ?_)
  · have ha : addS tk p f e = some (.ok p' [p.sm.length]) := by unfold addS; rw [if_neg (by omega), e']
    exact hq (.ok p' [p.sm.length]) (by rw [ha]; exact Ev.const) hp' ts' (V.fwd (addS_fwd ha).1 ho) (S0.trans hs)
  · have ha : addS tk p f e = er tk p 5 := by unfold addS; rw [if_pos hge]
    exact hq (.er 5 (here tk p)) (by rw [ha]; exact Ev.const) hp ts p 0 (by omega) V.at_ S0
theorem block_step (H : TokOk x tk) (S : SpS x tk m) {d : Nat} (hd : d ≤ 65) (hm : tk.length - p.at_ < m + 1) (V : Vl x tk hp ts p) (h : ∀ r, Ev (fun n => run x tk n (.block d) p) r → PB x tk hp ts w Q r) : callK CC 59 [eP x tk ts p 0 w, eN d] hp Q := by
  have hsh := H.short
  have hat := V.at_
  refine callK_intro rfl (Runs.weak (Q' := fun r hp' => (∃ c e q ts' t, ∃ l : List Nat, r = .ret (.tup [eP x tk ts' q c e, .sl t 1 (l.map eN)]) ∧ Q (.ret (.tup [eP x tk ts' q c e, .sl .no 1 (l.map eN)])) hp')) (c59 ?_) Wks.refl ?_)
  · simp only [s59]
    intro J1 J2 J3 h1 h2 h3
    have bad : ∀ c e hp' ts' q t (l : List Nat), c ≠ 0 → (∀ l : List Nat, Q (.ret (.tup [eP x tk ts' q c e, .sl .no 1 (l.map eN)])) hp') → J1 (eN d) (.sl t 1 (l.map eN)) (AV.cells (eP x tk ts' q c e)) [.str [], .sl .cap0 3 [], .int .i64 0, .sl .cap0 9 [], .sl .cap0 9 [], .sl .cap0 6 [], .int .i64 0, .int .i64 0] hp' := fun c e hp' ts' q t l hc hQ => by
      apply h1
      simp -implicitDefEqProofs (maxSteps := 5000000) (disch := omega) only [s59_1, hc, go_sem, Nat.reduceBEq, Nat.reduceBNe, reduceIte, reduceCtorEq, Nat.reduceLeDiff, Nat.reduceAdd, Nat.reduceEqDiff]
      apply h2
      simp -implicitDefEqProofs (maxSteps := 5000000) (disch := omega) only [s59_2, go_sem, Nat.reduceBEq, Nat.reduceBNe, reduceIte, reduceCtorEq, Nat.reduceLeDiff, Nat.reduceAdd, Nat.reduceEqDiff]
      refine want_no hc ?_
      simp -implicitDefEqProofs (maxSteps := 5000000) (disch := omega) only [go_sem, Nat.reduceBEq, Nat.reduceBNe, reduceIte, reduceCtorEq, Nat.reduceLeDiff, Nat.reduceAdd, Nat.reduceEqDiff]
      exact ⟨c, e, q, ts', t, l, rfl, hQ l⟩
    have loop : ∀ (k : Nat) (q : PT) (acc : List Nat) (t : Tok) hp' ts', d ≤ 64 → tk.length - q.at_ = k → p.adv.at_ ≤ q.at_ → Vl x tk hp' ts' q → Step hp ts hp' ts' → Gr hp' t acc.length → Apart t ts' → (∀ i, t = .own i → hp.length ≤ i) → acc.length ≤ q.at_ → (∀ r, Ev (fun n => run x tk n (.stmts d acc) q) r → PB x tk hp ts w Q r) →
        J1 (eN d) (.sl t 1 (acc.map eN)) (AV.cells (eP x tk ts' q 0 w)) [.str [], .sl .cap0 3 [], .int .i64 0, .sl .cap0 9 [], .sl .cap0 9 [], .sl .cap0 6 [], .int .i64 0, .int .i64 0] hp' := by
      intro k
      induction k using Nat.strongRecOn with
      | _ k ih =>
        intro q acc t hp' ts' hd' hk hpq V1 S1 hg hap hfr hacc hq
        have hat1 := V1.at_
        have hpq' : p.at_ < q.at_ := by simp [PT.adv] at hpq; omega
        apply h1
        simp -implicitDefEqProofs (maxSteps := 5000000) (disch := omega) only [s59_1, go_sem, Nat.reduceBEq, Nat.reduceBNe, reduceIte, reduceCtorEq, Nat.reduceLeDiff, Nat.reduceAdd, Nat.reduceEqDiff]
        refine is_ok H V1.at_ ?_
        cases hc : isW x tk q [125] with
        | true =>
          simp -implicitDefEqProofs (maxSteps := 5000000) (disch := omega) only [go_sem, Nat.reduceBEq, Nat.reduceBNe, reduceIte, reduceCtorEq, Nat.reduceLeDiff, Nat.reduceAdd, Nat.reduceEqDiff]
          apply h2
          simp -implicitDefEqProofs (maxSteps := 5000000) (disch := omega) only [s59_2, go_sem, Nat.reduceBEq, Nat.reduceBNe, reduceIte, reduceCtorEq, Nat.reduceLeDiff, Nat.reduceAdd, Nat.reduceEqDiff]
          refine want_ok H V1.at_ (fun _ => ?_) (fun e => by rw [hc] at e; cases e)
          simp -implicitDefEqProofs (maxSteps := 5000000) (disch := omega) only [go_sem, Nat.reduceBEq, Nat.reduceBNe, reduceIte, reduceCtorEq, Nat.reduceLeDiff, Nat.reduceAdd, Nat.reduceEqDiff]
          exact ⟨0, w, q.adv, ts', t, acc, rfl, hq (.ok q.adv acc) (Ev.succ (by simp only [run, hc, if_true]; exact Ev.const)) hp' ts' (V1.adv H (isW_k hc)) S1⟩
        | false =>
          simp -implicitDefEqProofs (maxSteps := 5000000) (disch := omega) only [go_sem, Nat.reduceBEq, Nat.reduceBNe, reduceIte, reduceCtorEq, Nat.reduceLeDiff, Nat.reduceAdd, Nat.reduceEqDiff]
          refine S.stmt hd' (by omega) V1 fun r hr => ?_
          cases r with
          | ok q2 v =>
            intro hp2 ts2 V3 S3
            have hf1 := ev_fwd H hr
            have hat3 := V3.at_
            obtain ⟨hg2, hap2⟩ := S3.apart hg hap
            obtain ⟨hp3, ha, hlen, hg3, hsm⟩ := app_gr (f := eN) (e := 1) (t2 := .no) (y := hd0 v) hg2 (by omega)
            have V4 : Vl x tk hp3 ts2 q2 := ⟨V3.at_, V3.own.same hsm (fun u hu => by rw [List.mem_singleton.1 hu]; exact hap2), V3.ex, V3.sm, V3.fn⟩
            simp -implicitDefEqProofs (maxSteps := 5000000) (disch := omega) only [ha, go_sem, Nat.reduceBEq, Nat.reduceBNe, reduceIte, reduceCtorEq, Nat.reduceLeDiff, Nat.reduceAdd, Nat.reduceEqDiff]
            refine ih (tk.length - q2.at_) ?_ q2 _ _ hp3 ts2 hd' rfl ?_ V4 ((S1.trans S3).grow hsm hfr) hg3 ?_ ?_ ?_ fun r hr2 => ?_
            · have := hf1.2; simp only [NT.st] at this; omega
            · have := hf1.1.at_; omega
            · exact V3.own.fresh
            · intro i e; cases e; have := (S1.trans S3).same.1; omega
            · have := hf1.2; simp only [NT.st] at this; simp; omega
            · exact hq r (Ev.succ (by simp only [run, hc, Bool.false_eq_true, if_false]; exact hr.bind hr2))
          | er c e =>
            intro hp2 ts2 q2 n hcc hq2 S3
            have hqq' := hq (.er c e) (Ev.succ (by simp only [run, hc, Bool.false_eq_true, if_false]; exact hr.bindE))
            obtain ⟨hg2, hap2⟩ := S3.apart hg hap
            obtain ⟨hp3, ha, hlen, hg3, hsm⟩ := app_gr (f := eN) (e := 1) (t2 := .no) (y := n) hg2 (by omega)
            simp -implicitDefEqProofs (maxSteps := 5000000) (disch := omega) only [ha, go_sem, Nat.reduceBEq, Nat.reduceBNe, reduceIte, reduceCtorEq, Nat.reduceLeDiff, Nat.reduceAdd, Nat.reduceEqDiff]
            exact bad c e hp3 ts2 q2 _ _ hcc fun l => hqq' hp3 ts2 q2 l hcc hq2 ((S1.trans S3).grow hsm hfr)
    simp -implicitDefEqProofs (maxSteps := 5000000) (disch := omega) only [s59_0, go_sem, Nat.reduceBEq, Nat.reduceBNe, reduceIte, reduceCtorEq, Nat.reduceLeDiff, Nat.reduceAdd, Nat.reduceEqDiff]
    refine is_ok H V.at_ ?_
    cases hc : isW x tk p [123] with
    | true =>
      simp -implicitDefEqProofs (maxSteps := 5000000) (disch := omega) only [go_sem, Nat.reduceBEq, Nat.reduceBNe, reduceIte, reduceCtorEq, Nat.reduceLeDiff, Nat.reduceAdd, Nat.reduceEqDiff]
      refine deep_ok V.at_ (fun hd' => ?_) fun hd' => ?_
      · simp -implicitDefEqProofs (maxSteps := 5000000) (disch := omega) only [go_sem, Nat.reduceBEq, Nat.reduceBNe, reduceIte, reduceCtorEq, Nat.reduceLeDiff, Nat.reduceAdd, Nat.reduceEqDiff]
        apply h3
        simp -implicitDefEqProofs (maxSteps := 5000000) (disch := omega) only [s59_3, go_sem, Nat.reduceBEq, Nat.reduceBNe, reduceIte, reduceCtorEq, Nat.reduceLeDiff, Nat.reduceAdd, Nat.reduceEqDiff]
        refine want_ok H V.at_ (fun _ => ?_) (fun e => by rw [hc] at e; cases e)
        simp -implicitDefEqProofs (maxSteps := 5000000) (disch := omega) only [go_sem, Nat.reduceBEq, Nat.reduceBNe, reduceIte, reduceCtorEq, Nat.reduceLeDiff, Nat.reduceAdd, Nat.reduceEqDiff]
        refine loop _ p.adv [] .cap0 hp ts (by omega) rfl (Nat.le_refl _) (V.adv H (isW_k hc)) Step.refl (.inl ⟨rfl, rfl⟩) Apart.cap0 (fun _ e => by cases e) (Nat.zero_le _) fun r hr => ?_
        exact h r (Ev.succ (by simp only [run, hc, if_true, hd', if_false]; exact hr))
      · simp -implicitDefEqProofs (maxSteps := 5000000) (disch := omega) only [go_sem, Nat.reduceBEq, Nat.reduceBNe, reduceIte, reduceCtorEq, Nat.reduceLeDiff, Nat.reduceAdd, Nat.reduceEqDiff]
        apply h3
        simp -implicitDefEqProofs (maxSteps := 5000000) (disch := omega) only [s59_3, go_sem, Nat.reduceBEq, Nat.reduceBNe, reduceIte, reduceCtorEq, Nat.reduceLeDiff, Nat.reduceAdd, Nat.reduceEqDiff]
        refine want_no (by omega) ?_
        simp -implicitDefEqProofs (maxSteps := 5000000) (disch := omega) only [go_sem, Nat.reduceBEq, Nat.reduceBNe, reduceIte, reduceCtorEq, Nat.reduceLeDiff, Nat.reduceAdd, Nat.reduceEqDiff]
        exact bad 4 (here tk p) hp ts p .cap0 [] (by omega) fun l => h (.er 4 (here tk p)) (Ev.succ (by simp only [run, hc, if_true, hd']; exact Ev.const)) hp ts p l (by omega) V.at_ Step.refl
    | false =>
      simp -implicitDefEqProofs (maxSteps := 5000000) (disch := omega) only [go_sem, Nat.reduceBEq, Nat.reduceBNe, reduceIte, reduceCtorEq, Nat.reduceLeDiff, Nat.reduceAdd, Nat.reduceEqDiff]
      apply h3
      simp -implicitDefEqProofs (maxSteps := 5000000) (disch := omega) only [s59_3, go_sem, Nat.reduceBEq, Nat.reduceBNe, reduceIte, reduceCtorEq, Nat.reduceLeDiff, Nat.reduceAdd, Nat.reduceEqDiff]
      refine want_ok H V.at_ (fun e => by rw [hc] at e; cases e) (fun _ => ?_)
      simp -implicitDefEqProofs (maxSteps := 5000000) (disch := omega) only [go_sem, Nat.reduceBEq, Nat.reduceBNe, reduceIte, reduceCtorEq, Nat.reduceLeDiff, Nat.reduceAdd, Nat.reduceEqDiff]
      exact bad 3 (here tk p) hp ts p .cap0 [] (by omega) fun l => h (.er 3 (here tk p)) (Ev.succ (by simp only [run, hc, Bool.false_eq_true, if_false]; exact Ev.const)) hp ts p l (by omega) V.at_ Step.refl
  · rintro r hp' ⟨c, e, q, ts', t, l, rfl, h⟩
    exact ⟨_, .tup (.cons .refl (.cons (.sl (.inr rfl) Wks.refl) .nil)), h⟩
theorem branch_step (H : TokOk x tk) (S : SpS x tk m) {f d : Nat} (hd : d ≤ 64) (hm : tk.length - p.at_ < m + 1) (V : Vl x tk hp ts p) (h : ∀ r, Ev (fun n => run x tk n (.branch f d) p) r → PE x tk hp ts w Q r) : callK CC 88 [eP x tk ts p 0 w, eN f, eN d] hp Q := by
  have hsh := H.short
  have hat := V.at_
  refine callK_intro rfl (c88 ?_)
  simp only [s88]
  intro J1 h1
  have fin : ∀ {hp1 ts1 q t t'} {e : Sm}, Vl x tk hp1 ts1 q → 1 ≤ q.at_ → Step hp ts hp1 ts1 → (∀ r, Ev (fun _ => addS tk q f e) r → PE x tk hp ts w Q r) → J1 (eN f) [.str [], .sl .cap0 3 [], .int .i64 0, .sl .cap0 9 [], .sl .cap0 9 [], .sl .cap0 6 [], .int .i64 0, .int .i64 0] (AV.cells (eP x tk ts1 q 0 w)) (AV.cells (eSmT t t' e)) hp1 := fun {hp1 ts1 q t t' e} V1 h1' S1 hq => by
    apply h1
    simp -implicitDefEqProofs (maxSteps := 5000000) (disch := omega) only [s88_1, ldSmT, go_sem, Nat.reduceBEq, Nat.reduceBNe, reduceIte, reduceCtorEq, Nat.reduceLeDiff, Nat.reduceAdd, Nat.reduceEqDiff]
    refine add_at H V1 h1' S1 fun r hr => ?_
    have := hq r hr
    cases r with
    | ok q v => intro hp' ts' V' S'; simp -implicitDefEqProofs (maxSteps := 5000000) (disch := omega) only [go_sem, Nat.reduceBEq, Nat.reduceBNe, reduceIte, reduceCtorEq, Nat.reduceLeDiff, Nat.reduceAdd, Nat.reduceEqDiff]; exact this hp' ts' V' S'
    | er c e => intro hp' ts' q n hc hq S'; simp -implicitDefEqProofs (maxSteps := 5000000) (disch := omega) only [go_sem, Nat.reduceBEq, Nat.reduceBNe, reduceIte, reduceCtorEq, Nat.reduceLeDiff, Nat.reduceAdd, Nat.reduceEqDiff]; exact this hp' ts' q n hc hq S'
  have bad : ∀ {hp1 ts1 q t t' c e'} {e : Sm}, c ≠ 0 → Q (.ret (.tup [eP x tk ts1 q c e', eN 0])) hp1 → J1 (eN f) [.str [], .sl .cap0 3 [], .int .i64 0, .sl .cap0 9 [], .sl .cap0 9 [], .sl .cap0 6 [], .int .i64 0, .int .i64 0] (AV.cells (eP x tk ts1 q c e')) (AV.cells (eSmT t t' e)) hp1 := fun {hp1 ts1 q t t' c e' e} hc hQ => by
    apply h1
    simp -implicitDefEqProofs (maxSteps := 5000000) (disch := omega) only [s88_1, ldSmT, go_sem, Nat.reduceBEq, Nat.reduceBNe, reduceIte, reduceCtorEq, Nat.reduceLeDiff, Nat.reduceAdd, Nat.reduceEqDiff]
    refine add_no hc ?_
    simp -implicitDefEqProofs (maxSteps := 5000000) (disch := omega) only [go_sem, Nat.reduceBEq, Nat.reduceBNe, reduceIte, reduceCtorEq, Nat.reduceLeDiff, Nat.reduceAdd, Nat.reduceEqDiff]
    exact hQ
  simp -implicitDefEqProofs (maxSteps := 5000000) (disch := omega) only [s88_0, go_sem, Nat.reduceBEq, Nat.reduceBNe, reduceIte, reduceCtorEq, Nat.reduceLeDiff, Nat.reduceAdd, Nat.reduceEqDiff]
  refine expr_ok H (by omega) V fun r hr => ?_
  cases r with
  | er c e =>
    intro hp' ts' q n hc hq S'
    have h' := h (.er c e) (Ev.succ (by simp only [run]; exact hr.bindE)) hp' ts' q 0 hc hq S'
    simp -implicitDefEqProofs (maxSteps := 5000000) (disch := omega) only [go_sem, Nat.reduceBEq, Nat.reduceBNe, reduceIte, reduceCtorEq, Nat.reduceLeDiff, Nat.reduceAdd, Nat.reduceEqDiff]
    refine block_no hc fun l => ?_
    simp -implicitDefEqProofs (maxSteps := 5000000) (disch := omega) only [bldS5, nlocSmT, okvSmT, udSmTa, go_sem, Nat.reduceBEq, Nat.reduceBNe, reduceIte, reduceCtorEq, Nat.reduceLeDiff, Nat.reduceAdd, Nat.reduceEqDiff]
    refine is_no hc ?_
    simp -implicitDefEqProofs (maxSteps := 5000000) (disch := omega) only [go_sem, Nat.reduceBEq, Nat.reduceBNe, reduceIte, reduceCtorEq, Nat.reduceLeDiff, Nat.reduceAdd, Nat.reduceEqDiff]
    exact bad hc h'
  | ok q v =>
    intro hp1 ts1 V1 S1
    have hf1 := ev_fwd H hr
    have hl1 := hf1.2
    simp only [NT.st] at hl1
    have hat1 := V1.at_
    simp -implicitDefEqProofs (maxSteps := 5000000) (disch := omega) only [go_sem, Nat.reduceBEq, Nat.reduceBNe, reduceIte, reduceCtorEq, Nat.reduceLeDiff, Nat.reduceAdd, Nat.reduceEqDiff]
    refine S.block (d := d + 1) (by omega) (by omega) V1 fun r hr2 => ?_
    cases r with
    | er c e =>
      intro hp' ts' q2 l hc hq S2
      have h' := h (.er c e) (Ev.succ (by simp only [run]; exact hr.bind hr2.bindE)) hp' ts' q2 0 hc hq (S1.trans S2)
      simp -implicitDefEqProofs (maxSteps := 5000000) (disch := omega) only [bldS5, nlocSmT, okvSmT, udSmTa, go_sem, Nat.reduceBEq, Nat.reduceBNe, reduceIte, reduceCtorEq, Nat.reduceLeDiff, Nat.reduceAdd, Nat.reduceEqDiff]
      refine is_no hc ?_
      simp -implicitDefEqProofs (maxSteps := 5000000) (disch := omega) only [go_sem, Nat.reduceBEq, Nat.reduceBNe, reduceIte, reduceCtorEq, Nat.reduceLeDiff, Nat.reduceAdd, Nat.reduceEqDiff]
      exact bad hc h'
    | ok q2 th =>
      intro hp2 ts2 V2 S2
      have hf2 := ev_fwd H hr2
      have hl2 := hf2.2
      simp only [NT.st] at hl2
      have hat2 := V2.at_
      have S12 := S1.trans S2
      have hx : ∀ r, Ev (fun n => if isW x tk q2 [101, 108, 115, 101] = true then
          (if isW x tk q2.adv [105, 102] = true then
            (if 64 < d + 1 then er tk q2.adv 4 else bnd' (run x tk n (.branch (here tk q2.adv) (d + 1)) q2.adv.adv) fun t w => addS tk t f { k := 5, a := hd0 v, th := th, el := [hd0 w] })
          else bnd' (run x tk n (.block (d + 1)) q2.adv) fun t w => addS tk t f { k := 5, a := hd0 v, th := th, el := w })
        else addS tk q2 f { k := 5, a := hd0 v, th := th }) r → PE x tk hp ts w Q r := fun r hr3 => h r (Ev.succ (by simp only [run]; exact hr.bind (hr2.bind hr3)))
      simp -implicitDefEqProofs (maxSteps := 5000000) (disch := omega) only [bldS5, nlocSmT, okvSmT, udSmTa, go_sem, Nat.reduceBEq, Nat.reduceBNe, reduceIte, reduceCtorEq, Nat.reduceLeDiff, Nat.reduceAdd, Nat.reduceEqDiff]
      refine is_ok H V2.at_ ?_
      cases he : isW x tk q2 [101, 108, 115, 101] with
      | false =>
        simp -implicitDefEqProofs (maxSteps := 5000000) (disch := omega) only [go_sem, Nat.reduceBEq, Nat.reduceBNe, reduceIte, reduceCtorEq, Nat.reduceLeDiff, Nat.reduceAdd, Nat.reduceEqDiff]
        refine fin V2 (by omega) S12 fun r hr3 => hx r ?_
        simp only [he, Bool.false_eq_true, if_false]; exact hr3
      | true =>
        have V3 := V2.adv H (isW_k he)
        have hat3 := V3.at_
        simp -implicitDefEqProofs (maxSteps := 5000000) (disch := omega) only [go_sem, Nat.reduceBEq, Nat.reduceBNe, reduceIte, reduceCtorEq, Nat.reduceLeDiff, Nat.reduceAdd, Nat.reduceEqDiff]
        refine want_ok H V2.at_ (fun _ => ?_) (fun e => by rw [he] at e; cases e)
        simp -implicitDefEqProofs (maxSteps := 5000000) (disch := omega) only [go_sem, Nat.reduceBEq, Nat.reduceBNe, reduceIte, reduceCtorEq, Nat.reduceLeDiff, Nat.reduceAdd, Nat.reduceEqDiff]
        refine is_ok (p := q2.adv) H V3.at_ ?_
        cases hi : isW x tk q2.adv [105, 102] with
        | true =>
          have V4 := V3.adv H (isW_k hi)
          have hat4 := V4.at_
          have e3 : q2.adv.at_ = q2.at_ + 1 := rfl
          have e4 : q2.adv.adv.at_ = q2.at_ + 2 := rfl
          simp -implicitDefEqProofs (maxSteps := 5000000) (disch := omega) only [go_sem, Nat.reduceBEq, Nat.reduceBNe, reduceIte, reduceCtorEq, Nat.reduceLeDiff, Nat.reduceAdd, Nat.reduceEqDiff]
          refine deep_ok (p := q2.adv) V3.at_ (fun hd' => ?_) fun hd' => ?_
          · simp -implicitDefEqProofs (maxSteps := 5000000) (disch := omega) only [go_sem, Nat.reduceBEq, Nat.reduceBNe, reduceIte, reduceCtorEq, Nat.reduceLeDiff, Nat.reduceAdd, Nat.reduceEqDiff]
            refine here_ok (p := q2.adv) V3.at_ ?_
            simp -implicitDefEqProofs (maxSteps := 5000000) (disch := omega) only [go_sem, Nat.reduceBEq, Nat.reduceBNe, reduceIte, reduceCtorEq, Nat.reduceLeDiff, Nat.reduceAdd, Nat.reduceEqDiff]
            refine want_ok (p := q2.adv) H V3.at_ (fun _ => ?_) (fun e => by rw [hi] at e; cases e)
            simp -implicitDefEqProofs (maxSteps := 5000000) (disch := omega) only [go_sem, Nat.reduceBEq, Nat.reduceBNe, reduceIte, reduceCtorEq, Nat.reduceLeDiff, Nat.reduceAdd, Nat.reduceEqDiff]
            refine S.branch (p := q2.adv.adv) (d := d + 1) (by omega) (by omega) V4 fun r hr4 => ?_
            cases r with
            | ok q4 u =>
              intro hp4 ts4 V5 S5
              have hf4 := ev_fwd H hr4
              have hl4 := hf4.1.at_
              simp -implicitDefEqProofs (maxSteps := 5000000) (disch := omega) only [udSmT81, go_sem, Nat.reduceBEq, Nat.reduceBNe, reduceIte, reduceCtorEq, Nat.reduceLeDiff, Nat.reduceAdd, Nat.reduceEqDiff]
              refine fin V5 (by omega) (S12.trans S5) fun r hr5 => hx r ?_
              simp only [he, hi, if_true, hd', if_false]; exact hr4.bind hr5
            | er c e =>
              intro hp4 ts4 q4 n hc hq S5
              simp -implicitDefEqProofs (maxSteps := 5000000) (disch := omega) only [udSmT81, go_sem, Nat.reduceBEq, Nat.reduceBNe, reduceIte, reduceCtorEq, Nat.reduceLeDiff, Nat.reduceAdd, Nat.reduceEqDiff]
              exact bad hc (hx (.er c e) (by simp only [he, hi, if_true, hd', if_false]; exact hr4.bindE) hp4 ts4 q4 0 hc hq (S12.trans S5))
          · have h' := hx (.er 4 (here tk q2.adv)) (by simp only [he, hi, if_true, hd']; exact Ev.const) hp2 ts2 q2.adv 0 (by omega) V3.at_ S12
            simp -implicitDefEqProofs (maxSteps := 5000000) (disch := omega) only [go_sem, Nat.reduceBEq, Nat.reduceBNe, reduceIte, reduceCtorEq, Nat.reduceLeDiff, Nat.reduceAdd, Nat.reduceEqDiff]
            refine here_ok (p := q2.adv) V3.at_ ?_
            simp -implicitDefEqProofs (maxSteps := 5000000) (disch := omega) only [go_sem, Nat.reduceBEq, Nat.reduceBNe, reduceIte, reduceCtorEq, Nat.reduceLeDiff, Nat.reduceAdd, Nat.reduceEqDiff]
            refine want_no (p := q2.adv) (by omega) ?_
            simp -implicitDefEqProofs (maxSteps := 5000000) (disch := omega) only [go_sem, Nat.reduceBEq, Nat.reduceBNe, reduceIte, reduceCtorEq, Nat.reduceLeDiff, Nat.reduceAdd, Nat.reduceEqDiff]
            refine branch_no (p := q2.adv) (d := d + 1) V3.at_ (by omega) (by omega) fun n => ?_
            simp -implicitDefEqProofs (maxSteps := 5000000) (disch := omega) only [udSmT81, go_sem, Nat.reduceBEq, Nat.reduceBNe, reduceIte, reduceCtorEq, Nat.reduceLeDiff, Nat.reduceAdd, Nat.reduceEqDiff]
            exact bad (by omega) h'
        | false =>
          have e3 : q2.adv.at_ = q2.at_ + 1 := rfl
          simp -implicitDefEqProofs (maxSteps := 5000000) (disch := omega) only [go_sem, Nat.reduceBEq, Nat.reduceBNe, reduceIte, reduceCtorEq, Nat.reduceLeDiff, Nat.reduceAdd, Nat.reduceEqDiff]
          refine S.block (p := q2.adv) (d := d + 1) (by omega) (by omega) V3 fun r hr4 => ?_
          cases r with
          | ok q4 u =>
            intro hp4 ts4 V5 S5
            have hf4 := ev_fwd H hr4
            have hl4 := hf4.1.at_
            simp -implicitDefEqProofs (maxSteps := 5000000) (disch := omega) only [udSmT8, go_sem, Nat.reduceBEq, Nat.reduceBNe, reduceIte, reduceCtorEq, Nat.reduceLeDiff, Nat.reduceAdd, Nat.reduceEqDiff]
            refine fin V5 (by omega) (S12.trans S5) fun r hr5 => hx r ?_
            simp only [he, hi, if_true, Bool.false_eq_true, if_false]; exact hr4.bind hr5
          | er c e =>
            intro hp4 ts4 q4 l hc hq S5
            simp -implicitDefEqProofs (maxSteps := 5000000) (disch := omega) only [udSmT8, go_sem, Nat.reduceBEq, Nat.reduceBNe, reduceIte, reduceCtorEq, Nat.reduceLeDiff, Nat.reduceAdd, Nat.reduceEqDiff]
            exact bad hc (hx (.er c e) (by simp only [he, hi, if_true, Bool.false_eq_true, if_false]; exact hr4.bindE) hp4 ts4 q4 0 hc hq (S12.trans S5))
end
end Go.Proofs.Ytnldohnfdeineaa.Abs
/- The document's parser: a statement. -/
namespace Go.Proofs.Ytnldohnfdeineaa.Abs
open Go
set_option maxRecDepth 100000

section
variable {x : List Nat} {tk : List Tk} {ts : Tks} {p : PT} {w : Nat} {hp : List AO} {Q : ARes → List AO → Prop} {m : Nat}
theorem bool_or (b : Bool) : b = true ∨ b = false := by cases b <;> simp
theorem stmt_step (H : TokOk x tk) (S : SpS x tk m) {d : Nat} (hd : d ≤ 64) (hm : tk.length - p.at_ < m + 1) (V : Vl x tk hp ts p) (h : ∀ r, Ev (fun n => run x tk n (.stmt d) p) r → PE x tk hp ts w Q r) : callK CC 75 [eP x tk ts p 0 w, eN d] hp Q := by
  have hsh := H.short
  have hat := V.at_
  have ea : p.adv.at_ = p.at_ + 1 := rfl
  refine callK_intro rfl (c75 ?_)
  simp only [s75]
  intro J1 h1
  have bad : ∀ {hp1 ts1 q t t' c e' f} {e : Sm}, c ≠ 0 → Q (.ret (.tup [eP x tk ts1 q c e', eN 0])) hp1 → J1 (eN f) (AV.cells (eP x tk ts1 q c e')) [.str [], .sl .cap0 3 [], .int .i64 0, .sl .cap0 9 [], .sl .cap0 9 [], .sl .cap0 6 [], .int .i64 0, .int .i64 0] (AV.cells (eSmT t t' e)) hp1 := fun {hp1 ts1 q t t' c e' f e} hc hQ => by
    apply h1
    simp -implicitDefEqProofs (maxSteps := 5000000) (disch := omega) only [s75_1, ldSmT, go_sem, Nat.reduceBEq, Nat.reduceBNe, reduceIte, reduceCtorEq, Nat.reduceLeDiff, Nat.reduceAdd, Nat.reduceEqDiff]
    refine want_no hc ?_
    simp -implicitDefEqProofs (maxSteps := 5000000) (disch := omega) only [go_sem, Nat.reduceBEq, Nat.reduceBNe, reduceIte, reduceCtorEq, Nat.reduceLeDiff, Nat.reduceAdd, Nat.reduceEqDiff]
    refine add_no hc ?_
    simp -implicitDefEqProofs (maxSteps := 5000000) (disch := omega) only [go_sem, Nat.reduceBEq, Nat.reduceBNe, reduceIte, reduceCtorEq, Nat.reduceLeDiff, Nat.reduceAdd, Nat.reduceEqDiff]
    exact hQ
  have fin : ∀ {hp1 ts1 q t t' f} {e : Sm}, Vl x tk hp1 ts1 q → Step hp ts hp1 ts1 → (∀ r, Ev (fun _ => semi x tk q f e) r → PE x tk hp ts w Q r) → J1 (eN f) (AV.cells (eP x tk ts1 q 0 w)) [.str [], .sl .cap0 3 [], .int .i64 0, .sl .cap0 9 [], .sl .cap0 9 [], .sl .cap0 6 [], .int .i64 0, .int .i64 0] (AV.cells (eSmT t t' e)) hp1 := fun {hp1 ts1 q t t' f e} V1 S1 hq => by
    apply h1
    simp -implicitDefEqProofs (maxSteps := 5000000) (disch := omega) only [s75_1, ldSmT, go_sem, Nat.reduceBEq, Nat.reduceBNe, reduceIte, reduceCtorEq, Nat.reduceLeDiff, Nat.reduceAdd, Nat.reduceEqDiff]
    refine want_ok H V1.at_ (fun hw => ?_) (fun hw => ?_)
    · simp -implicitDefEqProofs (maxSteps := 5000000) (disch := omega) only [go_sem, Nat.reduceBEq, Nat.reduceBNe, reduceIte, reduceCtorEq, Nat.reduceLeDiff, Nat.reduceAdd, Nat.reduceEqDiff]
      refine add_at (p := q.adv) H (V1.adv H (isW_k hw)) (by simp [PT.adv]) S1 fun r hr => ?_
      have := hq r (by unfold semi; simp only [hw, if_true]; exact hr)
      cases r with
      | ok q v => intro hp' ts' V' S'; simp -implicitDefEqProofs (maxSteps := 5000000) (disch := omega) only [go_sem, Nat.reduceBEq, Nat.reduceBNe, reduceIte, reduceCtorEq, Nat.reduceLeDiff, Nat.reduceAdd, Nat.reduceEqDiff]; exact this hp' ts' V' S'
      | er c e => intro hp' ts' q n hc hq S'; simp -implicitDefEqProofs (maxSteps := 5000000) (disch := omega) only [go_sem, Nat.reduceBEq, Nat.reduceBNe, reduceIte, reduceCtorEq, Nat.reduceLeDiff, Nat.reduceAdd, Nat.reduceEqDiff]; exact this hp' ts' q n hc hq S'
    · have h' := hq (.er 3 (here tk q)) (by unfold semi; simp only [hw, Bool.false_eq_true, if_false]; exact Ev.const) hp1 ts1 q 0 (by omega) V1.at_ S1
      simp -implicitDefEqProofs (maxSteps := 5000000) (disch := omega) only [go_sem, Nat.reduceBEq, Nat.reduceBNe, reduceIte, reduceCtorEq, Nat.reduceLeDiff, Nat.reduceAdd, Nat.reduceEqDiff]
      refine add_no (by omega) ?_
      simp -implicitDefEqProofs (maxSteps := 5000000) (disch := omega) only [go_sem, Nat.reduceBEq, Nat.reduceBNe, reduceIte, reduceCtorEq, Nat.reduceLeDiff, Nat.reduceAdd, Nat.reduceEqDiff]
      exact h'
  simp -implicitDefEqProofs (maxSteps := 5000000) (disch := omega) only [s75_0, go_sem, Nat.reduceBEq, Nat.reduceBNe, reduceIte, reduceCtorEq, Nat.reduceLeDiff, Nat.reduceAdd, Nat.reduceEqDiff]
  refine here_ok V.at_ ?_
  simp -implicitDefEqProofs (maxSteps := 5000000) (disch := omega) only [bldS0, nlocSmT, okvSmT, udSmTa, go_sem, Nat.reduceBEq, Nat.reduceBNe, reduceIte, reduceCtorEq, Nat.reduceLeDiff, Nat.reduceAdd, Nat.reduceEqDiff]
  refine is_ok H V.at_ ?_
  rcases bool_or (isW x tk p [105, 102]) with c0 | c0
  · have V1 := V.adv H (isW_k c0)
    have hat1 := V1.at_
    simp -implicitDefEqProofs (maxSteps := 5000000) (disch := omega) only [c0, go_sem, Nat.reduceBEq, Nat.reduceBNe, reduceIte, reduceCtorEq, Nat.reduceLeDiff, Nat.reduceAdd, Nat.reduceEqDiff]
    refine want_ok H V.at_ (fun _ => ?_) (fun e => by rw [c0] at e; cases e)
    simp -implicitDefEqProofs (maxSteps := 5000000) (disch := omega) only [go_sem, Nat.reduceBEq, Nat.reduceBNe, reduceIte, reduceCtorEq, Nat.reduceLeDiff, Nat.reduceAdd, Nat.reduceEqDiff]
    refine S.branch (p := p.adv) hd (by omega) V1 fun r hr => ?_
    have := h r (ev_if c0 hr)
    cases r with
    | ok q v => intro hp' ts' V' S'; simp -implicitDefEqProofs (maxSteps := 5000000) (disch := omega) only [go_sem, Nat.reduceBEq, Nat.reduceBNe, reduceIte, reduceCtorEq, Nat.reduceLeDiff, Nat.reduceAdd, Nat.reduceEqDiff]; exact this hp' ts' V' S'
    | er c e => intro hp' ts' q n hc hq S'; simp -implicitDefEqProofs (maxSteps := 5000000) (disch := omega) only [go_sem, Nat.reduceBEq, Nat.reduceBNe, reduceIte, reduceCtorEq, Nat.reduceLeDiff, Nat.reduceAdd, Nat.reduceEqDiff]; exact this hp' ts' q n hc hq S'
  simp -implicitDefEqProofs (maxSteps := 5000000) (disch := omega) only [c0, go_sem, Nat.reduceBEq, Nat.reduceBNe, reduceIte, reduceCtorEq, Nat.reduceLeDiff, Nat.reduceAdd, Nat.reduceEqDiff]
  refine is_ok H V.at_ ?_
  rcases bool_or (isW x tk p [119, 104, 105, 108, 101]) with c1 | c1
  · have V1 := V.adv H (isW_k c1)
    have hat1 := V1.at_
    simp -implicitDefEqProofs (maxSteps := 5000000) (disch := omega) only [c1, go_sem, Nat.reduceBEq, Nat.reduceBNe, reduceIte, reduceCtorEq, Nat.reduceLeDiff, Nat.reduceAdd, Nat.reduceEqDiff]
    refine want_ok H V.at_ (fun _ => ?_) (fun e => by rw [c1] at e; cases e)
    simp -implicitDefEqProofs (maxSteps := 5000000) (disch := omega) only [go_sem, Nat.reduceBEq, Nat.reduceBNe, reduceIte, reduceCtorEq, Nat.reduceLeDiff, Nat.reduceAdd, Nat.reduceEqDiff]
    refine expr_ok (p := p.adv) H (by omega) V1 fun r hr => ?_
    cases r with
    | er c e =>
      intro hp2 ts2 q n hc hq S2
      have h' := h (.er c e) (ev_while c0 c1 hr.bindE) hp2 ts2 q 0 hc hq S2
      simp -implicitDefEqProofs (maxSteps := 5000000) (disch := omega) only [go_sem, Nat.reduceBEq, Nat.reduceBNe, reduceIte, reduceCtorEq, Nat.reduceLeDiff, Nat.reduceAdd, Nat.reduceEqDiff]
      refine block_no hc fun l => ?_
      simp -implicitDefEqProofs (maxSteps := 5000000) (disch := omega) only [bldS6, go_sem, Nat.reduceBEq, Nat.reduceBNe, reduceIte, reduceCtorEq, Nat.reduceLeDiff, Nat.reduceAdd, Nat.reduceEqDiff]
      refine add_no hc ?_
      simp -implicitDefEqProofs (maxSteps := 5000000) (disch := omega) only [go_sem, Nat.reduceBEq, Nat.reduceBNe, reduceIte, reduceCtorEq, Nat.reduceLeDiff, Nat.reduceAdd, Nat.reduceEqDiff]
      exact h'
    | ok q v =>
      intro hp2 ts2 V2 S2
      have hf := ev_fwd H hr
      have hl := hf.1.at_
      have hat2 := V2.at_
      simp -implicitDefEqProofs (maxSteps := 5000000) (disch := omega) only [go_sem, Nat.reduceBEq, Nat.reduceBNe, reduceIte, reduceCtorEq, Nat.reduceLeDiff, Nat.reduceAdd, Nat.reduceEqDiff]
      refine S.block (d := d + 1) (by omega) (by omega) V2 fun r hr2 => ?_
      cases r with
      | er c e =>
        intro hp3 ts3 q3 l hc hq S3
        have h' := h (.er c e) (ev_while c0 c1 (hr.bind hr2.bindE)) hp3 ts3 q3 0 hc hq (S2.trans S3)
        simp -implicitDefEqProofs (maxSteps := 5000000) (disch := omega) only [bldS6, go_sem, Nat.reduceBEq, Nat.reduceBNe, reduceIte, reduceCtorEq, Nat.reduceLeDiff, Nat.reduceAdd, Nat.reduceEqDiff]
        refine add_no hc ?_
        simp -implicitDefEqProofs (maxSteps := 5000000) (disch := omega) only [go_sem, Nat.reduceBEq, Nat.reduceBNe, reduceIte, reduceCtorEq, Nat.reduceLeDiff, Nat.reduceAdd, Nat.reduceEqDiff]
        exact h'
      | ok q3 b =>
        intro hp3 ts3 V3 S3
        have hf3 := ev_fwd H hr2
        have hl3 := hf3.1.at_
        simp -implicitDefEqProofs (maxSteps := 5000000) (disch := omega) only [bldS6, go_sem, Nat.reduceBEq, Nat.reduceBNe, reduceIte, reduceCtorEq, Nat.reduceLeDiff, Nat.reduceAdd, Nat.reduceEqDiff]
        refine add_at H V3 (by omega) (S2.trans S3) fun r hr3 => ?_
        have := h r (ev_while c0 c1 (hr.bind (hr2.bind hr3)))
        cases r with
        | ok q v => intro hp' ts' V' S'; simp -implicitDefEqProofs (maxSteps := 5000000) (disch := omega) only [go_sem, Nat.reduceBEq, Nat.reduceBNe, reduceIte, reduceCtorEq, Nat.reduceLeDiff, Nat.reduceAdd, Nat.reduceEqDiff]; exact this hp' ts' V' S'
        | er c e => intro hp' ts' q n hc hq S'; simp -implicitDefEqProofs (maxSteps := 5000000) (disch := omega) only [go_sem, Nat.reduceBEq, Nat.reduceBNe, reduceIte, reduceCtorEq, Nat.reduceLeDiff, Nat.reduceAdd, Nat.reduceEqDiff]; exact this hp' ts' q n hc hq S'
  simp -implicitDefEqProofs (maxSteps := 5000000) (disch := omega) only [c1, go_sem, Nat.reduceBEq, Nat.reduceBNe, reduceIte, reduceCtorEq, Nat.reduceLeDiff, Nat.reduceAdd, Nat.reduceEqDiff]
  refine is_ok H V.at_ ?_
  rcases bool_or (isW x tk p [118, 97, 114]) with c2 | c2
  · have V1 := V.adv H (isW_k c2)
    have hat1 := V1.at_
    have hx := fun r hr => h r (ev_var c0 c1 c2 hr)
    simp -implicitDefEqProofs (maxSteps := 5000000) (disch := omega) only [c2, go_sem, Nat.reduceBEq, Nat.reduceBNe, reduceIte, reduceCtorEq, Nat.reduceLeDiff, Nat.reduceAdd, Nat.reduceEqDiff]
    refine want_ok H V.at_ (fun _ => ?_) (fun e => by rw [c2] at e; cases e)
    simp -implicitDefEqProofs (maxSteps := 5000000) (disch := omega) only [go_sem, Nat.reduceBEq, Nat.reduceBNe, reduceIte, reduceCtorEq, Nat.reduceLeDiff, Nat.reduceAdd, Nat.reduceEqDiff]
    refine kind_ok (p := p.adv) (k := 1) H V1.at_ (fun k1 => ?_) (fun k1 => ?_)
    · have V2 := V1.adv H (by omega)
      have hat2 := V2.at_
      simp -implicitDefEqProofs (maxSteps := 5000000) (disch := omega) only [go_sem, Nat.reduceBEq, Nat.reduceBNe, reduceIte, reduceCtorEq, Nat.reduceLeDiff, Nat.reduceAdd, Nat.reduceEqDiff]
      refine is_ok (p := p.adv.adv) H V2.at_ ?_
      rcases bool_or (isW x tk p.adv.adv [91]) with b1 | b1
      · have V3 := V2.adv H (isW_k b1)
        have hat3 := V3.at_
        simp -implicitDefEqProofs (maxSteps := 5000000) (disch := omega) only [b1, go_sem, Nat.reduceBEq, Nat.reduceBNe, reduceIte, reduceCtorEq, Nat.reduceLeDiff, Nat.reduceAdd, Nat.reduceEqDiff]
        refine want_ok (p := p.adv.adv) H V2.at_ (fun _ => ?_) (fun e => by rw [b1] at e; cases e)
        simp -implicitDefEqProofs (maxSteps := 5000000) (disch := omega) only [go_sem, Nat.reduceBEq, Nat.reduceBNe, reduceIte, reduceCtorEq, Nat.reduceLeDiff, Nat.reduceAdd, Nat.reduceEqDiff]
        refine kind_ok (p := p.adv.adv.adv) (k := 2) H V3.at_ (fun k2 => ?_) (fun k2 => ?_)
        · have V4 := V3.adv H (by omega)
          have hat4 := V4.at_
          simp -implicitDefEqProofs (maxSteps := 5000000) (disch := omega) only [go_sem, Nat.reduceBEq, Nat.reduceBNe, reduceIte, reduceCtorEq, Nat.reduceLeDiff, Nat.reduceAdd, Nat.reduceEqDiff]
          refine want_ok (p := p.adv.adv.adv.adv) H V4.at_ (fun b2 => ?_) (fun b2 => ?_)
          · have V5 := V4.adv H (isW_k b2)
            simp -implicitDefEqProofs (maxSteps := 5000000) (disch := omega) only [go_sem, Nat.reduceBEq, Nat.reduceBNe, reduceIte, reduceCtorEq, Nat.reduceLeDiff, Nat.reduceAdd, Nat.reduceEqDiff]
            refine number_ok (word_num H k2).1 (word_num H k2).2 ?_
            simp -implicitDefEqProofs (maxSteps := 5000000) (disch := omega) only [bldS2, okvSmT, udSmTT, go_sem, Nat.reduceBEq, Nat.reduceBNe, reduceIte, reduceCtorEq, Nat.reduceLeDiff, Nat.reduceAdd, Nat.reduceEqDiff]
            refine fin (q := p.adv.adv.adv.adv.adv) V5 Step.refl fun r hr => hx r ?_
            simp only [k1, b1, k2, b2, if_true]; exact hr
          · have h' := hx (.er 3 (here tk p.adv.adv.adv.adv)) (by simp only [k1, b1, k2, b2, if_true, Bool.false_eq_true, if_false]; exact Ev.const) hp ts p.adv.adv.adv.adv 0 (by omega) V4.at_ Step.refl
            simp -implicitDefEqProofs (maxSteps := 5000000) (disch := omega) only [go_sem, Nat.reduceBEq, Nat.reduceBNe, reduceIte, reduceCtorEq, Nat.reduceLeDiff, Nat.reduceAdd, Nat.reduceEqDiff]
            refine number_ok (word_num H k2).1 (word_num H k2).2 ?_
            simp -implicitDefEqProofs (maxSteps := 5000000) (disch := omega) only [bldS2, okvSmT, udSmTT, go_sem, Nat.reduceBEq, Nat.reduceBNe, reduceIte, reduceCtorEq, Nat.reduceLeDiff, Nat.reduceAdd, Nat.reduceEqDiff]
            exact bad (by omega) h'
        · have h' := hx (.er 3 (here tk p.adv.adv.adv)) (by simp only [k1, b1, if_true, if_neg k2]; exact Ev.const) hp ts p.adv.adv.adv 0 (by omega) V3.at_ Step.refl
          simp -implicitDefEqProofs (maxSteps := 5000000) (disch := omega) only [go_sem, Nat.reduceBEq, Nat.reduceBNe, reduceIte, reduceCtorEq, Nat.reduceLeDiff, Nat.reduceAdd, Nat.reduceEqDiff]
          refine want_no (p := p.adv.adv.adv) (by omega) ?_
          simp -implicitDefEqProofs (maxSteps := 5000000) (disch := omega) only [go_sem, Nat.reduceBEq, Nat.reduceBNe, reduceIte, reduceCtorEq, Nat.reduceLeDiff, Nat.reduceAdd, Nat.reduceEqDiff]
          refine number_ok (s := []) (by simp) (by simp) ?_
          simp -implicitDefEqProofs (maxSteps := 5000000) (disch := omega) only [bldS2, okvSmT, udSmTT, go_sem, Nat.reduceBEq, Nat.reduceBNe, reduceIte, reduceCtorEq, Nat.reduceLeDiff, Nat.reduceAdd, Nat.reduceEqDiff]
          exact bad (by omega) h'
      · simp -implicitDefEqProofs (maxSteps := 5000000) (disch := omega) only [b1, go_sem, Nat.reduceBEq, Nat.reduceBNe, reduceIte, reduceCtorEq, Nat.reduceLeDiff, Nat.reduceAdd, Nat.reduceEqDiff]
        refine want_ok (p := p.adv.adv) H V2.at_ (fun b2 => ?_) (fun b2 => ?_)
        · have V3 := V2.adv H (isW_k b2)
          simp -implicitDefEqProofs (maxSteps := 5000000) (disch := omega) only [go_sem, Nat.reduceBEq, Nat.reduceBNe, reduceIte, reduceCtorEq, Nat.reduceLeDiff, Nat.reduceAdd, Nat.reduceEqDiff]
          refine expr_ok (p := p.adv.adv.adv) H (by omega) V3 fun r hr => ?_
          cases r with
          | er c e =>
            intro hp2 ts2 q n hc hq S2
            simp -implicitDefEqProofs (maxSteps := 5000000) (disch := omega) only [bldS1, okvSmT, udSmTT, go_sem, Nat.reduceBEq, Nat.reduceBNe, reduceIte, reduceCtorEq, Nat.reduceLeDiff, Nat.reduceAdd, Nat.reduceEqDiff]
            exact bad hc (hx (.er c e) (by simp only [k1, b1, b2, if_true, Bool.false_eq_true, if_false]; exact hr.bindE) hp2 ts2 q 0 hc hq S2)
          | ok q v =>
            intro hp2 ts2 V4 S2
            simp -implicitDefEqProofs (maxSteps := 5000000) (disch := omega) only [bldS1, okvSmT, udSmTT, go_sem, Nat.reduceBEq, Nat.reduceBNe, reduceIte, reduceCtorEq, Nat.reduceLeDiff, Nat.reduceAdd, Nat.reduceEqDiff]
            refine fin V4 S2 fun r hr2 => hx r ?_
            simp only [k1, b1, b2, if_true, Bool.false_eq_true, if_false]; exact hr.bind hr2
        · have h' := hx (.er 3 (here tk p.adv.adv)) (by simp only [k1, b1, b2, if_true, Bool.false_eq_true, if_false]; exact Ev.const) hp ts p.adv.adv 0 (by omega) V2.at_ Step.refl
          simp -implicitDefEqProofs (maxSteps := 5000000) (disch := omega) only [go_sem, Nat.reduceBEq, Nat.reduceBNe, reduceIte, reduceCtorEq, Nat.reduceLeDiff, Nat.reduceAdd, Nat.reduceEqDiff]
          refine expr_no (p := p.adv.adv) V2.at_ (by omega) fun n => ?_
          simp -implicitDefEqProofs (maxSteps := 5000000) (disch := omega) only [bldS1, okvSmT, udSmTT, go_sem, Nat.reduceBEq, Nat.reduceBNe, reduceIte, reduceCtorEq, Nat.reduceLeDiff, Nat.reduceAdd, Nat.reduceEqDiff]
          exact bad (by omega) h'
    · have h' := hx (.er 3 (here tk p.adv)) (by simp only [if_neg k1]; exact Ev.const) hp ts p.adv 0 (by omega) V1.at_ Step.refl
      simp -implicitDefEqProofs (maxSteps := 5000000) (disch := omega) only [go_sem, Nat.reduceBEq, Nat.reduceBNe, reduceIte, reduceCtorEq, Nat.reduceLeDiff, Nat.reduceAdd, Nat.reduceEqDiff]
      refine is_no (p := p.adv) (by omega) ?_
      simp -implicitDefEqProofs (maxSteps := 5000000) (disch := omega) only [go_sem, Nat.reduceBEq, Nat.reduceBNe, reduceIte, reduceCtorEq, Nat.reduceLeDiff, Nat.reduceAdd, Nat.reduceEqDiff]
      refine want_no (p := p.adv) (by omega) ?_
      simp -implicitDefEqProofs (maxSteps := 5000000) (disch := omega) only [go_sem, Nat.reduceBEq, Nat.reduceBNe, reduceIte, reduceCtorEq, Nat.reduceLeDiff, Nat.reduceAdd, Nat.reduceEqDiff]
      refine expr_no (p := p.adv) V1.at_ (by omega) fun n => ?_
      simp -implicitDefEqProofs (maxSteps := 5000000) (disch := omega) only [bldS1, okvSmT, udSmTT, go_sem, Nat.reduceBEq, Nat.reduceBNe, reduceIte, reduceCtorEq, Nat.reduceLeDiff, Nat.reduceAdd, Nat.reduceEqDiff]
      exact bad (by omega) h'
  simp -implicitDefEqProofs (maxSteps := 5000000) (disch := omega) only [c2, go_sem, Nat.reduceBEq, Nat.reduceBNe, reduceIte, reduceCtorEq, Nat.reduceLeDiff, Nat.reduceAdd, Nat.reduceEqDiff]
  refine is_ok H V.at_ ?_
  rcases bool_or (isW x tk p [98, 114, 101, 97, 107]) with c3 | c3
  · have V1 := V.adv H (isW_k c3)
    simp -implicitDefEqProofs (maxSteps := 5000000) (disch := omega) only [c3, go_sem, Nat.reduceBEq, Nat.reduceBNe, reduceIte, reduceCtorEq, Nat.reduceLeDiff, Nat.reduceAdd, Nat.reduceEqDiff]
    refine want_ok H V.at_ (fun _ => ?_) (fun e => by rw [c3] at e; cases e)
    simp -implicitDefEqProofs (maxSteps := 5000000) (disch := omega) only [udSmT07, go_sem, Nat.reduceBEq, Nat.reduceBNe, reduceIte, reduceCtorEq, Nat.reduceLeDiff, Nat.reduceAdd, Nat.reduceEqDiff]
    exact fin (q := p.adv) V1 Step.refl fun r hr => h r (ev_break c0 c1 c2 c3 hr)
  simp -implicitDefEqProofs (maxSteps := 5000000) (disch := omega) only [c3, go_sem, Nat.reduceBEq, Nat.reduceBNe, reduceIte, reduceCtorEq, Nat.reduceLeDiff, Nat.reduceAdd, Nat.reduceEqDiff]
  refine is_ok H V.at_ ?_
  rcases bool_or (isW x tk p [99, 111, 110, 116, 105, 110, 117, 101]) with c4 | c4
  · have V1 := V.adv H (isW_k c4)
    simp -implicitDefEqProofs (maxSteps := 5000000) (disch := omega) only [c4, go_sem, Nat.reduceBEq, Nat.reduceBNe, reduceIte, reduceCtorEq, Nat.reduceLeDiff, Nat.reduceAdd, Nat.reduceEqDiff]
    refine want_ok H V.at_ (fun _ => ?_) (fun e => by rw [c4] at e; cases e)
    simp -implicitDefEqProofs (maxSteps := 5000000) (disch := omega) only [udSmT08, go_sem, Nat.reduceBEq, Nat.reduceBNe, reduceIte, reduceCtorEq, Nat.reduceLeDiff, Nat.reduceAdd, Nat.reduceEqDiff]
    exact fin (q := p.adv) V1 Step.refl fun r hr => h r (ev_cont c0 c1 c2 c3 c4 hr)
  simp -implicitDefEqProofs (maxSteps := 5000000) (disch := omega) only [c4, go_sem, Nat.reduceBEq, Nat.reduceBNe, reduceIte, reduceCtorEq, Nat.reduceLeDiff, Nat.reduceAdd, Nat.reduceEqDiff]
  refine is_ok H V.at_ ?_
  rcases bool_or (isW x tk p [114, 101, 116, 117, 114, 110]) with c5 | c5
  · have V1 := V.adv H (isW_k c5)
    have hx := fun r hr => h r (ev_ret c0 c1 c2 c3 c4 c5 hr)
    simp -implicitDefEqProofs (maxSteps := 5000000) (disch := omega) only [c5, go_sem, Nat.reduceBEq, Nat.reduceBNe, reduceIte, reduceCtorEq, Nat.reduceLeDiff, Nat.reduceAdd, Nat.reduceEqDiff]
    refine want_ok H V.at_ (fun _ => ?_) (fun e => by rw [c5] at e; cases e)
    simp -implicitDefEqProofs (maxSteps := 5000000) (disch := omega) only [bldS9, okvSmT, udSmTT, go_sem, Nat.reduceBEq, Nat.reduceBNe, reduceIte, reduceCtorEq, Nat.reduceLeDiff, Nat.reduceAdd, Nat.reduceEqDiff]
    refine is_ok (p := p.adv) H V1.at_ ?_
    rcases bool_or (isW x tk p.adv [59]) with b1 | b1
    · simp -implicitDefEqProofs (maxSteps := 5000000) (disch := omega) only [b1, go_sem, Nat.reduceBEq, Nat.reduceBNe, reduceIte, reduceCtorEq, Nat.reduceLeDiff, Nat.reduceAdd, Nat.reduceEqDiff]
      refine fin (q := p.adv) V1 Step.refl fun r hr => hx r ?_
      simp only [b1, if_true]; exact hr
    · simp -implicitDefEqProofs (maxSteps := 5000000) (disch := omega) only [b1, go_sem, Nat.reduceBEq, Nat.reduceBNe, reduceIte, reduceCtorEq, Nat.reduceLeDiff, Nat.reduceAdd, Nat.reduceEqDiff]
      refine expr_ok (p := p.adv) H (by omega) V1 fun r hr => ?_
      cases r with
      | er c e =>
        intro hp2 ts2 q n hc hq S2
        simp -implicitDefEqProofs (maxSteps := 5000000) (disch := omega) only [udSmT5, go_sem, Nat.reduceBEq, Nat.reduceBNe, reduceIte, reduceCtorEq, Nat.reduceLeDiff, Nat.reduceAdd, Nat.reduceEqDiff]
        exact bad hc (hx (.er c e) (by simp only [b1, Bool.false_eq_true, if_false]; exact hr.bindE) hp2 ts2 q 0 hc hq S2)
      | ok q v =>
        intro hp2 ts2 V4 S2
        simp -implicitDefEqProofs (maxSteps := 5000000) (disch := omega) only [udSmT5, go_sem, Nat.reduceBEq, Nat.reduceBNe, reduceIte, reduceCtorEq, Nat.reduceLeDiff, Nat.reduceAdd, Nat.reduceEqDiff]
        refine fin V4 S2 fun r hr2 => hx r ?_
        simp only [b1, Bool.false_eq_true, if_false]; exact hr.bind hr2
  simp -implicitDefEqProofs (maxSteps := 5000000) (disch := omega) only [c5, go_sem, Nat.reduceBEq, Nat.reduceBNe, reduceIte, reduceCtorEq, Nat.reduceLeDiff, Nat.reduceAdd, Nat.reduceEqDiff]
  refine is_ok H V.at_ ?_
  rcases bool_or (isW x tk p [112, 114, 105, 110, 116]) with c6 | c6
  · have V1 := V.adv H (isW_k c6)
    have hx := fun r hr => h r (ev_print c0 c1 c2 c3 c4 c5 c6 hr)
    simp -implicitDefEqProofs (maxSteps := 5000000) (disch := omega) only [c6, go_sem, Nat.reduceBEq, Nat.reduceBNe, reduceIte, reduceCtorEq, Nat.reduceLeDiff, Nat.reduceAdd, Nat.reduceEqDiff]
    refine want_ok H V.at_ (fun _ => ?_) (fun e => by rw [c6] at e; cases e)
    simp -implicitDefEqProofs (maxSteps := 5000000) (disch := omega) only [go_sem, Nat.reduceBEq, Nat.reduceBNe, reduceIte, reduceCtorEq, Nat.reduceLeDiff, Nat.reduceAdd, Nat.reduceEqDiff]
    refine expr_ok (p := p.adv) H (by omega) V1 fun r hr => ?_
    cases r with
    | er c e =>
      intro hp2 ts2 q n hc hq S2
      simp -implicitDefEqProofs (maxSteps := 5000000) (disch := omega) only [bldS10, okvSmT, udSmTT, go_sem, Nat.reduceBEq, Nat.reduceBNe, reduceIte, reduceCtorEq, Nat.reduceLeDiff, Nat.reduceAdd, Nat.reduceEqDiff]
      exact bad hc (hx (.er c e) hr.bindE hp2 ts2 q 0 hc hq S2)
    | ok q v =>
      intro hp2 ts2 V4 S2
      simp -implicitDefEqProofs (maxSteps := 5000000) (disch := omega) only [bldS10, okvSmT, udSmTT, go_sem, Nat.reduceBEq, Nat.reduceBNe, reduceIte, reduceCtorEq, Nat.reduceLeDiff, Nat.reduceAdd, Nat.reduceEqDiff]
      exact fin V4 S2 fun r hr2 => hx r (hr.bind hr2)
  simp -implicitDefEqProofs (maxSteps := 5000000) (disch := omega) only [c6, go_sem, Nat.reduceBEq, Nat.reduceBNe, reduceIte, reduceCtorEq, Nat.reduceLeDiff, Nat.reduceAdd, Nat.reduceEqDiff]
  refine kind_ok (k := 1) H V.at_ (fun k1 => ?_) (fun k1 => ?_)
  · have V1 := V.adv H (by omega)
    have hat1 := V1.at_
    have hx := fun r hr => h r (ev_named c0 c1 c2 c3 c4 c5 c6 k1 hr)
    simp -implicitDefEqProofs (maxSteps := 5000000) (disch := omega) only [go_sem, Nat.reduceBEq, Nat.reduceBNe, reduceIte, reduceCtorEq, Nat.reduceLeDiff, Nat.reduceAdd, Nat.reduceEqDiff]
    refine is_ok (p := p.adv) H V1.at_ ?_
    rcases bool_or (isW x tk p.adv [40]) with b1 | b1
    · simp -implicitDefEqProofs (maxSteps := 5000000) (disch := omega) only [b1, go_sem, Nat.reduceBEq, Nat.reduceBNe, reduceIte, reduceCtorEq, Nat.reduceLeDiff, Nat.reduceAdd, Nat.reduceEqDiff]
      refine call_ok (p := p.adv) H hd V1 b1 fun r hr => ?_
      cases r with
      | er c e =>
        intro hp2 ts2 q n hc hq S2
        simp -implicitDefEqProofs (maxSteps := 5000000) (disch := omega) only [bldS11, okvSmT, udSmTT, go_sem, Nat.reduceBEq, Nat.reduceBNe, reduceIte, reduceCtorEq, Nat.reduceLeDiff, Nat.reduceAdd, Nat.reduceEqDiff]
        exact bad hc (hx (.er c e) (by simp only [b1, if_true]; exact hr.bindE) hp2 ts2 q 0 hc hq S2)
      | ok q v =>
        intro hp2 ts2 V4 S2
        simp -implicitDefEqProofs (maxSteps := 5000000) (disch := omega) only [bldS11, okvSmT, udSmTT, go_sem, Nat.reduceBEq, Nat.reduceBNe, reduceIte, reduceCtorEq, Nat.reduceLeDiff, Nat.reduceAdd, Nat.reduceEqDiff]
        refine fin V4 S2 fun r hr2 => hx r ?_
        simp only [b1, if_true]; exact hr.bind hr2
    simp -implicitDefEqProofs (maxSteps := 5000000) (disch := omega) only [b1, go_sem, Nat.reduceBEq, Nat.reduceBNe, reduceIte, reduceCtorEq, Nat.reduceLeDiff, Nat.reduceAdd, Nat.reduceEqDiff]
    refine is_ok (p := p.adv) H V1.at_ ?_
    rcases bool_or (isW x tk p.adv [91]) with b2 | b2
    · have V2 := V1.adv H (isW_k b2)
      simp -implicitDefEqProofs (maxSteps := 5000000) (disch := omega) only [b2, go_sem, Nat.reduceBEq, Nat.reduceBNe, reduceIte, reduceCtorEq, Nat.reduceLeDiff, Nat.reduceAdd, Nat.reduceEqDiff]
      refine want_ok (p := p.adv) H V1.at_ (fun _ => ?_) (fun e => by rw [b2] at e; cases e)
      simp -implicitDefEqProofs (maxSteps := 5000000) (disch := omega) only [go_sem, Nat.reduceBEq, Nat.reduceBNe, reduceIte, reduceCtorEq, Nat.reduceLeDiff, Nat.reduceAdd, Nat.reduceEqDiff]
      refine expr_ok (p := p.adv.adv) (d := d + 1) H (by omega) V2 fun r hr => ?_
      cases r with
      | er c e =>
        intro hp2 ts2 q n hc hq S2
        have h' := hx (.er c e) (by simp only [b1, b2, if_true, Bool.false_eq_true, if_false]; exact hr.bindE) hp2 ts2 q 0 hc hq S2
        simp -implicitDefEqProofs (maxSteps := 5000000) (disch := omega) only [go_sem, Nat.reduceBEq, Nat.reduceBNe, reduceIte, reduceCtorEq, Nat.reduceLeDiff, Nat.reduceAdd, Nat.reduceEqDiff]
        refine want_no hc ?_
        simp -implicitDefEqProofs (maxSteps := 5000000) (disch := omega) only [go_sem, Nat.reduceBEq, Nat.reduceBNe, reduceIte, reduceCtorEq, Nat.reduceLeDiff, Nat.reduceAdd, Nat.reduceEqDiff]
        refine want_no hc ?_
        simp -implicitDefEqProofs (maxSteps := 5000000) (disch := omega) only [go_sem, Nat.reduceBEq, Nat.reduceBNe, reduceIte, reduceCtorEq, Nat.reduceLeDiff, Nat.reduceAdd, Nat.reduceEqDiff]
        refine expr_no hq hc fun n => ?_
        simp -implicitDefEqProofs (maxSteps := 5000000) (disch := omega) only [bldS4, okvSmT, udSmTT, go_sem, Nat.reduceBEq, Nat.reduceBNe, reduceIte, reduceCtorEq, Nat.reduceLeDiff, Nat.reduceAdd, Nat.reduceEqDiff]
        exact bad hc h'
      | ok q v =>
        intro hp2 ts2 V3 S2
        have hy : ∀ r, Ev (fun n => if isW x tk q [93] = true then (if isW x tk q.adv [61] = true then bnd' (run x tk n (.expr d) q.adv.adv) fun r w => semi x tk r (here tk p) { k := 4, name := word x tk p, a := hd0 v, b := hd0 w } else er tk q.adv 3) else er tk q 3) r → PE x tk hp ts w Q r := fun r hr2 => hx r (by simp only [b1, b2, if_true, Bool.false_eq_true, if_false]; exact hr.bind hr2)
        simp -implicitDefEqProofs (maxSteps := 5000000) (disch := omega) only [go_sem, Nat.reduceBEq, Nat.reduceBNe, reduceIte, reduceCtorEq, Nat.reduceLeDiff, Nat.reduceAdd, Nat.reduceEqDiff]
        refine want_ok H V3.at_ (fun b3 => ?_) (fun b3 => ?_)
        · have V4 := V3.adv H (isW_k b3)
          simp -implicitDefEqProofs (maxSteps := 5000000) (disch := omega) only [go_sem, Nat.reduceBEq, Nat.reduceBNe, reduceIte, reduceCtorEq, Nat.reduceLeDiff, Nat.reduceAdd, Nat.reduceEqDiff]
          refine want_ok (p := q.adv) H V4.at_ (fun b4 => ?_) (fun b4 => ?_)
          · have V5 := V4.adv H (isW_k b4)
            simp -implicitDefEqProofs (maxSteps := 5000000) (disch := omega) only [go_sem, Nat.reduceBEq, Nat.reduceBNe, reduceIte, reduceCtorEq, Nat.reduceLeDiff, Nat.reduceAdd, Nat.reduceEqDiff]
            refine expr_ok (p := q.adv.adv) H (by omega) V5 fun r hr2 => ?_
            cases r with
            | er c e =>
              intro hp3 ts3 q3 n hc hq S3
              simp -implicitDefEqProofs (maxSteps := 5000000) (disch := omega) only [bldS4, okvSmT, udSmTT, go_sem, Nat.reduceBEq, Nat.reduceBNe, reduceIte, reduceCtorEq, Nat.reduceLeDiff, Nat.reduceAdd, Nat.reduceEqDiff]
              exact bad hc (hy (.er c e) (by simp only [b3, b4, if_true]; exact hr2.bindE) hp3 ts3 q3 0 hc hq (S2.trans S3))
            | ok q3 v3 =>
              intro hp3 ts3 V6 S3
              simp -implicitDefEqProofs (maxSteps := 5000000) (disch := omega) only [bldS4, okvSmT, udSmTT, go_sem, Nat.reduceBEq, Nat.reduceBNe, reduceIte, reduceCtorEq, Nat.reduceLeDiff, Nat.reduceAdd, Nat.reduceEqDiff]
              refine fin V6 (S2.trans S3) fun r hr3 => hy r ?_
              simp only [b3, b4, if_true]; exact hr2.bind hr3
          · have h' := hy (.er 3 (here tk q.adv)) (by simp only [b3, b4, if_true, Bool.false_eq_true, if_false]; exact Ev.const) hp2 ts2 q.adv 0 (by omega) V4.at_ S2
            simp -implicitDefEqProofs (maxSteps := 5000000) (disch := omega) only [go_sem, Nat.reduceBEq, Nat.reduceBNe, reduceIte, reduceCtorEq, Nat.reduceLeDiff, Nat.reduceAdd, Nat.reduceEqDiff]
            refine expr_no (p := q.adv) V4.at_ (by omega) fun n => ?_
            simp -implicitDefEqProofs (maxSteps := 5000000) (disch := omega) only [bldS4, okvSmT, udSmTT, go_sem, Nat.reduceBEq, Nat.reduceBNe, reduceIte, reduceCtorEq, Nat.reduceLeDiff, Nat.reduceAdd, Nat.reduceEqDiff]
            exact bad (by omega) h'
        · have h' := hy (.er 3 (here tk q)) (by simp only [b3, Bool.false_eq_true, if_false]; exact Ev.const) hp2 ts2 q 0 (by omega) V3.at_ S2
          simp -implicitDefEqProofs (maxSteps := 5000000) (disch := omega) only [go_sem, Nat.reduceBEq, Nat.reduceBNe, reduceIte, reduceCtorEq, Nat.reduceLeDiff, Nat.reduceAdd, Nat.reduceEqDiff]
          refine want_no (by omega) ?_
          simp -implicitDefEqProofs (maxSteps := 5000000) (disch := omega) only [go_sem, Nat.reduceBEq, Nat.reduceBNe, reduceIte, reduceCtorEq, Nat.reduceLeDiff, Nat.reduceAdd, Nat.reduceEqDiff]
          refine expr_no V3.at_ (by omega) fun n => ?_
          simp -implicitDefEqProofs (maxSteps := 5000000) (disch := omega) only [bldS4, okvSmT, udSmTT, go_sem, Nat.reduceBEq, Nat.reduceBNe, reduceIte, reduceCtorEq, Nat.reduceLeDiff, Nat.reduceAdd, Nat.reduceEqDiff]
          exact bad (by omega) h'
    simp -implicitDefEqProofs (maxSteps := 5000000) (disch := omega) only [b2, go_sem, Nat.reduceBEq, Nat.reduceBNe, reduceIte, reduceCtorEq, Nat.reduceLeDiff, Nat.reduceAdd, Nat.reduceEqDiff]
    refine want_ok (p := p.adv) H V1.at_ (fun b3 => ?_) (fun b3 => ?_)
    · have V2 := V1.adv H (isW_k b3)
      simp -implicitDefEqProofs (maxSteps := 5000000) (disch := omega) only [go_sem, Nat.reduceBEq, Nat.reduceBNe, reduceIte, reduceCtorEq, Nat.reduceLeDiff, Nat.reduceAdd, Nat.reduceEqDiff]
      refine expr_ok (p := p.adv.adv) H (by omega) V2 fun r hr => ?_
      cases r with
      | er c e =>
        intro hp2 ts2 q n hc hq S2
        simp -implicitDefEqProofs (maxSteps := 5000000) (disch := omega) only [bldS3, okvSmT, udSmTT, go_sem, Nat.reduceBEq, Nat.reduceBNe, reduceIte, reduceCtorEq, Nat.reduceLeDiff, Nat.reduceAdd, Nat.reduceEqDiff]
        exact bad hc (hx (.er c e) (by simp only [b1, b2, b3, if_true, Bool.false_eq_true, if_false]; exact hr.bindE) hp2 ts2 q 0 hc hq S2)
      | ok q v =>
        intro hp2 ts2 V4 S2
        simp -implicitDefEqProofs (maxSteps := 5000000) (disch := omega) only [bldS3, okvSmT, udSmTT, go_sem, Nat.reduceBEq, Nat.reduceBNe, reduceIte, reduceCtorEq, Nat.reduceLeDiff, Nat.reduceAdd, Nat.reduceEqDiff]
        refine fin V4 S2 fun r hr2 => hx r ?_
        simp only [b1, b2, b3, if_true, Bool.false_eq_true, if_false]; exact hr.bind hr2
    · have h' := hx (.er 3 (here tk p.adv)) (by simp only [b1, b2, b3, Bool.false_eq_true, if_false]; exact Ev.const) hp ts p.adv 0 (by omega) V1.at_ Step.refl
      simp -implicitDefEqProofs (maxSteps := 5000000) (disch := omega) only [go_sem, Nat.reduceBEq, Nat.reduceBNe, reduceIte, reduceCtorEq, Nat.reduceLeDiff, Nat.reduceAdd, Nat.reduceEqDiff]
      refine expr_no (p := p.adv) V1.at_ (by omega) fun n => ?_
      simp -implicitDefEqProofs (maxSteps := 5000000) (disch := omega) only [bldS3, okvSmT, udSmTT, go_sem, Nat.reduceBEq, Nat.reduceBNe, reduceIte, reduceCtorEq, Nat.reduceLeDiff, Nat.reduceAdd, Nat.reduceEqDiff]
      exact bad (by omega) h'
  · have h' := h (.er 3 (here tk p)) (ev_none c0 c1 c2 c3 c4 c5 c6 k1 Ev.const) hp ts p 0 (by omega) V.at_ Step.refl
    simp -implicitDefEqProofs (maxSteps := 5000000) (disch := omega) only [go_sem, Nat.reduceBEq, Nat.reduceBNe, reduceIte, reduceCtorEq, Nat.reduceLeDiff, Nat.reduceAdd, Nat.reduceEqDiff]
    refine is_no (by omega) ?_
    simp -implicitDefEqProofs (maxSteps := 5000000) (disch := omega) only [go_sem, Nat.reduceBEq, Nat.reduceBNe, reduceIte, reduceCtorEq, Nat.reduceLeDiff, Nat.reduceAdd, Nat.reduceEqDiff]
    refine is_no (by omega) ?_
    simp -implicitDefEqProofs (maxSteps := 5000000) (disch := omega) only [go_sem, Nat.reduceBEq, Nat.reduceBNe, reduceIte, reduceCtorEq, Nat.reduceLeDiff, Nat.reduceAdd, Nat.reduceEqDiff]
    refine want_no (by omega) ?_
    simp -implicitDefEqProofs (maxSteps := 5000000) (disch := omega) only [go_sem, Nat.reduceBEq, Nat.reduceBNe, reduceIte, reduceCtorEq, Nat.reduceLeDiff, Nat.reduceAdd, Nat.reduceEqDiff]
    refine expr_no V.at_ (by omega) fun n => ?_
    simp -implicitDefEqProofs (maxSteps := 5000000) (disch := omega) only [bldS3, okvSmT, udSmTT, go_sem, Nat.reduceBEq, Nat.reduceBNe, reduceIte, reduceCtorEq, Nat.reduceLeDiff, Nat.reduceAdd, Nat.reduceEqDiff]
    exact bad (by omega) h'
theorem spS (H : TokOk x tk) : ∀ m, SpS x tk m := by
  intro m
  induction m with
  | zero => exact ⟨fun _ h => by omega, fun _ h => by omega, fun _ h => by omega⟩
  | succ m S => exact ⟨fun hd hm V h => stmt_step H S hd hm V h, fun hd hm V h => block_step H S hd hm V h, fun hd hm V h => branch_step H S hd hm V h⟩
theorem block_ok (H : TokOk x tk) {d : Nat} (hd : d ≤ 65) (V : Vl x tk hp ts p) (h : ∀ r, Ev (fun n => run x tk n (.block d) p) r → PB x tk hp ts w Q r) : callK CC 59 [eP x tk ts p 0 w, eN d] hp Q := (spS H _).block hd (Nat.lt_succ_self _) V h
end
end Go.Proofs.Ytnldohnfdeineaa.Abs
/- The document's parser: functions, and the whole. -/
namespace Go.Proofs.Ytnldohnfdeineaa.Abs
open Go
set_option maxRecDepth 100000

def eFnT (t t' : Tok) (f : Fn) : AV := .agg [.str f.name, eN f.f, eN f.t, .sl t 1 (f.params.map AV.str), eN f.ty, .sl t' 1 (f.body.map eN)]
theorem wk_fn {t t' f} : Wk (eFnT t t' f) (eFn f) := .agg (.cons .refl (.cons .refl (.cons .refl (.cons (.sl (.inr rfl) Wks.refl) (.cons .refl (.cons (.sl (.inr rfl) Wks.refl) .nil))))))
theorem bldF {s} : bld [.str [], .int .i64 0, .int .i64 0, .sl .cap0 1 [], .int .i64 0, .sl .cap0 1 []] [(0, 1, .str s), (4, 1, (.int .i64 4))] = some (eFnT .cap0 .cap0 ⟨s, 0, 0, [], 4, []⟩) := rfl
theorem nlocFnT {d t t'} {f : Fn} : notLoc d (eFnT t t' f) = true := rfl
theorem okvFnT {t t'} {f : Fn} : okv 6 (eFnT t t' f) = true := rfl
theorem udFnTa {t t'} {e : Fn} {a b c d f g : AV} : upd 0 (AV.cells (eFnT t t' e)) [a, b, c, d, f, g] = some (AV.cells (eFnT t t' e)) := rfl
theorem ldFnT {t t'} {f : Fn} : ld 6 true (AV.cells (eFnT t t' f)) 0 = some (eFnT t t' f) := rfl
theorem ldFnT3 {t t'} {f : Fn} : ld 1 false (AV.cells (eFnT t t' f)) 3 = some (.sl t 1 (f.params.map AV.str)) := rfl
theorem udFnT3 {t t' u} {f : Fn} {l : List (List Nat)} : upd 3 [.sl u 1 (l.map AV.str)] (AV.cells (eFnT t t' f)) = some (AV.cells (eFnT u t' { f with params := l })) := rfl
theorem udFnT4 {t t'} {f : Fn} : upd 4 [.int .i64 1] (AV.cells (eFnT t t' f)) = some (AV.cells (eFnT t t' { f with ty := 1 })) := rfl
theorem udFnT5 {t t' u} {f : Fn} {l : List Nat} : upd 5 [.sl u 1 (l.map eN)] (AV.cells (eFnT t t' f)) = some (AV.cells (eFnT t u { f with body := l })) := rfl
theorem udFnT1 {t t'} {f : Fn} {a b : Nat} : upd 1 [.int .i64 (a : Int), .int .i64 (b : Int)] (AV.cells (eFnT t t' f)) = some (AV.cells (eFnT t t' { f with f := a, t := b })) := rfl
/-- The parser's state, its functions laid raw. -/
def ePf (x : List Nat) (tk : List Tk) (ts : Tks) (p : PT) (code wh : Nat) (l : List AV) : AV :=
  .agg [.str x, .sl .no 3 (tk.map eTk), eN p.at_, .sl ts.a 9 (p.ex.map eEx), .sl ts.b 9 (p.sm.map eSm), .sl ts.c 6 l, eN code, eN wh]
section
variable {x : List Nat} {tk : List Tk} {ts : Tks} {p : PT} {c w : Nat} {hp : List AO} {Q : ARes → List AO → Prop} {l : List AV}
theorem udPf {t : Tok} : upd 5 [.sl t 6 l] (AV.cells (eP x tk ts p c w)) = some (AV.cells (ePf x tk { ts with c := t } p c w l)) := rfl
theorem ldPf : ld 8 true (AV.cells (ePf x tk ts p c w l)) 0 = some (ePf x tk ts p c w l) := rfl
theorem okvPf : okv 8 (ePf x tk ts p c w l) = true := rfl
theorem memPf : AV.mem (ePf x tk ts p c w l) = true := rfl
theorem udPf0 {a b d e f g h i : AV} : upd 0 (AV.cells (ePf x tk ts p c w l)) [a, b, d, e, f, g, h, i] = some (AV.cells (ePf x tk ts p c w l)) := rfl
theorem wk_Pf {fn : List Fn} (h : Wks l (fn.map eFn)) : Wk (ePf x tk ts p c w l) (eP x tk ts { p with fn := fn } c w) :=
  .agg (.cons .refl (.cons .refl (.cons .refl (.cons .refl (.cons .refl (.cons (.sl (.inl rfl) h) (.cons .refl (.cons .refl .nil))))))))
/-- What follows a function. -/
def PF (x : List Nat) (tk : List Tk) (hp : List AO) (ts : Tks) (w : Nat) (Q : ARes → List AO → Prop) : Res → Prop
  | .ok q _ => ∀ hp' ts', Vl x tk hp' ts' q → Step hp ts hp' ts' → Q (.ret (eP x tk ts' q 0 w)) hp'
  | .er c e => ∀ hp' ts' q, c ≠ 0 → q.at_ < tk.length → Step hp ts hp' ts' → Q (.ret (eP x tk ts' q c e)) hp'
theorem function_ok (H : TokOk x tk) (V : Vl x tk hp ts p) (h : ∀ r, Ev (fun n => run x tk n .func p) r → PF x tk hp ts w Q r) : callK CC 44 [eP x tk ts p 0 w] hp Q := by
  have hsh := H.short
  have hat := V.at_
  refine callK_intro rfl (Runs.weak (Q' := WkQ Q) (c44 ?_) Wks.refl fun _ _ h => h)
  simp only [s44]
  intro J1 J2 J3 J4 J5 h1 h2 h3 h4 h5
  have bad3 : ∀ {f c e hp' ts' q} {v : AV}, c ≠ 0 → Q (.ret (eP x tk ts' q c e)) hp' → J3 (eN f) (AV.cells (eP x tk ts' q c e)) [.str [], .sl .cap0 3 [], .int .i64 0, .sl .cap0 9 [], .sl .cap0 9 [], .sl .cap0 6 [], .int .i64 0, .int .i64 0] (AV.cells v) hp' := fun {f c e hp' ts' q v} hc hQ => by
    apply h3
    simp -implicitDefEqProofs (maxSteps := 5000000) (disch := omega) only [s44_3, go_sem, Nat.reduceBEq, Nat.reduceBNe, reduceIte, reduceCtorEq, Nat.reduceLeDiff, Nat.reduceAdd, Nat.reduceEqDiff]
    refine block_no (d := 1) hc fun l => ?_
    simp -implicitDefEqProofs (maxSteps := 5000000) (disch := omega) only [hc, go_sem, Nat.reduceBEq, Nat.reduceBNe, reduceIte, reduceCtorEq, Nat.reduceLeDiff, Nat.reduceAdd, Nat.reduceEqDiff]
    exact WkQ.intro hQ
  have bad : ∀ {f c e hp' ts' q} {v : AV}, c ≠ 0 → Q (.ret (eP x tk ts' q c e)) hp' → J1 (eN f) (AV.cells (eP x tk ts' q c e)) [.str [], .sl .cap0 3 [], .int .i64 0, .sl .cap0 9 [], .sl .cap0 9 [], .sl .cap0 6 [], .int .i64 0, .int .i64 0] (AV.cells v) hp' := fun {f c e hp' ts' q v} hc hQ => by
    apply h1
    simp -implicitDefEqProofs (maxSteps := 5000000) (disch := omega) only [s44_1, hc, go_sem, Nat.reduceBEq, Nat.reduceBNe, reduceIte, reduceCtorEq, Nat.reduceLeDiff, Nat.reduceAdd, Nat.reduceEqDiff]
    apply h4
    simp -implicitDefEqProofs (maxSteps := 5000000) (disch := omega) only [s44_4, go_sem, Nat.reduceBEq, Nat.reduceBNe, reduceIte, reduceCtorEq, Nat.reduceLeDiff, Nat.reduceAdd, Nat.reduceEqDiff]
    refine want_no hc ?_
    simp -implicitDefEqProofs (maxSteps := 5000000) (disch := omega) only [go_sem, Nat.reduceBEq, Nat.reduceBNe, reduceIte, reduceCtorEq, Nat.reduceLeDiff, Nat.reduceAdd, Nat.reduceEqDiff]
    refine is_no hc ?_
    simp -implicitDefEqProofs (maxSteps := 5000000) (disch := omega) only [go_sem, Nat.reduceBEq, Nat.reduceBNe, reduceIte, reduceCtorEq, Nat.reduceLeDiff, Nat.reduceAdd, Nat.reduceEqDiff]
    exact bad3 hc hQ
  have body : ∀ {f hp' ts' q t name acc ty q0}, tkK tk q0 ≠ 0 → p.at_ ≤ q0.at_ → Fwd tk q0.adv q → Vl x tk hp' ts' q0 → Vl x tk hp' ts' q → Step hp ts hp' ts' → (∀ r, Ev (fun n => bnd' (run x tk n (.block 1) q) fun r b => some (.ok { r with fn := r.fn ++ [⟨name, f, upto tk r, acc, ty, b⟩] } [])) r → PF x tk hp ts w Q r) →
      J3 (eN f) (AV.cells (eP x tk ts' q 0 w)) [.str [], .sl .cap0 3 [], .int .i64 0, .sl .cap0 9 [], .sl .cap0 9 [], .sl .cap0 6 [], .int .i64 0, .int .i64 0] (AV.cells (eFnT t .cap0 ⟨name, 0, 0, acc, ty, []⟩)) hp' := fun {f hp' ts' q t name acc ty q0} hk hq0 hf0 V0 V1 S1 hq => by
    apply h3
    simp -implicitDefEqProofs (maxSteps := 5000000) (disch := omega) only [s44_3, go_sem, Nat.reduceBEq, Nat.reduceBNe, reduceIte, reduceCtorEq, Nat.reduceLeDiff, Nat.reduceAdd, Nat.reduceEqDiff]
    refine block_ok (d := 1) H (by omega) V1 fun r hr => ?_
    cases r with
    | er c e =>
      intro hp2 ts2 q2 l hc hq2 S2
      simp -implicitDefEqProofs (maxSteps := 5000000) (disch := omega) only [hc, go_sem, Nat.reduceBEq, Nat.reduceBNe, reduceIte, reduceCtorEq, Nat.reduceLeDiff, Nat.reduceAdd, Nat.reduceEqDiff]
      exact WkQ.intro (hq (.er c e) hr.bindE hp2 ts2 q2 hc hq2 (S1.trans S2))
    | ok q2 b =>
      intro hp2 ts2 V2 S2
      have hf2 := ev_fwd H hr
      have hl2 := hf2.1.at_
      have hl0 := hf0.at_
      have hat2 := V2.at_
      have ea : q0.adv.at_ = q0.at_ + 1 := rfl
      obtain ⟨u, hu, he⟩ := up_some H V2.at_ (by omega)
      have hfl := V2.fn
      obtain ⟨hp3, l, ha, hw, ho, hs⟩ := V2.own.putC (e := ⟨name, f, u.t, acc, ty, b⟩) (by omega) (wk_fn (t := t) (t' := .no)) (t2 := .no)
      have V3 := V0.fwd (fn_fwd (e := ⟨name, f, u.t, acc, ty, b⟩) H hk (hf0.trans hf2.1)) ho
      simp -implicitDefEqProofs (maxSteps := 5000000) (disch := omega) only [udFnT5, hu, bld_span, okv_agg2, udFnT1, ldFnT, okvFnT, ha, udPf, ldPf, okvPf, memPf, udPf0, go_sem, Nat.reduceBEq, Nat.reduceBNe, reduceIte, reduceCtorEq, Nat.reduceLeDiff, Nat.reduceAdd, Nat.reduceEqDiff]
      refine ⟨_, wk_Pf hw, ?_⟩
      refine hq (.ok _ []) (hr.bind ?_) hp3 { ts2 with c := .own hp2.length } V3 (S1.trans (S2.trans hs))
      simp only [he]
      exact Ev.const
  have loop : ∀ (k : Nat) (f : Nat) (name : List Nat) (q : PT) (acc : List (List Nat)) (t : Tok) hp' ts', tk.length - q.at_ = k → p.at_ ≤ q.at_ → Vl x tk hp' ts' q → Step hp ts hp' ts' → Gr hp' t acc.length → Apart t ts' → (∀ i, t = .own i → hp.length ≤ i) → acc.length ≤ q.at_ → (∀ r, Ev (fun n => run x tk n (.params f name acc) q) r → PF x tk hp ts w Q r) →
      J1 (eN f) (AV.cells (eP x tk ts' q 0 w)) [.str [], .sl .cap0 3 [], .int .i64 0, .sl .cap0 9 [], .sl .cap0 9 [], .sl .cap0 6 [], .int .i64 0, .int .i64 0] (AV.cells (eFnT t .cap0 ⟨name, 0, 0, acc, 4, []⟩)) hp' := by
    intro k
    induction k using Nat.strongRecOn with
    | _ k ih =>
      intro f name q acc t hp' ts' hk hpq V1 S1 hg hap hfr hacc hq
      have hat1 := V1.at_
      have ea : q.adv.at_ = q.at_ + 1 := rfl
      apply h1
      simp -implicitDefEqProofs (maxSteps := 5000000) (disch := omega) only [s44_1, go_sem, Nat.reduceBEq, Nat.reduceBNe, reduceIte, reduceCtorEq, Nat.reduceLeDiff, Nat.reduceAdd, Nat.reduceEqDiff]
      refine is_ok H V1.at_ ?_
      rcases bool_or (isW x tk q [41]) with c1 | c1
      · have V2 := V1.adv H (isW_k c1)
        simp -implicitDefEqProofs (maxSteps := 5000000) (disch := omega) only [c1, go_sem, Nat.reduceBEq, Nat.reduceBNe, reduceIte, reduceCtorEq, Nat.reduceLeDiff, Nat.reduceAdd, Nat.reduceEqDiff]
        apply h4
        simp -implicitDefEqProofs (maxSteps := 5000000) (disch := omega) only [s44_4, go_sem, Nat.reduceBEq, Nat.reduceBNe, reduceIte, reduceCtorEq, Nat.reduceLeDiff, Nat.reduceAdd, Nat.reduceEqDiff]
        refine want_ok H V1.at_ (fun _ => ?_) (fun e => by rw [c1] at e; cases e)
        simp -implicitDefEqProofs (maxSteps := 5000000) (disch := omega) only [go_sem, Nat.reduceBEq, Nat.reduceBNe, reduceIte, reduceCtorEq, Nat.reduceLeDiff, Nat.reduceAdd, Nat.reduceEqDiff]
        refine is_ok (p := q.adv) H V2.at_ ?_
        rcases bool_or (isW x tk q.adv [105, 110, 116]) with c2 | c2
        · have V3 := V2.adv H (isW_k c2)
          simp -implicitDefEqProofs (maxSteps := 5000000) (disch := omega) only [c2, go_sem, Nat.reduceBEq, Nat.reduceBNe, reduceIte, reduceCtorEq, Nat.reduceLeDiff, Nat.reduceAdd, Nat.reduceEqDiff]
          refine want_ok (p := q.adv) H V2.at_ (fun _ => ?_) (fun e => by rw [c2] at e; cases e)
          simp -implicitDefEqProofs (maxSteps := 5000000) (disch := omega) only [udFnT4, go_sem, Nat.reduceBEq, Nat.reduceBNe, reduceIte, reduceCtorEq, Nat.reduceLeDiff, Nat.reduceAdd, Nat.reduceEqDiff]
          refine body (q := q.adv.adv) (isW_k c1) hpq (Fwd.adv H (isW_k c2)) V1 V3 S1 fun r hr => ?_
          exact hq r (Ev.succ (by simp only [run, c1, c2, if_true]; exact hr))
        · simp -implicitDefEqProofs (maxSteps := 5000000) (disch := omega) only [c2, go_sem, Nat.reduceBEq, Nat.reduceBNe, reduceIte, reduceCtorEq, Nat.reduceLeDiff, Nat.reduceAdd, Nat.reduceEqDiff]
          refine body (q := q.adv) (isW_k c1) hpq Fwd.refl V1 V2 S1 fun r hr => ?_
          exact hq r (Ev.succ (by simp only [run, c1, c2, if_true, Bool.false_eq_true, if_false]; exact hr))
      · have more : ∀ (q1 : PT), Vl x tk hp' ts' q1 → q.at_ ≤ q1.at_ → (∀ r, Ev (fun n => if tkK tk q1 = 1 then run x tk n (.params f name (acc ++ [word x tk q1])) q1.adv else er tk q1 3) r → PF x tk hp ts w Q r) → J2 (eN f) (AV.cells (eP x tk ts' q1 0 w)) [.str [], .sl .cap0 3 [], .int .i64 0, .sl .cap0 9 [], .sl .cap0 9 [], .sl .cap0 6 [], .int .i64 0, .int .i64 0] (AV.cells (eFnT t .cap0 ⟨name, 0, 0, acc, 4, []⟩)) hp' := fun q1 V2 hqq hq => by
          apply h2
          have hat2 := V2.at_
          have ea1 : q1.adv.at_ = q1.at_ + 1 := rfl
          simp -implicitDefEqProofs (maxSteps := 5000000) (disch := omega) only [s44_2, go_sem, Nat.reduceBEq, Nat.reduceBNe, reduceIte, reduceCtorEq, Nat.reduceLeDiff, Nat.reduceAdd, Nat.reduceEqDiff]
          refine kind_ok (k := 1) H V2.at_ (fun k1 => ?_) (fun k1 => ?_)
          · have V3 := V2.adv H (by omega)
            have hat3 := V3.at_
            obtain ⟨hp3, ha, hlen, hg3, hsm⟩ := app_gr (f := AV.str) (e := 1) (t2 := .no) (y := word x tk q1) hg (by omega)
            have V4 : Vl x tk hp3 ts' q1.adv := ⟨V3.at_, V3.own.same hsm (fun u hu => by rw [List.mem_singleton.1 hu]; exact hap), V3.ex, V3.sm, V3.fn⟩
            simp -implicitDefEqProofs (maxSteps := 5000000) (disch := omega) only [ldFnT3, ha, udFnT3, go_sem, Nat.reduceBEq, Nat.reduceBNe, reduceIte, reduceCtorEq, Nat.reduceLeDiff, Nat.reduceAdd, Nat.reduceEqDiff]
            refine ih (tk.length - q1.adv.at_) (by omega) f name q1.adv _ _ hp3 ts' rfl (by omega) V4 (S1.grow hsm hfr) hg3 V3.own.fresh (fun i e => by cases e; exact S1.same.1) (by simp; omega) fun r hr => hq r ?_
            simp only [k1, if_true]; exact hr
          · obtain ⟨hp3, ha, hlen, hg3, hsm⟩ := app_gr (f := AV.str) (e := 1) (t2 := .no) (y := []) hg (by omega)
            simp -implicitDefEqProofs (maxSteps := 5000000) (disch := omega) only [ldFnT3, ha, udFnT3, go_sem, Nat.reduceBEq, Nat.reduceBNe, reduceIte, reduceCtorEq, Nat.reduceLeDiff, Nat.reduceAdd, Nat.reduceEqDiff]
            exact bad (by omega) (hq (.er 3 (here tk q1)) (by simp only [if_neg k1]; exact Ev.const) hp3 ts' q1 (by omega) V2.at_ (S1.grow hsm hfr))
        by_cases hnil : acc = []
        · have h0 : ¬ 0 < acc.length := by simp [hnil]
          simp -implicitDefEqProofs (maxSteps := 5000000) (disch := omega) only [c1, ldFnT3, h0, go_sem, Nat.reduceBEq, Nat.reduceBNe, reduceIte, reduceCtorEq, Nat.reduceLeDiff, Nat.reduceAdd, Nat.reduceEqDiff]
          refine more q V1 (Nat.le_refl _) fun r hr => ?_
          exact hq r (Ev.succ (by simp only [run, c1, Bool.false_eq_true, if_false, if_pos hnil]; exact hr))
        · have h0 : 0 < acc.length := List.length_pos_iff.2 hnil
          simp -implicitDefEqProofs (maxSteps := 5000000) (disch := omega) only [c1, ldFnT3, h0, go_sem, Nat.reduceBEq, Nat.reduceBNe, reduceIte, reduceCtorEq, Nat.reduceLeDiff, Nat.reduceAdd, Nat.reduceEqDiff]
          refine want_ok H V1.at_ (fun hcm => ?_) (fun hcm => ?_)
          · simp -implicitDefEqProofs (maxSteps := 5000000) (disch := omega) only [go_sem, Nat.reduceBEq, Nat.reduceBNe, reduceIte, reduceCtorEq, Nat.reduceLeDiff, Nat.reduceAdd, Nat.reduceEqDiff]
            refine more q.adv (V1.adv H (isW_k hcm)) (by omega) fun r hr => ?_
            exact hq r (Ev.succ (by simp only [run, c1, hcm, Bool.false_eq_true, if_false, if_true, if_neg hnil]; exact hr))
          · have hq' := hq (.er 3 (here tk q)) (Ev.succ (by simp only [run, c1, hcm, Bool.false_eq_true, if_false, if_neg hnil]; exact Ev.const))
            simp -implicitDefEqProofs (maxSteps := 5000000) (disch := omega) only [go_sem, Nat.reduceBEq, Nat.reduceBNe, reduceIte, reduceCtorEq, Nat.reduceLeDiff, Nat.reduceAdd, Nat.reduceEqDiff]
            apply h2
            simp -implicitDefEqProofs (maxSteps := 5000000) (disch := omega) only [s44_2, go_sem, Nat.reduceBEq, Nat.reduceBNe, reduceIte, reduceCtorEq, Nat.reduceLeDiff, Nat.reduceAdd, Nat.reduceEqDiff]
            refine kind_no (k := 1) (by omega) ?_
            obtain ⟨hp3, ha, hlen, hg3, hsm⟩ := app_gr (f := AV.str) (e := 1) (t2 := .no) (y := []) hg (by omega)
            simp -implicitDefEqProofs (maxSteps := 5000000) (disch := omega) only [ldFnT3, ha, udFnT3, go_sem, Nat.reduceBEq, Nat.reduceBNe, reduceIte, reduceCtorEq, Nat.reduceLeDiff, Nat.reduceAdd, Nat.reduceEqDiff]
            exact bad (by omega) (hq' hp3 ts' q (by omega) V1.at_ (S1.grow hsm hfr))
  simp -implicitDefEqProofs (maxSteps := 5000000) (disch := omega) only [s44_0, go_sem, Nat.reduceBEq, Nat.reduceBNe, reduceIte, reduceCtorEq, Nat.reduceLeDiff, Nat.reduceAdd, Nat.reduceEqDiff]
  refine here_ok V.at_ ?_
  simp -implicitDefEqProofs (maxSteps := 5000000) (disch := omega) only [go_sem, Nat.reduceBEq, Nat.reduceBNe, reduceIte, reduceCtorEq, Nat.reduceLeDiff, Nat.reduceAdd, Nat.reduceEqDiff]
  refine is_ok H V.at_ ?_
  rcases bool_or (isW x tk p [102, 117, 110, 99]) with c1 | c1
  · have V1 := V.adv H (isW_k c1)
    have hat1 := V1.at_
    by_cases h32 : 32 ≤ p.fn.length
    · have h' := h (.er 5 (here tk p)) (Ev.succ (by simp only [run, c1, if_true, if_pos h32]; exact Ev.const)) hp ts p (by omega) V.at_ Step.refl
      simp -implicitDefEqProofs (maxSteps := 5000000) (disch := omega) only [c1, fnd_cons, ldL_loc, h32, go_sem, Nat.reduceBEq, Nat.reduceBNe, reduceIte, reduceCtorEq, Nat.reduceLeDiff, Nat.reduceAdd, Nat.reduceEqDiff]
      refine fail_ok (n := 5) V.at_ ?_
      simp -implicitDefEqProofs (maxSteps := 5000000) (disch := omega) only [go_sem, Nat.reduceBEq, Nat.reduceBNe, reduceIte, reduceCtorEq, Nat.reduceLeDiff, Nat.reduceAdd, Nat.reduceEqDiff]
      apply h5
      simp -implicitDefEqProofs (maxSteps := 5000000) (disch := omega) only [s44_5, go_sem, Nat.reduceBEq, Nat.reduceBNe, reduceIte, reduceCtorEq, Nat.reduceLeDiff, Nat.reduceAdd, Nat.reduceEqDiff]
      refine want_no (by omega) ?_
      simp -implicitDefEqProofs (maxSteps := 5000000) (disch := omega) only [go_sem, Nat.reduceBEq, Nat.reduceBNe, reduceIte, reduceCtorEq, Nat.reduceLeDiff, Nat.reduceAdd, Nat.reduceEqDiff]
      refine kind_no (k := 1) (by omega) ?_
      simp -implicitDefEqProofs (maxSteps := 5000000) (disch := omega) only [go_sem, Nat.reduceBEq, Nat.reduceBNe, reduceIte, reduceCtorEq, Nat.reduceLeDiff, Nat.reduceAdd, Nat.reduceEqDiff]
      refine want_no (by omega) ?_
      simp -implicitDefEqProofs (maxSteps := 5000000) (disch := omega) only [bldF, nlocFnT, okvFnT, udFnTa, go_sem, Nat.reduceBEq, Nat.reduceBNe, reduceIte, reduceCtorEq, Nat.reduceLeDiff, Nat.reduceAdd, Nat.reduceEqDiff]
      exact bad (by omega) h'
    · have hx : ∀ r, Ev (fun n => if tkK tk p.adv = 1 then (if isW x tk p.adv.adv [40] = true then run x tk n (.params (here tk p) (word x tk p.adv) []) p.adv.adv.adv else er tk p.adv.adv 3) else er tk p.adv 3) r → PF x tk hp ts w Q r := fun r hr => h r (Ev.succ (by simp only [run, c1, if_true, if_neg h32]; exact hr))
      simp -implicitDefEqProofs (maxSteps := 5000000) (disch := omega) only [c1, fnd_cons, ldL_loc, h32, go_sem, Nat.reduceBEq, Nat.reduceBNe, reduceIte, reduceCtorEq, Nat.reduceLeDiff, Nat.reduceAdd, Nat.reduceEqDiff]
      apply h5
      simp -implicitDefEqProofs (maxSteps := 5000000) (disch := omega) only [s44_5, go_sem, Nat.reduceBEq, Nat.reduceBNe, reduceIte, reduceCtorEq, Nat.reduceLeDiff, Nat.reduceAdd, Nat.reduceEqDiff]
      refine want_ok H V.at_ (fun _ => ?_) (fun e => by rw [c1] at e; cases e)
      simp -implicitDefEqProofs (maxSteps := 5000000) (disch := omega) only [go_sem, Nat.reduceBEq, Nat.reduceBNe, reduceIte, reduceCtorEq, Nat.reduceLeDiff, Nat.reduceAdd, Nat.reduceEqDiff]
      refine kind_ok (p := p.adv) (k := 1) H V1.at_ (fun k1 => ?_) (fun k1 => ?_)
      · have V2 := V1.adv H (by omega)
        simp -implicitDefEqProofs (maxSteps := 5000000) (disch := omega) only [go_sem, Nat.reduceBEq, Nat.reduceBNe, reduceIte, reduceCtorEq, Nat.reduceLeDiff, Nat.reduceAdd, Nat.reduceEqDiff]
        refine want_ok (p := p.adv.adv) H V2.at_ (fun c2 => ?_) (fun c2 => ?_)
        · have V3 := V2.adv H (isW_k c2)
          simp -implicitDefEqProofs (maxSteps := 5000000) (disch := omega) only [bldF, nlocFnT, okvFnT, udFnTa, go_sem, Nat.reduceBEq, Nat.reduceBNe, reduceIte, reduceCtorEq, Nat.reduceLeDiff, Nat.reduceAdd, Nat.reduceEqDiff]
          refine loop _ (here tk p) (word x tk p.adv) p.adv.adv.adv [] .cap0 hp ts rfl (by simp [PT.adv]; omega) V3 Step.refl (.inl ⟨rfl, rfl⟩) Apart.cap0 (fun _ e => by cases e) (Nat.zero_le _) fun r hr => hx r ?_
          simp only [k1, c2, if_true]; exact hr
        · simp -implicitDefEqProofs (maxSteps := 5000000) (disch := omega) only [bldF, nlocFnT, okvFnT, udFnTa, go_sem, Nat.reduceBEq, Nat.reduceBNe, reduceIte, reduceCtorEq, Nat.reduceLeDiff, Nat.reduceAdd, Nat.reduceEqDiff]
          exact bad (by omega) (hx (.er 3 (here tk p.adv.adv)) (by simp only [k1, c2, if_true, Bool.false_eq_true, if_false]; exact Ev.const) hp ts p.adv.adv (by omega) V2.at_ Step.refl)
      · have h' := hx (.er 3 (here tk p.adv)) (by simp only [if_neg k1]; exact Ev.const) hp ts p.adv (by omega) V1.at_ Step.refl
        simp -implicitDefEqProofs (maxSteps := 5000000) (disch := omega) only [go_sem, Nat.reduceBEq, Nat.reduceBNe, reduceIte, reduceCtorEq, Nat.reduceLeDiff, Nat.reduceAdd, Nat.reduceEqDiff]
        refine want_no (p := p.adv) (by omega) ?_
        simp -implicitDefEqProofs (maxSteps := 5000000) (disch := omega) only [bldF, nlocFnT, okvFnT, udFnTa, go_sem, Nat.reduceBEq, Nat.reduceBNe, reduceIte, reduceCtorEq, Nat.reduceLeDiff, Nat.reduceAdd, Nat.reduceEqDiff]
        exact bad (by omega) h'
  · have h' := h (.er 3 (here tk p)) (Ev.succ (by simp only [run, c1, Bool.false_eq_true, if_false]; exact Ev.const)) hp ts p (by omega) V.at_ Step.refl
    simp -implicitDefEqProofs (maxSteps := 5000000) (disch := omega) only [c1, go_sem, Nat.reduceBEq, Nat.reduceBNe, reduceIte, reduceCtorEq, Nat.reduceLeDiff, Nat.reduceAdd, Nat.reduceEqDiff]
    apply h5
    simp -implicitDefEqProofs (maxSteps := 5000000) (disch := omega) only [s44_5, go_sem, Nat.reduceBEq, Nat.reduceBNe, reduceIte, reduceCtorEq, Nat.reduceLeDiff, Nat.reduceAdd, Nat.reduceEqDiff]
    refine want_ok H V.at_ (fun e => by rw [c1] at e; cases e) (fun _ => ?_)
    simp -implicitDefEqProofs (maxSteps := 5000000) (disch := omega) only [go_sem, Nat.reduceBEq, Nat.reduceBNe, reduceIte, reduceCtorEq, Nat.reduceLeDiff, Nat.reduceAdd, Nat.reduceEqDiff]
    refine kind_no (k := 1) (by omega) ?_
    simp -implicitDefEqProofs (maxSteps := 5000000) (disch := omega) only [go_sem, Nat.reduceBEq, Nat.reduceBNe, reduceIte, reduceCtorEq, Nat.reduceLeDiff, Nat.reduceAdd, Nat.reduceEqDiff]
    refine want_no (by omega) ?_
    simp -implicitDefEqProofs (maxSteps := 5000000) (disch := omega) only [bldF, nlocFnT, okvFnT, udFnTa, go_sem, Nat.reduceBEq, Nat.reduceBNe, reduceIte, reduceCtorEq, Nat.reduceLeDiff, Nat.reduceAdd, Nat.reduceEqDiff]
    exact bad (by omega) h'
end
/-- A program. -/
def eTr (q : PT) : AV := .agg [.sl .no 9 (q.ex.map eEx), .sl .no 9 (q.sm.map eSm), .sl .no 6 (q.fn.map eFn)]
def p0 : PT := ⟨0, [], [], []⟩
/-- What becomes of a text. -/
def ParseR (x : List Nat) (r : Res) : Prop := match lexM x with
  | .inr (f, e) => r = .er e f
  | .inl tk => Ev (fun n => run x tk n .funcs p0) r
theorem allF_er {s : List Nat} : ∀ (n i : Nat) (out : List Tk) {r}, i ≤ s.length → s.length < i + n → allF s n i out = .inr r → r.2 ≠ 0 := by
  intro n
  induction n with
  | zero => intro i out r hi hn; omega
  | succ n ih =>
    intro i out r hi hn h
    have hle := nextM_le hi
    rw [allF] at h
    rcases ite_or h with ⟨h0, h⟩ | ⟨h0, h⟩
    · cases h; exact h0
    · rcases ite_or h with ⟨hk, h⟩ | ⟨hk, h⟩
      · cases h
      · have := hle.2.2.2 (by simpa using h0) hk
        exact ih _ _ hle.2.2.1 (by omega) h
theorem lex_er {s : List Nat} {r} (h : lexM s = .inr r) : r.2 ≠ 0 := by
  unfold lexM at h
  rcases ite_or h with ⟨_, h⟩ | ⟨_, h⟩
  · cases h; simp
  · exact allF_er _ _ _ (Nat.zero_le _) (by omega) h
theorem bldT0 : bld [.sl .cap0 9 [], .sl .cap0 9 [], .sl .cap0 6 []] [] = some (.agg [.sl .cap0 9 [], .sl .cap0 9 [], .sl .cap0 6 []]) := rfl
theorem bldP {x : List Nat} {tk : List Tk} : bld [.str [], .sl .cap0 3 [], .int .i64 0, .sl .cap0 9 [], .sl .cap0 9 [], .sl .cap0 6 [], .int .i64 0, .int .i64 0] [(0, 1, .str x), (1, 1, .sl .no 3 (tk.map eTk))] = some (eP x tk ⟨.cap0, .cap0, .cap0⟩ p0 0 0) := rfl
theorem len0 {α : Type} {l : List α} : (l.length = 0) = (l = []) := propext List.length_eq_zero_iff
theorem parse_ok {x : List Nat} {hp : List AO} {Q : ARes → List AO → Prop} (hx : x.length < 1000000)
    (h1 : ∀ hp' q v, ParseR x (.ok q v) → Same [] hp hp' → Q (.ret (.tup [eTr q, eN 0, eN 0])) hp')
    (h2 : ∀ hp' c e, c ≠ 0 → ParseR x (.er c e) → Same [] hp hp' → Q (.ret (.tup [eTr p0, eN e, eN c])) hp') : callK CC 31 [.str x] hp Q := by
  refine callK_intro rfl (Runs.weak (Q' := WkQ Q) (c31 ?_) Wks.refl fun _ _ h => h)
  simp only [s31]
  intro J1 J2 g1 g2
  simp -implicitDefEqProofs (maxSteps := 5000000) (disch := omega) only [s31_0, go_sem, Nat.reduceBEq, Nat.reduceBNe, reduceIte, reduceCtorEq, Nat.reduceLeDiff, Nat.reduceAdd, Nat.reduceEqDiff]
  refine allRef_ok hx fun hp1 hs1 => ?_
  have t0 : ∀ {a b : AV}, Wk (.tup [.agg [.sl .cap0 9 [], .sl .cap0 9 [], .sl .cap0 6 []], a, b]) (.tup [eTr p0, a, b]) := fun {a b} => .tup (.cons (.agg (.cons (.sl (.inr rfl) .nil) (.cons (.sl (.inr rfl) .nil) (.cons (.sl (.inr rfl) .nil) .nil)))) Wks.refl)
  cases hl : lexM x with
  | inr r =>
    obtain ⟨f, e⟩ := r
    have he : e ≠ 0 := lex_er hl
    simp -implicitDefEqProofs (maxSteps := 5000000) (disch := omega) only [he, bldT0, okv_agg3, go_sem, Nat.reduceBEq, Nat.reduceBNe, reduceIte, reduceCtorEq, Nat.reduceLeDiff, Nat.reduceAdd, Nat.reduceEqDiff]
    exact ⟨_, t0, h2 hp1 e f he (by simp only [ParseR, hl]) hs1⟩
  | inl tk =>
    have H := lex_ok hl
    have hP : ∀ {r}, Ev (fun n => run x tk n .funcs p0) r → ParseR x r := fun h => by simp only [ParseR, hl]; exact h
    have hsh := H.short
    simp -implicitDefEqProofs (maxSteps := 5000000) (disch := omega) only [bldP, go_sem, Nat.reduceBEq, Nat.reduceBNe, reduceIte, reduceCtorEq, Nat.reduceLeDiff, Nat.reduceAdd, Nat.reduceEqDiff]
    have bad : ∀ c e hp' ts q, c ≠ 0 → ParseR x (.er c e) → Same [] hp hp' → J1 [.sl .cap0 9 [], .sl .cap0 9 [], .sl .cap0 6 []] (AV.cells (eP x tk ts q c e)) hp' := fun c e hp' ts q hc hr hs => by
      apply g1
      simp -implicitDefEqProofs (maxSteps := 5000000) (disch := omega) only [s31_1, hc, go_sem, Nat.reduceBEq, Nat.reduceBNe, reduceIte, reduceCtorEq, Nat.reduceLeDiff, Nat.reduceAdd, Nat.reduceEqDiff]
      apply g2
      simp -implicitDefEqProofs (maxSteps := 5000000) (disch := omega) only [s31_2, hc, bldT0, okv_agg3, go_sem, Nat.reduceBEq, Nat.reduceBNe, reduceIte, reduceCtorEq, Nat.reduceLeDiff, Nat.reduceAdd, Nat.reduceEqDiff]
      exact ⟨_, t0, h2 hp' c e hc hr hs⟩
    have same : ∀ {hp' ts}, Step hp1 ⟨.cap0, .cap0, .cap0⟩ hp' ts → Same [] hp hp' := fun {hp' ts} S => hs1.trans S.same fun t ht => .inr fun i hi e => by
      simp only [Tks.l, List.mem_cons, List.not_mem_nil, or_false] at ht
      rcases ht with rfl | rfl | rfl <;> cases e
    have loop : ∀ (k : Nat) (q : PT) hp' ts, tk.length - q.at_ = k → Vl x tk hp' ts q → Step hp1 ⟨.cap0, .cap0, .cap0⟩ hp' ts → (∀ r, Ev (fun n => run x tk n .funcs q) r → Ev (fun n => run x tk n .funcs p0) r) → J1 [.sl .cap0 9 [], .sl .cap0 9 [], .sl .cap0 6 []] (AV.cells (eP x tk ts q 0 0)) hp' := by
      intro k
      induction k using Nat.strongRecOn with
      | _ k ih =>
        intro q hp' ts hk V S hr0
        have hat := V.at_
        have go : q.fn = [] ∨ tkK tk q ≠ 0 → callK CC 44 [eP x tk ts q 0 0] hp' (rx (pn (WkQ Q)) fun t44 hp2 => ifT (okv 8 t44) (bl (upd 0 (AV.cells t44) (AV.cells (eP x tk ts q 0 0))) fun b8_4 => J1 [.sl .cap0 9 [], .sl .cap0 9 [], .sl .cap0 6 []] b8_4 hp2)) := fun hg => by
          refine function_ok H V fun r hr => ?_
          cases r with
          | er c e =>
            intro hp2 ts2 q2 hc hq2 S2
            simp -implicitDefEqProofs (maxSteps := 5000000) (disch := omega) only [go_sem, Nat.reduceBEq, Nat.reduceBNe, reduceIte, reduceCtorEq, Nat.reduceLeDiff, Nat.reduceAdd, Nat.reduceEqDiff]
            exact bad c e hp2 ts2 q2 hc (hP (hr0 _ (Ev.succ (by simp only [run, if_pos hg]; exact hr.bindE)))) (same (S.trans S2))
          | ok q2 v =>
            intro hp2 ts2 V2 S2
            have hf := ev_fwd H hr
            have hl2 := hf.2
            simp only [NT.st] at hl2
            simp -implicitDefEqProofs (maxSteps := 5000000) (disch := omega) only [go_sem, Nat.reduceBEq, Nat.reduceBNe, reduceIte, reduceCtorEq, Nat.reduceLeDiff, Nat.reduceAdd, Nat.reduceEqDiff]
            exact ih (tk.length - q2.at_) (by omega) q2 hp2 ts2 rfl V2 (S.trans S2) fun r hr2 => hr0 r (Ev.succ (by simp only [run, if_pos hg]; exact hr.bind hr2))
        apply g1
        obtain ⟨t, ht⟩ := at_some V.at_
        have hkt : tkK tk q = t.k := by simp only [tkK, ht]
        by_cases hfn : q.fn = []
        · have hz : q.fn.length = 0 := by rw [hfn]; rfl
          simp -implicitDefEqProofs (maxSteps := 5000000) (disch := omega) only [s31_1, fnd_cons, ldL_loc, hz, go_sem, Nat.reduceBEq, Nat.reduceBNe, reduceIte, reduceCtorEq, Nat.reduceLeDiff, Nat.reduceAdd, Nat.reduceEqDiff]
          exact go (.inl hfn)
        · have hz : ¬ q.fn.length = 0 := fun e => hfn (List.length_eq_zero_iff.1 e)
          by_cases hk0 : t.k = 0
          · simp -implicitDefEqProofs (maxSteps := 5000000) (disch := omega) only [s31_1, fnd_cons, ldL_loc, hz, ht, hk0, go_sem, Nat.reduceBEq, Nat.reduceBNe, reduceIte, reduceCtorEq, Nat.reduceLeDiff, Nat.reduceAdd, Nat.reduceEqDiff]
            apply g2
            simp -implicitDefEqProofs (maxSteps := 5000000) (disch := omega) only [s31_2, okv_agg3, go_sem, Nat.reduceBEq, Nat.reduceBNe, reduceIte, reduceCtorEq, Nat.reduceLeDiff, Nat.reduceAdd, Nat.reduceEqDiff]
            refine ⟨_, ?_, h1 hp' q [] (hP (hr0 _ (Ev.succ (by simp only [run, if_neg (show ¬ (q.fn = [] ∨ tkK tk q ≠ 0) by rw [hkt]; simp [hfn, hk0])]; exact Ev.const)))) (same S)⟩
            exact .tup (.cons (.agg (.cons (.sl (.inr rfl) Wks.refl) (.cons (.sl (.inr rfl) Wks.refl) (.cons (.sl (.inr rfl) Wks.refl) .nil)))) Wks.refl)
          · simp -implicitDefEqProofs (maxSteps := 5000000) (disch := omega) only [s31_1, fnd_cons, ldL_loc, hz, ht, hk0, go_sem, Nat.reduceBEq, Nat.reduceBNe, reduceIte, reduceCtorEq, Nat.reduceLeDiff, Nat.reduceAdd, Nat.reduceEqDiff]
            exact go (.inr (by rw [hkt]; exact hk0))
    refine loop _ p0 hp1 ⟨.cap0, .cap0, .cap0⟩ rfl ⟨H.pos, ⟨.inl ⟨rfl, rfl⟩, .inl ⟨rfl, rfl⟩, .inl ⟨rfl, rfl⟩, fun _ e => by (cases e), fun _ e => by (cases e), fun _ e => by (cases e)⟩, Nat.le_refl _, Nat.zero_le _, Nat.le_refl _⟩ Step.refl fun r h => h
end Go.Proofs.Ytnldohnfdeineaa.Abs
