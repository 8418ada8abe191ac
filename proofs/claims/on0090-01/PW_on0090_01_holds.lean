import PyProof.Rows.All
import Wide.All
import OpenK.AllK
import Wide.FinOn
import PySem.Challenge.RW_on0090_01
open PySem PySem.W PyProof.Rows
set_option Elab.async false
namespace Mine
set_option maxRecDepth 100000 in
set_option maxHeartbeats 8000000 in
open_top hd for PySem.Challenge.rw_on0090_01
def nameC (c : Nat) : Bool := c == 95 || c == 36 || (decide (48 ≤ c) && decide (c ≤ 57)) || (decide (97 ≤ c) && decide (c ≤ 122)) || (decide (65 ≤ c) && decide (c ≤ 90))
def wsC (c : Nat) : Bool := c == 32 || c == 9 || c == 13 || c == 10 || c == 12 || c == 11
def opC (c : Nat) : Bool := c == 40 || c == 91 || c == 123
def clC (c : Nat) : Bool := c == 41 || c == 93 || c == 125
def nlC (c : Nat) : Nat := if c = 10 then 32 else c
noncomputable def rowLen : List Nat → Nat
  | [] => 0
  | c :: r => if c = 10 then 0 else rowLen r + 1
noncomputable def strLen : List Nat → Nat
  | [] => 0
  | [c] => if c = 10 then 0 else 1
  | c :: d :: r => if c = 10 then 0 else if c = 34 then 1 else if c = 92 ∧ d ≠ 10 then strLen r + 2 else strLen (d :: r) + 1
noncomputable def starLen : List Nat → Nat
  | [] => 0
  | [_] => 1
  | c :: d :: r => if c = 42 ∧ d = 47 then 0 else starLen (d :: r) + 1
noncomputable def escLen : List Nat → Nat
  | [] => 0
  | c :: r => if wsC c then 0 else escLen r + 1
noncomputable def nameLen : List Nat → Nat
  | [] => 0
  | c :: r => if nameC c then nameLen r + 1 else 0
noncomputable def remLen (ys : List Nat) : Nat :=
  if ys.take 2 = [47, 47] then rowLen ys
  else if ys.take 2 = [47, 42] then min (starLen (ys.drop 2) + 4) ys.length
  else 0
noncomputable def wholeLen : List Nat → Nat
  | [] => 1
  | c :: r => if c = 34 then strLen r + 1 else if c = 92 then escLen (c :: r) else if c = 39 then nameLen r + 1 else max (nameLen (c :: r)) 1

theorem escLen_pos {r : List Nat} : 0 < escLen (92 :: r) := by
  simp [escLen, wsC]
theorem wholeLen_pos : ∀ ys : List Nat, 0 < wholeLen ys
  | [] => by simp [wholeLen]
  | c :: r => by
    show 0 < if c = 34 then strLen r + 1 else if c = 92 then escLen (c :: r) else if c = 39 then nameLen r + 1 else max (nameLen (c :: r)) 1
    by_cases h1 : c = 34
    · rw [if_pos h1]; omega
    · rw [if_neg h1]
      by_cases h2 : c = 92
      · rw [if_pos h2]; subst h2; exact escLen_pos
      · rw [if_neg h2]
        by_cases h3 : c = 39
        · rw [if_pos h3]; omega
        · rw [if_neg h3]; omega

noncomputable def readA (ys : List Nat) (depth : Nat) (acc : List Nat) (args : List Str) : Option (List Str × List Nat) :=
  match ys with
  | [] => none
  | c :: r =>
    if 0 < remLen (c :: r) then readA ((c :: r).drop (remLen (c :: r))) depth (acc ++ [32]) args
    else if depth = 0 ∧ (c = 44 ∨ c = 41) then
      if c = 41 then some (args ++ [Txt.strip ⟨acc.toArray⟩], r) else readA r 0 [] (args ++ [Txt.strip ⟨acc.toArray⟩])
    else if depth = 0 ∧ clC c = true then none
    else readA ((c :: r).drop (wholeLen (c :: r))) (if opC c then depth + 1 else if clC c then depth - 1 else depth) (acc ++ ((c :: r).take (wholeLen (c :: r))).map nlC) args
termination_by ys.length
decreasing_by
  · simp only [List.length_drop, List.length_cons]; omega
  · simp
  · have := wholeLen_pos (c :: r)
    simp only [List.length_drop, List.length_cons]; omega

noncomputable def readAt (xs : List Nat) (i : Nat) : Option (List Str × Nat) :=
  if (xs.drop i).take 1 = [40] then (readA (xs.drop (i + 1)) 0 [] []).map fun p => (p.1, xs.length - p.2.length) else none

theorem remLen_of {c : Nat} {r : List Nat} (h : c ≠ 47) : remLen (c :: r) = 0 := by
  unfold remLen
  cases r with
  | nil => simp
  | cons d r => simp [h]

theorem nameLen_take : ∀ ys : List Nat, (ys.take (nameLen ys)).map nlC = ys.take (nameLen ys)
  | [] => rfl
  | c :: r => by
    unfold nameLen
    by_cases h : nameC c = true
    · rw [if_pos h, List.take_succ_cons, List.map_cons, nameLen_take r]
      have : nlC c = c := by
        unfold nlC
        rw [if_neg]
        intro e; subst e; exact absurd h (by decide)
      rw [this]
    · rw [if_neg h]; rfl

theorem name_facts {c : Nat} (h : nameC c = true) : c ≠ 34 ∧ c ≠ 92 ∧ c ≠ 39 ∧ c ≠ 47 ∧ c ≠ 44 ∧ c ≠ 41 ∧ opC c = false ∧ clC c = false := by
  refine ⟨?_, ?_, ?_, ?_, ?_, ?_, ?_, ?_⟩
  all_goals first
    | (intro e; subst e; exact absurd h (by decide))
    | (simp only [nameC, Bool.or_eq_true, Bool.and_eq_true, decide_eq_true_eq, beq_iff_eq] at h
       simp only [opC, clC, Bool.or_eq_false_iff, beq_eq_false_iff_ne]
       omega)

/-- the turn at a sign that opens no remark and ends no argument -/
theorem readA_turn {c : Nat} {r : List Nat} {depth : Nat} {acc : List Nat} {args : List Str} (h1 : remLen (c :: r) = 0) (h2 : ¬ (depth = 0 ∧ (c = 44 ∨ c = 41))) (h3 : ¬ (depth = 0 ∧ clC c = true)) :
    readA (c :: r) depth acc args = readA ((c :: r).drop (wholeLen (c :: r))) (if opC c then depth + 1 else if clC c then depth - 1 else depth) (acc ++ ((c :: r).take (wholeLen (c :: r))).map nlC) args := by
  conv => lhs; unfold readA
  simp only [h1, Nat.lt_irrefl, if_false, h2, h3]

theorem readA_run (ys : List Nat) (depth : Nat) (acc : List Nat) (args : List Str) :
    readA (ys.drop (nameLen ys)) depth (acc ++ (ys.take (nameLen ys)).map nlC) args = readA ys depth acc args := by
  cases ys with
  | nil => simp [nameLen]
  | cons d r =>
    by_cases h : nameC d = true
    · obtain ⟨a1, a2, a3, a4, a5, a6, a7, a8⟩ := name_facts h
      have hn : nameLen (d :: r) = nameLen r + 1 := by simp [nameLen, h]
      have hw : wholeLen (d :: r) = nameLen (d :: r) := by
        simp only [wholeLen, a1, a2, a3, if_false]
        omega
      rw [readA_turn (c := d) (remLen_of a4) (by omega) (by simp [a8]), hw, a7, a8]
      simp
    · have hn : nameLen (d :: r) = 0 := by simp [nameLen, h]
      rw [hn]
      simp

theorem readA_name {c : Nat} (h : nameC c = true) (ys : List Nat) (depth : Nat) (acc : List Nat) (args : List Str) :
    readA (c :: ys) depth acc args = readA ys depth (acc ++ [c]) args := by
  obtain ⟨a1, a2, a3, a4, a5, a6, a7, a8⟩ := name_facts h
  have hn : nameLen (c :: ys) = nameLen ys + 1 := by simp [nameLen, h]
  have hw : wholeLen (c :: ys) = nameLen ys + 1 := by
    simp only [wholeLen, a1, a2, a3, if_false]
    omega
  have hl : nlC c = c := by
    unfold nlC
    rw [if_neg]
    intro e; subst e; exact absurd h (by decide)
  rw [readA_turn (remLen_of a4) (by omega) (by simp [a8]), hw, a7, a8, ← readA_run ys depth (acc ++ [c])]
  simp [hl]
theorem readA_quote (ys : List Nat) (depth : Nat) (acc : List Nat) (args : List Str) :
    readA (39 :: ys) depth acc args = readA ys depth (acc ++ [39]) args := by
  have hw : wholeLen (39 :: ys) = nameLen ys + 1 := by simp [wholeLen]
  rw [readA_turn (remLen_of (by decide)) (by omega) (by simp [clC]), hw, ← readA_run ys depth (acc ++ [39])]
  simp [opC, clC, nlC]
theorem wholeLen_self {c : Nat} {ys : List Nat} (h1 : c ≠ 34) (h2 : c ≠ 92) (h3 : c ≠ 39) (h4 : nameC c = false) : wholeLen (c :: ys) = 1 := by
  simp [wholeLen, h1, h2, h3, nameLen, h4]
theorem readA_self {c : Nat} (h1 : c ≠ 34) (h2 : c ≠ 92) (h3 : c ≠ 39) (h4 : nameC c = false) (h5 : c ≠ 47) (h6 : opC c = false) (h7 : clC c = false) (ys : List Nat) (depth : Nat) (h8 : c ≠ 44 ∨ depth ≠ 0) (acc : List Nat) (args : List Str) :
    readA (c :: ys) depth acc args = readA ys depth (acc ++ [nlC c]) args := by
  have h9 : c ≠ 41 := by intro e; subst e; exact absurd h7 (by decide)
  rw [readA_turn (remLen_of h5) (by omega) (by simp [h7]), wholeLen_self h1 h2 h3 h4, h6, h7]
  simp
theorem readA_open {c : Nat} (h : opC c = true) (ys : List Nat) (depth : Nat) (acc : List Nat) (args : List Str) :
    readA (c :: ys) depth acc args = readA ys (depth + 1) (acc ++ [c]) args := by
  have h' : c = 40 ∨ c = 91 ∨ c = 123 := by simpa [opC, or_assoc] using h
  have e : wholeLen (c :: ys) = 1 := by rcases h' with rfl | rfl | rfl <;> exact wholeLen_self (by decide) (by decide) (by decide) (by decide)
  have e2 : nlC c = c := by rcases h' with rfl | rfl | rfl <;> rfl
  have e3 : clC c = false := by rcases h' with rfl | rfl | rfl <;> rfl
  rw [readA_turn (remLen_of (by omega)) (by omega) (by simp [e3]), e, h]
  simp [e2]
theorem readA_close {c : Nat} (h : clC c = true) (ys : List Nat) (depth : Nat) (acc : List Nat) (args : List Str) :
    readA (c :: ys) (depth + 1) acc args = readA ys depth (acc ++ [c]) args := by
  have h' : c = 41 ∨ c = 93 ∨ c = 125 := by simpa [clC, or_assoc] using h
  have e : wholeLen (c :: ys) = 1 := by rcases h' with rfl | rfl | rfl <;> exact wholeLen_self (by decide) (by decide) (by decide) (by decide)
  have e2 : nlC c = c := by rcases h' with rfl | rfl | rfl <;> rfl
  have e3 : opC c = false := by rcases h' with rfl | rfl | rfl <;> rfl
  rw [readA_turn (remLen_of (by omega)) (by omega) (by omega), e, e3, h]
  simp [e2]
theorem readA_rem {c : Nat} {r : List Nat} {n : Nat} (h : remLen (c :: r) = n + 1) (depth : Nat) (acc : List Nat) (args : List Str) :
    readA (c :: r) depth acc args = readA ((c :: r).drop (n + 1)) depth (acc ++ [32]) args := by
  conv => lhs; unfold readA
  simp [h]
theorem readA_comma (ys : List Nat) (acc : List Nat) (args : List Str) :
    readA (44 :: ys) 0 acc args = readA ys 0 [] (args ++ [Txt.strip ⟨acc.toArray⟩]) := by
  conv => lhs; unfold readA
  simp [remLen_of]
theorem readA_end (ys : List Nat) (acc : List Nat) (args : List Str) :
    readA (41 :: ys) 0 acc args = some (args ++ [Txt.strip ⟨acc.toArray⟩], ys) := by
  conv => lhs; unfold readA
  simp [remLen_of]
theorem readA_bad (ys : List Nat) (acc : List Nat) (args : List Str) :
    readA (125 :: ys) 0 acc args = none := by
  conv => lhs; unfold readA
  simp [remLen_of, clC]
theorem readA_nil (depth : Nat) (acc : List Nat) (args : List Str) : readA [] depth acc args = none := by
  unfold readA; rfl
theorem strLen_quote (ys : List Nat) : strLen (34 :: ys) = 1 := by
  cases ys <;> simp [strLen]
theorem strLen_step {c d : Nat} {r : List Nat} (h1 : c ≠ 10) (h2 : c ≠ 34) (h3 : c ≠ 92) : strLen (c :: d :: r) = strLen (d :: r) + 1 := by
  simp [strLen, h1, h2, h3]

/-- a piece as it is given, and as it is told -/
def pieceN : List (List Nat × List Nat) :=
  [([97], [97]), ([120, 49, 32, 43, 32, 50], [120, 49, 32, 43, 32, 50]), ([40, 98, 44, 32, 99, 41], [40, 98, 44, 32, 99, 41]),
   ([123, 100, 44, 32, 40, 101, 41, 125], [123, 100, 44, 32, 40, 101, 41, 125]), ([91, 49, 44, 50, 93], [91, 49, 44, 50, 93]),
   ([34, 41, 44, 32, 40, 34], [34, 41, 44, 32, 40, 34]), ([47, 42, 32, 44, 32, 41, 32, 42, 47], [32]), ([10], [32]), ([32], [32]),
   ([47, 47, 32, 44, 41, 10], [32, 32]), ([56, 39, 104, 102], [56, 39, 104, 102]), ([96, 66], [96, 66]), ([40, 10, 41], [40, 32, 41]),
   ([92, 97, 44, 41, 32], [92, 97, 44, 41, 32])]

theorem readA_str (ys acc : List Nat) (args : List Str) : readA (34 :: 41 :: 44 :: 32 :: 40 :: 34 :: ys) 0 acc args = readA ys 0 (acc ++ [34, 41, 44, 32, 40, 34]) args := by
  have hs : strLen (41 :: 44 :: 32 :: 40 :: 34 :: ys) = 5 := by
    rw [strLen_step (by decide) (by decide) (by decide), strLen_step (by decide) (by decide) (by decide), strLen_step (by decide) (by decide) (by decide), strLen_step (by decide) (by decide) (by decide), strLen_quote]
  have hw : wholeLen (34 :: 41 :: 44 :: 32 :: 40 :: 34 :: ys) = 6 := by
    simp only [wholeLen, if_true, hs]
  rw [readA_turn (remLen_of (by decide)) (by decide) (by decide), hw]
  simp [opC, clC, nlC]
theorem readA_star (ys acc : List Nat) (args : List Str) : readA (47 :: 42 :: 32 :: 44 :: 32 :: 41 :: 32 :: 42 :: 47 :: ys) 0 acc args = readA ys 0 (acc ++ [32]) args := by
  have hs : remLen (47 :: 42 :: 32 :: 44 :: 32 :: 41 :: 32 :: 42 :: 47 :: ys) = 8 + 1 := by
    simp [remLen, starLen]
  rw [readA_rem hs]
  simp
theorem readA_row (ys acc : List Nat) (args : List Str) : readA (47 :: 47 :: 32 :: 44 :: 41 :: 10 :: ys) 0 acc args = readA ys 0 (acc ++ [32, 32]) args := by
  have hs : remLen (47 :: 47 :: 32 :: 44 :: 41 :: 10 :: ys) = 4 + 1 := by
    simp [remLen, rowLen]
  rw [readA_rem hs]
  simp only [List.drop_succ_cons, List.drop_zero]
  rw [readA_self (by decide) (by decide) (by decide) (by decide) (by decide) (by decide) (by decide) _ _ (by decide)]
  simp [nlC]
theorem readA_esc (ys acc : List Nat) (args : List Str) : readA (92 :: 97 :: 44 :: 41 :: 32 :: ys) 0 acc args = readA ys 0 (acc ++ [92, 97, 44, 41, 32]) args := by
  have hw : wholeLen (92 :: 97 :: 44 :: 41 :: 32 :: ys) = 4 := by
    simp [wholeLen, escLen, wsC]
  rw [readA_turn (remLen_of (by decide)) (by decide) (by decide), hw]
  simp only [List.drop_succ_cons, List.drop_zero, opC, clC]
  rw [readA_self (by decide) (by decide) (by decide) (by decide) (by decide) (by decide) (by decide) _ _ (by decide)]
  simp [nlC]

theorem readA_piece (p : List Nat × List Nat) (hp : p ∈ pieceN) (ys acc : List Nat) (args : List Str) : readA (p.1 ++ ys) 0 acc args = readA ys 0 (acc ++ p.2) args := by
  simp only [pieceN, List.mem_cons, List.not_mem_nil, or_false] at hp
  rcases hp with rfl | rfl | rfl | rfl | rfl | rfl | rfl | rfl | rfl | rfl | rfl | rfl | rfl | rfl
  all_goals first
    | exact readA_str ys acc args
    | exact readA_star ys acc args
    | exact readA_row ys acc args
    | exact readA_esc ys acc args
    | (simp only [List.cons_append, List.nil_append]
       repeat (first
         | refine (readA_name (by decide) _ _ _ _).trans ?_
         | refine (readA_quote _ _ _ _).trans ?_
         | refine (readA_open (by decide) _ _ _ _).trans ?_
         | refine (readA_close (by decide) _ _ _ _).trans ?_
         | refine (readA_self (by decide) (by decide) (by decide) (by decide) (by decide) (by decide) (by decide) _ _ (by decide) _ _).trans ?_)
       simp [nlC])

def given (l : List (List Nat × List Nat)) : List Nat := (l.map (·.1)).flatten
def told (l : List (List Nat × List Nat)) : List Nat := (l.map (·.2)).flatten
theorem readA_pieces : ∀ (l : List (List Nat × List Nat)), (∀ p ∈ l, p ∈ pieceN) → ∀ (ys acc : List Nat) (args : List Str), readA (given l ++ ys) 0 acc args = readA ys 0 (acc ++ told l) args
  | [], _, ys, acc, args => by simp [given, told]
  | p :: l, h, ys, acc, args => by
    have e1 : given (p :: l) ++ ys = p.1 ++ (given l ++ ys) := by simp [given]
    have e2 : acc ++ told (p :: l) = acc ++ p.2 ++ told l := by simp [told]
    rw [e1, readA_piece p (h p (.head _)), e2]
    exact readA_pieces l (fun q hq => h q (.tail _ hq)) ys _ args

abbrev Arg := List (List Nat × List Nat)
def ArgOk (l : Arg) : Prop := ∀ p ∈ l, p ∈ pieceN
/-- what stands behind the first argument -/
def more (as : List Arg) : List Nat := (as.map fun a => 44 :: given a).flatten
def toldS (a : Arg) : Str := Txt.strip ⟨(told a).toArray⟩
theorem readA_args : ∀ (as : List Arg) (a : Arg), ArgOk a → (∀ b ∈ as, ArgOk b) → ∀ (ys : List Nat) (args : List Str),
    readA (given a ++ more as ++ ys) 0 [] args = readA ys 0 (told ((a :: as).getLast (by simp))) (args ++ ((a :: as).dropLast.map toldS))
  | [], a, ha, _, ys, args => by simpa [more] using readA_pieces a ha ys [] args
  | b :: as, a, ha, h, ys, args => by
    have e : given a ++ more (b :: as) ++ ys = given a ++ (44 :: (given b ++ more as ++ ys)) := by simp [more]
    rw [e, readA_pieces a ha, readA_comma, readA_args as b (h b (.head _)) (fun q hq => h q (.tail _ hq)) ys]
    simp [toldS]

/-- the law: a text that ends -/
theorem law_ends (a : Arg) (as : List Arg) (ha : ArgOk a) (h : ∀ b ∈ as, ArgOk b) (ys : List Nat) :
    readA (given a ++ more as ++ (41 :: ys)) 0 [] [] = some ((a :: as).map toldS, ys) := by
  rw [readA_args as a ha h, readA_end]
  have e : (a :: as).map toldS = (a :: as).dropLast.map toldS ++ [toldS ((a :: as).getLast (by simp))] := by
    conv => lhs; rw [← List.dropLast_concat_getLast (l := a :: as) (by simp)]
    rw [List.map_append]; rfl
  rw [e]
  simp [toldS]
theorem law_bad (a : Arg) (as : List Arg) (ha : ArgOk a) (h : ∀ b ∈ as, ArgOk b) (ys : List Nat) :
    readA (given a ++ more as ++ (125 :: ys)) 0 [] [] = none := by
  rw [readA_args as a ha h, readA_bad]
theorem law_none (a : Arg) (as : List Arg) (ha : ArgOk a) (h : ∀ b ∈ as, ArgOk b) :
    readA (given a ++ more as) 0 [] [] = none := by
  have := readA_args as a ha h [] []
  rw [List.append_nil] at this
  rw [this, readA_nil]
theorem law_none2 (a : Arg) (as : List Arg) (ha : ArgOk a) (h : ∀ b ∈ as, ArgOk b) :
    readA (given a ++ more as ++ [32, 10, 32, 98]) 0 [] [] = none := by
  rw [readA_args as a ha h]
  refine (readA_self (by decide) (by decide) (by decide) (by decide) (by decide) (by decide) (by decide) _ _ (by decide) _ _).trans ?_
  refine (readA_self (by decide) (by decide) (by decide) (by decide) (by decide) (by decide) (by decide) _ _ (by decide) _ _).trans ?_
  refine (readA_self (by decide) (by decide) (by decide) (by decide) (by decide) (by decide) (by decide) _ _ (by decide) _ _).trans ?_
  refine (readA_name (by decide) _ _ _ _).trans ?_
  exact readA_nil _ _ _
theorem rowLen_le : ∀ ys : List Nat, rowLen ys ≤ ys.length
  | [] => Nat.le_refl _
  | c :: r => by
    have := rowLen_le r
    simp only [rowLen, List.length_cons]
    split <;> omega
theorem escLen_le : ∀ ys : List Nat, escLen ys ≤ ys.length
  | [] => Nat.le_refl _
  | c :: r => by
    have := escLen_le r
    simp only [escLen, List.length_cons]
    split <;> omega
theorem nameLen_le : ∀ ys : List Nat, nameLen ys ≤ ys.length
  | [] => Nat.le_refl _
  | c :: r => by
    have := nameLen_le r
    simp only [nameLen, List.length_cons]
    split <;> omega
theorem strLen_le : ∀ ys : List Nat, strLen ys ≤ ys.length
  | [] => Nat.le_refl _
  | [c] => by simp only [strLen, List.length_cons, List.length_nil]; split <;> omega
  | c :: d :: r => by
    have h1 := strLen_le r
    have h2 := strLen_le (d :: r)
    simp only [strLen, List.length_cons] at *
    repeat' split
    all_goals omega
theorem remLen_le (ys : List Nat) : remLen ys ≤ ys.length := by
  have := rowLen_le ys
  unfold remLen
  repeat' split
  all_goals omega
theorem wholeLen_le (c : Nat) (r : List Nat) : wholeLen (c :: r) ≤ (c :: r).length := by
  have h1 := strLen_le r
  have h2 := escLen_le (c :: r)
  have h3 := nameLen_le r
  have h4 := nameLen_le (c :: r)
  simp only [wholeLen, List.length_cons] at *
  repeat' split
  all_goals omega
theorem drop_on {xs : List Nat} {i : Int} (n : Nat) (h : 0 ≤ i) : xs.drop (i + n).toNat = (xs.drop i.toNat).drop n := by
  rw [List.drop_drop]
  congr 1
  omega
theorem readA_rem' {c : Nat} {r : List Nat} (h : 0 < remLen (c :: r)) (depth : Nat) (acc : List Nat) (args : List Str) :
    readA (c :: r) depth acc args = readA ((c :: r).drop (remLen (c :: r))) depth (acc ++ [32]) args := by
  obtain ⟨n, hn⟩ := Nat.exists_eq_succ_of_ne_zero (Nat.pos_iff_ne_zero.mp h)
  rw [hn]
  exact readA_rem hn depth acc args
theorem readA_shut {c : Nat} {r : List Nat} (h1 : remLen (c :: r) = 0) (h2 : c ≠ 44 ∧ c ≠ 41) (h3 : clC c = true) (acc : List Nat) (args : List Str) : readA (c :: r) 0 acc args = none := by
  conv => lhs; unfold readA
  simp [h1, h2.1, h2.2, h3]
theorem readAt_none {xs : List Nat} {i : Int} (h0 : 0 ≤ i) (h : readA (xs.drop (i + 1).toNat) 0 [] [] = none) : readAt xs i.toNat = none := by
  have e : (i + 1).toNat = i.toNat + 1 := by omega
  unfold readAt
  rw [← e, h]
  simp
theorem readAt_shut {xs : List Nat} {i : Int} (h : ¬ (xs.drop i.toNat).take 1 = [40]) : readAt xs i.toNat = none := by
  unfold readAt
  rw [if_neg h]
theorem readAt_some {xs : List Nat} {i : Int} {as : List Str} {rest : List Nat} (h0 : 0 ≤ i) (h1 : (xs.drop i.toNat).take 1 = [40]) (h : readA (xs.drop (i + 1).toNat) 0 [] [] = some (as, rest)) : readAt xs i.toNat = some (as, xs.length - rest.length) := by
  have e : (i + 1).toNat = i.toNat + 1 := by omega
  unfold readAt
  rw [← e, h, if_pos h1]
  rfl
theorem piece_len {p : List Nat × List Nat} (h : p ∈ pieceN) : p.1.length ≤ 9 ∧ p.2.length ≤ 9 := by
  have all : ∀ q ∈ pieceN, q.1.length ≤ 9 ∧ q.2.length ≤ 9 := by decide
  exact all p h
theorem given_len : ∀ {a : Arg}, ArgOk a → (given a).length ≤ 9 * a.length
  | [], _ => Nat.le_refl _
  | p :: a, h => by
    have ih := given_len (a := a) fun q hq => h q (.tail _ hq)
    have h1 := (piece_len (h p (.head _))).1
    have e : given (p :: a) = p.1 ++ given a := by simp [given]
    rw [e, List.length_append, List.length_cons]
    omega
theorem told_len : ∀ {a : Arg}, ArgOk a → (told a).length ≤ 9 * a.length
  | [], _ => Nat.le_refl _
  | p :: a, h => by
    have ih := told_len (a := a) fun q hq => h q (.tail _ hq)
    have h1 := (piece_len (h p (.head _))).2
    have e : told (p :: a) = p.2 ++ told a := by simp [told]
    rw [e, List.length_append, List.length_cons]
    omega
theorem given_snoc (a : Arg) (p : List Nat × List Nat) : given (a ++ [p]) = given a ++ p.1 := by simp [given]
theorem told_snoc (a : Arg) (p : List Nat × List Nat) : told (a ++ [p]) = told a ++ p.2 := by simp [told]
theorem argOk_snoc {a : Arg} {p : List Nat × List Nat} (h : ArgOk a) (hp : p ∈ pieceN) : ArgOk (a ++ [p]) := by
  intro q hq
  rcases List.mem_append.mp hq with h1 | h1
  · exact h q h1
  · rw [List.mem_singleton.mp h1]; exact hp
/-- the arguments as they are given, commas between -/
noncomputable def rend : List Arg → List Nat
  | [] => []
  | a :: r => given a ++ more r
theorem rend_one (b : Arg) : rend [b] = given b := by simp [rend, more]
theorem rend_snoc {as : List Arg} (h : as ≠ []) (b : Arg) : rend (as ++ [b]) = rend as ++ 44 :: given b := by
  cases as with
  | nil => exact absurd rfl h
  | cons a r => simp [rend, more]
theorem more_len : ∀ {as : List Arg}, (∀ a ∈ as, ArgOk a ∧ a.length ≤ 4) → (more as).length ≤ 37 * as.length
  | [], _ => Nat.le_refl _
  | a :: r, h => by
    have ih := more_len (as := r) fun q hq => h q (.tail _ hq)
    have h1 := h a (.head _)
    have h2 := given_len h1.1
    have e : more (a :: r) = 44 :: given a ++ more r := by simp [more]
    rw [e, List.length_append, List.length_cons, List.length_cons]
    omega
theorem rend_len {as : List Arg} (h : ∀ a ∈ as, ArgOk a ∧ a.length ≤ 4) : (rend as).length ≤ 37 * as.length := by
  cases as with
  | nil => exact Nat.le_refl _
  | cons a r =>
    have h1 := h a (.head _)
    have h2 := given_len h1.1
    have h3 := more_len (as := r) fun q hq => h q (.tail _ hq)
    show (given a ++ more r).length ≤ _
    rw [List.length_append, List.length_cons]
    omega
theorem readAt_on (f ys : List Nat) : readAt (f ++ [40] ++ ys) f.length = (readA ys 0 [] []).map fun p => (p.1, (f ++ [40] ++ ys).length - p.2.length) := by
  unfold readAt
  have e1 : (f ++ [40] ++ ys).drop f.length = 40 :: ys := by simp
  have e2 : (f ++ [40] ++ ys).drop (f.length + 1) = ys := by
    rw [← List.drop_drop, e1]; rfl
  rw [e1, e2]
  rfl
theorem rend_cons {as : List Arg} (h : as ≠ []) : ∃ a r, as = a :: r ∧ rend as = given a ++ more r := by
  cases as with
  | nil => exact absurd rfl h
  | cons a r => exact ⟨a, r, rfl, rfl⟩
section
variable {as : List Arg} (f : List Nat) (hne : as ≠ []) (hok : ∀ a ∈ as, ArgOk a ∧ a.length ≤ 4)
include hne hok
theorem at_none : readAt (f ++ [40] ++ rend as) f.length = none := by
  obtain ⟨a, r, rfl, e⟩ := rend_cons hne
  rw [readAt_on, e, law_none a r (hok a (.head _)).1 (fun b hb => (hok b (.tail _ hb)).1)]
  rfl
theorem at_none2 : readAt (f ++ [40] ++ (rend as ++ [32, 10, 32, 98])) f.length = none := by
  obtain ⟨a, r, rfl, e⟩ := rend_cons hne
  rw [readAt_on, e, law_none2 a r (hok a (.head _)).1 (fun b hb => (hok b (.tail _ hb)).1)]
  rfl
theorem at_bad : readAt (f ++ [40] ++ (rend as ++ [125])) f.length = none := by
  obtain ⟨a, r, rfl, e⟩ := rend_cons hne
  rw [readAt_on, e, law_bad a r (hok a (.head _)).1 (fun b hb => (hok b (.tail _ hb)).1) []]
  rfl
theorem at_some (t : List Nat) : readAt (f ++ [40] ++ (rend as ++ ([41] ++ t))) f.length = some (as.map toldS, (f ++ [40] ++ rend as).length + 1) := by
  obtain ⟨a, r, rfl, e⟩ := rend_cons hne
  rw [readAt_on, e]
  have := law_ends a r (hok a (.head _)).1 (fun b hb => (hok b (.tail _ hb)).1) t
  rw [show given a ++ more r ++ ([41] ++ t) = given a ++ more r ++ (41 :: t) from rfl, this]
  simp only [Option.map_some]
  congr 2
  simp only [List.length_append, List.length_cons, List.length_nil]
  omega
end
theorem at_x {f ys : List Nat} (h : f = [] ∨ f = [122, 122, 32]) : readAt (120 :: (f ++ [40] ++ ys)) f.length = none := by
  unfold readAt
  rcases h with rfl | rfl <;> simp
theorem str_ext {x y : Str} (h : x.cps.toList = y.cps.toList) : x = y := by
  cases x; cases y
  exact congrArg Str.mk (Array.toList_inj.mp h)
theorem len_list (x : Str) : x.cps.toList.length = x.length := Array.length_toList

/-- a line break becomes a blank -/
theorem nl_free : ∀ l : List Nat, 10 ∉ l → l.map nlC = l
  | [], _ => rfl
  | c :: r, h => by
    have h1 : ¬ c = 10 := fun e => h (e ▸ List.mem_cons_self ..)
    rw [List.map_cons, nl_free r (fun m => h (List.mem_cons_of_mem _ m))]
    simp [nlC, h1]
theorem nl_join : ∀ ps : List Str, (∀ p ∈ ps, 10 ∉ p.cps.toList) → (Str.join ⟨#[10]⟩ ps).cps.toList.map nlC = (Str.join ⟨#[32]⟩ ps).cps.toList
  | [], _ => rfl
  | [p], h => nl_free _ (h p (.head _))
  | p :: q :: r, h => by
    have ih := nl_join (q :: r) fun a ha => h a (.tail _ ha)
    show (p ++ ⟨#[10]⟩ ++ Str.join ⟨#[10]⟩ (q :: r)).cps.toList.map nlC = (p ++ ⟨#[32]⟩ ++ Str.join ⟨#[32]⟩ (q :: r)).cps.toList
    simp only [Str.cps_append, Array.toList_append, List.map_append]
    rw [ih, nl_free _ (h p (.head _))]
    rfl
theorem nl_replace (x : Str) : (Txt.replace x (Str.ofString "\n") (Str.ofString " ")).cps.toList = x.cps.toList.map nlC := by
  rw [show Str.ofString "\n" = ⟨#[10]⟩ from by decide +kernel, show Str.ofString " " = ⟨#[32]⟩ from by decide +kernel, StrLaws.replace_one, ← nl_join _ (StrLaws.split_free x 10), StrLaws.join_split]

/-- the sign at a place -/
theorem item_at {x : Str} {e : Int} (h0 : 0 ≤ e) (h1 : e < x.length) : ∃ c r, x.cps.toList.drop e.toNat = c :: r ∧ x.cps.toList.drop (e + 1).toNat = r ∧ Txt.item x e = ⟨#[c]⟩ ∧ (r.length : Int) + e + 1 = x.length := by
  have hl : e.toNat < x.cps.toList.length := by rw [len_list]; omega
  have e1 : (e + 1).toNat = e.toNat + 1 := by omega
  refine ⟨x.cps.toList[e.toNat], x.cps.toList.drop (e.toNat + 1), List.drop_eq_getElem_cons hl, by rw [e1], ?_, ?_⟩
  · rw [item_meets ⟨h0, h1⟩]
    congr 2
    rw [Array.length_toList] at hl
    simp [Array.getD, hl]
  · rw [List.length_drop, len_list]
    rw [len_list] at hl
    omega
theorem slice_list {x : Str} {i j : Int} (h0 : 0 ≤ i) (h1 : i ≤ j) (h2 : i ≤ x.length) : (Txt.slice x (some i) (some j)).cps.toList = (x.cps.toList.drop i.toNat).take (j - i).toNat := by
  by_cases h : j ≤ x.length
  · have := slice_closesL h0 h1 h
    rw [eq_of_beq this]
  · have e : Txt.slice x (some i) (some j) = Txt.slice x (some i) (some x.length) := by
      have e2 : Builtin.Str.strSliceIndices (some i) (some j) 1 x.length = Builtin.Str.strSliceIndices (some i) (some (x.length : Int)) 1 x.length := by
        have a1 : ¬ j < 0 := by omega
        have a2 : ¬ ((x.length : Int) < 0) := by omega
        have e1 : max (0 : Int) (min j (x.length : Int)) = x.length := by omega
        have e2 : max (0 : Int) (min (x.length : Int) (x.length : Int)) = x.length := by omega
        simp [Builtin.Str.strSliceIndices, a1, a2, e1, e2]
      unfold Txt.slice
      rw [e2]
    rw [e, eq_of_beq (slice_closesL h0 h2 (by omega))]
    show List.take _ _ = List.take _ _
    rw [List.take_of_length_le, List.take_of_length_le]
    · rw [List.length_drop, len_list]; omega
    · rw [List.length_drop, len_list]; omega
theorem slice_as {x : Str} {i j : Int} (n : Nat) (h0 : 0 ≤ i) (h1 : j = i + n) (h2 : i ≤ x.length) : Txt.slice x (some i) (some j) = ⟨((x.cps.toList.drop i.toNat).take n).toArray⟩ := by
  apply str_ext
  rw [slice_list h0 (by omega) h2]
  simp only [show (j - i).toNat = n by omega]
theorem one_beq {c k : Nat} {y : Str} (hy : y = ⟨#[k]⟩) : ((⟨#[c]⟩ : Str) == y) = (c == k) := by
  subst hy
  by_cases h : c = k
  · subst h; simp
  · have h' : (⟨#[c]⟩ : Str) ≠ ⟨#[k]⟩ := by intro e; injection e with e; injection e with e; injection e with e; exact h e
    rw [beq_eq_false_iff_ne.mpr h', beq_eq_false_iff_ne.mpr h]
theorem one_bne {c k : Nat} {y : Str} (hy : y = ⟨#[k]⟩) : ((⟨#[c]⟩ : Str) != y) = (c != k) := by
  unfold bne; rw [one_beq hy]
theorem drop_end {x : Str} {e : Int} (h1 : ¬ e < x.length) : x.cps.toList.drop e.toNat = [] := List.drop_eq_nil_of_le (by rw [len_list]; omega)
theorem str_lf : Str.ofString "\n" = ⟨#[10]⟩ := by decide +kernel
theorem str_q : Str.ofString "\"" = ⟨#[34]⟩ := by decide +kernel
theorem str_b : Str.ofString "\\" = ⟨#[92]⟩ := by decide +kernel
theorem str_0 : Str.ofString "" = ⟨#[]⟩ := by decide +kernel
/-- a break or nothing -/
theorem any_end {l : List Nat} : (([Str.ofString "", Str.ofString "\n"] : List Str).any fun y => y == (⟨(l.take 1).toArray⟩ : Str)) = (match l with | [] => true | d :: _ => d == 10) := by
  rw [str_0, str_lf]
  cases l with
  | nil => rfl
  | cons d r =>
    simp only [List.any_cons, List.any_nil, Bool.or_false, List.take_succ_cons, List.take_zero]
    have e1 : ((⟨#[]⟩ : Str) == ⟨[d].toArray⟩) = false := rfl
    rw [e1, Bool.false_or]
    have e2 : ((⟨#[10]⟩ : Str) == ⟨[d].toArray⟩) = (10 == d) := one_beq rfl
    rw [e2, Bool.beq_comm]
/-- a sign sought in a written text -/
theorem in_one {y : Str} {l : List Nat} {c : Nat} (hy : y = ⟨l.toArray⟩) : (Builtin.Str.occurrences y ⟨#[c]⟩ 0 y.length 1).isEmpty = !decide (c ∈ l) := by
  have h := StrLaws.found_one y c
  rw [show y.cps.toList = l by rw [hy]] at h
  rw [← h, Bool.not_not]
theorem str_ws : Str.ofString " \t\r\n\x0c\x0b" = ⟨[32, 9, 13, 10, 12, 11].toArray⟩ := by decide +kernel
theorem str_op : Str.ofString "([{" = ⟨[40, 91, 123].toArray⟩ := by decide +kernel
theorem str_cl : Str.ofString ")]}" = ⟨[41, 93, 125].toArray⟩ := by decide +kernel
theorem ws_mem {c : Nat} : decide (c ∈ [32, 9, 13, 10, 12, 11]) = wsC c := by
  rw [Bool.eq_iff_iff]; simp [wsC, or_assoc]
theorem op_mem {c : Nat} : decide (c ∈ [40, 91, 123]) = opC c := by
  rw [Bool.eq_iff_iff]; simp [opC, or_assoc]
theorem cl_mem {c : Nat} : decide (c ∈ [41, 93, 125]) = clC c := by
  rw [Bool.eq_iff_iff]; simp [clC, or_assoc]
theorem in_ws {c : Nat} : (Builtin.Str.occurrences (Str.ofString " \t\r\n\x0c\x0b") ⟨#[c]⟩ 0 (Str.ofString " \t\r\n\x0c\x0b").length 1).isEmpty = !wsC c := by rw [in_one str_ws, ws_mem]
theorem in_op {c : Nat} : (Builtin.Str.occurrences (Str.ofString "([{") ⟨#[c]⟩ 0 (Str.ofString "([{").length 1).isEmpty = !opC c := by rw [in_one str_op, op_mem]
theorem in_cl {c : Nat} : (Builtin.Str.occurrences (Str.ofString ")]}") ⟨#[c]⟩ 0 (Str.ofString ")]}").length 1).isEmpty = !clC c := by rw [in_one str_cl, cl_mem]
/-- two signs -/
theorem two_beq {l : List Nat} {a b : Nat} {y : Str} (hy : y = ⟨[a, b].toArray⟩) : ((⟨(l.take 2).toArray⟩ : Str) == y) = decide (l.take 2 = [a, b]) := by
  subst hy
  by_cases h : l.take 2 = [a, b]
  · rw [h]; simp
  · have h' : (⟨(l.take 2).toArray⟩ : Str) ≠ ⟨[a, b].toArray⟩ := by
      intro e; injection e with e; injection e with e; exact h e
    rw [beq_eq_false_iff_ne.mpr h']; simp [h]
theorem str_rr : Str.ofString "//" = ⟨[47, 47].toArray⟩ := by decide +kernel
theorem str_rs : Str.ofString "/*" = ⟨[47, 42].toArray⟩ := by decide +kernel
theorem str_sr : Str.ofString "*/" = ⟨[42, 47].toArray⟩ := by decide +kernel
theorem one_open {l : List Nat} : ((⟨(l.take 1).toArray⟩ : Str) == Str.ofString "(") = decide (l.take 1 = [40]) := by
  rw [show Str.ofString "(" = ⟨[40].toArray⟩ from by decide +kernel]
  by_cases h : l.take 1 = [40]
  · rw [h]; simp
  · have h' : (⟨(l.take 1).toArray⟩ : Str) ≠ ⟨[40].toArray⟩ := by
      intro e; injection e with e; injection e with e; exact h e
    rw [beq_eq_false_iff_ne.mpr h']; simp [h]
theorem str_comma : Str.ofString "," = ⟨#[44]⟩ := by decide +kernel
theorem str_shut : Str.ofString ")" = ⟨#[41]⟩ := by decide +kernel
abbrev VTok := Tok

/-- a contract: what a call hands back, the caller's frame kept -/
def Ct (w : World) (mean : ExcName → Option Value) (mg mb : Str → Option Value) (f : Addr) (d u : Nat) (news : List (Addr × Obj)) (vs : List Value) (post : List (Addr × Obj) → Value → Prop) : Prop :=
  ∀ (dp un : Nat) (gd : Option (List Code)) (cn : Str) (cs : Scope) (a : Addr) (ccd : Value) (cl : List (Str × Addr)) (outer : List Env) (A₀ : Around) (base h₀ : Heap) (L : Addr) (m : Str → Option Value) (s : Shared) (Q E : Value → Shared → Prop),
    Below A₀ base outer h₀ → Fr h₀ L s.heap m → (hd.heap_39 w.params).In h₀ → News h₀ L s.heap news → Top hd.view_39 (looseW hd.view_39 []) mean mg mb h₀ → cs.kind = .function →
    dp + d < recursionLimit → un + u < cLine →
    (∀ r h' tk' news', Fr h₀ L h' m → News h₀ L h' news' → post news' r → Q r { s with heap := h', toks := tk' }) →
    wpAny (model PySem.Challenge.rw_on0090_01.row.prog w) (ktrTop dp un gd cn cs L a ccd cl outer) (PySem.call (.ref f) vs) Q E s

theorem Ct.use {w : World} {mean : ExcName → Option Value} {mg mb : Str → Option Value} {f : Addr} {d u : Nat} {news : List (Addr × Obj)} {vs : List Value} {post : List (Addr × Obj) → Value → Prop}
    {dp un : Nat} {gd : Option (List Code)} {cn : Str} {cs : Scope} {a : Addr} {ccd : Value} {cl : List (Str × Addr)} {outer : List Env} {A₀ : Around} {base h₀ : Heap} {L : Addr} {m : Str → Option Value} {s : Shared} {Q E : Value → Shared → Prop}
    (c : Ct w mean mg mb f d u news vs post) (B : Below A₀ base outer h₀) (F : Fr h₀ L s.heap m) (X : (hd.heap_39 w.params).In h₀) (N : News h₀ L s.heap news) (T : Top hd.view_39 (looseW hd.view_39 []) mean mg mb h₀) (hk : cs.kind = .function)
    (hd : dp + d < recursionLimit) (hu : un + u < cLine)
    (ret : ∀ r h' tk' news', Fr h₀ L h' m → News h₀ L h' news' → post news' r → Q r { s with heap := h', toks := tk' }) :
    wpAny (model PySem.Challenge.rw_on0090_01.row.prog w) (ktrTop dp un gd cn cs L a ccd cl outer) (PySem.call (.ref f) vs) Q E s :=
  c _ _ _ _ _ _ _ _ _ _ _ _ _ _ _ _ _ B F X N T hk hd hu ret

/-- a frame's map, written out -/
noncomputable def fr : List (Str × Option Value) → Str → Option Value
  | [], _ => none
  | p :: r, y => if y = p.1 then p.2 else fr r y

theorem fr_eq {m : Str → Option Value} : ∀ {l : List (Str × Option Value)}, (∀ p ∈ l, m p.1 = p.2) → (∀ y, (∀ p ∈ l, y ≠ p.1) → m y = none) → m = fr l := by
  intro l h1 h2
  funext y
  have key : ∀ l' : List (Str × Option Value), (∀ p ∈ l', m p.1 = p.2) → ((∀ p ∈ l', y ≠ p.1) → m y = none) → m y = fr l' y := by
    intro l'
    induction l' with
    | nil => intro _ h; exact h (fun _ hp => nomatch hp)
    | cons p r ih =>
      intro a b
      show m y = if y = p.1 then p.2 else fr r y
      by_cases e : y = p.1
      · rw [if_pos e, e]; exact a p (.head _)
      · rw [if_neg e]
        refine ih (fun q hq => a q (.tail _ hq)) (fun c => b fun q hq => ?_)
        rcases List.mem_cons.mp hq with rfl | hq
        · exact e
        · exact c q hq
  exact key l h1 (h2 y)

theorem fr_lookup {B : List (Str × Value)} {l : List (Str × Option Value)} (e : B.map (fun p => (p.1, some p.2)) = l) : (fun y => B.lookup y) = fr l := by
  subst e
  funext y
  induction B with
  | nil => rfl
  | cons p r ih =>
    rw [List.lookup_cons]
    show _ = if y = p.1 then some p.2 else fr (r.map fun p => (p.1, some p.2)) y
    by_cases e : y = p.1
    · have h : (y == p.1) = true := by rw [e]; exact beq_self_eq_true _
      rw [if_pos e, h]
    · have h : (y == p.1) = false := beq_eq_false_iff_ne.mpr e
      rw [if_neg e, h]
      exact ih
theorem fr_lay {g h : Heap} {L : Addr} {m : Str → Option Value} {l : List (Str × Option Value)} (F : Fr g L h m) (e : m = fr l) : Fr g L h (fr l) := e ▸ F

section
variable {prog : Program} {w : World} {A : Around} {E : Value → Shared → Prop} {s : Shared}
/-- the count of tokens never falls -/
theorem toks_in {α : Type} {M : Model} {t : Sem α} {Q : α → Shared → Prop} (hn : 1 ≤ s.toks) (h : wpAny M A t (fun a s' => 1 ≤ s'.toks → Q a s') (fun e s' => 1 ≤ s'.toks → E e s') s) : wpAny M A t Q E s :=
  wpAny_mono (wpAny_toks_of hn h) (fun _ _ p => p.2 p.1) (fun _ _ p => p.2 p.1)
theorem gen_toks {α : Type} {M : Model} {t : Sem α} {Q : α → Shared → Prop} {h : Heap} {g : Array GenState} {d : Drawn} {n : Nat} {o : OsState} (H : ∀ tk, 1 ≤ tk → wpAny M A t Q E ⟨h, g, d, tk, o⟩) : wpAny M A t Q E ⟨h, g, d, n + 1, o⟩ := H _ (Nat.le_add_left _ _)
theorem slice_T {x : Str} {t : Tok} {i j : Int} {ui uj : Tok} {value slice : PySem.Expr} {Q : Value → Shared → Prop} {h₀ : Heap} {L : Addr} {m : Str → Option Value} {news : List (Addr × Obj)} (hF : Fr h₀ L s.heap m) (hN : News h₀ L s.heap news) (h1 : 1 ≤ s.toks)
    (h : ∀ h' t' k, Fr h₀ L h' m → News h₀ L h' news → (Txt.slice x (some i) (some j)).length ≤ x.length → 1 ≤ k → Q (.str (Txt.slice x (some i) (some j)) t') { s with heap := h', toks := k })
    (hs : subscripted slice false (.str x t) (.ref s.heap.objs.size) = operate [.ref s.heap.objs.size, .str x t] (getItem (.str x t) (.ref s.heap.objs.size)) := by with_unfolding_all rfl)
    (ht : ∀ r, letTemporaryGo value (.str x t) r = pure () := by intro _; with_unfolding_all rfl) (hsz : x.length ≤ sizeLine := by size_fits) :
    wpAny (model prog w) A (subscriptTail value slice (.str x t) (.ref s.heap.objs.size)) Q E { s with heap := s.heap.push { cls := .type "slice", data := .fields #[.int i ui, .int j uj, .none] } } :=
  toks_in h1 (slice_strN_ss_len hF hN (fun h' t' k a b c hk => h h' t' k a b c hk) hs ht hsz)
theorem replace_nl {x : Str} {t u v : Tok} {Q : Value → Shared → Prop} (hu : @LE.le Nat _ 1 u) (hv : v = @HAdd.hAdd Nat Nat Nat _ u 1) (hx : x.length ≤ 100000)
    (hq : ∀ t' k, (Txt.replace x (Str.ofString "\n") (Str.ofString " ")).length = x.length → Q (.str (Txt.replace x (Str.ofString "\n") (Str.ofString " ")) t') { s with toks := k }) :
    wpAny (model prog w) A (PySem.call (.builtin "str.replace") [.str x t, .str (Str.ofString "\n") u, .str (Str.ofString " ") v]) Q E s := by
  subst hv
  refine SC.replace (by show @Ne Nat _ _; omega) (by show @Ne Nat _ _; omega) (by show @Ne Nat _ _; omega) (by decide +kernel) ?_ (fun t' k => hq t' k ?_)
  · rw [show (Str.ofString " ").length = 1 from by decide +kernel]
    omega
  · rw [← len_list, nl_replace, List.length_map, len_list]
end
section
variable {prog : Program} {w : World} {A : Around} {E : Value → Shared → Prop} {s : Shared} {env : Env} {h₀ : Heap} {x : Str} {body : List Stmt} {Q : Flow → Shared → Prop}
/-- a loop over a range, by an invariant over the frame's map and the ledger -/
theorem range_inv {r : Addr} {a₀ b₀ : Int} {t₀ u₀ v₀ : Tok} {n : Nat} {m₀ : Str → Option Value} {news : List (Addr × Obj)} (J : Nat → (Str → Option Value) → List (Addr × Obj) → Prop)
    (hh : A.handled = none) (hr : IsRange s.heap r a₀ b₀ 1 t₀ u₀ v₀) (hsmall : Builtin.Range.small a₀ b₀ 1 = true) (hn : Builtin.Range.rangeSize a₀ b₀ 1 = (n : Int)) (F : Fr h₀ env.locals s.heap m₀) (N : News h₀ env.locals s.heap news) (hj : J 0 m₀ news)
    (turn : ∀ (i : Nat) (t : Tok) m₁ nx h tk own, i < n → OwnOff own (news.map (·.1)) → J i m₁ nx →
      Fr h₀ env.locals h (fun y => if y = x then some (.int (a₀ + i) t) else m₁ y) → News h₀ env.locals h (nx ++ own) →
      wpAny (model prog w) A (execs body env) (InvPostN h₀ env.locals (J (i + 1)) own (news.map (·.1)) { s with heap := h, toks := tk } Q) E { s with heap := h, toks := tk })
    (done : ∀ m₁ nx h tk, J n m₁ nx → Fr h₀ env.locals h m₁ → News h₀ env.locals h nx → Q .next { s with heap := h, toks := tk }) :
    wpAny (model prog w) A (pyIter (.ref r)) (fun it s₂ => LoopAtV prog w A h₀ env x body Q E it s₂) E s := by
  -- the iterator lies at the next free address, above the frame and above all that the ledger names
  have low : ∀ p ∈ news, p.1 < s.heap.objs.size := fun p hp => Heap.lt_size (N p hp).1
  have fresh : h₀.get? s.heap.objs.size = none := next_is_new F
  have off : ∀ p ∈ news, p.1 ∉ [s.heap.objs.size] := by
    intro p hp hm
    have h1 := low p hp
    rw [List.mem_singleton.mp hm] at h1
    exact Nat.lt_irrefl _ h1
  have offL : env.locals ∉ [s.heap.objs.size] := by
    intro hm
    have h1 := F.ns.lt
    rw [List.mem_singleton.mp hm] at h1
    exact Nat.lt_irrefl _ h1
  refine wpAny_pyIter_range hr hsmall (loop_invN J (Walks.range hh s.heap.objs.size a₀ 1 n).bound offL ?new off off ?first (F.push _) ?led hj ?step done)
  case new =>
    intro b hb
    rw [List.mem_singleton] at hb
    rw [hb]
    exact fresh
  case first =>
    rw [hn]
    have h1 := Heap.get?_push_size s.heap (o := Obj.mk (.type "range_iterator") none (.fields #[rawInt a₀, rawInt (n : Int), rawInt 1]) #[]) rfl
    simpa [IsRangeIter] using h1
  case led =>
    intro p hp
    exact ⟨Heap.get?_push_of_some _ (N p hp).1, (N p hp).2⟩
  case step =>
    intro i v m₁ nx h tk own hi hv _ hoff hj' F₁ N₁
    obtain ⟨_, t, rfl⟩ := hv
    rw [Int.mul_one] at F₁
    exact turn i t m₁ nx h tk own hi hoff hj' F₁ N₁
end
/-- the law's own def, met in the program -/
noncomputable def lawDef : Stmt := (PySem.Challenge.rw_on0090_01.row.prog.main.body[10]?).getD (Stmt.Pass ⟨0, 0, 0, 0⟩)
noncomputable def lawBody : List Stmt := match lawDef with | .FunctionDef _ _ b _ _ _ _ _ _ _ => b | _ => []
noncomputable def lawScope : Scope := match lawDef with | .FunctionDef _ _ _ _ _ _ sc _ _ _ => sc | _ => default
/-- a list's item at a place in bounds -/
theorem list_item {prog : Program} {w : World} {A : Around} {E : Value → Shared → Prop} {s : Shared} {value slice : PySem.Expr} {l : Addr} {items : List Value} {k : Int} {u : Tok} {v : Value} {Q : Value → Shared → Prop}
    (inL : s.heap.IsList l items.toArray) (low : 0 ≤ k) (fit : k < 2 ^ 63) (found : items[k.toNat]? = some v) (goes : Q v s)
    (same : subscripted slice false (.ref l) (.int k u) = operate [.ref l, .int k u] (getItem (.ref l) (.int k u)) := by with_unfolding_all rfl) :
    wpAny (model prog w) A (subscriptTail value slice (.ref l) (.int k u)) Q E s := by
  have read : wpAny (model prog w) A (getItem (.ref l) (.int k u)) Q E s := wpAny_getItem_list inL low fit (by simpa using found) goes
  exact tail_any inL.typeIs slot_list_getitem.lookup read same
noncomputable def outerBody : List Stmt := match (lawBody[8]? : Option Stmt) with | some (Stmt.For _ _ b _ _) => b | _ => []
noncomputable def innerFor : Stmt := (outerBody[2]?).getD (Stmt.Pass ⟨0, 0, 0, 0⟩)
/-- the law's frame -/
abbrev lawMap (C R P : Addr) (sc vm cl vf wd vd vst sp ja jg jt : Option Value) : List (Str × Option Value) :=
  [(Str.ofString "script", sc), (Str.ofString "cells", some (.ref C)), (Str.ofString "mix", vm), (Str.ofString "cell", cl), (Str.ofString "row", some (.ref R)), (Str.ofString "pieces", some (.ref P)),
   (Str.ofString "front", vf), (Str.ofString "wide", wd), (Str.ofString "due", vd), (Str.ofString "step", vst), (Str.ofString "spelled", sp), (Str.ofString "again", ja), (Str.ofString "given", jg), (Str.ofString "told", jt)]
theorem range_facts {k : Int} (h0 : 0 ≤ k) (h1 : k ≤ 5) : Builtin.Range.small 0 k 1 = true ∧ Builtin.Range.rangeSize 0 k 1 = (k.toNat : Int) := by
  have h : k = 0 ∨ k = 1 ∨ k = 2 ∨ k = 3 ∨ k = 4 ∨ k = 5 := by omega
  rcases h with rfl | rfl | rfl | rfl | rfl | rfl <;> decide +kernel
noncomputable def outerFor : Stmt := (lawBody[8]?).getD (Stmt.Pass ⟨0, 0, 0, 0⟩)
theorem range_facts1 {k : Int} (h0 : 0 ≤ k) (h1 : k ≤ 3) : Builtin.Range.small 0 (1 + k) 1 = true ∧ Builtin.Range.rangeSize 0 (1 + k) 1 = ((1 + k).toNat : Int) := range_facts (by omega) (by omega)
/-- a fact laid aside -/
def Keep (p : Prop) : Prop := p
theorem item_pick3 {prog : Program} {w : World} {A : Around} {E : Value → Shared → Prop} {s : Shared} {value slice : PySem.Expr} {l : Addr} {k : Int} {u a b c : Tok} {Q : Value → Shared → Prop}
    (hl : s.heap.IsList l [Value.str (Str.ofString "") a, Value.str (Str.ofString " ; )") b, Value.str (Str.ofString ",") c].toArray) (h0 : 0 ≤ k) (h1 : k ≤ 2) (h : ∀ (tS : Str) (tt : Tok), tS.length ≤ 4 → Q (.str tS tt) s)
    (hs : subscripted slice false (.ref l) (.int k u) = operate [.ref l, .int k u] (getItem (.ref l) (.int k u)) := by with_unfolding_all rfl) :
    wpAny (model prog w) A (subscriptTail value slice (.ref l) (.int k u)) Q E s := by
  have h3 : k = 0 ∨ k = 1 ∨ k = 2 := by omega
  rcases h3 with rfl | rfl | rfl
  · exact list_item hl h0 (by omega) rfl (h _ _ (by decide +kernel)) hs
  · exact list_item hl h0 (by omega) rfl (h _ _ (by decide +kernel)) hs
  · exact list_item hl h0 (by omega) rfl (h _ _ (by decide +kernel)) hs
theorem strs_lay : ∀ ss : List Str, (∀ y ∈ ss, PyData.strOk y = true) → PyData.canLayAll0 (ss.map PyData.str) = true
  | [], _ => rfl
  | a :: r, h => by
    have h1 := strs_lay r fun y hy => h y (.tail _ hy)
    have h2 := h a (.head _)
    simp only [List.map_cons, PyData.canLayAll0, PyData.canLay0, h1, h2, Bool.and_self]
theorem strs_depth : ∀ ss : List Str, PyData.depthAll (ss.map PyData.str) = 0
  | [] => rfl
  | a :: r => by
    have := strs_depth r
    simp only [List.map_cons, PyData.depthAll, PyData.depth, this, Nat.max_self]
theorem told_low : ∀ {a : Arg}, ArgOk a → ∀ c ∈ told a, c < 128
  | [], _, c, hc => nomatch hc
  | p :: a, h, c, hc => by
    have all : ∀ q ∈ pieceN, ∀ c ∈ q.2, c < 128 := by decide
    have e : told (p :: a) = p.2 ++ told a := by simp [told]
    rw [e] at hc
    rcases List.mem_append.mp hc with h1 | h1
    · exact all p (h p (.head _)) c h1
    · exact told_low (a := a) (fun q hq => h q (.tail _ hq)) c h1
theorem toldS_ok {a : Arg} (h : ArgOk a) : PyData.strOk (toldS a) = true := by
  have hlow := told_low h
  obtain ⟨lo, hi, _, _, e, _⟩ := strip_cut (x := ⟨(told a).toArray⟩) (by simpa using hlow)
  show PyData.strOk (Txt.strip ⟨(told a).toArray⟩) = true
  rw [e]
  unfold PyData.strOk
  rw [← Array.all_toList, List.all_eq_true]
  intro c hc
  rw [StrLaws.strSub_toList] at hc
  have hm : c ∈ told a := by
    have h1 := List.mem_of_mem_drop (List.mem_of_mem_take hc)
    simpa using h1
  have := hlow c hm
  exact decide_eq_true (by omega)
/-- two answers of one make are equal -/
theorem eq_answer {prog : Program} {w : World} {A : Around} {E : Value → Shared → Prop} {s : Shared} {Q : Value → Shared → Prop} {h₀ : Heap} {L : Addr} {news : List (Addr × Obj)} {D T B A2 : Addr} {n : Int} {t1 t2 : Tok} {vs dv : List Value} {nA nd : Nat} {ss : List Str}
    (N : News h₀ L s.heap news) (m1 : (D, ({ cls := .type "tuple", data := .seq #[.ref B, .int n t1] } : Obj)) ∈ news) (m2 : (T, ({ cls := .type "tuple", data := .seq #[.ref A2, .int n t2] } : Obj)) ∈ news) (m3 : (A2, W.listOf vs.toArray nA) ∈ news) (m4 : (B, W.listOf dv.toArray nd) ∈ news)
    (hv : StrsAre vs ss) (hd : StrsAre dv ss) (hss : ∀ y ∈ ss, PyData.strOk y = true) (hu : A.units + 64 < cLine) (h : Q (.bool true) s) : wpAny (model prog w) A (compareOp .Eq (.ref T) (.ref D)) Q E s := by
  have hc : (PyData.tuple [PyData.list (ss.map PyData.str), PyData.int n]).canLay0 = true := by
    simp only [PyData.canLay0, PyData.canLayAll0, strs_lay ss hss, Bool.and_self]
  have hs : SeqAt.shaped (PyData.tuple [PyData.list (ss.map PyData.str), PyData.int n]) = true := by
    unfold SeqAt.shaped
    rw [hc]
    simp only [PyData.depth, PyData.depthAll, strs_depth]
    decide
  refine eq_dataH (da := .tuple [.list (ss.map .str), .int n]) (db := .tuple [.list (ss.map .str), .int n])
    (reads_tuple_at (N _ m2).1 rfl rfl (.cons (reads_list_at (N _ m3).1 rfl rfl (StrsAre.reads _ hv)) (.cons (.int _ _) .nil)))
    (reads_tuple_at (N _ m1).1 rfl rfl (.cons (reads_list_at (N _ m4).1 rfl rfl (StrsAre.reads _ hd)) (.cons (.int _ _) .nil))) hs hs hu ?_
  rw [SeqAt.eqv_refl _ hc]
  exact h
-- a frame's map is a written one
local macro_rules | `(tactic| walk_at "mine fr") => `(tactic| (refine fr_eq ?h1 ?h2; (case h1 => (simp only [lawMap, List.forall_mem_cons, List.not_mem_nil, false_implies, implies_true, and_true]; (repeat' apply And.intro) <;> rfl)); (case h2 => (intro y hy; simp only [lawMap, List.forall_mem_cons, List.not_mem_nil, false_implies, implies_true, and_true, ne_eq] at hy; simp only [hy, fr, if_false]))))
-- steps up to a while
local macro_rules | `(tactic| walk_at "mine go") => `(tactic| repeat' ((fail_if_success (with_reducible show wpAny _ _ (exec (PySem.Stmt.While _ _ _ _) _) _ _ _)); (fail_if_success (with_reducible show wpAny _ _ (PySem.call (Value.ref _) _) _ _ _)); (fail_if_success (with_reducible show wpAny _ _ (PySem.pyIter _) _ _ _)); first | (k_unfold; (try dsimp only)) | (k_end; wrow_close) | walk1 | (dsimp only; walk1) | (leave1; walk_say "STEP leave1"; try dsimp only) | fail "no step"))
local macro_rules | `(tactic| walk_at "mine go3") => `(tactic| repeat' ((fail_if_success (with_reducible show wpAny _ _ (exec (PySem.Stmt.While _ _ _ _) _) _ _ _)); (fail_if_success (with_reducible show wpAny _ _ (PySem.call (Value.ref _) _) _ _ _)); (fail_if_success (with_reducible show wpAny _ _ (exec (PySem.Stmt.For _ _ _ _ _) _) _ _ _)); first | (k_unfold; (try dsimp only)) | (k_end; wrow_close) | walk1 | (dsimp only; walk1) | (leave1; walk_say "STEP leave1"; try dsimp only) | fail "no step"))
local macro_rules | `(tactic| walk_at "mine go4") => `(tactic| repeat' ((fail_if_success (with_reducible show wpAny _ _ (exec (PySem.Stmt.While _ _ _ _) _) _ _ _)); (fail_if_success (with_reducible show wpAny _ _ (PySem.call (Value.ref _) _) _ _ _)); (fail_if_success (with_reducible show wpAny _ _ (exec (PySem.Stmt.For _ _ _ _ _) _) _ _ _)); (fail_if_success (with_reducible show wpAny _ _ (compareOp _ (Value.ref _) (Value.ref _)) _ _ _)); first | (k_unfold; (try dsimp only)) | (k_end; wrow_close) | walk1 | (dsimp only; walk1) | (leave1; walk_say "STEP leave1"; try dsimp only) | fail "no step"))
local macro_rules | `(tactic| walk_at "mine go2") => `(tactic| repeat' ((fail_if_success (with_reducible show wpAny _ _ (exec (PySem.Stmt.While _ _ _ _) _) _ _ _)); (fail_if_success (with_reducible show wpAny _ _ (PySem.call (Value.ref _) _) _ _ _)); first | (k_unfold; (try dsimp only)) | (k_end; wrow_close) | walk1 | (dsimp only; walk1) | (leave1; walk_say "STEP leave1"; try dsimp only) | fail "no step"))
local macro_rules | `(tactic| walk_at "mine go5") => `(tactic| repeat' ((fail_if_success (with_reducible show wpAny _ _ (execs (PySem.Stmt.Assign [PySem.Expr.Name (PySem.Str.ofString "front") _] _ _ :: _) _) _ _ _)); (fail_if_success (with_reducible show wpAny _ _ (PySem.call (Value.ref _) _) _ _ _)); first | (k_unfold; (try dsimp only)) | (k_end; wrow_close) | walk1 | (dsimp only; walk1) | (leave1; walk_say "STEP leave1"; try dsimp only) | fail "no step"))
-- a while's turn that hands back
local macro_rules | `(tactic| walk_at "WhileStep2") => `(tactic| ((with_reducible show WhileStep2 _ _ _ _ _ _ (Flow.ret _) _); dsimp only [WhileStep2]))
-- a contract's premises
local macro_rules | `(tactic| walk_at "mine call") => `(tactic| ((case k1 => k_asm); (case k2 => k_asm); (case k3 => k_asm); (case k4 => k_asm); (case k5 => k_asm); (case kK => first | exact rfl | assumption); (case kd => ktr_room); (case ku => ktr_units)))
local macro_rules | `(tactic| k_all) => `(tactic| assumption)
local macro_rules | `(tactic| walk_at "call builtin:str.join") => `(tactic| (k_here; (with_reducible show wpAny _ _ (call (Value.builtin "str.join") [Value.str _ _, Value.ref _]) _ _ _); k_dflt (refine join_listW (by is_list) (by first | assumption | (with_unfolding_all assumption)) (by decide +kernel) (by assumption) ?_); intro _ _))
local macro_rules | `(tactic| walk_at "execs cons") => `(tactic| (k_here; refine gen_toks ?_; intro tk htk))
local macro_rules | `(tactic| walk_at "subscriptTail Name Slice str ref") => `(tactic| ((with_reducible show wpAny _ _ (subscriptTail _ (Expr.Slice (some _) (some _) none _) _ _) _ _ _); (with_reducible rename Fr _ _ _ _ => F'); (with_reducible rename News _ _ _ _ => N'); refine slice_T (s := ⟨_, _, _, _, _⟩) F' N' (by (try dsimp only); omega) ?_; intro _ _ _ _ _ _ _))
local macro_rules | `(tactic| walk_at "call builtin:str.replace") => `(tactic| ((with_reducible show wpAny _ _ (call (Value.builtin "str.replace") [Value.str _ _, Value.str _ _, Value.str _ _]) _ _ _); refine replace_nl (by (try dsimp only); omega) rfl (by omega) ?_; intro _ _ _))
local macro_rules | `(tactic| walk_at "execs nil") => `(tactic| (k_here; refine gen_toks ?_; intro tk htk))
def nameS (x : Str) : Bool :=
  x == Str.ofString "_" || x == Str.ofString "$" || (!decide (x.cps.toList < (Str.ofString "0").cps.toList) && !decide ((Str.ofString "9").cps.toList < x.cps.toList))
  || (!decide (x.cps.toList < (Str.ofString "a").cps.toList) && !decide ((Str.ofString "z").cps.toList < x.cps.toList))
  || (!decide (x.cps.toList < (Str.ofString "A").cps.toList) && !decide ((Str.ofString "Z").cps.toList < x.cps.toList))

set_option maxRecDepth 100000 in
set_option maxHeartbeats 8000000 in
theorem c_isName (w : World) (mean : ExcName → Option Value) (mg mb : Str → Option Value) (news : List (Addr × Obj)) (x : Str) (t : VTok) :
    Ct w mean mg mb 21 1 8 news [.str x t] (fun n' r => news = n' ∧ r = .bool (nameS x)) := by
  unfold Ct
  k_fill
  w_top off
  intro dp un gd cn cs a ccd cl outer A₀ base h₀ L m s Q E B F X N T hk hd hu hret
  refine wpAny_call ?_
  k_dflt cell_enter
  k_steps
  all_goals (refine hret _ _ _ _ (by k_asm) (by k_asm) ⟨rfl, congrArg Value.bool ?_⟩; (simp only [nameS, *, Bool.true_or, Bool.or_true, Bool.false_or, Bool.or_false, decide_true, decide_false, Bool.not_true, Bool.not_false, Bool.true_and, Bool.false_and]))
set_option maxRecDepth 100000 in
set_option maxHeartbeats 8000000 in
theorem c_rowEnd (w : World) (mean : ExcName → Option Value) (mg mb : Str → Option Value) (news : List (Addr × Obj)) (x : Str) (t : VTok) (i : Int) (ti : VTok) (h0 : 0 ≤ i) (h1 : i ≤ x.length) (hx : x.length ≤ 100000) :
    Ct w mean mg mb 28 1 8 news [.str x t, .int i ti] (fun n' r => news = n' ∧ ∃ tj : VTok, r = .int (i + rowLen (x.cps.toList.drop i.toNat)) tj) := by
  unfold Ct
  k_fill
  w_top off
  intro dp un gd cn cs a ccd cl outer A₀ base h₀ L m s Q E B F X N T hk hd hu hret
  refine wpAny_call ?_
  k_dflt cell_enter
  rename Fr _ _ _ _ => F1
  replace F1 := fr_lay (l := [(Str.ofString "at", some (.int i ti)), (Str.ofString "text", some (.str x t))]) F1 (fr_lookup (by rfl))
  walk_at "mine go"
  rename Fr _ _ _ _ => F1
  rename News _ _ _ _ => N1
  refine While_inv2 (fun n m' nx => news = nx ∧ ∃ (e : Int) (te : VTok), 0 ≤ e ∧ e ≤ x.length ∧ e + rowLen (x.cps.toList.drop e.toNat) = i + rowLen (x.cps.toList.drop i.toNat) ∧ n = (x.length - e).toNat ∧ m' = fr [(Str.ofString "text", some (.str x t)), (Str.ofString "at", some (.int i ti)), (Str.ofString "end", some (.int e te))]) F1 N1 ⟨rfl, i, ti, h0, h1, rfl, rfl, by walk_at "mine fr"⟩ ?_
  clear F1 N1
  rintro n m' nx h1 tk1 F1 N1 ⟨rfl, e, te, he0, he1, hw, rfl, rfl⟩
  walk_at "mine go"
  · -- one more
    rename Fr _ _ _ _ => F2
    rename News _ _ _ _ => N2
    rename e < _ => hlt
    rename (_ != _) = true => hne
    obtain ⟨c, r, d1, d2, d3, d4⟩ := item_at he0 hlt
    refine ⟨_, _, _, _, _, rfl, F2, N2, ?_, rfl, e + 1, _, by omega, by omega, ?_, rfl, by walk_at "mine fr"⟩
    · omega
    · rw [d3] at hne
      have hc : ¬ c = 10 := by
        rintro rfl
        exact absurd hne (by decide +kernel)
      rw [d1] at hw
      rw [d2, ← hw]
      simp only [rowLen, if_neg hc]
      omega
  · -- a line break
    rename Fr h₀ _ _ _ => F2
    rename News h₀ _ _ _ => N2
    rename e < _ => hlt
    rename (_ != _) = false => hne
    obtain ⟨c, r, d1, d2, d3, d4⟩ := item_at he0 hlt
    refine hret _ _ _ _ F2 N2 ⟨rfl, te, ?_⟩
    have hc : c = 10 := by
      rw [d3, show Str.ofString "\n" = ⟨#[10]⟩ from by decide +kernel] at hne
      simpa using hne
    rw [d1] at hw
    rw [← hw]
    simp [rowLen, hc]
  · rename Fr h₀ _ _ _ => F2
    rename News h₀ _ _ _ => N2
    rename ¬ e < _ => hlt
    refine hret _ _ _ _ F2 N2 ⟨rfl, te, ?_⟩
    have hd : x.cps.toList.drop e.toNat = [] := List.drop_eq_nil_of_le (by rw [len_list]; omega)
    rw [hd] at hw
    rw [← hw]
    simp [rowLen]
set_option maxRecDepth 100000 in
set_option maxHeartbeats 8000000 in
theorem c_strEnd (w : World) (mean : ExcName → Option Value) (mg mb : Str → Option Value) (news : List (Addr × Obj)) (x : Str) (t : VTok) (i : Int) (ti : VTok) (h0 : 0 ≤ i) (h1 : i < x.length) (hx : x.length ≤ 100000) :
    Ct w mean mg mb 35 1 8 news [.str x t, .int i ti] (fun n' r => news = n' ∧ ∃ tj : VTok, r = .int (i + 1 + strLen (x.cps.toList.drop (i + 1).toNat)) tj) := by
  unfold Ct
  k_fill
  w_top off
  intro dp un gd cn cs a ccd cl outer A₀ base h₀ L m s Q E B F X N T hk hd hu hret
  refine wpAny_call ?_
  k_dflt cell_enter
  rename Fr _ _ _ _ => F1
  replace F1 := fr_lay (l := [(Str.ofString "at", some (.int i ti)), (Str.ofString "text", some (.str x t))]) F1 (fr_lookup (by rfl))
  walk_at "mine go"
  rename Fr _ _ _ _ => F1
  rename News _ _ _ _ => N1
  refine While_inv2 (fun n m' nx => news = nx ∧ ∃ (e : Int) (te : VTok), 0 ≤ e ∧ e ≤ x.length ∧ e + strLen (x.cps.toList.drop e.toNat) = i + 1 + strLen (x.cps.toList.drop (i + 1).toNat) ∧ n = (x.length - e).toNat ∧ m' = fr [(Str.ofString "text", some (.str x t)), (Str.ofString "at", some (.int i ti)), (Str.ofString "end", some (.int e te))]) F1 N1 ⟨rfl, i + 1, _, by omega, by omega, rfl, rfl, by walk_at "mine fr"⟩ ?_
  clear F1 N1
  rintro n m' nx h1 tk1 F1 N1 ⟨rfl, e, te, he0, he1, hw, rfl, rfl⟩
  walk_at "mine go"
  · -- the closing sign
    rename Fr h₀ _ _ _ => F2
    rename News h₀ _ _ _ => N2
    rename e < _ => hlt
    rename (_ == Str.ofString "\"") = true => hq
    obtain ⟨c, r, d1, d2, d3, d4⟩ := item_at he0 hlt
    refine hret _ _ _ _ F2 N2 ⟨rfl, _, congrArg (fun z => Value.int z _) ?_⟩
    rw [d3, one_beq str_q, beq_iff_eq] at hq
    rw [← hw, d1, hq, strLen_quote]
    omega
  · -- a sign that escapes nothing
    rename Fr _ _ _ _ => F2
    rename News _ _ _ _ => N2
    rename e < _ => hlt
    rename (_ == Str.ofString "\"") = false => hq
    rename (_ == Str.ofString "\\") = true => hb
    rename (_ != Str.ofString "\n") = true => hn
    rename (List.any _ _) = true => ha
    obtain ⟨c, r, d1, d2, d3, d4⟩ := item_at he0 hlt
    refine ⟨_, _, _, _, _, rfl, F2, fun p hp => N2 p (.tail _ hp), ?_, rfl, e + 1, _, by omega, by omega, ?_, rfl, by walk_at "mine fr"⟩
    · omega
    · rw [d3, one_beq str_b, beq_iff_eq] at hb
      rw [slice_as 1 (by omega) (by omega) (by omega), d2, any_end] at ha
      rw [d2, ← hw, d1, hb]
      cases r with
      | nil => simp [strLen]
      | cons d r =>
        have : d = 10 := by simpa using ha
        subst this
        simp [strLen]
        omega
  · -- a sign that escapes
    rename Fr _ _ _ _ => F2
    rename News _ _ _ _ => N2
    rename e < _ => hlt
    rename (_ == Str.ofString "\\") = true => hb
    rename (List.any _ _) = false => ha
    obtain ⟨c, r, d1, d2, d3, d4⟩ := item_at he0 hlt
    rw [d3, one_beq str_b, beq_iff_eq] at hb
    rw [slice_as 1 (by omega) (by omega) (by omega), d2, any_end] at ha
    cases r with
    | nil => exact absurd ha (by simp)
    | cons d r =>
      have hd : d ≠ 10 := by simpa using ha
      have hl : r.length + e + 2 = x.length := by rw [List.length_cons] at d4; omega
      have d5 : x.cps.toList.drop (e + 1 + 1).toNat = r := by
        have : (e + 1 + 1).toNat = (e + 1).toNat + 1 := by omega
        rw [this, ← List.drop_drop, d2]
        rfl
      refine ⟨_, _, _, _, _, rfl, F2, fun p hp => N2 p (.tail _ hp), ?_, rfl, e + 1 + 1, _, by omega, by omega, ?_, rfl, by walk_at "mine fr"⟩
      · omega
      · rw [d5, ← hw, d1, hb]
        simp [strLen, hd]
        omega
  · -- another sign
    rename Fr _ _ _ _ => F2
    rename News _ _ _ _ => N2
    rename e < _ => hlt
    rename (_ == Str.ofString "\"") = false => hq
    rename (_ == Str.ofString "\\") = false => hb
    rename (_ != Str.ofString "\n") = true => hn
    obtain ⟨c, r, d1, d2, d3, d4⟩ := item_at he0 hlt
    refine ⟨_, _, _, _, _, rfl, F2, N2, ?_, rfl, e + 1, _, by omega, by omega, ?_, rfl, by walk_at "mine fr"⟩
    · omega
    · rw [d3, one_beq str_q, beq_eq_false_iff_ne] at hq
      rw [d3, one_beq str_b, beq_eq_false_iff_ne] at hb
      rw [d3, one_bne str_lf, bne_iff_ne] at hn
      rw [d2, ← hw, d1]
      cases r with
      | nil => simp [strLen, hn]
      | cons d r => rw [strLen_step hn hq hb]; omega
  · -- a line break
    rename Fr h₀ _ _ _ => F2
    rename News h₀ _ _ _ => N2
    rename e < _ => hlt
    rename (_ != _) = false => hne
    obtain ⟨c, r, d1, d2, d3, d4⟩ := item_at he0 hlt
    refine hret _ _ _ _ F2 N2 ⟨rfl, te, congrArg (fun z => Value.int z _) ?_⟩
    rw [d3, one_bne str_lf] at hne
    have hc : c = 10 := by simpa using hne
    rw [← hw, d1, hc]
    cases r <;> simp [strLen]
  · rename Fr h₀ _ _ _ => F2
    rename News h₀ _ _ _ => N2
    rename ¬ e < _ => hlt
    refine hret _ _ _ _ F2 N2 ⟨rfl, te, congrArg (fun z => Value.int z _) ?_⟩
    rw [← hw, drop_end hlt]
    simp [strLen]
set_option maxRecDepth 100000 in
set_option maxHeartbeats 8000000 in
theorem c_escEnd (w : World) (mean : ExcName → Option Value) (mg mb : Str → Option Value) (news : List (Addr × Obj)) (x : Str) (t : VTok) (i : Int) (ti : VTok) (h0 : 0 ≤ i) (h1 : i ≤ x.length) (hx : x.length ≤ 100000) :
    Ct w mean mg mb 49 1 8 news [.str x t, .int i ti] (fun n' r => news = n' ∧ ∃ tj : VTok, r = .int (i + escLen (x.cps.toList.drop i.toNat)) tj) := by
  unfold Ct
  k_fill
  w_top off
  intro dp un gd cn cs a ccd cl outer A₀ base h₀ L m s Q E B F X N T hk hd hu hret
  refine wpAny_call ?_
  k_dflt cell_enter
  rename Fr _ _ _ _ => F1
  replace F1 := fr_lay (l := [(Str.ofString "at", some (.int i ti)), (Str.ofString "text", some (.str x t))]) F1 (fr_lookup (by rfl))
  walk_at "mine go"
  rename Fr _ _ _ _ => F1
  rename News _ _ _ _ => N1
  refine While_inv2 (fun n m' nx => news = nx ∧ ∃ (e : Int) (te : VTok), 0 ≤ e ∧ e ≤ x.length ∧ e + escLen (x.cps.toList.drop e.toNat) = i + escLen (x.cps.toList.drop i.toNat) ∧ n = (x.length - e).toNat ∧ m' = fr [(Str.ofString "text", some (.str x t)), (Str.ofString "at", some (.int i ti)), (Str.ofString "end", some (.int e te))]) F1 N1 ⟨rfl, i, ti, h0, h1, rfl, rfl, by walk_at "mine fr"⟩ ?_
  clear F1 N1
  rintro n m' nx h1 tk1 F1 N1 ⟨rfl, e, te, he0, he1, hw, rfl, rfl⟩
  walk_at "mine go"
  · rename Fr _ _ _ _ => F2
    rename News _ _ _ _ => N2
    rename e < _ => hlt
    rename List.isEmpty _ = true => hq
    obtain ⟨c, r, d1, d2, d3, d4⟩ := item_at he0 hlt
    rw [d3, in_ws] at hq
    refine ⟨_, _, _, _, _, rfl, F2, N2, ?_, rfl, e + 1, _, by omega, by omega, ?_, rfl, by walk_at "mine fr"⟩
    · omega
    · rw [d2, ← hw, d1]
      have : wsC c = false := by simpa using hq
      simp only [escLen, this, Bool.false_eq_true, if_false]
      omega
  · rename Fr h₀ _ _ _ => F2
    rename News h₀ _ _ _ => N2
    rename e < _ => hlt
    rename List.isEmpty _ = false => hq
    obtain ⟨c, r, d1, d2, d3, d4⟩ := item_at he0 hlt
    rw [d3, in_ws] at hq
    refine hret _ _ _ _ F2 N2 ⟨rfl, te, congrArg (fun z => Value.int z _) ?_⟩
    have : wsC c = true := by simpa using hq
    rw [← hw, d1]
    simp [escLen, this]
  · rename Fr h₀ _ _ _ => F2
    rename News h₀ _ _ _ => N2
    rename ¬ e < _ => hlt
    refine hret _ _ _ _ F2 N2 ⟨rfl, te, congrArg (fun z => Value.int z _) ?_⟩
    rw [← hw, drop_end hlt]
    simp [escLen]
theorem starLen_step {c : Nat} {r : List Nat} (h : ¬ (c :: r).take 2 = [42, 47]) : starLen (c :: r) = starLen r + 1 := by
  cases r with
  | nil => rfl
  | cons d r =>
    have : ¬ (c = 42 ∧ d = 47) := by simpa using h
    simp only [starLen, if_neg this]
theorem starLen_end {l : List Nat} (h : l.take 2 = [42, 47]) : starLen l = 0 := by
  match l, h with
  | [], h => exact absurd h (by simp)
  | [c], h => exact absurd h (by simp)
  | c :: d :: r, h =>
    have : c = 42 ∧ d = 47 := by simpa using h
    simp only [starLen, if_pos this]
theorem remLen_star {x : Str} {i e : Int} (h0 : 0 ≤ i) (h1 : i + 2 ≤ x.length) (h2 : (x.cps.toList.drop i.toNat).take 2 = [47, 42]) (h3 : e = i + 2 + starLen (x.cps.toList.drop (i + 2).toNat)) :
    (if (x.length : Int) < e + 2 then (x.length : Int) else e + 2) = i + remLen (x.cps.toList.drop i.toNat) := by
  unfold remLen
  have h4 : ¬ (x.cps.toList.drop i.toNat).take 2 = [47, 47] := by rw [h2]; decide
  have h5 : (x.cps.toList.drop i.toNat).drop 2 = x.cps.toList.drop (i + 2).toNat := by
    rw [List.drop_drop]
    congr 1
    omega
  rw [if_neg h4, if_pos h2, h5, List.length_drop, len_list]
  split <;> omega

set_option maxRecDepth 100000 in
set_option maxHeartbeats 8000000 in
theorem c_remEnd (w : World) (mean : ExcName → Option Value) (mg mb : Str → Option Value) (news : List (Addr × Obj)) (x : Str) (t : VTok) (i : Int) (ti : VTok) (h0 : 0 ≤ i) (h1 : i < x.length) (hx : x.length ≤ 100000) :
    Ct w mean mg mb 42 2 16 news [.str x t, .int i ti] (fun n' r => news = n' ∧ ∃ tj : VTok, r = .int (i + remLen (x.cps.toList.drop i.toNat)) tj) := by
  unfold Ct
  k_fill
  w_top off
  intro dp un gd cn cs a ccd cl outer A₀ base h₀ L m s Q E B F X N T hk hd hu hret
  refine wpAny_call ?_
  k_dflt cell_enter
  rename Fr _ _ _ _ => F1
  replace F1 := fr_lay (l := [(Str.ofString "at", some (.int i ti)), (Str.ofString "text", some (.str x t))]) F1 (fr_lookup (by rfl))
  walk_at "mine go"
  · -- a remark to the row's end
    rename (_ == Str.ofString "//") = true => hq
    rw [slice_as 2 h0 (by omega) (by omega), two_beq str_rr, decide_eq_true_eq] at hq
    refine' Ct.use (c_rowEnd w mean mg mb _ _ _ _ _ h0 (by omega) hx) ?k1 ?k2 ?k3 ?k4 ?k5 ?kK ?kd ?ku ?_
    walk_at "mine call"
    rintro r h' tk' news' F' N' ⟨rfl, tj, rfl⟩
    walk_at "mine go"
    rename Fr h₀ _ _ _ => F2
    rename News h₀ _ _ _ => N2
    refine hret _ _ _ _ F2 N2 ⟨rfl, _, congrArg (fun z => Value.int z _) ?_⟩
    unfold remLen
    rw [if_pos hq]
  · rename Fr h₀ _ _ _ => F2
    rename News h₀ _ _ _ => N2
    rename (_ == Str.ofString "//") = false => hq
    rename (_ != Str.ofString "/*") = true => hs
    rw [slice_as 2 h0 (by omega) (by omega), two_beq str_rr, decide_eq_false_iff_not] at hq
    unfold bne at hs
    rw [slice_as 2 h0 (by omega) (by omega), two_beq str_rs, Bool.not_eq_true', decide_eq_false_iff_not] at hs
    refine hret _ _ _ _ F2 N2 ⟨rfl, _, congrArg (fun z => Value.int z _) ?_⟩
    unfold remLen
    rw [if_neg hq, if_neg hs]
    simp
  · rename (_ == Str.ofString "//") = false => hq
    rename (_ != Str.ofString "/*") = false => hs
    rw [slice_as 2 h0 (by omega) (by omega), two_beq str_rr, decide_eq_false_iff_not] at hq
    unfold bne at hs
    rw [slice_as 2 h0 (by omega) (by omega), two_beq str_rs, Bool.not_eq_false', decide_eq_true_eq] at hs
    have hi : i + 2 ≤ x.length := by
      have h3 := congrArg List.length hs
      rw [List.length_take, List.length_drop, len_list] at h3
      simp only [List.length_cons, List.length_nil] at h3
      omega
    rename Fr _ _ _ _ => F1
    rename News _ _ _ _ => N1
    refine While_inv2 (fun n m' nx => news = nx ∧ ∃ (e : Int) (te : VTok) (vm : Option Value), 0 ≤ e ∧ e ≤ x.length ∧ e + starLen (x.cps.toList.drop e.toNat) = i + 2 + starLen (x.cps.toList.drop (i + 2).toNat) ∧ n = (x.length - e).toNat ∧ m' = fr [(Str.ofString "text", some (.str x t)), (Str.ofString "at", some (.int i ti)), (Str.ofString "mark", vm), (Str.ofString "end", some (.int e te))]) F1 N1 ⟨rfl, i + 2, _, _, by omega, hi, rfl, rfl, by walk_at "mine fr"⟩ ?_
    clear F1 N1
    rintro n m' nx h1 tk1 F1 N1 ⟨rfl, e, te, vm, he0, he1, hw, rfl, rfl⟩
    walk_at "mine go"
    · rename Fr _ _ _ _ => F2
      rename News _ _ _ _ => N2
      rename e < _ => hlt
      rename (_ != Str.ofString "*/") = true => hq
      obtain ⟨c, r, d1, d2, d3, d4⟩ := item_at he0 hlt
      unfold bne at hq
      rw [slice_as 2 he0 (by omega) (by omega), two_beq str_sr, Bool.not_eq_true', decide_eq_false_iff_not, d1] at hq
      refine ⟨_, _, _, _, _, rfl, F2, N2, ?_, rfl, e + 1, _, _, by omega, by omega, ?_, rfl, by walk_at "mine fr"⟩
      · omega
      · rw [d2, ← hw, d1, starLen_step hq]
        omega
    · rename Fr h₀ _ _ _ => F2
      rename News h₀ _ _ _ => N2
      rename e < _ => hlt
      rename (_ != Str.ofString "*/") = false => hq
      unfold bne at hq
      rw [slice_as 2 he0 (by omega) (by omega), two_beq str_sr, Bool.not_eq_false', decide_eq_true_eq] at hq
      rw [starLen_end hq] at hw
      refine hret _ _ _ _ F2 N2 ⟨rfl, _, congrArg (fun z => Value.int z _) ?_⟩
      exact remLen_star h0 hi hs (by omega)
    · rename Fr h₀ _ _ _ => F2
      rename News h₀ _ _ _ => N2
      rename ¬ e < _ => hlt
      rw [drop_end hlt] at hw
      refine hret _ _ _ _ F2 N2 ⟨rfl, _, congrArg (fun z => Value.int z _) ?_⟩
      exact remLen_star h0 hi hs (by simp only [starLen] at hw; omega)
theorem nameS_one (c : Nat) : nameS ⟨#[c]⟩ = nameC c := by
  unfold nameS nameC
  rw [one_beq (show Str.ofString "_" = ⟨#[95]⟩ from by decide +kernel), one_beq (show Str.ofString "$" = ⟨#[36]⟩ from by decide +kernel)]
  rw [show Str.ofString "0" = ⟨#[48]⟩ from by decide +kernel, show Str.ofString "9" = ⟨#[57]⟩ from by decide +kernel, show Str.ofString "a" = ⟨#[97]⟩ from by decide +kernel, show Str.ofString "z" = ⟨#[122]⟩ from by decide +kernel, show Str.ofString "A" = ⟨#[65]⟩ from by decide +kernel, show Str.ofString "Z" = ⟨#[90]⟩ from by decide +kernel]
  have e : ∀ a b : Nat, decide (([a] : List Nat) < [b]) = decide (a < b) := fun a b => by simp [List.cons_lt_cons_iff]
  show (c == 95 || c == 36 || !decide (([c] : List Nat) < [48]) && !decide (([57] : List Nat) < [c]) || !decide (([c] : List Nat) < [97]) && !decide (([122] : List Nat) < [c]) || !decide (([c] : List Nat) < [65]) && !decide (([90] : List Nat) < [c])) = _
  simp only [e]
  have e2 : ∀ a b : Nat, (!decide (a < b)) = decide (b ≤ a) := fun a b => by
    rw [Bool.eq_iff_iff]; simp
  simp only [e2]
theorem nameS_none : nameS ⟨#[]⟩ = false := by decide +kernel
theorem nameS_take (l : List Nat) : nameS ⟨(l.take 1).toArray⟩ = (match l with | [] => false | c :: _ => nameC c) := by
  cases l with
  | nil => exact nameS_none
  | cons c r => exact nameS_one c
theorem nameLen_step {c : Nat} {r : List Nat} (h : nameC c = true) : nameLen (c :: r) = nameLen r + 1 := by simp [nameLen, h]
theorem str_apo : Str.ofString "'" = ⟨#[39]⟩ := by decide +kernel

set_option maxRecDepth 100000 in
set_option maxHeartbeats 8000000 in
theorem c_whole (w : World) (mean : ExcName → Option Value) (mg mb : Str → Option Value) (news : List (Addr × Obj)) (x : Str) (t : VTok) (i : Int) (ti : VTok) (h0 : 0 ≤ i) (h1 : i < x.length) (hx : x.length ≤ 100000) :
    Ct w mean mg mb 56 2 16 news [.str x t, .int i ti] (fun n' r => news = n' ∧ ∃ tj : VTok, r = .int (i + wholeLen (x.cps.toList.drop i.toNat)) tj) := by
  unfold Ct
  k_fill
  w_top off
  intro dp un gd cn cs a ccd cl outer A₀ base h₀ L m s Q E B F X N T hk hd hu hret
  refine wpAny_call ?_
  k_dflt cell_enter
  rename Fr _ _ _ _ => F1
  replace F1 := fr_lay (l := [(Str.ofString "at", some (.int i ti)), (Str.ofString "text", some (.str x t))]) F1 (fr_lookup (by rfl))
  walk_at "mine go"
  · rename (_ == Str.ofString "\"") = true => hq
    obtain ⟨c, r, d1, d2, d3, d4⟩ := item_at h0 h1
    rw [d3, one_beq str_q, beq_iff_eq] at hq
    refine' Ct.use (c_strEnd w mean mg mb _ _ _ _ _ h0 h1 hx) ?k1 ?k2 ?k3 ?k4 ?k5 ?kK ?kd ?ku ?_
    walk_at "mine call"
    rintro r' h' tk' news' F' N' ⟨rfl, tj, rfl⟩
    walk_at "mine go"
    rename Fr h₀ _ _ _ => F2
    rename News h₀ _ _ _ => N2
    refine hret _ _ _ _ F2 N2 ⟨rfl, _, congrArg (fun z => Value.int z _) ?_⟩
    rw [d1, d2, hq]
    simp only [wholeLen, if_true]
    omega
  · rename (_ == Str.ofString "\"") = false => hq
    rename (_ == Str.ofString "\\") = true => hb
    obtain ⟨c, r, d1, d2, d3, d4⟩ := item_at h0 h1
    rw [d3, one_beq str_q, beq_eq_false_iff_ne] at hq
    rw [d3, one_beq str_b, beq_iff_eq] at hb
    refine' Ct.use (c_escEnd w mean mg mb _ _ _ _ _ h0 (by omega) hx) ?k1 ?k2 ?k3 ?k4 ?k5 ?kK ?kd ?ku ?_
    walk_at "mine call"
    rintro r' h' tk' news' F' N' ⟨rfl, tj, rfl⟩
    walk_at "mine go"
    rename Fr h₀ _ _ _ => F2
    rename News h₀ _ _ _ => N2
    refine hret _ _ _ _ F2 N2 ⟨rfl, _, congrArg (fun z => Value.int z _) ?_⟩
    rw [d1, hb]
    rfl
  · rename Fr _ _ _ _ => F1
    rename News _ _ _ _ => N1
    refine While_inv2 (fun n m' nx => news = nx ∧ ∃ (e : Int) (te : VTok) (vc : Option Value), i + 1 ≤ e ∧ e ≤ x.length ∧ e + nameLen (x.cps.toList.drop e.toNat) = i + 1 + nameLen (x.cps.toList.drop (i + 1).toNat) ∧ n = (x.length - e).toNat ∧ m' = fr [(Str.ofString "text", some (.str x t)), (Str.ofString "at", some (.int i ti)), (Str.ofString "char", vc), (Str.ofString "end", some (.int e te))]) F1 N1 ⟨rfl, i + 1, _, _, by omega, by omega, rfl, rfl, by walk_at "mine fr"⟩ ?_
    clear F1 N1
    rintro n m' nx hp1 tk1 F1 N1 ⟨rfl, e, te, vc, he0, he1, hw, rfl, rfl⟩
    have he2 : 0 ≤ e := by omega
    walk_at "mine go"
    refine' Ct.use (c_isName w mean mg mb _ _ _) ?k1 ?k2 ?k3 ?k4 ?k5 ?kK ?kd ?ku ?_
    walk_at "mine call"
    rintro r h' tk' news' F' N' ⟨rfl, rfl⟩
    walk_at "mine go"
    · rename Fr _ _ _ _ => F2
      rename News _ _ _ _ => N2
      rename nameS _ = true => hn
      rw [slice_as 1 he2 (by omega) (by omega), nameS_take] at hn
      by_cases hlt : e < x.length
      · obtain ⟨c, r, d1, d2, d3, d4⟩ := item_at he2 hlt
        rw [d1] at hn
        refine ⟨_, _, _, _, _, rfl, F2, N2, ?_, rfl, e + 1, _, _, by omega, by omega, ?_, rfl, by walk_at "mine fr"⟩
        · omega
        · rw [d2, ← hw, d1, nameLen_step hn]
          omega
      · rw [drop_end hlt] at hn
        exact absurd hn (by simp)
    · rename Fr h₀ _ _ _ => F2
      rename News h₀ _ _ _ => N2
      rename nameS _ = false => hn
      rw [slice_as 1 he2 (by omega) (by omega), nameS_take] at hn
      have hz : nameLen (x.cps.toList.drop e.toNat) = 0 := by
        cases hd : x.cps.toList.drop e.toNat with
        | nil => rfl
        | cons c r =>
          rw [hd] at hn
          simp only [nameLen]
          rw [if_neg (by simp [show nameC c = false from hn])]
      rw [hz] at hw
      refine hret _ _ _ _ F2 N2 ⟨rfl, _, congrArg (fun z => Value.int z _) ?_⟩
      rename (_ == Str.ofString "\"") = false => hq
      rename (_ == Str.ofString "\\") = false => hb
      rename (_ == Str.ofString "'") = true => ha
      obtain ⟨c, r, d1, d2, d3, d4⟩ := item_at h0 h1
      rw [d3, one_beq str_apo, beq_iff_eq] at ha
      rw [d1, ha]
      rw [d2] at hw
      have e1 : wholeLen (39 :: r) = nameLen r + 1 := by simp [wholeLen]
      rw [e1]
      split <;> omega
  · rename Fr _ _ _ _ => F1
    rename News _ _ _ _ => N1
    refine While_inv2 (fun n m' nx => news = nx ∧ ∃ (e : Int) (te : VTok) (vc : Option Value), i ≤ e ∧ e ≤ x.length ∧ e + nameLen (x.cps.toList.drop e.toNat) = i + nameLen (x.cps.toList.drop (i).toNat) ∧ n = (x.length - e).toNat ∧ m' = fr [(Str.ofString "text", some (.str x t)), (Str.ofString "at", some (.int i ti)), (Str.ofString "char", vc), (Str.ofString "end", some (.int e te))]) F1 N1 ⟨rfl, i, _, _, by omega, by omega, rfl, rfl, by walk_at "mine fr"⟩ ?_
    clear F1 N1
    rintro n m' nx hp1 tk1 F1 N1 ⟨rfl, e, te, vc, he0, he1, hw, rfl, rfl⟩
    have he2 : 0 ≤ e := by omega
    walk_at "mine go"
    refine' Ct.use (c_isName w mean mg mb _ _ _) ?k1 ?k2 ?k3 ?k4 ?k5 ?kK ?kd ?ku ?_
    walk_at "mine call"
    rintro r h' tk' news' F' N' ⟨rfl, rfl⟩
    walk_at "mine go"
    · rename Fr _ _ _ _ => F2
      rename News _ _ _ _ => N2
      rename nameS _ = true => hn
      rw [slice_as 1 he2 (by omega) (by omega), nameS_take] at hn
      by_cases hlt : e < x.length
      · obtain ⟨c, r, d1, d2, d3, d4⟩ := item_at he2 hlt
        rw [d1] at hn
        refine ⟨_, _, _, _, _, rfl, F2, N2, ?_, rfl, e + 1, _, _, by omega, by omega, ?_, rfl, by walk_at "mine fr"⟩
        · omega
        · rw [d2, ← hw, d1, nameLen_step hn]
          omega
      · rw [drop_end hlt] at hn
        exact absurd hn (by simp)
    · rename Fr h₀ _ _ _ => F2
      rename News h₀ _ _ _ => N2
      rename nameS _ = false => hn
      rw [slice_as 1 he2 (by omega) (by omega), nameS_take] at hn
      have hz : nameLen (x.cps.toList.drop e.toNat) = 0 := by
        cases hd : x.cps.toList.drop e.toNat with
        | nil => rfl
        | cons c r =>
          rw [hd] at hn
          simp only [nameLen]
          rw [if_neg (by simp [show nameC c = false from hn])]
      rw [hz] at hw
      refine hret _ _ _ _ F2 N2 ⟨rfl, _, congrArg (fun z => Value.int z _) ?_⟩
      rename (_ == Str.ofString "\"") = false => hq
      rename (_ == Str.ofString "\\") = false => hb
      rename (_ == Str.ofString "'") = false => ha
      obtain ⟨c, r, d1, d2, d3, d4⟩ := item_at h0 h1
      rw [d3, one_beq str_q, beq_eq_false_iff_ne] at hq
      rw [d3, one_beq str_b, beq_eq_false_iff_ne] at hb
      rw [d3, one_beq str_apo, beq_eq_false_iff_ne] at ha
      rw [d1] at hw ⊢
      have e1 : wholeLen (c :: r) = max (nameLen (c :: r)) 1 := by
        simp only [wholeLen, if_neg hq, if_neg hb, if_neg ha]
      rw [e1]
      split <;> omega
/-- the texts of a list, one behind the other -/
def cat (ps : List Str) : List Nat := (ps.map (·.cps.toList)).flatten
theorem join_none : ∀ ps : List Str, (Str.join ⟨#[]⟩ ps).cps.toList = cat ps
  | [] => rfl
  | [p] => by simp [Str.join, cat]
  | p :: q :: r => by
    have ih := join_none (q :: r)
    show (p ++ ⟨#[]⟩ ++ Str.join ⟨#[]⟩ (q :: r)).cps.toList = cat (p :: q :: r)
    simp only [Str.cps_append, Array.toList_append]
    rw [ih]
    simp [cat]
theorem join_cat (ps : List Str) : Txt.join (Str.ofString "") ps = ⟨(cat ps).toArray⟩ := by
  rw [str_0]
  apply str_ext
  show (Builtin.Str.glued ⟨#[]⟩ ps).cps.toList = cat ps
  rw [StrLaws.glued_eq_join]
  exact join_none ps
theorem cat_length : ∀ ps : List Str, (cat ps).length = (ps.map (·.length)).sum
  | [] => rfl
  | p :: r => by
    have ih := cat_length r
    have e : cat (p :: r) = p.cps.toList ++ cat r := by simp [cat]
    rw [e, List.length_append, ih, len_list, List.map_cons, List.sum_cons]
theorem cat_snoc (ps : List Str) (p : Str) : cat (ps ++ [p]) = cat ps ++ p.cps.toList := by simp [cat]
theorem join_length (ps : List Str) : (Txt.join (Str.ofString "") ps).length = (ps.map (·.length)).sum := by
  rw [join_cat, ← cat_length]
  simp [Str.length]

theorem news_pick {h₀ h : Heap} {L : Addr} {a b c d : Addr × Obj} {l : List (Addr × Obj)} (N : News h₀ L h (a :: b :: c :: d :: l)) : News h₀ L h (a :: d :: l) := by
  intro p hp
  rcases List.mem_cons.mp hp with rfl | hp
  · exact N _ (.head _)
  · rcases List.mem_cons.mp hp with rfl | hp
    · exact N _ (.tail _ (.tail _ (.tail _ (.head _))))
    · exact N _ (.tail _ (.tail _ (.tail _ (.tail _ hp))))

set_option maxRecDepth 100000 in
set_option maxHeartbeats 8000000 in
theorem c_read (w : World) (mean : ExcName → Option Value) (mg mb : Str → Option Value) (news : List (Addr × Obj)) (x : Str) (t : VTok) (i : Int) (ti : VTok) (h0 : 0 ≤ i) (hi : i ≤ x.length) (hx : x.length ≤ 100000) :
    Ct w mean mg mb 63 3 24 news [.str x t, .int i ti] (fun n' r => match readAt x.cps.toList i.toNat with
      | none => news = n' ∧ r = .none
      | some (as, e) => ∃ (T A : Addr) (vs : List Value) (nA : Nat) (te : VTok) (ei : Int), r = .ref T ∧ StrsAre vs as ∧ ei = (e : Int) ∧ n' = (T, ({ cls := .type "tuple", data := .seq #[.ref A, .int ei te] } : Obj)) :: (A, W.listOf vs.toArray nA) :: news) := by
  unfold Ct
  k_fill
  w_top off
  intro dp un gd cn cs a ccd cl outer A₀ base h₀ L m s Q E B F X N T hk hd hu hret
  refine wpAny_call ?_
  k_dflt cell_enter
  rename Fr _ _ _ _ => F1
  replace F1 := fr_lay (l := [(Str.ofString "at", some (.int i ti)), (Str.ofString "text", some (.str x t))]) F1 (fr_lookup (by rfl))
  walk_at "mine go"
  · -- no bracket
    rename Fr h₀ _ _ _ => F2
    rename News h₀ _ _ _ => N2
    rename (_ != Str.ofString "(") = true => hopen
    unfold bne at hopen
    rw [Bool.not_eq_true', slice_as 1 h0 (by omega) hi, one_open, decide_eq_false_iff_not] at hopen
    refine hret _ _ _ _ F2 N2 ?_
    simp [readAt_shut hopen]
  · rename Fr _ _ _ _ => F1
    rename News _ _ _ _ => N1
    rename (_ != Str.ofString "(") = false => hopen
    unfold bne at hopen
    rw [Bool.not_eq_false'] at hopen
    rw [slice_as 1 h0 (by omega) hi, one_open, decide_eq_true_eq] at hopen
    have hlt : i < x.length := by
      by_cases h : i < x.length
      · exact h
      · rw [drop_end h] at hopen
        exact absurd hopen (by simp)
    refine While_inv2 (fun n m' nx => ∃ (A P : Addr) (vsA vsP : List Value) (nA nP : Nat) (as ps : List Str) (d idx : Int) (td tx : VTok) (vc ve : Option Value),
      nx = (P, W.listOf vsP.toArray nP) :: (A, W.listOf vsA.toArray nA) :: news ∧ StrsAre vsA as ∧ StrsAre vsP ps ∧ (∀ p ∈ news, p.1 < A) ∧ @LT.lt Nat _ A P ∧ i + 1 ≤ idx ∧ idx ≤ x.length ∧ 0 ≤ d ∧ d ≤ idx ∧
      readA (x.cps.toList.drop idx.toNat) d.toNat (cat ps) as = readA (x.cps.toList.drop (i + 1).toNat) 0 [] [] ∧ as.length ≤ idx ∧ ps.length ≤ idx ∧ (ps.map (·.length)).sum ≤ idx ∧ n = (x.length - idx).toNat ∧
      m' = fr [(Str.ofString "text", some (.str x t)), (Str.ofString "at", some (.int i ti)), (Str.ofString "arguments", some (.ref A)), (Str.ofString "pieces", some (.ref P)), (Str.ofString "depth", some (.int d td)), (Str.ofString "index", some (.int idx tx)), (Str.ofString "char", vc), (Str.ofString "end", ve)]) F1 N1
      ⟨_, _, [], [], 0, 0, [], [], 0, i + 1, _, _, none, none, rfl, .nil, .nil, by assumption, by omega, by omega, by omega, by omega, by omega, rfl, by simp; omega, by simp; omega, by simp; omega, rfl, by walk_at "mine fr"⟩ ?_
    clear F1 N1
    rintro n m' nx hp1 tk1 F1 N1 ⟨A, P, vsA, vsP, nA, nP, as, ps, d, idx, td, tx, vc, ve, rfl, hsA, hsP, hlA, hAP, hi1, hi2, hd0, hd1, hw, hz1, hz2, hz3, rfl, rfl⟩
    have hnA : ∀ p ∈ news, p.1 ≠ A := fun p hp => Nat.ne_of_lt (hlA p hp)
    have hnP : ∀ p ∈ news, p.1 ≠ P := fun p hp => Nat.ne_of_lt (Nat.lt_trans (hlA p hp) hAP)
    have hix : 0 ≤ idx := by omega
    have hzJ : (ps.map (·.length)).sum + ps.length ≤ 1048576 := by omega
    have hjL : (Txt.join (Str.ofString "") ps).length ≤ 1048576 := by rw [join_length]; omega
    walk_at "mine go"
    · rename idx < _ => hlt2
      obtain ⟨c, r, d1, d2, d3, d4⟩ := item_at hix hlt2
      refine' Ct.use (c_remEnd w mean mg mb _ _ _ _ _ hix (by assumption) hx) ?k1 ?k2 ?k3 ?k4 ?k5 ?kK ?kd ?ku ?_
      walk_at "mine call"
      rintro r' h' tk' news' F' N' ⟨rfl, te, rfl⟩
      have hy1 : (c :: r).length + idx = x.length := by rw [List.length_cons]; omega
      have hr1 := remLen_le (c :: r)
      have hr2 := wholeLen_le c r
      have hr3 := wholeLen_pos (c :: r)
      rw [d1]
      rw [d1] at hw
      walk_at "mine go"
      · -- a remark
        rename Fr _ _ _ _ => F2
        rename News _ _ _ _ => N2
        rename idx < idx + _ => hrem
        simp only [List.push_toArray] at N2
        refine ⟨_, _, _, _, _, rfl, F2, N2, ?_, A, P, vsA, _, nA, nP + 1, as, ps ++ [Str.ofString " "], d, idx + remLen (c :: r), _, _, _, _, rfl, hsA, StrsAre.append' hsP (.cons _ _ .nil), hlA, hAP, by omega, by omega, hd0, by omega, ?_, by omega, ?_, ?_, rfl, by walk_at "mine fr"⟩
        · omega
        · rw [drop_on _ hix, d1, cat_snoc, ← hw, readA_rem' (by omega)]
          rfl
        · simp only [List.length_append, List.length_cons, List.length_nil]; omega
        · simp only [List.map_append, List.map_cons, List.map_nil, List.sum_append, List.sum_cons, List.sum_nil, show (Str.ofString " ").length = 1 from by decide +kernel]; omega
      · -- a comma is no bracket
        rename (_ == Str.ofString ",") = true => hq
        rename (_ == Str.ofString ")") = true => hb
        rw [d3, one_beq str_comma, beq_iff_eq] at hq
        rw [d3, one_beq str_shut, beq_iff_eq] at hb
        omega
      · -- a comma
        rename Fr _ _ _ _ => F2
        rename News _ _ _ _ => N2
        rename (_ == Str.ofString ",") = true => hq
        rename d = 0 => hd9
        rw [d3, one_beq str_comma, beq_iff_eq] at hq
        subst hq
        subst hd9
        simp only [List.push_toArray] at N2
        rename _ ∧ _ ∧ AllLt _ _ => hlt9
        refine ⟨_, _, _, _, _, rfl, F2, fun p hp => N2 p (List.mem_cons.mpr ((List.mem_cons.mp hp).imp id (.tail _))), ?_, A, _, _, [], nA + 1, 0, as ++ [Txt.strip (Txt.join (Str.ofString "") ps)], [], 0, idx + 1, _, _, _, _, rfl, StrsAre.append' hsA (.cons _ _ .nil), .nil, hlA, hlt9.2.1, by omega, by omega, by omega, by omega, ?_, ?_, ?_, ?_, rfl, by walk_at "mine fr"⟩
        · omega
        · rw [d2, ← hw, join_cat]
          exact (readA_comma _ _ _).symm
        · simp only [List.length_append, List.length_cons, List.length_nil]; omega
        · simp only [List.length_nil]; omega
        · simp only [List.map_nil, List.sum_nil]; omega
      · -- the end
        rename Fr h₀ _ _ _ => F2
        rename News h₀ _ _ _ => N2
        rename (_ == Str.ofString ")") = true => hq
        rename d = 0 => hd9
        rw [d3, one_beq str_shut, beq_iff_eq] at hq
        subst hq
        subst hd9
        simp only [List.push_toArray] at N2
        have he := readA_end r (cat ps) as
        rw [show (0 : Nat) = (0 : Int).toNat from rfl, hw] at he
        refine hret _ _ _ _ F2 (news_pick N2) ?_
        · simp only [readAt_some h0 hopen he]
          refine ⟨_, A, vsA ++ [_], nA + 1, _, idx + 1, rfl, ?_, ?_, rfl⟩
          · rw [← join_cat]
            exact StrsAre.append' hsA (.cons _ _ .nil)
          · rw [len_list]; omega
      · -- a sign that is no part of a remark (depth 0)
        have hcase : ¬ (d.toNat = 0 ∧ (c = 44 ∨ c = 41)) := by
          rename (_ == Str.ofString ",") = false => hq1
          rename (_ == Str.ofString ")") = false => hq2
          rw [d3, one_beq str_comma, beq_eq_false_iff_ne] at hq1
          rw [d3, one_beq str_shut, beq_eq_false_iff_ne] at hq2
          omega
        have hrm : remLen (c :: r) = 0 := by
          rename ¬ idx < idx + _ => hq
          omega
        refine' Ct.use (c_whole w mean mg mb _ _ _ _ _ hix (by assumption) hx) ?k1 ?k2 ?k3 ?k4 ?k5 ?kK ?kd ?ku ?_
        walk_at "mine call"
        rintro r' h' tk' news' F' N' ⟨rfl, te, rfl⟩
        rw [d1]
        have hsl := @slice_as x idx (idx + (wholeLen (c :: r) : Nat)) (wholeLen (c :: r)) hix rfl (by omega)
        have hrp := nl_replace (Txt.slice x (some idx) (some (idx + (wholeLen (c :: r) : Nat))))
        have hrl : (Txt.replace (Txt.slice x (some idx) (some (idx + (wholeLen (c :: r) : Nat)))) (Str.ofString "\n") (Str.ofString " ")).length ≤ wholeLen (c :: r) := by
          rw [← len_list, hrp, List.length_map, hsl]
          exact List.length_take_le _ _
        have hrq : ∀ ps : List Str, cat (ps ++ [Txt.replace (Txt.slice x (some idx) (some (idx + (wholeLen (c :: r) : Nat)))) (Str.ofString "\n") (Str.ofString " ")]) = cat ps ++ ((c :: r).take (wholeLen (c :: r))).map nlC := by
          intro ps
          rw [cat_snoc, hrp, hsl, d1]
        have hdr := @drop_on x.cps.toList idx (wholeLen (c :: r)) hix
        rw [d1] at hdr
        walk_at "mine go"
        · rename Fr _ _ _ _ => F2
          rename News _ _ _ _ => N2
          simp only [List.push_toArray] at N2
          rename (Builtin.Str.occurrences (Str.ofString "([{") _ _ _ _).isEmpty = true => hop
          rename (Builtin.Str.occurrences (Str.ofString ")]}") _ _ _ _).isEmpty = true => hcl
          rw [d3, in_op, Bool.not_eq_true'] at hop
          rw [d3, in_cl, Bool.not_eq_true'] at hcl
          have hne : ¬ (d.toNat = 0 ∧ clC c = true) := by rw [hcl]; simp
          have hde : (d).toNat = (if opC c = true then d.toNat + 1 else if clC c = true then d.toNat - 1 else d.toNat) := by rw [hop, hcl]; simp
          refine ⟨_, _, _, _, _, rfl, F2, N2, ?_, A, P, vsA, _, nA, nP + 1, as, ps ++ [_], d, idx + wholeLen (c :: r), _, _, _, _, rfl, hsA, StrsAre.append' hsP (.cons _ _ .nil), hlA, hAP, by omega, by omega, by omega, by omega, ?_, by omega, ?_, ?_, rfl, by walk_at "mine fr"⟩
          · omega
          · rw [hdr, hrq, ← hw, readA_turn hrm hcase hne, ← hde]
          · simp only [List.length_append, List.length_cons, List.length_nil]; omega
          · simp only [List.map_append, List.map_cons, List.map_nil, List.sum_append, List.sum_cons, List.sum_nil]; omega
        · rename Fr h₀ _ _ _ => F2
          rename News h₀ _ _ _ => N2
          rename (Builtin.Str.occurrences (Str.ofString ")]}") _ _ _ _).isEmpty = false => hcl
          rename d = 0 => hd9
          rw [d3, in_cl, Bool.not_eq_false'] at hcl
          subst hd9
          have hnone := readA_shut hrm (by
            constructor
            · intro e; subst e; exact absurd hcl (by decide)
            · intro e; exact hcase ⟨rfl, .inr e⟩) hcl (cat ps) as
          rw [show (0 : Nat) = (0 : Int).toNat from rfl, hw] at hnone
          refine hret _ _ _ news F2 (fun p hp => N2 p (.tail _ (.tail _ hp))) ?_
          simp [readAt_none h0 hnone]
        · rename Fr _ _ _ _ => F2
          rename News _ _ _ _ => N2
          simp only [List.push_toArray] at N2
          rename (Builtin.Str.occurrences (Str.ofString "([{") _ _ _ _).isEmpty = false => hop
          rw [d3, in_op, Bool.not_eq_false'] at hop
          have hcl : clC c = false := by
            cases h : clC c with
            | false => rfl
            | true =>
              simp only [opC, clC, Bool.or_eq_true, beq_iff_eq] at hop h
              omega
          have hne : ¬ (d.toNat = 0 ∧ clC c = true) := by rw [hcl]; simp
          have hde : (d + 1).toNat = (if opC c = true then d.toNat + 1 else if clC c = true then d.toNat - 1 else d.toNat) := by rw [hop, hcl]; simp; omega
          refine ⟨_, _, _, _, _, rfl, F2, N2, ?_, A, P, vsA, _, nA, nP + 1, as, ps ++ [_], d + 1, idx + wholeLen (c :: r), _, _, _, _, rfl, hsA, StrsAre.append' hsP (.cons _ _ .nil), hlA, hAP, by omega, by omega, by omega, by omega, ?_, by omega, ?_, ?_, rfl, by walk_at "mine fr"⟩
          · omega
          · rw [hdr, hrq, ← hw, readA_turn hrm hcase hne, ← hde]
          · simp only [List.length_append, List.length_cons, List.length_nil]; omega
          · simp only [List.map_append, List.map_cons, List.map_nil, List.sum_append, List.sum_cons, List.sum_nil]; omega
      · -- a sign that is no part of a remark
        have hcase : ¬ (d.toNat = 0 ∧ (c = 44 ∨ c = 41)) := by
          rename d ≠ 0 => hd9
          omega
        have hrm : remLen (c :: r) = 0 := by
          rename ¬ idx < idx + _ => hq
          omega
        refine' Ct.use (c_whole w mean mg mb _ _ _ _ _ hix (by assumption) hx) ?k1 ?k2 ?k3 ?k4 ?k5 ?kK ?kd ?ku ?_
        walk_at "mine call"
        rintro r' h' tk' news' F' N' ⟨rfl, te, rfl⟩
        rw [d1]
        have hsl := @slice_as x idx (idx + (wholeLen (c :: r) : Nat)) (wholeLen (c :: r)) hix rfl (by omega)
        have hrp := nl_replace (Txt.slice x (some idx) (some (idx + (wholeLen (c :: r) : Nat))))
        have hrl : (Txt.replace (Txt.slice x (some idx) (some (idx + (wholeLen (c :: r) : Nat)))) (Str.ofString "\n") (Str.ofString " ")).length ≤ wholeLen (c :: r) := by
          rw [← len_list, hrp, List.length_map, hsl]
          exact List.length_take_le _ _
        have hrq : ∀ ps : List Str, cat (ps ++ [Txt.replace (Txt.slice x (some idx) (some (idx + (wholeLen (c :: r) : Nat)))) (Str.ofString "\n") (Str.ofString " ")]) = cat ps ++ ((c :: r).take (wholeLen (c :: r))).map nlC := by
          intro ps
          rw [cat_snoc, hrp, hsl, d1]
        have hdr := @drop_on x.cps.toList idx (wholeLen (c :: r)) hix
        rw [d1] at hdr
        walk_at "mine go"
        · rename Fr _ _ _ _ => F2
          rename News _ _ _ _ => N2
          simp only [List.push_toArray] at N2
          rename (Builtin.Str.occurrences (Str.ofString "([{") _ _ _ _).isEmpty = true => hop
          rename (Builtin.Str.occurrences (Str.ofString ")]}") _ _ _ _).isEmpty = true => hcl
          rw [d3, in_op, Bool.not_eq_true'] at hop
          rw [d3, in_cl, Bool.not_eq_true'] at hcl
          have hne : ¬ (d.toNat = 0 ∧ clC c = true) := by rw [hcl]; simp
          have hde : (d).toNat = (if opC c = true then d.toNat + 1 else if clC c = true then d.toNat - 1 else d.toNat) := by rw [hop, hcl]; simp
          refine ⟨_, _, _, _, _, rfl, F2, N2, ?_, A, P, vsA, _, nA, nP + 1, as, ps ++ [_], d, idx + wholeLen (c :: r), _, _, _, _, rfl, hsA, StrsAre.append' hsP (.cons _ _ .nil), hlA, hAP, by omega, by omega, by omega, by omega, ?_, by omega, ?_, ?_, rfl, by walk_at "mine fr"⟩
          · omega
          · rw [hdr, hrq, ← hw, readA_turn hrm hcase hne, ← hde]
          · simp only [List.length_append, List.length_cons, List.length_nil]; omega
          · simp only [List.map_append, List.map_cons, List.map_nil, List.sum_append, List.sum_cons, List.sum_nil]; omega
        · rename Fr _ _ _ _ => F2
          rename News _ _ _ _ => N2
          simp only [List.push_toArray] at N2
          rename (Builtin.Str.occurrences (Str.ofString "([{") _ _ _ _).isEmpty = true => hop
          rename (Builtin.Str.occurrences (Str.ofString ")]}") _ _ _ _).isEmpty = false => hcl
          rw [d3, in_op, Bool.not_eq_true'] at hop
          rw [d3, in_cl, Bool.not_eq_false'] at hcl
          have hne : ¬ (d.toNat = 0 ∧ clC c = true) := by omega
          have hde : (d - 1).toNat = (if opC c = true then d.toNat + 1 else if clC c = true then d.toNat - 1 else d.toNat) := by rw [hop, hcl]; simp
          refine ⟨_, _, _, _, _, rfl, F2, N2, ?_, A, P, vsA, _, nA, nP + 1, as, ps ++ [_], d - 1, idx + wholeLen (c :: r), _, _, _, _, rfl, hsA, StrsAre.append' hsP (.cons _ _ .nil), hlA, hAP, by omega, by omega, by omega, by omega, ?_, by omega, ?_, ?_, rfl, by walk_at "mine fr"⟩
          · omega
          · rw [hdr, hrq, ← hw, readA_turn hrm hcase hne, ← hde]
          · simp only [List.length_append, List.length_cons, List.length_nil]; omega
          · simp only [List.map_append, List.map_cons, List.map_nil, List.sum_append, List.sum_cons, List.sum_nil]; omega
        · rename Fr _ _ _ _ => F2
          rename News _ _ _ _ => N2
          simp only [List.push_toArray] at N2
          rename (Builtin.Str.occurrences (Str.ofString "([{") _ _ _ _).isEmpty = false => hop
          rw [d3, in_op, Bool.not_eq_false'] at hop
          have hcl : clC c = false := by
            cases h : clC c with
            | false => rfl
            | true =>
              simp only [opC, clC, Bool.or_eq_true, beq_iff_eq] at hop h
              omega
          have hne : ¬ (d.toNat = 0 ∧ clC c = true) := by rw [hcl]; simp
          have hde : (d + 1).toNat = (if opC c = true then d.toNat + 1 else if clC c = true then d.toNat - 1 else d.toNat) := by rw [hop, hcl]; simp; omega
          refine ⟨_, _, _, _, _, rfl, F2, N2, ?_, A, P, vsA, _, nA, nP + 1, as, ps ++ [_], d + 1, idx + wholeLen (c :: r), _, _, _, _, rfl, hsA, StrsAre.append' hsP (.cons _ _ .nil), hlA, hAP, by omega, by omega, by omega, by omega, ?_, by omega, ?_, ?_, rfl, by walk_at "mine fr"⟩
          · omega
          · rw [hdr, hrq, ← hw, readA_turn hrm hcase hne, ← hde]
          · simp only [List.length_append, List.length_cons, List.length_nil]; omega
          · simp only [List.map_append, List.map_cons, List.map_nil, List.sum_append, List.sum_cons, List.sum_nil]; omega
    · -- no end
      rename Fr h₀ _ _ _ => F2
      rename News h₀ _ _ _ => N2
      rename ¬ idx < _ => hlt2
      rw [drop_end hlt2, readA_nil] at hw
      refine hret _ _ _ news F2 (fun p hp => N2 p (.tail _ (.tail _ hp))) ?_
      simp [readAt_none h0 hw.symm]
/-- the draws' row: the cells, the place, the mix -/
def RowOk (w : World) (o : Obj) (C : Addr) (n : Nat) : Prop :=
  ∃ (a m : Int) (ta tm : VTok), o.IsDictOf (PySem.strKind PySem.Challenge.rw_on0090_01.row.prog w) [(Str.ofString "cells", .ref C), (Str.ofString "at", .int a ta), (Str.ofString "mix", .int m tm)] ∧ 0 ≤ a ∧ a ≤ n ∧ 0 ≤ m ∧ m < 911

theorem fmod_in (a : Int) {b : Int} (h : 0 < b) : 0 ≤ a.fmod b ∧ a.fmod b < b := by
  rw [Int.fmod_eq_emod_of_nonneg a (by omega)]
  exact ⟨Int.emod_nonneg a (by omega), Int.emod_lt_of_pos a h⟩

set_option maxRecDepth 100000 in
set_option maxHeartbeats 8000000 in
theorem c_part (w : World) (mean : ExcName → Option Value) (mg mb : Str → Option Value) (rest : List (Addr × Obj)) (R C : Addr) (o : Obj) (vs : List Value) (ns : List Int) (nC : Nat) (most : Int) (tm : VTok)
    (hR : (R == sysModules) = false) (ho : RowOk w o C ns.length) (hi : IntsAre vs ns) (hn : ∀ c ∈ ns, 0 ≤ c ∧ c < 27720) (hl : ns.length ≤ 50) (hC : @LT.lt Nat _ C R) (hr : ∀ p ∈ rest, p.1 ≠ R) (h2 : 2 ≤ most) (h3 : most ≤ 14) :
    Ct w mean mg mb 70 1 8 ((R, o) :: (C, W.listOf vs.toArray nC) :: rest) [.ref R, .int most tm] (fun n' r => ∃ (o' : Obj) (rv : Int) (tr : VTok), r = .int rv tr ∧ 0 ≤ rv ∧ rv < most ∧ RowOk w o' C ns.length ∧ (R, o') :: (C, W.listOf vs.toArray nC) :: rest = n') := by
  unfold Ct
  k_fill
  w_top off
  intro dp un gd cn cs a ccd cl outer A₀ base h₀ L m s Q E B F X N T hk hd hu hret
  obtain ⟨at0, mx0, ta0, tm0, hd0, ha0, ha1, hm0, hm1⟩ := ho
  refine wpAny_call ?_
  k_dflt cell_enter
  rename Fr _ _ _ _ => F1
  replace F1 := fr_lay (l := [(Str.ofString "most", some (.int most tm)), (Str.ofString "row", some (.ref R))]) F1 (fr_lookup (by rfl))
  walk_at "mine go"
  · rename Fr h₀ _ _ _ => F2
    rename News h₀ _ _ _ => N2
    rename Obj.IsDictOf _ _ _ => hd2
    rename at0 < _ => hlt
    have hf := fmod_in (ns.getD (at0 + 1 - 1).toNat 0) (show 0 < most by omega)
    exact hret _ _ _ _ F2 N2 ⟨_, _, _, rfl, hf.1, hf.2, ⟨at0 + 1, mx0, _, _, hd2, by omega, by omega, hm0, hm1⟩, rfl⟩
  · rename Fr h₀ _ _ _ => F2
    rename News h₀ _ _ _ => N2
    rename Obj.IsDictOf _ _ _ => hd2
    have hg := fmod_in (mx0 * 29 + 13) (show (0 : Int) < 911 by omega)
    have hf := fmod_in ((mx0 * 29 + 13).fmod 911) (show 0 < most by omega)
    exact hret _ _ _ _ F2 N2 ⟨_, _, _, rfl, hf.1, hf.2, ⟨at0, _, _, _, hd2, ha0, ha1, hg.1, hg.2⟩, rfl⟩
  · rename Fr h₀ _ _ _ => F2
    rename News h₀ _ _ _ => N2
    rename Obj.IsDictOf _ _ _ => hd2
    have hg := fmod_in (mx0 * 29 + 13) (show (0 : Int) < 911 by omega)
    exact hret _ _ _ _ F2 N2 ⟨_, 0, _, rfl, by omega, by omega, ⟨at0, _, _, _, hd2, ha0, ha1, hg.1, hg.2⟩, rfl⟩
/-- what the law's menu of pieces holds, place by place -/
def MenuIn (rest : List (Addr × Obj)) (P : Addr) (pvs : List Value) (nP : Nat) : Prop :=
  (P, W.listOf pvs.toArray nP) ∈ rest ∧ ∀ i : Nat, i < 14 → ∃ (D : Addr) (p : List Nat × List Nat) (t1 t2 : VTok), pvs[i]? = some (.ref D) ∧ p ∈ pieceN ∧ (D, ({ cls := .type "tuple", data := .seq #[.str ⟨p.1.toArray⟩ t1, .str ⟨p.2.toArray⟩ t2] } : Obj)) ∈ rest

theorem news_a3 {h₀ h : Heap} {L : Addr} {a b c : Addr × Obj} {l : List (Addr × Obj)} (N : News h₀ L h (a :: b :: c :: l)) : News h₀ L h (b :: c :: a :: l) := by
  intro p hp
  rcases List.mem_cons.mp hp with rfl | hp
  · exact N _ (.tail _ (.head _))
  · rcases List.mem_cons.mp hp with rfl | hp
    · exact N _ (.tail _ (.tail _ (.head _)))
    · rcases List.mem_cons.mp hp with rfl | hp
      · exact N _ (.head _)
      · exact N _ (.tail _ (.tail _ (.tail _ hp)))
theorem allLt_ne {R d : Addr} {l : List (Addr × Obj)} (h : ∀ p ∈ l, p.1 ≠ R) {o : Obj} (hd : @LT.lt Nat _ R d) : ∀ p ∈ (d, o) :: l, p.1 ≠ R := by
  intro p hp
  rcases List.mem_cons.mp hp with rfl | hp
  · exact Nat.ne_of_gt hd
  · exact h p hp

theorem mem_grow2 {a b : Addr × Obj} {l : List (Addr × Obj)} (own : List (Addr × Obj)) : ∀ p ∈ a :: b :: l, p ∈ a :: b :: (l ++ own) := by
  intro q hq
  rcases List.mem_cons.mp hq with rfl | hq
  · exact .head _
  · rcases List.mem_cons.mp hq with rfl | hq
    · exact .tail _ (.head _)
    · exact .tail _ (.tail _ (List.mem_append_left _ hq))
theorem mem_own2 {a b : Addr × Obj} {l : List (Addr × Obj)} (own : List (Addr × Obj)) : ∀ p ∈ own, p ∈ a :: b :: (l ++ own) := fun q hq => .tail _ (.tail _ (List.mem_append_right _ hq))

set_option maxRecDepth 100000 in
set_option maxHeartbeats 8000000 in
theorem law_inner (w : World) (mean : ExcName → Option Value) (mg mb : Str → Option Value) (fa : Addr) (cd : Value) (L R C P : Addr) (h₀ : Heap) (s : Shared) (Q : Flow → Shared → Prop) (E : Value → Shared → Prop) (sc cl vm vf vd vst ja jg jt : Option Value)
    (Wd : Str) (tw ts : VTok) (o : Obj) (vs : List Value) (ns : List Int) (nC : Nat) (pvs : List Value) (nP : Nat) (rest : List (Addr × Obj))
    (B : Below callerA h₀ [] h₀) (X : (hd.heap_39 w.params).In h₀) (T : Top hd.view_39 (looseW hd.view_39 []) mean mg mb h₀)
    (F : Fr h₀ L s.heap (fr (lawMap C R P sc vm cl vf (some (.str Wd tw)) vd vst (some (.str (Str.ofString "") ts)) ja jg jt)))
    (N : News h₀ L s.heap ((R, o) :: (C, W.listOf vs.toArray nC) :: rest))
    (hR : (R == sysModules) = false) (ho : RowOk w o C ns.length) (hi : IntsAre vs ns) (hn : ∀ c ∈ ns, 0 ≤ c ∧ c < 27720) (hl : ns.length ≤ 50) (hC : @LT.lt Nat _ C R) (hr : ∀ p ∈ rest, p.1 ≠ R) (hM : MenuIn rest P pvs nP)
    (hW : Wd.length ≤ 2000)
    (hQ : ∀ h' tk' (o' : Obj) (a : Arg) (W' S' : Str) (tw' ts' : VTok) (ja jg jt : Option Value), ArgOk a → a.length ≤ 4 → W'.cps.toList = Wd.cps.toList ++ given a → S'.cps.toList = told a → RowOk w o' C ns.length → Fr h₀ L h' (fr (lawMap C R P sc vm cl vf (some (.str W' tw')) vd vst (some (.str S' ts')) ja jg jt)) → News h₀ L h' ((R, o') :: (C, W.listOf vs.toArray nC) :: rest) → Q .next { s with heap := h', toks := tk' })
    (hE : PassesOwn (model PySem.Challenge.rw_on0090_01.row.prog w) (callerA.deeper (envOf (Str.ofString "law") lawScope L fa cd)) (envOf (Str.ofString "law") lawScope L fa cd) E) :
    wpAny (model PySem.Challenge.rw_on0090_01.row.prog w) (callerA.deeper (envOf (Str.ofString "law") lawScope L fa cd)) (exec innerFor (envOf (Str.ofString "law") lawScope L fa cd)) Q E s := by
  revert X
  k_fill
  w_top off
  intro X
  obtain ⟨sh, sg, sd, st, so⟩ := s
  generalize hsc : lawScope = lsc at *
  generalize hbd : innerFor = lbd at *
  conv at hsc => lhs; whnf
  conv at hbd => lhs; whnf
  subst hsc
  subst hbd
  walk_at "mine go"
  refine' Ct.use (c_part w mean mg mb _ R C o vs ns nC 5 _ hR ho hi hn hl hC hr (by decide) (by decide)) ?k1 ?k2 ?k3 ?k4 ?k5 ?kK ?kd ?ku ?_
  walk_at "mine call"
  rintro r h' tk' news' F' N' ⟨o2, rv, tr, rfl, hr0, hr1, ho2, rfl⟩
  walk_at "mine go"
  rename IsRange _ _ _ _ _ _ _ _ => R1
  rename Fr _ _ _ _ => F1
  rename News _ _ _ _ => N1
  obtain ⟨q1, q2⟩ := range_facts hr0 (by omega)
  refine range_inv (n := rv.toNat) (fun i m nx => ∃ (o' : Obj) (a : Arg) (W' S' : Str) (tw' ts' : VTok) (ja jg jt : Option Value), ArgOk a ∧ a.length = i ∧ W'.cps.toList = Wd.cps.toList ++ given a ∧ S'.cps.toList = told a ∧ RowOk w o' C ns.length ∧ nx = (R, o') :: (C, W.listOf vs.toArray nC) :: rest ∧
    m = fr (lawMap C R P sc vm cl vf (some (.str W' tw')) vd vst (some (.str S' ts')) ja jg jt)) rfl R1 q1 q2 F1 N1 ⟨o2, [], Wd, Str.ofString "", tw, ts, ja, jg, jt, (fun _ h => nomatch h), rfl, by simp [given], by rw [str_0]; rfl, ho2, rfl, rfl⟩ ?_ ?_
  · clear F1 N1
    rintro i ti m₁ nx hp tk own hlt hoff ⟨o3, a, W', S', tw', ts', ja', jg', jt', ha, hal, hW', hS', ho3, rfl, rfl⟩ F1 N1
    change Fr h₀ L hp _ at F1
    change News h₀ L hp ((R, o3) :: (C, W.listOf vs.toArray nC) :: (rest ++ own)) at N1
    replace F1 := fr_lay (l := lawMap C R P sc vm cl vf (some (.str W' tw')) vd vst (some (.str S' ts')) (some (.int (0 + i) ti)) jg' jt') F1 (by walk_at "mine fr")
    have hro : ∀ p ∈ rest ++ own, p.1 ≠ R := by
      intro p hp
      rcases List.mem_append.mp hp with h1 | h1
      · exact hr p h1
      · exact hoff p h1 R (.head _)
    have hW1 : W'.length ≤ 2036 := by
      have := given_len ha
      rw [← len_list, hW', List.length_append, len_list]
      omega
    have hS1 : S'.length ≤ 36 := by
      have := told_len ha
      rw [← len_list, hS']
      omega
    walk_at "mine go"
    refine' Ct.use (c_part w mean mg mb _ R C o3 vs ns nC 14 _ hR ho3 hi hn hl hC hro (by decide) (by decide)) ?k1 ?k2 ?k3 ?k4 ?k5 ?kK ?kd ?ku ?_
    walk_at "mine call"
    rintro r h' tk' news' F' N' ⟨o4, rw, tr, rfl, hw0, hw1, ho4, rfl⟩
    dsimp only
    obtain ⟨D, p, t1, t2, hx, hp, hD⟩ := hM.2 rw.toNat (by omega)
    have hp1 : (Str.mk p.1.toArray).length ≤ 9 := by
      have := (piece_len hp).1
      simpa [Str.length] using this
    have hp2 : (Str.mk p.2.toArray).length ≤ 9 := by
      have := (piece_len hp).2
      simpa [Str.length] using this
    refine list_item (News.isList N' (.tail _ (.tail _ (List.mem_append_left _ hM.1)))) hw0 (by omega) hx ?_
    have hDm : (D, ({ cls := .type "tuple", data := .seq #[.str ⟨p.1.toArray⟩ t1, .str ⟨p.2.toArray⟩ t2] } : Obj)) ∈ (R, o4) :: (C, W.listOf vs.toArray nC) :: (rest ++ own) := .tail _ (.tail _ (List.mem_append_left _ hD))
    walk_at "mine go"
    rename Fr _ _ _ _ => F2
    rename News _ _ _ _ => N2
    refine InvEndN.intro F2 N2 ⟨o4, a ++ [p], _, _, _, _, _, _, _, argOk_snoc ha hp, by simp [hal], ?_, ?_, ho4, rfl, by walk_at "mine fr"⟩ rfl (mem_grow2 own) (mem_own2 own)
    · simp only [Str.cps_append, Array.toList_append]
      rw [hW', given_snoc, List.append_assoc]
    · simp only [Str.cps_append, Array.toList_append]
      rw [hS', told_snoc]
  · clear F1 N1
    rintro m₁ nx hp tk ⟨o3, a, W', S', tw', ts', ja', jg', jt', ha, hal, hW', hS', ho3, rfl, rfl⟩ F1 N1
    exact hQ _ _ o3 a W' S' _ _ _ _ _ ha (by omega) hW' hS' ho3 F1 N1
theorem MenuIn.mono {rest rest' : List (Addr × Obj)} {P : Addr} {pvs : List Value} {nP : Nat} (h : MenuIn rest P pvs nP) (hs : ∀ p ∈ rest, p ∈ rest') : MenuIn rest' P pvs nP := by
  refine ⟨hs _ h.1, fun i hi => ?_⟩
  obtain ⟨D, p, t1, t2, a, b, c⟩ := h.2 i hi
  exact ⟨D, p, t1, t2, a, b, hs _ c⟩
theorem mem_grow3 {a b c : Addr × Obj} {l : List (Addr × Obj)} (own : List (Addr × Obj)) : ∀ p ∈ a :: b :: c :: l, p ∈ a :: b :: c :: (l ++ own) := by
  intro q hq
  rcases List.mem_cons.mp hq with rfl | hq
  · exact .head _
  · exact .tail _ (mem_grow2 own q hq)
theorem mem_own3 {a b c : Addr × Obj} {l : List (Addr × Obj)} (own : List (Addr × Obj)) : ∀ p ∈ own, p ∈ a :: b :: c :: (l ++ own) := fun q hq => .tail _ (mem_own2 own q hq)

set_option maxRecDepth 100000 in
set_option maxHeartbeats 8000000 in
theorem law_outer (w : World) (mean : ExcName → Option Value) (mg mb : Str → Option Value) (fa : Addr) (cd : Value) (L R C P Dd : Addr) (h₀ : Heap) (s : Shared) (Q : Flow → Shared → Prop) (E : Value → Shared → Prop) (sc cl vm vf vst sp ja jg jt : Option Value)
    (Wd : Str) (tw : VTok) (o : Obj) (vs : List Value) (ns : List Int) (nC : Nat) (pvs : List Value) (nP : Nat) (rest : List (Addr × Obj))
    (B : Below callerA h₀ [] h₀) (X : (hd.heap_39 w.params).In h₀) (T : Top hd.view_39 (looseW hd.view_39 []) mean mg mb h₀)
    (F : Fr h₀ L s.heap (fr (lawMap C R P sc vm cl vf (some (.str Wd tw)) (some (.ref Dd)) vst sp ja jg jt)))
    (N : News h₀ L s.heap ((R, o) :: (C, W.listOf vs.toArray nC) :: (Dd, W.listOf #[] 0) :: rest))
    (hR : (R == sysModules) = false) (ho : RowOk w o C ns.length) (hi : IntsAre vs ns) (hn : ∀ c ∈ ns, 0 ≤ c ∧ c < 27720) (hl : ns.length ≤ 50) (hC : @LT.lt Nat _ C R) (hD : @LT.lt Nat _ R Dd) (hr : ∀ p ∈ rest, p.1 ≠ R) (hrd : ∀ p ∈ rest, p.1 ≠ Dd) (hM : MenuIn rest P pvs nP)
    (hW : Wd.length ≤ 10)
    (hQ : ∀ h' tk' (o' : Obj) (as : List Arg) (W' : Str) (dv : List Value) (nd : Nat) (tw' : VTok) (vst sp ja jg jt : Option Value), (∀ a ∈ as, ArgOk a ∧ a.length ≤ 4) → as ≠ [] → as.length ≤ 4 → W'.cps.toList = Wd.cps.toList ++ rend as → StrsAre dv (as.map toldS) → RowOk w o' C ns.length →
      Fr h₀ L h' (fr (lawMap C R P sc vm cl vf (some (.str W' tw')) (some (.ref Dd)) vst sp ja jg jt)) → News h₀ L h' ((R, o') :: (C, W.listOf vs.toArray nC) :: (Dd, W.listOf dv.toArray nd) :: rest) → Q .next { s with heap := h', toks := tk' })
    (hE : PassesOwn (model PySem.Challenge.rw_on0090_01.row.prog w) (callerA.deeper (envOf (Str.ofString "law") lawScope L fa cd)) (envOf (Str.ofString "law") lawScope L fa cd) E) :
    wpAny (model PySem.Challenge.rw_on0090_01.row.prog w) (callerA.deeper (envOf (Str.ofString "law") lawScope L fa cd)) (exec outerFor (envOf (Str.ofString "law") lawScope L fa cd)) Q E s := by
  revert X
  k_fill
  w_top off
  intro X
  obtain ⟨sh, sg, sd, st, so⟩ := s
  have hE0 := hE
  generalize hsc : lawScope = lsc at hE ⊢
  generalize hbd : outerFor = lbd at *
  conv at hsc => lhs; whnf
  conv at hbd => lhs; whnf
  subst hsc
  subst hbd
  have hrD : ∀ {d1 : Obj}, ∀ p ∈ (Dd, d1) :: rest, p.1 ≠ R := allLt_ne hr hD
  walk_at "mine go"
  refine' Ct.use (c_part w mean mg mb _ R C o vs ns nC 4 _ hR ho hi hn hl hC hrD (by decide) (by decide)) ?k1 ?k2 ?k3 ?k4 ?k5 ?kK ?kd ?ku ?_
  walk_at "mine call"
  rintro r h' tk' news' F' N' ⟨o2, rv, tr, rfl, hr0, hr1, ho2, rfl⟩
  have hkeep : Keep (0 ≤ rv ∧ rv < 4) := ⟨hr0, hr1⟩
  clear hr0 hr1
  walk_at "mine go"
  obtain ⟨hr0, hr1⟩ : 0 ≤ rv ∧ rv < 4 := hkeep
  rename IsRange _ _ _ _ _ _ _ _ => R1
  rename Fr _ _ _ _ => F1
  rename News _ _ _ _ => N1
  obtain ⟨q1, q2⟩ := range_facts1 hr0 (by omega)
  refine range_inv (n := (1 + rv).toNat) (fun i m nx => ∃ (o' : Obj) (as : List Arg) (W' : Str) (dv : List Value) (nd : Nat) (tw' : VTok) (vst sp ja jg jt : Option Value), (∀ a ∈ as, ArgOk a ∧ a.length ≤ 4) ∧ as.length = i ∧ W'.cps.toList = Wd.cps.toList ++ rend as ∧ StrsAre dv (as.map toldS) ∧ RowOk w o' C ns.length ∧ nx = (R, o') :: (C, W.listOf vs.toArray nC) :: (Dd, W.listOf dv.toArray nd) :: rest ∧
    m = fr (lawMap C R P sc vm cl vf (some (.str W' tw')) (some (.ref Dd)) vst sp ja jg jt)) rfl R1 q1 q2 F1 N1 ⟨o2, [], Wd, [], 0, tw, vst, sp, ja, jg, jt, (fun _ h => nomatch h), rfl, by simp [rend], .nil, ho2, rfl, rfl⟩ ?_ ?_
  · clear F1 N1
    rintro i ti m₁ nx hp tk own hlt hoff ⟨o3, as, W', dv, nd, tw', vst', sp', ja', jg', jt', has, hal, hW', hdv, ho3, rfl, rfl⟩ F1 N1
    change Fr h₀ L hp _ at F1
    change News h₀ L hp ((R, o3) :: (C, W.listOf vs.toArray nC) :: (Dd, W.listOf dv.toArray nd) :: (rest ++ own)) at N1
    replace F1 := fr_lay (l := lawMap C R P sc vm cl vf (some (.str W' tw')) (some (.ref Dd)) (some (.int (0 + i) ti)) sp' ja' jg' jt') F1 (by walk_at "mine fr")
    have hro : ∀ p ∈ rest ++ own, p.1 ≠ R := by
      intro p hp
      rcases List.mem_append.mp hp with h1 | h1
      · exact hr p h1
      · exact hoff p h1 R (.head _)
    have hdo : ∀ p ∈ rest ++ own, p.1 ≠ Dd := by
      intro p hp
      rcases List.mem_append.mp hp with h1 | h1
      · exact hrd p h1
      · exact hoff p h1 Dd (.tail _ (.tail _ (.head _)))
    have hW1 : W'.length ≤ 10 + 37 * i := by
      have := rend_len has
      rw [← len_list, hW', List.length_append, len_list]
      omega
    have hMo : ∀ {d1 : Obj}, MenuIn ((Dd, d1) :: (rest ++ own)) P pvs nP := hM.mono fun p hp => .tail _ (List.mem_append_left _ hp)
    have hi4 : i ≤ 3 := by omega
    by_cases hi0 : i = 0
    · walk_at "mine go3"
      rename Fr _ _ _ _ => F2
      rename News _ _ _ _ => N2
      replace F2 := fr_lay (l := lawMap C R P sc vm cl vf (some (.str W' _)) (some (.ref Dd)) (some (.int (0 + i) ti)) (some (.str (Str.ofString "") _)) ja' jg' jt') F2 (by walk_at "mine fr")
      refine law_inner w mean mg mb fa cd L R C P h₀ _ _ _ sc cl vm vf _ _ ja' jg' jt' W' _ _ o3 vs ns nC pvs nP ((Dd, W.listOf dv.toArray nd) :: (rest ++ own)) B X T F2 N2 hR ho3 hi hn hl hC (allLt_ne hro hD) hMo (by first | omega | exact hW3) ?_ hE0
      intro h2 tk2 o4 a W2 S2 tw2 ts2 ja2 jg2 jt2 ha ha4 hW2 hS2 ho4 F3 N3
      have hS1 : S2.length ≤ 36 := by
        have := told_len ha
        rw [← len_list, hS2]
        omega
      walk_at "mine go3"
      rename Fr _ _ _ _ => F4
      rename News _ _ _ _ => N4
      simp only [List.push_toArray] at N4
      have hSe : Txt.strip S2 = toldS a := congrArg Txt.strip (str_ext (by simpa using hS2))
      refine InvEndN.intro F4 N4 ⟨o4, as ++ [a], W2, _, nd + 1, _, _, _, _, _, _, ?_, by simp [hal], ?_, ?_, ho4, rfl, by walk_at "mine fr"⟩ rfl (mem_grow3 own) (mem_own3 own)
      · intro b hb
        rcases List.mem_append.mp hb with h1 | h1
        · exact has b h1
        · rw [List.mem_singleton.mp h1]; exact ⟨ha, ha4⟩
      · have hnil : as = [] := List.length_eq_zero_iff.mp (by omega)
        rw [hW2, hW', hnil]
        simp [rend, more]
      · rw [List.map_append, List.map_cons, List.map_nil, ← hSe]
        exact StrsAre.append' hdv (.cons _ _ .nil)
    · walk_at "mine go3"
      have hW3 : (W' ++ Str.ofString ",").length ≤ 2000 := by
        rw [Str.length_append, show (Str.ofString ",").length = 1 from by decide +kernel]
        omega
      rename Fr _ _ _ _ => F2
      rename News _ _ _ _ => N2
      replace F2 := fr_lay (l := lawMap C R P sc vm cl vf (some (.str (W' ++ Str.ofString ",") _)) (some (.ref Dd)) (some (.int (0 + i) ti)) (some (.str (Str.ofString "") _)) ja' jg' jt') F2 (by walk_at "mine fr")
      refine law_inner w mean mg mb fa cd L R C P h₀ _ _ _ sc cl vm vf _ _ ja' jg' jt' (W' ++ Str.ofString ",") _ _ o3 vs ns nC pvs nP ((Dd, W.listOf dv.toArray nd) :: (rest ++ own)) B X T F2 N2 hR ho3 hi hn hl hC (allLt_ne hro hD) hMo (by first | omega | exact hW3) ?_ hE0
      intro h2 tk2 o4 a W2 S2 tw2 ts2 ja2 jg2 jt2 ha ha4 hW2 hS2 ho4 F3 N3
      have hS1 : S2.length ≤ 36 := by
        have := told_len ha
        rw [← len_list, hS2]
        omega
      walk_at "mine go3"
      rename Fr _ _ _ _ => F4
      rename News _ _ _ _ => N4
      simp only [List.push_toArray] at N4
      have hSe : Txt.strip S2 = toldS a := congrArg Txt.strip (str_ext (by simpa using hS2))
      refine InvEndN.intro F4 N4 ⟨o4, as ++ [a], W2, _, nd + 1, _, _, _, _, _, _, ?_, by simp [hal], ?_, ?_, ho4, rfl, by walk_at "mine fr"⟩ rfl (mem_grow3 own) (mem_own3 own)
      · intro b hb
        rcases List.mem_append.mp hb with h1 | h1
        · exact has b h1
        · rw [List.mem_singleton.mp h1]; exact ⟨ha, ha4⟩
      · have hne : as ≠ [] := by
          intro e
          rw [e] at hal
          exact hi0 hal.symm
        rw [hW2, Str.cps_append, Array.toList_append, hW', rend_snoc hne, show (Str.ofString ",").cps.toList = [44] from by decide +kernel]
        simp [List.append_assoc]
      · rw [List.map_append, List.map_cons, List.map_nil, ← hSe]
        exact StrsAre.append' hdv (.cons _ _ .nil)
  · clear F1 N1
    rintro m₁ nx hp tk ⟨o3, as, W', dv, nd, tw', vst', sp', ja', jg', jt', has, hal, hW', hdv, ho3, rfl, rfl⟩ F1 N1
    have hne : as ≠ [] := by
      intro e
      rw [e] at hal
      simp only [List.length_nil] at hal
      omega
    exact hQ _ _ o3 as W' dv nd _ _ _ _ _ _ has hne (by omega) hW' hdv ho3 F1 N1
theorem news_due {h₀ h : Heap} {L : Addr} {a b c d : Addr × Obj} {l : List (Addr × Obj)} (N : News h₀ L h (a :: b :: c :: d :: l)) : News h₀ L h (b :: c :: a :: l) := by
  intro p hp
  rcases List.mem_cons.mp hp with rfl | hp
  · exact N _ (.tail _ (.head _))
  · rcases List.mem_cons.mp hp with rfl | hp
    · exact N _ (.tail _ (.tail _ (.head _)))
    · rcases List.mem_cons.mp hp with rfl | hp
      · exact N _ (.head _)
      · exact N _ (.tail _ (.tail _ (.tail _ (.tail _ hp))))
theorem lt_allLt {d : Addr} : ∀ {l : List (Addr × Obj)}, AllLt d l → ∀ p ∈ l, p.1 ≠ d
  | [], _, _, hp => nomatch hp
  | q :: l, h, p, hp => by
    rcases List.mem_cons.mp hp with rfl | hp
    · exact Nat.ne_of_lt h.1
    · exact lt_allLt h.2 p hp

set_option maxRecDepth 100000 in
set_option maxHeartbeats 8000000 in
theorem law_tail (w : World) (mean : ExcName → Option Value) (mg mb : Str → Option Value) (fa : Addr) (cd : Value) (L R C P : Addr) (h₀ : Heap) (s : Shared) (Q : Flow → Shared → Prop) (E : Value → Shared → Prop) (sc cl : Option Value) (vm : Option Value)
    (o : Obj) (vs : List Value) (ns : List Int) (nC : Nat) (pvs : List Value) (nP : Nat) (rest : List (Addr × Obj))
    (B : Below callerA h₀ [] h₀) (X : (hd.heap_39 w.params).In h₀) (T : Top hd.view_39 (looseW hd.view_39 []) mean mg mb h₀)
    (F : Fr h₀ L s.heap (fr (lawMap C R P sc vm cl none none none none none none none none)))
    (N : News h₀ L s.heap ((R, o) :: (C, W.listOf vs.toArray nC) :: rest))
    (hR : (R == sysModules) = false) (ho : RowOk w o C ns.length) (hi : IntsAre vs ns) (hn : ∀ c ∈ ns, 0 ≤ c ∧ c < 27720) (hl : ns.length ≤ 50) (hC : @LT.lt Nat _ C R) (hr : ∀ p ∈ rest, p.1 ≠ R) (hM : MenuIn rest P pvs nP)
    (hQ : ∀ h' tk' m' news', Fr h₀ L h' m' → News h₀ L h' news' → Q (.ret (.bool true)) { s with heap := h', toks := tk' })
    (hE : PassesOwn (model PySem.Challenge.rw_on0090_01.row.prog w) (callerA.deeper (envOf (Str.ofString "law") lawScope L fa cd)) (envOf (Str.ofString "law") lawScope L fa cd) E) :
    wpAny (model PySem.Challenge.rw_on0090_01.row.prog w) (callerA.deeper (envOf (Str.ofString "law") lawScope L fa cd)) (execs (lawBody.drop 5) (envOf (Str.ofString "law") lawScope L fa cd)) Q E s := by
  revert X
  k_fill
  w_top off
  intro X
  obtain ⟨sh, sg, sd, st, so⟩ := s
  have hE0 := hE
  generalize hsc : lawScope = lsc at hE ⊢
  generalize hbd : lawBody.drop 5 = lbd at *
  conv at hsc => lhs; whnf
  conv at hbd => lhs; whnf
  subst hsc
  subst hbd
  walk_at "mine go3"
  rename _ ∧ _ ∧ AllLt _ _ => hl1
  rename News _ _ _ _ => N1
  replace N1 := news_a3 N1
  refine' Ct.use (c_part w mean mg mb _ R C o vs ns nC 2 _ hR ho hi hn hl hC (allLt_ne hr hl1.1) (by decide) (by decide)) ?k1 ?k2 ?k3 ?k4 ?k5 ?kK ?kd ?ku ?_
  walk_at "mine call"
  rintro r h' tk' news' F' N' ⟨o2, rv, tr, rfl, hr0, hr1, ho2, rfl⟩
  dsimp only
  obtain ⟨fS, tf, hfx, hfS⟩ : ∃ (fS : Str) (tf : VTok), [Value.str (Str.ofString "") st, Value.str (Str.ofString "zz ") (st + 1)][rv.toNat]? = some (.str fS tf) ∧ (fS = Str.ofString "" ∨ fS = Str.ofString "zz ") := by
    have h : rv = 0 ∨ rv = 1 := by omega
    rcases h with rfl | rfl
    · exact ⟨_, _, rfl, .inl rfl⟩
    · exact ⟨_, _, rfl, .inr rfl⟩
  have hfl : fS.length ≤ 3 := by
    rcases hfS with rfl | rfl <;> decide +kernel
  refine list_item (News.isList N' (.tail _ (.tail _ (.head _)))) hr0 (by omega) hfx ?_
  walk_at "mine go3"
  rename Fr _ _ _ _ => F2
  rename News _ _ _ _ => N2
  rename _ ∧ _ ∧ _ ∧ AllLt _ _ => hl2
  have hrd := lt_allLt hl2.2.2.2
  replace F2 := fr_lay (l := lawMap C R P sc vm cl (some (.str fS tf)) (some (.str (fS ++ Str.ofString "(") _)) (some (.ref _)) none none none none none) F2 (by walk_at "mine fr")
  refine law_outer w mean mg mb fa cd L R C P _ h₀ _ _ _ sc cl vm _ none none none none none (fS ++ Str.ofString "(") _ o2 vs ns nC pvs nP rest B X T F2 (news_due N2) hR ho2 hi hn hl hC hl2.1 hr hrd hM ?_ ?_ hE0
  · rw [Str.length_append, show (Str.ofString "(").length = 1 from by decide +kernel]
    omega
  clear F2 N2
  intro h3 tk3 o3 as Wd dv nd tw3 vst3 sp3 ja3 jg3 jt3 has hne has4 hWd hdv ho3 F3 N3
  walk_at "mine go3"
  refine' Ct.use (c_part w mean mg mb _ R C o3 vs ns nC 6 _ hR ho3 hi hn hl hC (allLt_ne hr hl2.1) (by decide) (by decide)) ?k1 ?k2 ?k3 ?k4 ?k5 ?kK ?kd ?ku ?_
  walk_at "mine call"
  rintro r h' tk' news' F' N' ⟨o4, way, tr, rfl, hw0, hw1, ho4, rfl⟩
  have hf : fS.cps.toList = [] ∨ fS.cps.toList = [122, 122, 32] := by
    rcases hfS with rfl | rfl
    · exact .inl (by decide +kernel)
    · exact .inr (by decide +kernel)
  have hX : Wd.cps.toList = fS.cps.toList ++ [40] ++ rend as := by
    rw [hWd, Str.cps_append, Array.toList_append, show (Str.ofString "(").cps.toList = [40] from by decide +kernel]
  have hXl : Wd.length ≤ 152 := by
    have := rend_len has
    rw [← len_list, hX, List.length_append, List.length_append, len_list]
    simp only [List.length_cons, List.length_nil]
    omega
  have hXf : fS.length + 1 ≤ Wd.length := by
    rw [← len_list Wd, hX, List.length_append, List.length_append, len_list]
    simp only [List.length_cons, List.length_nil]
    omega
  have hfl2 : fS.length = fS.cps.toList.length := (len_list fS).symm
  have lq1 : (Str.ofString "}").length = 1 := by decide +kernel
  have lq2 : (Str.ofString "x").length = 1 := by decide +kernel
  have lq3 : (Str.ofString ")").length = 1 := by decide +kernel
  have lq4 : (Str.ofString " \n b").length = 4 := by decide +kernel
  walk_at "mine go3"
  · refine' Ct.use (c_read w mean mg mb _ Wd _ (fS.length : Int) _ (by omega) (by omega) (by omega)) ?k1 ?k2 ?k3 ?k4 ?k5 ?kK ?kd ?ku ?_
    walk_at "mine call"
    rintro r h' tk' news' F' N' hp
    (try dsimp only at hp)
    rw [Int.toNat_natCast] at hp
    have e : readAt Wd.cps.toList fS.length = none := by
      rw [hX, hfl2]
      exact at_none _ hne has
    rw [e] at hp
    obtain ⟨rfl, rfl⟩ := hp
    walk_at "mine go3"
    refine' Ct.use (c_read w mean mg mb _ (Wd ++ Str.ofString " \n b") _ (fS.length : Int) _ (by omega) (by omega) (by omega)) ?k1 ?k2 ?k3 ?k4 ?k5 ?kK ?kd ?ku ?_
    walk_at "mine call"
    rintro r h' tk' news' F' N' hp
    (try dsimp only at hp)
    rw [Int.toNat_natCast] at hp
    have e : readAt (Wd ++ Str.ofString " \n b").cps.toList fS.length = none := by
      rw [Str.cps_append, Array.toList_append, hX, hfl2, show (Str.ofString " \n b").cps.toList = [32, 10, 32, 98] from by decide +kernel, List.append_assoc _ (rend as)]
      exact at_none2 _ hne has
    rw [e] at hp
    obtain ⟨rfl, rfl⟩ := hp
    walk_at "mine go3"
    exact hQ _ _ _ _ (by assumption) (by assumption)
  · refine' Ct.use (c_read w mean mg mb _ (Wd ++ Str.ofString "}") _ (fS.length : Int) _ (by omega) (by omega) (by omega)) ?k1 ?k2 ?k3 ?k4 ?k5 ?kK ?kd ?ku ?_
    walk_at "mine call"
    rintro r h' tk' news' F' N' hp
    (try dsimp only at hp)
    rw [Int.toNat_natCast] at hp
    have e : readAt (Wd ++ Str.ofString "}").cps.toList fS.length = none := by
      rw [Str.cps_append, Array.toList_append, hX, hfl2, show (Str.ofString "}").cps.toList = [125] from by decide +kernel, List.append_assoc _ (rend as)]
      exact at_bad _ hne has
    rw [e] at hp
    obtain ⟨rfl, rfl⟩ := hp
    walk_at "mine go3"
    exact hQ _ _ _ _ (by assumption) (by assumption)
  · refine' Ct.use (c_read w mean mg mb _ (Str.ofString "x" ++ Wd ++ Str.ofString ")") _ (fS.length : Int) _ (by omega) (by omega) (by omega)) ?k1 ?k2 ?k3 ?k4 ?k5 ?kK ?kd ?ku ?_
    walk_at "mine call"
    rintro r h' tk' news' F' N' hp
    (try dsimp only at hp)
    rw [Int.toNat_natCast] at hp
    have e : readAt (Str.ofString "x" ++ Wd ++ Str.ofString ")").cps.toList fS.length = none := by
      rw [Str.cps_append, Array.toList_append, Str.cps_append, Array.toList_append, hX, hfl2, show (Str.ofString "x").cps.toList = [120] from by decide +kernel, List.append_assoc [120], List.append_assoc _ (rend as)]
      exact at_x hf
    rw [e] at hp
    obtain ⟨rfl, rfl⟩ := hp
    walk_at "mine go3"
    exact hQ _ _ _ _ (by assumption) (by assumption)
  · rename ¬ way = 5 => hne5
    rename ¬ way = 4 => hne4
    rename ¬ way = 3 => hne3
    rename News _ _ _ _ => N4
    refine item_pick3 (News.isList N4 (.head _)) hw0 (by omega) ?_
    intro tS tt htl
    walk_at "mine go3"
    refine' Ct.use (c_read w mean mg mb _ (Wd ++ Str.ofString ")" ++ tS) _ (fS.length : Int) _ (by omega) (by omega) (by omega)) ?k1 ?k2 ?k3 ?k4 ?k5 ?kK ?kd ?ku ?_
    walk_at "mine call"
    rintro r h' tk' news' F' N' hp
    (try dsimp only at hp)
    rw [Int.toNat_natCast] at hp
    have e : readAt (Wd ++ Str.ofString ")" ++ tS).cps.toList fS.length = some (as.map toldS, Wd.length + 1) := by
      rw [Str.cps_append, Array.toList_append, Str.cps_append, Array.toList_append, ← len_list Wd, hX, hfl2, show (Str.ofString ")").cps.toList = [41] from by decide +kernel, List.append_assoc _ [41], List.append_assoc _ (rend as)]
      exact at_some _ hne has _
    rw [e] at hp
    obtain ⟨T2, A2, vs2, nA, te, ei, rfl, hv2, hei, rfl⟩ := hp
    have hei2 : ei = (Wd.length : Int) + 1 := by rw [hei]; simp
    subst hei2
    clear hei
    walk_at "mine go4"
    rename News _ _ _ _ => N5
    have hss : ∀ y ∈ as.map toldS, PyData.strOk y = true := by
      intro y hy
      obtain ⟨b, hb, rfl⟩ := List.mem_map.mp hy
      exact toldS_ok (has b hb).1
    refine eq_answer N5 (.head _) (.tail _ (.head _)) (.tail _ (.tail _ (.head _))) (.tail _ (.tail _ (.tail _ (.tail _ (.tail _ (.tail _ (.head _))))))) hv2 hdv hss (by first | units_room | exact Nat.le_of_ble_eq_true rfl) ?_
    exact hQ _ _ _ _ (by assumption) (by assumption)
theorem cells_on {cells pre : List Int} {k x y : Int} (h1 : cells.length = pre.length) (h2 : ∀ c ∈ cells, 0 ≤ c ∧ c < 27720) :
    (cells ++ [x.fmod 27720]).length = (pre ++ [k]).length ∧ (∀ c ∈ cells ++ [x.fmod 27720], 0 ≤ c ∧ c < 27720) ∧ 0 ≤ y.fmod 911 ∧ y.fmod 911 < 911 := by
  refine ⟨by simp [h1], ?_, (fmod_in y (by decide)).1, (fmod_in y (by decide)).2⟩
  intro c hc
  rcases List.mem_append.mp hc with h | h
  · exact h2 c h
  · rw [List.mem_singleton.mp h]; exact fmod_in x (by decide)
theorem menu_0 : Str.ofString "a" = ⟨[97].toArray⟩ := by decide +kernel
theorem menu_1 : Str.ofString "x1 + 2" = ⟨[120, 49, 32, 43, 32, 50].toArray⟩ := by decide +kernel
theorem menu_2 : Str.ofString "(b, c)" = ⟨[40, 98, 44, 32, 99, 41].toArray⟩ := by decide +kernel
theorem menu_3 : Str.ofString "{d, (e)}" = ⟨[123, 100, 44, 32, 40, 101, 41, 125].toArray⟩ := by decide +kernel
theorem menu_4 : Str.ofString "[1,2]" = ⟨[91, 49, 44, 50, 93].toArray⟩ := by decide +kernel
theorem menu_5 : Str.ofString "\"), (\"" = ⟨[34, 41, 44, 32, 40, 34].toArray⟩ := by decide +kernel
theorem menu_6 : Str.ofString "/* , ) */" = ⟨[47, 42, 32, 44, 32, 41, 32, 42, 47].toArray⟩ := by decide +kernel
theorem menu_7 : Str.ofString " " = ⟨[32].toArray⟩ := by decide +kernel
theorem menu_8 : Str.ofString "\n" = ⟨[10].toArray⟩ := by decide +kernel
theorem menu_9 : Str.ofString "// ,)\n" = ⟨[47, 47, 32, 44, 41, 10].toArray⟩ := by decide +kernel
theorem menu_10 : Str.ofString "  " = ⟨[32, 32].toArray⟩ := by decide +kernel
theorem menu_11 : Str.ofString "8'hf" = ⟨[56, 39, 104, 102].toArray⟩ := by decide +kernel
theorem menu_12 : Str.ofString "`B" = ⟨[96, 66].toArray⟩ := by decide +kernel
theorem menu_13 : Str.ofString "(\n)" = ⟨[40, 10, 41].toArray⟩ := by decide +kernel
theorem menu_14 : Str.ofString "( )" = ⟨[40, 32, 41].toArray⟩ := by decide +kernel
theorem menu_15 : Str.ofString "\\a,) " = ⟨[92, 97, 44, 41, 32].toArray⟩ := by decide +kernel
theorem news_front {h₀ h : Heap} {L : Addr} {r sl c a0 a1 a2 a3 a4 a5 a6 a7 a8 a9 a10 a11 a12 a13 a14 : Addr × Obj} (N : News h₀ L h [a0, a1, a2, a3, a4, a5, a6, a7, a8, a9, a10, a11, a12, a13, a14, r, sl, c]) : News h₀ L h (r :: c :: [a0, a1, a2, a3, a4, a5, a6, a7, a8, a9, a10, a11, a12, a13, a14]) := by
  intro p hp
  refine N p ?_
  simp only [List.mem_cons, List.not_mem_nil, or_false] at hp ⊢
  rcases hp with h | h | h
  · exact .inr (.inr (.inr (.inr (.inr (.inr (.inr (.inr (.inr (.inr (.inr (.inr (.inr (.inr (.inr (.inl h)))))))))))))))
  · exact .inr (.inr (.inr (.inr (.inr (.inr (.inr (.inr (.inr (.inr (.inr (.inr (.inr (.inr (.inr (.inr (.inr h))))))))))))))))
  · rcases h with h | h | h | h | h | h | h | h | h | h | h | h | h | h | h <;> (subst h; simp)

set_option maxRecDepth 100000 in
set_option maxHeartbeats 8000000 in
theorem law_walk : PySem.Challenge.rw_on0090_01.Holds := hd (by
  k_with "pyIter ref" => k_state (fun pre cells mix => cells.length = pre.length ∧ (∀ c ∈ cells, 0 ≤ c ∧ c < 27720) ∧ 0 ≤ mix ∧ mix < 911) "cells" "mix"
  k_with "state" => exact cells_on (by assumption) (by assumption)
  k_go0
  all_goals try k_fold
  walk_at "mine go5"
  rename News _ _ _ _ => NN
  rename Fr _ _ _ _ => FF
  simp only [menu_0, menu_1, menu_2, menu_3, menu_4, menu_5, menu_6, menu_7, menu_8, menu_9, menu_10, menu_11, menu_12, menu_13, menu_14, menu_15] at NN
  replace FF := fr_lay (l := lawMap _ _ _ _ _ _ none none none none none none none none) FF (by refine fr_eq ?h1 ?h2; (case h1 => (simp only [lawMap, List.forall_mem_cons, List.not_mem_nil, false_implies, implies_true, and_true]; (repeat' apply And.intro) <;> rfl)); (case h2 => (intro y hy; simp only [lawMap, List.forall_mem_cons, List.not_mem_nil, false_implies, implies_true, and_true, ne_eq] at hy; have hb := beq_eq_false_iff_ne.mpr hy.1; simp [hy, List.lookup, hb])))
  refine' law_tail _ _ _ _ _ _ _ _ _ _ _ _ _ _ _ _ _ _ _ _ _ _ _ _ ?kB ?kX ?kT FF (news_front NN) ?kR ?ko ?ki ?kn ?kl ?kC ?kr ?kM ?kQ ?kE
  case kB => assumption
  case kX => assumption
  case kT => assumption
  case kR => assumption
  case ko => exact ⟨0, _, _, _, by assumption, Int.le_refl _, Int.natCast_nonneg _, by assumption, by assumption⟩
  case ki => assumption
  case kn => assumption
  case kl => exact Nat.le_trans (Nat.le_of_eq (by assumption)) (List.length_take_le 50 _)
  case kC =>
    repeat (rename _ ∧ _ => hh; obtain ⟨_, _⟩ := hh)
    assumption
  case kr =>
    repeat (rename _ ∧ _ => hh; obtain ⟨_, _⟩ := hh)
    repeat (first | exact List.forall_mem_nil _ | refine List.forall_mem_cons.mpr ⟨Nat.ne_of_gt (by assumption), ?_⟩)
  case kM =>
    refine ⟨by k_mem, fun i hi => ?_⟩
    have h14 : i = 0 ∨ i = 1 ∨ i = 2 ∨ i = 3 ∨ i = 4 ∨ i = 5 ∨ i = 6 ∨ i = 7 ∨ i = 8 ∨ i = 9 ∨ i = 10 ∨ i = 11 ∨ i = 12 ∨ i = 13 := by omega
    rcases h14 with rfl | rfl | rfl | rfl | rfl | rfl | rfl | rfl | rfl | rfl | rfl | rfl | rfl | rfl
    · exact ⟨_, ([97], [97]), _, _, rfl, by decide, by k_mem⟩
    · exact ⟨_, ([120, 49, 32, 43, 32, 50], [120, 49, 32, 43, 32, 50]), _, _, rfl, by decide, by k_mem⟩
    · exact ⟨_, ([40, 98, 44, 32, 99, 41], [40, 98, 44, 32, 99, 41]), _, _, rfl, by decide, by k_mem⟩
    · exact ⟨_, ([123, 100, 44, 32, 40, 101, 41, 125], [123, 100, 44, 32, 40, 101, 41, 125]), _, _, rfl, by decide, by k_mem⟩
    · exact ⟨_, ([91, 49, 44, 50, 93], [91, 49, 44, 50, 93]), _, _, rfl, by decide, by k_mem⟩
    · exact ⟨_, ([34, 41, 44, 32, 40, 34], [34, 41, 44, 32, 40, 34]), _, _, rfl, by decide, by k_mem⟩
    · exact ⟨_, ([47, 42, 32, 44, 32, 41, 32, 42, 47], [32]), _, _, rfl, by decide, by k_mem⟩
    · exact ⟨_, ([10], [32]), _, _, rfl, by decide, by k_mem⟩
    · exact ⟨_, ([32], [32]), _, _, rfl, by decide, by k_mem⟩
    · exact ⟨_, ([47, 47, 32, 44, 41, 10], [32, 32]), _, _, rfl, by decide, by k_mem⟩
    · exact ⟨_, ([56, 39, 104, 102], [56, 39, 104, 102]), _, _, rfl, by decide, by k_mem⟩
    · exact ⟨_, ([96, 66], [96, 66]), _, _, rfl, by decide, by k_mem⟩
    · exact ⟨_, ([40, 10, 41], [40, 32, 41]), _, _, rfl, by decide, by k_mem⟩
    · exact ⟨_, ([92, 97, 44, 41, 32], [92, 97, 44, 41, 32]), _, _, rfl, by decide, by k_mem⟩
  case kQ =>
    intro h' tk' m' news' F9 N9
    walk_at "mine go2"
  case kE => passes_own)
end Mine

theorem PySem.Challenge.cw_on0090_01_holds : PySem.Challenge.rw_on0090_01.Holds := by
  exact Mine.law_walk
