import PyProof.Rows.All
import Wide.All
import OpenK.AllK
import Wide.FinOn
import PySem.Challenge.RW_pq0831_01
set_option Elab.async false
set_option compiler.extract_closed false
set_option linter.all false
set_option genSizeOf false
section
set_option autoImplicit false
namespace Mine
noncomputable def isD (c : Nat) : Bool := decide (48 ≤ c) && decide (c ≤ 57)
noncomputable def isDig (l : List Nat) (n : Nat) : Bool := decide (n < l.length) && isD (l.getD n 0)
noncomputable def digB (l : List Nat) (n : Nat) : Nat := n + ((l.drop n).takeWhile isD).length
noncomputable def isB (c : Nat) : Bool := c == 32 || c == 9 || c == 10 || c == 13 || c == 11 || c == 12
noncomputable def blB (l : List Nat) (n : Nat) : Nat := n + ((l.drop n).takeWhile isB).length
noncomputable def sg (a b : Int) : Int := if a < b then -1 else if b < a then 1 else 0
noncomputable def ct (l r : List Nat) : Int := if l = r then 0 else if l < r then -1 else 1
noncomputable def cut (l : List Nat) (lo hi : Nat) : List Nat := (l.take hi).drop lo
noncomputable def weP (la a lb b : Nat) : Int := (if a < la then 1 else 0) - (if b < lb then 1 else 0)
noncomputable def crP (l r : List Nat) : Int := if l.getD 0 0 ≠ 48 ∧ r.getD 0 0 ≠ 48 ∧ l.length ≠ r.length then sg l.length r.length else ct l r

theorem nat_lt1 {a b : Nat} : ([a] < [b]) ↔ a < b := by
  constructor
  · intro h; cases h with
    | rel h => exact h
    | cons h => cases h
  · intro h; exact .rel h
theorem pow53 : (2 : Int) ^ (53 : Int).toNat = 9007199254740992 := by decide
noncomputable def runTok (r : List Nat) : List Nat := if r.getD 0 0 = 48 then 48 :: 0 :: r else 48 :: r.length :: r
noncomputable def tokF : Nat → List Nat → List (List Nat)
  | 0, _ => []
  | n + 1, s => if s = [] then [] else match s.dropWhile isB with
    | [] => [[0]]
    | c :: t => if isD c = true then
        runTok ((c :: t).takeWhile isD) :: (match (c :: t).dropWhile isD with
          | [] => []
          | c' :: t' => [c'] :: tokF n t')
      else [c] :: tokF n t
noncomputable def tok (s : List Nat) : List (List Nat) := tokF s.length s
noncomputable def cmpT (x y : List (List Nat)) : Int := if x = y then 0 else if x < y then -1 else 1

theorem dropWhile_len (p : Nat → Bool) (s : List Nat) : (s.dropWhile p).length ≤ s.length := (List.dropWhile_suffix p).length_le
theorem tokF_succ : ∀ (n m : Nat) (s : List Nat), s.length ≤ n → s.length ≤ m → tokF n s = tokF m s
  | 0, m, s, h, _ => by
    have : s = [] := List.length_eq_zero_iff.mp (by omega)
    subst this
    cases m <;> simp [tokF]
  | n + 1, 0, s, _, h => by
    have : s = [] := List.length_eq_zero_iff.mp (by omega)
    subst this
    simp [tokF]
  | n + 1, m + 1, s, h1, h2 => by
    unfold tokF
    split
    · rfl
    · have hd := dropWhile_len isB s
      split
      · rfl
      · rename_i c t e
        rw [e] at hd
        simp at hd
        have ih := tokF_succ n m
        split
        · have hd2 := dropWhile_len isD (c :: t)
          congr 1
          split
          · rfl
          · rename_i c' t' e'
            rw [e'] at hd2
            simp at hd2
            rw [ih t' (by omega) (by omega)]
        · rw [ih t (by omega) (by omega)]
theorem tok_nil : tok [] = [] := rfl
theorem tok_eq (s : List Nat) (h : s ≠ []) : tok s = match s.dropWhile isB with
    | [] => [[0]]
    | c :: t => if isD c = true then
        runTok ((c :: t).takeWhile isD) :: (match (c :: t).dropWhile isD with
          | [] => []
          | c' :: t' => [c'] :: tok t')
      else [c] :: tok t := by
  obtain ⟨n, hn⟩ : ∃ n, s.length = n + 1 := ⟨s.length - 1, by cases s with | nil => exact absurd rfl h | cons => simp⟩
  have hd := dropWhile_len isB s
  unfold tok
  rw [hn, tokF, if_neg h]
  split
  · rfl
  · rename_i c t e
    rw [e] at hd
    simp at hd
    split
    · have hd2 := dropWhile_len isD (c :: t)
      congr 1
      split
      · rfl
      · rename_i c' t' e'
        rw [e'] at hd2
        simp at hd2
        rw [tokF_succ n t'.length t' (by omega) (Nat.le_refl _)]
    · rw [tokF_succ n t.length t (by omega) (Nat.le_refl _)]
theorem tok_ne {s : List Nat} (h : s ≠ []) : tok s ≠ [] := by
  rw [tok_eq s h]
  split
  · simp
  · split <;> simp

theorem drop_tw (p : Nat → Bool) : ∀ (s : List Nat), s.drop (s.takeWhile p).length = s.dropWhile p
  | [] => rfl
  | c :: t => by
    simp only [List.takeWhile_cons, List.dropWhile_cons]
    split
    · simp [drop_tw p t]
    · rfl
theorem drop_blB (l : List Nat) (a : Nat) : l.drop (blB l a) = (l.drop a).dropWhile isB := by
  unfold blB; rw [← List.drop_drop, drop_tw]
theorem drop_digB (l : List Nat) (a : Nat) : l.drop (digB l a) = (l.drop a).dropWhile isD := by
  unfold digB; rw [← List.drop_drop, drop_tw]
theorem take_tw (p : Nat → Bool) : ∀ (s : List Nat), s.take (s.takeWhile p).length = s.takeWhile p
  | [] => rfl
  | c :: t => by
    simp only [List.takeWhile_cons]
    split
    · simp [take_tw p t]
    · rfl
theorem cut_digB (l : List Nat) (a : Nat) : cut l a (digB l a) = (l.drop a).takeWhile isD := by
  unfold cut digB; rw [List.drop_take, Nat.add_sub_cancel_left, take_tw]
theorem drop_cons {l : List Nat} {n c : Nat} {t : List Nat} (h : l.drop n = c :: t) : n < l.length ∧ l.getD n 0 = c ∧ l.drop (n + 1) = t := by
  have hn : n < l.length := by
    by_cases hn : n < l.length
    · exact hn
    · rw [List.drop_of_length_le (by omega)] at h; cases h
  rw [List.drop_eq_getElem_cons hn] at h
  injection h with h1 h2
  exact ⟨hn, by simp [List.getD_eq_getElem?_getD, hn, h1], h2⟩
theorem drop_nil {l : List Nat} {n : Nat} (h : l.drop n = []) : l.length ≤ n ∧ l.getD n 0 = 0 ∧ l.drop (n + 1) = [] := by
  have hn : l.length ≤ n := by simpa using h
  exact ⟨hn, by rw [List.getD_eq_getElem?_getD, List.getElem?_eq_none hn]; rfl, List.drop_of_length_le (by omega)⟩
theorem tokND {l : List Nat} {a : Nat} (h : a < l.length) (hd : isDig l (blB l a) = false) : tok (l.drop a) = [l.getD (blB l a) 0] :: tok (l.drop (blB l a + 1)) := by
  have hne : l.drop a ≠ [] := by simp; omega
  rw [tok_eq _ hne, ← drop_blB]
  cases e : l.drop (blB l a) with
  | nil => obtain ⟨_, h2, h3⟩ := drop_nil e; rw [h2, h3]; rfl
  | cons c t =>
    obtain ⟨h1, h2, h3⟩ := drop_cons e
    have : isD c = false := by rw [isDig, h2] at hd; simpa [h1] using hd
    simp only [this, h2, h3]; rfl
theorem tokD {l : List Nat} {a : Nat} (h : a < l.length) (hd : isDig l (blB l a) = true) : tok (l.drop a) = runTok (cut l (blB l a) (digB l (blB l a))) :: (if digB l (blB l a) < l.length then [l.getD (digB l (blB l a)) 0] :: tok (l.drop (digB l (blB l a) + 1)) else []) := by
  have hne : l.drop a ≠ [] := by simp; omega
  rw [tok_eq _ hne, ← drop_blB, cut_digB]
  cases e : l.drop (blB l a) with
  | nil => obtain ⟨h1, _⟩ := drop_nil e; simp [isDig] at hd; omega
  | cons c t =>
    obtain ⟨h1, h2, h3⟩ := drop_cons e
    have : isD c = true := by rw [isDig, h2] at hd; simpa [h1] using hd
    simp only [this, if_true]
    congr 1
    rw [← e, ← drop_digB]
    cases e' : l.drop (digB l (blB l a)) with
    | nil => obtain ⟨g1, _⟩ := drop_nil e'; rw [if_neg (by omega)]
    | cons c' t' => obtain ⟨g1, g2, g3⟩ := drop_cons e'; rw [if_pos g1, g2, g3]
theorem ltl_cons {α : Type} [LT α] {x y : α} {xs ys : List α} : (x :: xs) < (y :: ys) ↔ x < y ∨ (x = y ∧ xs < ys) := by
  exact List.cons_lt_cons_iff
theorem cmpT_nil : cmpT [] [] = 0 := rfl
theorem cmpT_nl {y : List Nat} {ys : List (List Nat)} : cmpT [] (y :: ys) = -1 := by simp [cmpT]
theorem cmpT_ln {y : List Nat} {ys : List (List Nat)} : cmpT (y :: ys) [] = 1 := by simp [cmpT]
theorem irrN (a : List Nat) : ¬ a < a := List.lt_irrefl a
theorem irrL (a : List (List Nat)) : ¬ a < a := List.lt_irrefl a
theorem cmpT_cons {x y : List Nat} {xs ys : List (List Nat)} : cmpT (x :: xs) (y :: ys) = if x = y then cmpT xs ys else ct x y := by
  unfold cmpT ct
  by_cases e : x = y
  · subst e
    simp [List.cons_lt_cons_iff, irrN]
  · simp [List.cons_lt_cons_iff, e]
theorem ct_one {x y : Nat} : ct [x] [y] = sg x y := by
  unfold ct sg
  simp only [List.cons.injEq, and_true, List.cons_lt_cons_iff, List.lt_irrefl, and_false, or_false]
  split
  · subst_vars; simp
  · split <;> (first | (split <;> omega) | omega)
theorem ct_cons {x y : Nat} {xs ys : List Nat} : ct (x :: xs) (y :: ys) = if x = y then ct xs ys else sg x y := by
  unfold ct sg
  by_cases e : x = y
  · subst e
    simp [List.cons_lt_cons_iff]
  · simp only [List.cons.injEq, e, false_and, if_false, List.cons_lt_cons_iff, or_false]
    split <;> (first | (split <;> omega) | omega | (split; omega; split <;> omega))
theorem ct_self (x : List Nat) : ct x x = 0 := by simp [ct]
theorem ct_zero {x y : List Nat} : ct x y = 0 ↔ x = y := by
  unfold ct
  constructor
  · intro h; split at h
    · assumption
    · split at h <;> cases h
  · intro h; simp [h]

theorem sg_same {a b c d : Int} (h1 : a < b ↔ c < d) (h2 : b < a ↔ d < c) : sg a b = sg c d := by simp only [sg, h1, h2]
theorem sg_zero {a b : Int} : sg a b = 0 ↔ a = b := by unfold sg; split <;> (first | omega | (split <;> omega))
theorem run_head {l : List Nat} {a : Nat} (h : isDig l a = true) : ∃ c t, cut l a (digB l a) = c :: t ∧ isD c = true ∧ c = l.getD a 0 := by
  rw [cut_digB]
  simp only [isDig, Bool.and_eq_true, decide_eq_true_eq] at h
  rw [List.drop_eq_getElem_cons h.1]
  have e : l.getD a 0 = l[a] := by simp [List.getD_eq_getElem?_getD, h.1]
  rw [e] at h
  exact ⟨l[a], (l.drop (a + 1)).takeWhile isD, by rw [List.takeWhile_cons_of_pos h.2], h.2, e.symm⟩
theorem isD_iff {c : Nat} : isD c = true ↔ 48 ≤ c ∧ c ≤ 57 := by simp [isD]
theorem ct_run {p q : List Nat} (hp : ∃ c t, p = c :: t ∧ isD c = true) (hq : ∃ c t, q = c :: t ∧ isD c = true) : ct (runTok p) (runTok q) = crP p q := by
  obtain ⟨c, t, rfl, hc⟩ := hp
  obtain ⟨d, u, rfl, hd⟩ := hq
  rw [isD_iff] at hc hd
  unfold runTok crP
  simp only [List.getD_cons_zero, List.length_cons]
  by_cases h1 : c = 48 <;> by_cases h2 : d = 48
  · subst h1 h2; simp [ct_cons]
  · subst h1
    rw [if_pos rfl, if_neg h2, ct_cons, if_pos rfl, ct_cons, if_neg (by omega), if_neg (by simp), ct_cons, if_neg (by omega)]
    unfold sg; split <;> split <;> omega
  · subst h2
    rw [if_neg h1, if_pos rfl, ct_cons, if_pos rfl, ct_cons, if_neg (by omega), if_neg (by simp), ct_cons, if_neg (by omega)]
    unfold sg; split <;> split <;> omega
  · rw [if_neg h1, if_neg h2, ct_cons, if_pos rfl, ct_cons]
    by_cases h3 : t.length + 1 = u.length + 1
    · rw [if_pos h3, if_neg (by omega)]
    · rw [if_neg h3, if_pos ⟨h1, h2, h3⟩]
theorem runTok_eq {p q : List Nat} : runTok p = runTok q ↔ p = q := by
  constructor
  · intro h; unfold runTok at h; split at h <;> split at h <;> simp at h <;> first | exact h.2 | exact h
  · intro h; rw [h]
theorem nat_dd {l r : List Nat} {a b : Nat} (ha : a < l.length) (hb : b < r.length) (dl : isDig l (blB l a) = true) (dr : isDig r (blB r b) = true) :
    cmpT (tok (l.drop a)) (tok (r.drop b)) =
      if crP (cut l (blB l a) (digB l (blB l a))) (cut r (blB r b) (digB r (blB r b))) ≠ 0 then crP (cut l (blB l a) (digB l (blB l a))) (cut r (blB r b) (digB r (blB r b)))
      else if digB l (blB l a) < l.length ∧ digB r (blB r b) < r.length then
        (if sg (l.getD (digB l (blB l a)) 0 : Nat) (r.getD (digB r (blB r b)) 0 : Nat) ≠ 0 then sg (l.getD (digB l (blB l a)) 0 : Nat) (r.getD (digB r (blB r b)) 0 : Nat) else cmpT (tok (l.drop (digB l (blB l a) + 1))) (tok (r.drop (digB r (blB r b) + 1))))
      else weP l.length (digB l (blB l a)) r.length (digB r (blB r b)) := by
  obtain ⟨c, t, e1, hc, _⟩ := run_head dl
  obtain ⟨d, u, e2, hd, _⟩ := run_head dr
  have hr := ct_run ⟨c, t, e1, hc⟩ ⟨d, u, e2, hd⟩
  rw [tokD ha dl, tokD hb dr, cmpT_cons, hr]
  by_cases h : cut l (blB l a) (digB l (blB l a)) = cut r (blB r b) (digB r (blB r b))
  · rw [if_pos (runTok_eq.mpr h)]
    have hz : crP (cut l (blB l a) (digB l (blB l a))) (cut r (blB r b) (digB r (blB r b))) = 0 := by rw [← hr, ct_zero, runTok_eq]; exact h
    rw [hz]; simp only [ne_eq, not_true_eq_false, if_false]
    by_cases h1 : digB l (blB l a) < l.length <;> by_cases h2 : digB r (blB r b) < r.length
    · rw [if_pos h1, if_pos h2, if_pos ⟨h1, h2⟩, cmpT_cons, ct_one]
      by_cases h3 : l.getD (digB l (blB l a)) 0 = r.getD (digB r (blB r b)) 0
      · rw [if_pos (by rw [h3]), if_neg (by rw [h3, Decidable.not_not, sg_zero])]
      · rw [if_neg (by simpa using h3), if_pos (by rw [sg_zero]; omega)]
    · rw [if_pos h1, if_neg h2, if_neg (by omega), cmpT_ln, weP, if_pos h1, if_neg h2]; rfl
    · rw [if_neg h1, if_pos h2, if_neg (by omega), cmpT_nl, weP, if_neg h1, if_pos h2]; rfl
    · rw [if_neg h1, if_neg h2, if_neg (by omega), cmpT_nil, weP, if_neg h1, if_neg h2]; rfl
  · rw [if_neg (by rw [runTok_eq]; exact h), if_pos (by rw [← hr, ne_eq, ct_zero, runTok_eq]; exact h)]
theorem nat_else {l r : List Nat} {a b : Nat} (ha : a < l.length) (hb : b < r.length) (hd : (isDig l (blB l a) && isDig r (blB r b)) = false) :
    cmpT (tok (l.drop a)) (tok (r.drop b)) = if sg (l.getD (blB l a) 0 : Nat) (r.getD (blB r b) 0 : Nat) ≠ 0 then sg (l.getD (blB l a) 0 : Nat) (r.getD (blB r b) 0 : Nat) else cmpT (tok (l.drop (blB l a + 1))) (tok (r.drop (blB r b + 1))) := by
  have nd : ∀ {l : List Nat} {n : Nat}, isDig l n = false → ¬ (48 ≤ l.getD n 0 ∧ l.getD n 0 ≤ 57) := fun {l n} h q => by
    have : n < l.length := by
      by_cases hn : n < l.length
      · exact hn
      · rw [List.getD_eq_getElem?_getD, List.getElem?_eq_none (by omega)] at q
        simp at q
    simp only [isDig, this, decide_true, Bool.true_and] at h
    rw [← isD_iff, h] at q; cases q
  cases h1 : isDig l (blB l a) with
  | false =>
    cases h2 : isDig r (blB r b) with
    | false =>
      rw [tokND ha h1, tokND hb h2, cmpT_cons, ct_one]
      by_cases h3 : l.getD (blB l a) 0 = r.getD (blB r b) 0
      · rw [if_pos (by rw [h3]), if_neg (by rw [h3, ne_eq, Decidable.not_not, sg_zero])]
      · rw [if_neg (by simpa using h3), if_pos (by rw [ne_eq, sg_zero]; omega)]
    | true =>
      have n1 := nd h1
      obtain ⟨d, u, e2, hd, e3⟩ := run_head h2
      rw [isD_iff] at hd
      rw [tokND ha h1, tokD hb h2, cmpT_cons, ← e3]
      have e4 : ∃ x, runTok (cut r (blB r b) (digB r (blB r b))) = 48 :: x := by unfold runTok; split <;> exact ⟨_, rfl⟩
      obtain ⟨x, e4⟩ := e4
      rw [e4, if_neg (fun q => by injection q with q1; omega), ct_cons, if_neg (by omega), if_pos (by rw [ne_eq, sg_zero]; omega)]
      exact sg_same (by omega) (by omega)
  | true =>
    cases h2 : isDig r (blB r b) with
    | false =>
      have n1 := nd h2
      obtain ⟨d, u, e2, hd, e3⟩ := run_head h1
      rw [isD_iff] at hd
      rw [tokD ha h1, tokND hb h2, cmpT_cons, ← e3]
      have e4 : ∃ x, runTok (cut l (blB l a) (digB l (blB l a))) = 48 :: x := by unfold runTok; split <;> exact ⟨_, rfl⟩
      obtain ⟨x, e4⟩ := e4
      rw [e4, if_neg (fun q => by injection q with q1; omega), ct_cons, if_neg (by omega), if_pos (by rw [ne_eq, sg_zero]; omega)]
      exact sg_same (by omega) (by omega)
    | true => rw [h1, h2] at hd; cases hd
theorem nat_end {l r : List Nat} {a b : Nat} (h : ¬ (a < l.length ∧ b < r.length)) : cmpT (tok (l.drop a)) (tok (r.drop b)) = weP l.length a r.length b := by
  by_cases h1 : a < l.length <;> by_cases h2 : b < r.length
  · exact absurd ⟨h1, h2⟩ h
  · have e2 : r.drop b = [] := List.drop_of_length_le (by omega)
    have n1 := tok_ne (s := l.drop a) (by simp; omega)
    rw [e2, tok_nil, weP, if_pos h1, if_neg h2]
    cases e : tok (l.drop a) with
    | nil => exact absurd e n1
    | cons x xs => rw [cmpT_ln]; rfl
  · have e2 : l.drop a = [] := List.drop_of_length_le (by omega)
    have n1 := tok_ne (s := r.drop b) (by simp; omega)
    rw [e2, tok_nil, weP, if_neg h1, if_pos h2]
    cases e : tok (r.drop b) with
    | nil => exact absurd e n1
    | cons x xs => rw [cmpT_nl]; rfl
  · rw [List.drop_of_length_le (by omega), List.drop_of_length_le (by omega), weP, if_neg h1, if_neg h2]; rfl
theorem trich : ∀ a b : List Nat, a < b ∨ a = b ∨ b < a
  | [], [] => .inr (.inl rfl)
  | [], y :: ys => .inl (by simp)
  | x :: xs, [] => .inr (.inr (by simp))
  | x :: xs, y :: ys => by
    simp only [List.cons_lt_cons_iff, List.cons.injEq]
    rcases Nat.lt_trichotomy x y with h | h | h
    · exact .inl (.inl h)
    · rcases trich xs ys with q | q | q
      · exact .inl (.inr ⟨h, q⟩)
      · exact .inr (.inl ⟨h, q⟩)
      · exact .inr (.inr (.inr ⟨h.symm, q⟩))
    · exact .inr (.inr (.inl h))
theorem trichL : ∀ a b : List (List Nat), a < b ∨ a = b ∨ b < a
  | [], [] => .inr (.inl rfl)
  | [], y :: ys => .inl (by simp)
  | x :: xs, [] => .inr (.inr (by simp))
  | x :: xs, y :: ys => by
    simp only [List.cons_lt_cons_iff, List.cons.injEq]
    rcases trich x y with h | h | h
    · exact .inl (.inl h)
    · rcases trichL xs ys with q | q | q
      · exact .inl (.inr ⟨h, q⟩)
      · exact .inr (.inl ⟨h, q⟩)
      · exact .inr (.inr (.inr ⟨h.symm, q⟩))
    · exact .inr (.inr (.inl h))
end Mine
end
section
open PySem PySem.W PySem.Calls PySem.Spec PyProof.Rows
set_option maxRecDepth 10000
set_option autoImplicit false
namespace Mine

inductive PV where
  | none
  | bool (b : Bool)
  | int (i : Int)
  | str (l : List Nat)
  | tup (ds : List PV)
  | lst (ds : List PV)
  | adr (a : Addr)

noncomputable abbrev Led := List (Addr × Obj)
noncomputable abbrev tupO (vs : List Value) (n : Nat) : Obj := { cls := .type "tuple", data := .seq vs.toArray n }
noncomputable abbrev lstO (vs : List Value) (n : Nat) : Obj := { cls := .type "list", data := .seq vs.toArray n }

inductive Rd (N : Led) : Value → PV → Prop where
  | none : Rd N .none .none
  | bool (b : Bool) : Rd N (.bool b) (.bool b)
  | int (i : Int) (t : Tok) : Rd N (.int i t) (.int i)
  | adr (a : Addr) : Rd N (.ref a) (.adr a)
  | str (l : List Nat) (t : Tok) (hz : l.length ≤ 1000000) : Rd N (.str ⟨l.toArray⟩ t) (.str l)
  | tup {a : Addr} {vs : List Value} {n : Nat} {ds : List PV} (hm : (a, tupO vs n) ∈ N) (hl : vs.length = ds.length) (hz : ds.length ≤ 1000000)
      (h : ∀ (i : Nat) (v : Value) (d : PV), vs[i]? = some v → ds[i]? = some d → Rd N v d) : Rd N (.ref a) (.tup ds)
  | lst {a : Addr} {vs : List Value} {n : Nat} {ds : List PV} (hm : (a, lstO vs n) ∈ N) (hl : vs.length = ds.length) (hz : ds.length ≤ 1000000)
      (h : ∀ (i : Nat) (v : Value) (d : PV), vs[i]? = some v → ds[i]? = some d → Rd N v d) : Rd N (.ref a) (.lst ds)

theorem Rd.mono {N N' : Led} {v : Value} {d : PV} (h : Rd N v d) (hs : ∀ p ∈ N, p ∈ N') : Rd N' v d := by
  induction h with
  | none => exact .none
  | bool b => exact .bool b
  | int i t => exact .int i t
  | adr a => exact .adr a
  | str l t hz => exact .str l t hz
  | tup hm hl hz _ ih => exact .tup (hs _ hm) hl hz ih
  | lst hm hl hz _ ih => exact .lst (hs _ hm) hl hz ih

theorem Rd.int_inv {N : Led} {v : Value} {i : Int} (h : Rd N v (.int i)) : ∃ t, v = .int i t := by cases h; exact ⟨_, rfl⟩
theorem Rd.bool_inv {N : Led} {v : Value} {b : Bool} (h : Rd N v (.bool b)) : v = .bool b := by cases h; rfl
theorem Rd.none_inv {N : Led} {v : Value} (h : Rd N v .none) : v = .none := by cases h; rfl
theorem Rd.adr_inv {N : Led} {v : Value} {a : Addr} (h : Rd N v (.adr a)) : v = .ref a := by cases h; rfl
theorem Rd.str_inv {N : Led} {v : Value} {l : List Nat} (h : Rd N v (.str l)) : ∃ t, l.length ≤ 1000000 ∧ v = .str ⟨l.toArray⟩ t := by
  cases h with
  | str _ t hz => exact ⟨t, hz, rfl⟩
theorem Rd.lst_inv {N : Led} {v : Value} {ds : List PV} (h : Rd N v (.lst ds)) : ∃ a vs n, (a, lstO vs n) ∈ N ∧ vs.length = ds.length ∧ ds.length ≤ 1000000 ∧ (∀ (i : Nat) (v : Value) (d : PV), vs[i]? = some v → ds[i]? = some d → Rd N v d) ∧ v = .ref a := by
  cases h with
  | @lst a vs n _ hm hl hz hr => exact ⟨a, vs, n, hm, hl, hz, hr, rfl⟩
theorem Rd.tup_inv {N : Led} {v : Value} {ds : List PV} (h : Rd N v (.tup ds)) : ∃ a vs n, (a, tupO vs n) ∈ N ∧ vs.length = ds.length ∧ ds.length ≤ 1000000 ∧ (∀ (i : Nat) (v : Value) (d : PV), vs[i]? = some v → ds[i]? = some d → Rd N v d) ∧ v = .ref a := by
  cases h with
  | @tup a vs n _ hm hl hz hr => exact ⟨a, vs, n, hm, hl, hz, hr, rfl⟩

structure Rds (N : Led) (vs : List Value) (ds : List PV) : Prop where
  len : vs.length = ds.length
  at' : ∀ (i : Nat) (v : Value) (d : PV), vs[i]? = some v → ds[i]? = some d → Rd N v d
theorem Rds.mono {N N' : Led} {vs : List Value} {ds : List PV} (h : Rds N vs ds) (hs : ∀ p ∈ N, p ∈ N') : Rds N' vs ds := ⟨h.len, fun i v d a b => (h.at' i v d a b).mono hs⟩
theorem Rds.nil {N : Led} : Rds N [] [] := ⟨rfl, fun i v d a _ => by simp at a⟩
theorem Rds.cons {N : Led} {v : Value} {vs : List Value} {d : PV} {ds : List PV} (h : Rd N v d) (hs : Rds N vs ds) : Rds N (v :: vs) (d :: ds) :=
  ⟨by simp [hs.len], fun i x e a b => by
    cases i with
    | zero => simp at a b; rw [← a, ← b]; exact h
    | succ i => simp at a b; exact hs.at' i x e a b⟩
theorem Rds.inv {N : Led} {vs : List Value} {d : PV} {ds : List PV} (h : Rds N vs (d :: ds)) : ∃ v vs', vs = v :: vs' ∧ Rd N v d ∧ Rds N vs' ds := by
  cases vs with
  | nil => exact absurd h.len (by simp)
  | cons v vs' => exact ⟨v, vs', rfl, h.at' 0 v d rfl rfl, ⟨by have := h.len; simpa using this, fun i x e a b => h.at' (i + 1) x e (by simpa using a) (by simpa using b)⟩⟩
theorem Rds.inv0 {N : Led} {vs : List Value} (h : Rds N vs []) : vs = [] := List.length_eq_zero_iff.mp (by simpa using h.len)
theorem Rds.app {N : Led} {vs ws : List Value} {ds es : List PV} (h : Rds N vs ds) (k : Rds N ws es) : Rds N (vs ++ ws) (ds ++ es) := by
  induction ds generalizing vs with
  | nil => rw [h.inv0]; exact k
  | cons d ds ih =>
    obtain ⟨v, vs', rfl, h1, h2⟩ := h.inv
    exact .cons h1 (ih h2)

structure Cx where
  dp : Nat
  un : Nat
  gd : Option (List Code)
  fenv : Env
  outer : List Env
  A₀ : Around
  base : Heap
  h₀ : Heap
  L : Addr
  env : Env
noncomputable abbrev Cx.A (c : Cx) : Around := { handled := none, depth := c.dp, frames := some (c.fenv :: c.outer), guards := c.gd, units := c.un }

structure Wd where
  prog : Program
  w : World
  K : Frag
  p : Program
  loose : List Str
  mean : ExcName → Option Value
  mg : Str → Option Value
  mb : Str → Option Value
  sc : Addr
  svs : List Value
  ns : List Int

structure Cx.Ok (W : Wd) (c : Cx) (k : Nat) : Prop where
  below : Below c.A₀ c.base c.outer c.h₀
  kin : W.K.In c.h₀
  top : Top W.p W.loose W.mean W.mg W.mb c.h₀
  fL : c.fenv.frame = some c.L
  fk : c.fenv.scope.kind = .function
  ek : c.env.scope.kind = .function
  eg : c.env.globals = mainGlobals
  eb : c.env.builtins = builtinsNs
  room : c.dp + k < recursionLimit
  units : c.un + 8 * k + 8 < cLine
  scr : c.h₀.IsList W.sc W.svs.toArray

theorem Cx.Ok.mono {W : Wd} {c : Cx} {k k' : Nat} (h : c.Ok W k) (hk : k' ≤ k) : c.Ok W k' :=
  { h with room := Nat.lt_of_le_of_lt (Nat.add_le_add_left hk _) h.room, units := Nat.lt_of_le_of_lt (by have := Nat.mul_le_mul_left 8 hk; omega) h.units }

structure At (c : Cx) (own N : Led) (m : Str → Option Value) (s₀ s : Shared) : Prop where
  same : ∃ h tk, s = { s₀ with heap := h, toks := tk }
  fr : Fr c.h₀ c.L s.heap m
  news : News c.h₀ c.L s.heap (own ++ N)
  disj : ∀ p ∈ N, ∀ q ∈ own, p.1 ≠ q.1

theorem At.self {c : Cx} {own N : Led} {m : Str → Option Value} {s₀ s : Shared} (h : At c own N m s₀ s) : At c own N m s s := ⟨⟨s.heap, s.toks, rfl⟩, h.fr, h.news, h.disj⟩
theorem At.tok {c : Cx} {own N : Led} {m : Str → Option Value} {s₀ s : Shared} {tk : Nat} (h : At c own N m s₀ s) : At c own N m s₀ { s with toks := tk } :=
  ⟨by obtain ⟨h', t, rfl⟩ := h.same; exact ⟨h', tk, rfl⟩, h.fr, h.news, h.disj⟩
theorem At.push {c : Cx} {own N : Led} {m : Str → Option Value} {s₀ s : Shared} (h : At c own N m s₀ s) (o : Obj) (hf : o.isFreed = false := by rfl) :
    At c own ((s.heap.objs.size, o) :: N) m s₀ { s with heap := s.heap.push o } := by
  refine ⟨by obtain ⟨h', t, rfl⟩ := h.same; exact ⟨_, t, rfl⟩, h.fr.push o, fun p hp => ?_, fun p hp q hq => ?_⟩
  · rcases List.mem_append.mp hp with hp | hp
    · exact h.news.push h.fr o hf p (.tail _ (List.mem_append_left _ hp))
    · rcases List.mem_cons.mp hp with rfl | hp
      · exact h.news.push h.fr o hf _ (.head _)
      · exact h.news.push h.fr o hf p (.tail _ (List.mem_append_right _ hp))
  · rcases List.mem_cons.mp hp with rfl | hp
    · exact Nat.ne_of_gt (Heap.lt_size (h.news q (List.mem_append_left _ hq)).1)
    · exact h.disj p hp q hq
theorem At.kin {W : Wd} {c : Cx} {k : Nat} {own N : Led} {m : Str → Option Value} {s₀ s : Shared} (h : At c own N m s₀ s) (ok : c.Ok W k) : W.K.In s.heap := ok.kin.keeps h.fr.keep
theorem At.obj {c : Cx} {own N : Led} {m : Str → Option Value} {s₀ s : Shared} {p : Addr × Obj} (h : At c own N m s₀ s) (hp : p ∈ N) : s.heap.get? p.1 = some p.2 := (h.news p (List.mem_append_right _ hp)).1
theorem At.isTup {c : Cx} {own N : Led} {m : Str → Option Value} {s₀ s : Shared} {a : Addr} {vs : List Value} {n : Nat} (h : At c own N m s₀ s) (hp : (a, tupO vs n) ∈ N) : IsTup s.heap a vs.toArray :=
  ⟨_, h.obj hp, rfl, n, rfl⟩
theorem At.isList {c : Cx} {own N : Led} {m : Str → Option Value} {s₀ s : Shared} {a : Addr} {vs : List Value} {n : Nat} (h : At c own N m s₀ s) (hp : (a, lstO vs n) ∈ N) : s.heap.IsList a vs.toArray :=
  ⟨_, h.obj hp, rfl, n, rfl⟩

noncomputable abbrev PEnv := List (Str × PV)
noncomputable def NmOk (x : Str) : Bool := !(x == ("__debug__" : Str)) && !(x == ("__classdict__" : Str))
noncomputable def Holds1 (c : Cx) (N : Led) (lm : Str → Option Value) (x : Str) (v : Value) : Prop :=
  NmOk x = true ∧ ((c.env.kindOf x = some .local ∧ lm x = some v) ∨
  ((c.env.kindOf x = some .cell ∨ c.env.kindOf x = some .free) ∧ ∃ a o, c.env.cells.lookup x = some a ∧ (a, o) ∈ N ∧ o.data = .cell (some v)))
noncomputable def EnvRd (c : Cx) (N : Led) (lm : Str → Option Value) (ρ : PEnv) : Prop := ∀ p ∈ ρ, ∃ v, Rd N v p.2 ∧ Holds1 c N lm p.1 v
theorem EnvRd.mono {c : Cx} {N N' : Led} {lm : Str → Option Value} {ρ : PEnv} (h : EnvRd c N lm ρ) (hs : ∀ p ∈ N, p ∈ N') : EnvRd c N' lm ρ := fun p hp => by
  obtain ⟨v, r, q⟩ := h p hp
  refine ⟨v, r.mono hs, q.1, q.2.imp id fun ⟨k, a, o, h1, h2, h3⟩ => ⟨k, a, o, h1, hs _ h2, h3⟩⟩
theorem EnvRd.sub {c : Cx} {N : Led} {lm : Str → Option Value} {ρ ρ' : PEnv} (h : EnvRd c N lm ρ) (hs : ∀ p ∈ ρ', p ∈ ρ) : EnvRd c N lm ρ' := fun p hp => h p (hs p hp)
noncomputable def NsOk (c : Cx) (own : Led) (m lm : Str → Option Value) : Prop := ∀ h, Fr c.h₀ c.L h m → News c.h₀ c.L h own → h.Ns c.env.locals lm
theorem At.ns {c : Cx} {own N : Led} {m lm : Str → Option Value} {s₀ s : Shared} (h : At c own N m s₀ s) (hn : NsOk c own m lm) : s.heap.Ns c.env.locals lm := hn _ h.fr fun p hp => h.news p (List.mem_append_left _ hp)

inductive Post (c : Cx) (own N : Led) (m : Str → Option Value) (s₀ : Shared) (d : PV) (v : Value) (s : Shared) : Prop where
  | mk (N' : Led) (sb : ∀ p ∈ N, p ∈ N') (at' : At c own N' m s₀ s) (r : Rd N' v d) : Post c own N m s₀ d v s
theorem Post.of {c : Cx} {own N N' : Led} {m : Str → Option Value} {s₀ s : Shared} {d : PV} {v : Value} (hs : ∀ p ∈ N, p ∈ N') (h : At c own N' m s₀ s) (r : Rd N' v d) : Post c own N m s₀ d v s := ⟨N', hs, h, r⟩
theorem Post.sub {c : Cx} {own N N' : Led} {m : Str → Option Value} {s₀ s : Shared} {d : PV} {v : Value} (hs : ∀ p ∈ N, p ∈ N') (h : Post c own N' m s₀ d v s) : Post c own N m s₀ d v s :=
  let ⟨N'', h1, h2, h3⟩ := h; ⟨N'', fun p hp => h1 p (hs p hp), h2, h3⟩
noncomputable abbrev noE : Value → Shared → Prop := fun _ _ => False

noncomputable def Ev (W : Wd) (k : Nat) (cs : Scope) (ρ : PEnv) (e : Expr) (d : PV) : Prop :=
  ∀ (c : Cx) (own N : Led) (m lm : Str → Option Value) (s₀ s : Shared), c.Ok W k → c.env.scope = cs → NsOk c own m lm → At c own N m s₀ s → EnvRd c N lm ρ →
    wpAny (model W.prog W.w) c.A (eval e c.env) (Post c own N m s₀ d) noE s
noncomputable def Ts (W : Wd) (k : Nat) (cs : Scope) (ρ : PEnv) (e : Expr) (b : Bool) : Prop :=
  ∀ (c : Cx) (own N : Led) (m lm : Str → Option Value) (s₀ s : Shared), c.Ok W k → c.env.scope = cs → NsOk c own m lm → At c own N m s₀ s → EnvRd c N lm ρ →
    wpAny (model W.prog W.w) c.A (isTrue e c.env (eval e c.env)) (fun b' s' => b' = b ∧ ∃ N', (∀ p ∈ N, p ∈ N') ∧ At c own N' m s₀ s') noE s

noncomputable def Sm (W : Wd) (k : Nat) (ds : List PV) (t : Cx → List Value → Sem Value) (d : PV) : Prop :=
  ∀ (c : Cx) (own N : Led) (m : Str → Option Value) (s₀ s : Shared) (vs : List Value), c.Ok W k → At c own N m s₀ s → Rds N vs ds →
    wpAny (model W.prog W.w) c.A (t c vs) (Post c own N m s₀ d) noE s
noncomputable def Op1 (W : Wd) (d₁ : PV) (t : Value → Sem Value) (d : PV) : Prop :=
  ∀ (c : Cx) (own N : Led) (m : Str → Option Value) (s₀ s : Shared) (a : Value), c.Ok W 0 → At c own N m s₀ s → Rd N a d₁ →
    wpAny (model W.prog W.w) c.A (t a) (Post c own N m s₀ d) noE s
noncomputable def Op2 (W : Wd) (d₁ d₂ : PV) (t : Value → Value → Sem Value) (d : PV) : Prop :=
  ∀ (c : Cx) (own N : Led) (m : Str → Option Value) (s₀ s : Shared) (a b : Value), c.Ok W 0 → At c own N m s₀ s → Rd N a d₁ → Rd N b d₂ →
    wpAny (model W.prog W.w) c.A (t a b) (Post c own N m s₀ d) noE s

section rules
variable {W : Wd} {k : Nat} {cs : Scope} {ρ : PEnv}

theorem Ev.go {e : Expr} {d : PV} (h : Ev W k cs ρ e d) {c : Cx} {own N N1 : Led} {m lm : Str → Option Value} {s₀ s : Shared} (ok : c.Ok W k) (hc : c.env.scope = cs) (hns : NsOk c own m lm) (at' : At c own N1 m s₀ s) (he : EnvRd c N1 lm ρ) (sb : ∀ p ∈ N, p ∈ N1) : wpAny (model W.prog W.w) c.A (eval e c.env) (Post c own N m s₀ d) noE s :=
  wpAny_mono (h c own N1 m lm s₀ s ok hc hns at' he) (fun v s1 q => q.sub sb) fun _ _ x => x
theorem Ev.use {e : Expr} {d : PV} (h : Ev W k cs ρ e d) {c : Cx} {own N : Led} {m lm : Str → Option Value} {s₀ s : Shared} {Q : Value → Shared → Prop} (ok : c.Ok W k) (hc : c.env.scope = cs) (hns : NsOk c own m lm) (at' : At c own N m s₀ s) (he : EnvRd c N lm ρ)
    (hq : ∀ v s1 N1, (∀ p ∈ N, p ∈ N1) → At c own N1 m s₀ s1 → Rd N1 v d → Q v s1) : wpAny (model W.prog W.w) c.A (eval e c.env) Q noE s :=
  wpAny_mono (h c own N m lm s₀ s ok hc hns at' he) (fun v s1 ⟨N1, sb1, at1, r1⟩ => hq v s1 N1 sb1 at1 r1) fun _ _ x => x
theorem Ev.mono {k' : Nat} {e : Expr} {d : PV} (h : Ev W k cs ρ e d) (hk : k ≤ k') : Ev W k' cs ρ e d := fun c own N m lm s₀ s ok hs hn at' he => h c own N m lm s₀ s (ok.mono hk) hs hn at' he
theorem Ev.sub {ρ' : PEnv} {e : Expr} {d : PV} (h : Ev W k cs ρ e d) (hs : ∀ p ∈ ρ, p ∈ ρ') : Ev W k cs ρ' e d := fun c own N m lm s₀ s ok hc hn at' he => h c own N m lm s₀ s ok hc hn at' (he.sub hs)

theorem Ev.int {i : Int} {kd : Nat} {pos : Pos} : Ev W k cs ρ (.Constant (.int i) kd pos) (.int i) :=
  fun c own N m lm s₀ s ok hc hn at' he => wpAny_Constant_int ⟨N, fun _ h => h, at'.tok, .int _ _⟩
theorem Ev.bool {b : Bool} {kd : Nat} {pos : Pos} : Ev W k cs ρ (.Constant (.bool b) kd pos) (.bool b) :=
  fun c own N m lm s₀ s ok hc hn at' he => wpAny_Constant_bool ⟨N, fun _ h => h, at', .bool _⟩
theorem Ev.none {kd : Nat} {pos : Pos} : Ev W k cs ρ (.Constant .none kd pos) .none :=
  fun c own N m lm s₀ s ok hc hn at' he => wpAny_Constant_none ⟨N, fun _ h => h, at', .none⟩
theorem Ev.str {x : Str} {kd : Nat} {pos : Pos} {l : List Nat} (hx : x = ⟨l.toArray⟩) (hz : l.length ≤ 1000000 := by decide) : Ev W k cs ρ (.Constant (.str x) kd pos) (.str l) :=
  fun c own N m lm s₀ s ok hc hn at' he => wpAny_Constant_str ⟨N, fun _ h => h, at'.tok, hx ▸ Rd.str l _ hz⟩

theorem Ev.name {x : Str} {pos : Pos} {d : PV} (hm : (x, d) ∈ ρ) : Ev W k cs ρ (.Name x pos) d := by
  intro c own N m lm s₀ s ok hc hns at' he
  obtain ⟨v, r, hno, hh⟩ := he _ hm
  obtain ⟨hd, hn⟩ : (x == ("__debug__" : Str)) = false ∧ (x == ("__classdict__" : Str)) = false := by simpa [NmOk] using hno
  rcases hh with h | ⟨h | h, a, o, h1, h2, h3⟩
  · exact wpAny_Name (wpAny_loadName_local ok.ek h.1 (at'.ns hns) h.2 ⟨N, fun _ h => h, at', r⟩) hd
  · exact wpAny_Name (wpAny_loadName_cell ok.ek h h1 ⟨o, at'.obj h2, h3⟩ ⟨N, fun _ h => h, at', r⟩) hd
  · exact wpAny_Name (wpAny_loadName_free ok.ek h h1 ⟨o, at'.obj h2, h3⟩ ⟨N, fun _ h => h, at', r⟩ hn) hd

theorem Ev.binop {l r : Expr} {op : Operator} {pos : Pos} {d₁ d₂ d : PV} (h1 : Ev W k cs ρ l d₁) (h2 : Ev W k cs ρ r d₂) (ho : Op2 W d₁ d₂ (fun a b => binaryOp op a b) d) : Ev W k cs ρ (.BinOp l op r pos) d := by
  intro c own N m lm s₀ s ok hc hns at' he
  refine wpAny_BinOp (Ev.use (h1) ok hc hns at' he fun a s1 N1 sb1 at1 r1 => ?_)
  refine Ev.use (h2) ok hc hns at1 (he.mono sb1) fun b s2 N2 sb2 at2 r2 => ?_
  exact wpAny_mono (ho c own N2 m s₀ s2 a b (ok.mono (Nat.zero_le _)) at2 (r1.mono sb2) r2) (fun v s3 q => q.sub fun p hp => sb2 p (sb1 p hp)) fun _ _ x => x
theorem Ev.unop {x : Expr} {op : UnaryOp} {pos : Pos} {d₁ d : PV} (h1 : Ev W k cs ρ x d₁) (ho : Op1 W d₁ (fun a => unaryOp op a) d) : Ev W k cs ρ (.UnaryOp op x pos) d := by
  intro c own N m lm s₀ s ok hc hns at' he
  refine wpAny_UnaryOp (Ev.use (h1) ok hc hns at' he fun a s1 N1 sb1 at1 r1 => ?_)
  exact wpAny_mono (ho c own N1 m s₀ s1 a (ok.mono (Nat.zero_le _)) at1 r1) (fun v s3 q => q.sub sb1) fun _ _ x => x
theorem Ev.cmp {l r : Expr} {op : CmpOp} {pos : Pos} {d₁ d₂ d : PV} (h1 : Ev W k cs ρ l d₁) (h2 : Ev W k cs ρ r d₂) (ho : Op2 W d₁ d₂ (fun a b => compareOp op a b) d) (hb : behindInMarks op r = false := by rfl) : Ev W k cs ρ (.Compare l [op] [r] pos) d := by
  intro c own N m lm s₀ s ok hc hns at' he
  refine wpAny_Compare1 (Ev.use (h1) ok hc hns at' he fun a s1 N1 sb1 at1 r1 => ?_) hb
  refine Ev.use (h2) ok hc hns at1 (he.mono sb1) fun b s2 N2 sb2 at2 r2 => ?_
  exact wpAny_mono (ho c own N2 m s₀ s2 a b (ok.mono (Nat.zero_le _)) at2 (r1.mono sb2) r2) (fun v s3 q => q.sub fun p hp => sb2 p (sb1 p hp)) fun _ _ x => x

theorem op_add {i j : Int} : Op2 W (.int i) (.int j) (fun a b => binaryOp .Add a b) (.int (i + j)) := fun c own N m s₀ s a b ok at' ra rb => by
  obtain ⟨_, rfl⟩ := ra.int_inv; obtain ⟨_, rfl⟩ := rb.int_inv; with_reducible refine add_int ?_; exact Post.of (fun _ h => h) at'.tok (.int _ _)
theorem op_sub {i j : Int} : Op2 W (.int i) (.int j) (fun a b => binaryOp .Sub a b) (.int (i - j)) := fun c own N m s₀ s a b ok at' ra rb => by
  obtain ⟨_, rfl⟩ := ra.int_inv; obtain ⟨_, rfl⟩ := rb.int_inv; with_reducible refine sub_int ?_; exact Post.of (fun _ h => h) at'.tok (.int _ _)
theorem op_mul {i j : Int} (h : IntMulOk i j) : Op2 W (.int i) (.int j) (fun a b => binaryOp .Mult a b) (.int (i * j)) := fun c own N m s₀ s a b ok at' ra rb => by
  obtain ⟨_, rfl⟩ := ra.int_inv; obtain ⟨_, rfl⟩ := rb.int_inv; with_reducible refine mul_int ?_ h; exact Post.of (fun _ h => h) at'.tok (.int _ _)
theorem op_mod {i j : Int} (h : j ≠ 0) : Op2 W (.int i) (.int j) (fun a b => binaryOp .Mod a b) (.int (Int.fmod i j)) := fun c own N m s₀ s a b ok at' ra rb => by
  obtain ⟨_, rfl⟩ := ra.int_inv; obtain ⟨_, rfl⟩ := rb.int_inv; with_reducible refine mod_int h ?_; exact Post.of (fun _ h => h) at'.tok (.int _ _)
theorem op_pow {i j : Int} (h0 : 0 ≤ j) (h1 : j ≤ 1000000) (h2 : i.natAbs < 2 ^ 64) : Op2 W (.int i) (.int j) (fun a b => binaryOp .Pow a b) (.int (i ^ j.toNat)) := fun c own N m s₀ s a b ok at' ra rb => by
  obtain ⟨_, rfl⟩ := ra.int_inv; obtain ⟨_, rfl⟩ := rb.int_inv; with_reducible refine pow_int_small h0 h1 h2 ?_; exact Post.of (fun _ h => h) at'.tok (.int _ _)
theorem op_neg {i : Int} : Op1 W (.int i) (fun a => unaryOp .USub a) (.int (-i)) := fun c own N m s₀ s a ok at' ra => by
  obtain ⟨_, rfl⟩ := ra.int_inv; with_reducible refine neg_int ?_; exact Post.of (fun _ h => h) at'.tok (.int _ _)
theorem op_lt {i j : Int} : Op2 W (.int i) (.int j) (fun a b => compareOp .Lt a b) (.bool (decide (i < j))) := fun c own N m s₀ s a b ok at' ra rb => by
  obtain ⟨_, rfl⟩ := ra.int_inv; obtain ⟨_, rfl⟩ := rb.int_inv; with_reducible refine lt_int ?_; exact Post.of (fun _ h => h) at' (.bool _)
theorem op_le {i j : Int} : Op2 W (.int i) (.int j) (fun a b => compareOp .LtE a b) (.bool (decide (i ≤ j))) := fun c own N m s₀ s a b ok at' ra rb => by
  obtain ⟨_, rfl⟩ := ra.int_inv; obtain ⟨_, rfl⟩ := rb.int_inv; with_reducible refine le_int ?_; exact Post.of (fun _ h => h) at' (.bool _)
theorem op_gt {i j : Int} : Op2 W (.int i) (.int j) (fun a b => compareOp .Gt a b) (.bool (decide (j < i))) := fun c own N m s₀ s a b ok at' ra rb => by
  obtain ⟨_, rfl⟩ := ra.int_inv; obtain ⟨_, rfl⟩ := rb.int_inv; with_reducible refine gt_int ?_; exact Post.of (fun _ h => h) at' (.bool _)
theorem op_ge {i j : Int} : Op2 W (.int i) (.int j) (fun a b => compareOp .GtE a b) (.bool (decide (j ≤ i))) := fun c own N m s₀ s a b ok at' ra rb => by
  obtain ⟨_, rfl⟩ := ra.int_inv; obtain ⟨_, rfl⟩ := rb.int_inv; with_reducible refine ge_int ?_; exact Post.of (fun _ h => h) at' (.bool _)
theorem op_eq {i j : Int} : Op2 W (.int i) (.int j) (fun a b => compareOp .Eq a b) (.bool (i == j)) := fun c own N m s₀ s a b ok at' ra rb => by
  obtain ⟨_, rfl⟩ := ra.int_inv; obtain ⟨_, rfl⟩ := rb.int_inv; with_reducible refine eq_int ?_; exact Post.of (fun _ h => h) at' (.bool _)
theorem op_ne {i j : Int} : Op2 W (.int i) (.int j) (fun a b => compareOp .NotEq a b) (.bool (i != j)) := fun c own N m s₀ s a b ok at' ra rb => by
  obtain ⟨_, rfl⟩ := ra.int_inv; obtain ⟨_, rfl⟩ := rb.int_inv; with_reducible refine ne_int ?_; exact Post.of (fun _ h => h) at' (.bool _)
theorem str_beq (l r : List Nat) : ((⟨l.toArray⟩ : Str) == ⟨r.toArray⟩) = (l == r) := by
  rw [Bool.eq_iff_iff, beq_iff_eq, beq_iff_eq, Str.mk.injEq]; exact ⟨fun h => by simpa using congrArg Array.toList h, fun h => by rw [h]⟩
theorem op_slt {l r : List Nat} : Op2 W (.str l) (.str r) (fun a b => compareOp .Lt a b) (.bool (decide (l < r))) := fun c own N m s₀ s a b ok at' ra rb => by
  obtain ⟨_, _, rfl⟩ := ra.str_inv; obtain ⟨_, _, rfl⟩ := rb.str_inv; with_reducible refine lt_str ?_; exact Post.of (fun _ h => h) at' (.bool _)
theorem op_seq {l r : List Nat} : Op2 W (.str l) (.str r) (fun a b => compareOp .Eq a b) (.bool (l == r)) := fun c own N m s₀ s a b ok at' ra rb => by
  obtain ⟨_, _, rfl⟩ := ra.str_inv; obtain ⟨_, _, rfl⟩ := rb.str_inv; with_reducible refine eq_str ?_; exact Post.of (fun _ h => h) at' (by rw [str_beq]; exact .bool _)
theorem op_sne {l r : List Nat} : Op2 W (.str l) (.str r) (fun a b => compareOp .NotEq a b) (.bool (l != r)) := fun c own N m s₀ s a b ok at' ra rb => by
  obtain ⟨_, _, rfl⟩ := ra.str_inv; obtain ⟨_, _, rfl⟩ := rb.str_inv; with_reducible refine ne_str ?_; exact Post.of (fun _ h => h) at' (by rw [bne, bne, str_beq]; exact .bool _)
end rules
end Mine
end
section
open PySem PySem.W PySem.Calls PySem.Spec PyProof.Rows
set_option maxRecDepth 10000
set_option autoImplicit false
namespace Mine
section rules2
variable {W : Wd} {k : Nat} {cs : Scope} {ρ : PEnv}

theorem Ev.conv {e : Expr} {d d' : PV} (h : Ev W k cs ρ e d) (q : d = d') : Ev W k cs ρ e d' := q ▸ h
theorem Ts.conv {e : Expr} {b b' : Bool} (h : Ts W k cs ρ e b) (q : b = b') : Ts W k cs ρ e b' := q ▸ h
theorem Ts.mono {k' : Nat} {e : Expr} {d : Bool} (h : Ts W k cs ρ e d) (hk : k ≤ k') : Ts W k' cs ρ e d := fun c own N m lm s₀ s ok hs hn at' he => h c own N m lm s₀ s (ok.mono hk) hs hn at' he

theorem truthy_rd {c : Cx} {own N : Led} {m : Str → Option Value} {s₀ s : Shared} {v : Value} {b : Bool} (at' : At c own N m s₀ s) (r : Rd N v (.bool b)) {N₀ : Led} (hs : ∀ p ∈ N₀, p ∈ N) :
    wpAny (model W.prog W.w) c.A (truthy v) (fun b' s' => b' = b ∧ ∃ N', (∀ p ∈ N₀, p ∈ N') ∧ At c own N' m s₀ s') noE s := by
  obtain rfl := r.bool_inv; exact wpAny_truthy_bool ⟨rfl, N, hs, at'⟩

theorem Ts.plain {e : Expr} {b : Bool} (h : Ev W k cs ρ e (.bool b)) (hp : ∀ env whole, isTrue e env whole = (do let v ← whole; standAt e.pos; holding [v] (truthy v)) := by intros; rfl) : Ts W k cs ρ e b := by
  intro c own N m lm s₀ s ok hc hns at' he
  refine isTrue_plain (Ev.use (h) ok hc hns at' he fun v s1 N1 sb1 at1 r1 => ?_) (hp _ _)
  exact truthy_rd at1 r1 sb1
theorem Ts.cmp {l r : Expr} {op : CmpOp} {pos : Pos} {d₁ d₂ : PV} {b : Bool} (h1 : Ev W k cs ρ l d₁) (h2 : Ev W k cs ρ r d₂) (ho : Op2 W d₁ d₂ (fun a b => compareOp op a b) (.bool b)) (hb : behindInMarks op r = false := by rfl) : Ts W k cs ρ (.Compare l [op] [r] pos) b := by
  intro c own N m lm s₀ s ok hc hns at' he
  refine wpAny_isTrue_Compare1 (Ev.use (h1) ok hc hns at' he fun a s1 N1 sb1 at1 r1 => ?_) hb
  refine Ev.use (h2) ok hc hns at1 (he.mono sb1) fun b s2 N2 sb2 at2 r2 => ?_
  refine wpAny_mono (ho c own N2 m s₀ s2 a b (ok.mono (Nat.zero_le _)) at2 (r1.mono sb2) r2) (fun v s3 ⟨N3, sb3, at3, r3⟩ => ?_) fun _ _ x => x
  exact truthy_rd at3 r3 fun p hp => sb3 p (sb2 p (sb1 p hp))
theorem Ts.not {x : Expr} {pos : Pos} {b : Bool} (h : Ts W k cs ρ x b) : Ts W k cs ρ (.UnaryOp .Not x pos) (!b) := by
  intro c own N m lm s₀ s ok hc hns at' he
  exact isTrue_not (wpAny_mono (h c own N m lm s₀ s ok hc hns at' he) (fun b' s' h' => ⟨by rw [h'.1], h'.2⟩) fun _ _ x => x)
theorem Ts.and_nil {pos : Pos} : Ts W k cs ρ (.BoolOp .And [] pos) true := fun c own N m lm s₀ s ok hc hns at' he => isTrue_and_nil ⟨rfl, N, fun _ h => h, at'⟩
theorem Ts.or_nil {pos : Pos} : Ts W k cs ρ (.BoolOp .Or [] pos) false := fun c own N m lm s₀ s ok hc hns at' he => isTrue_or_nil ⟨rfl, N, fun _ h => h, at'⟩
theorem Ts.and_cons {x : Expr} {rest : List Expr} {pos : Pos} {b₁ b₂ : Bool} (h : Ts W k cs ρ x b₁) (h2 : b₁ = true → Ts W k cs ρ (.BoolOp .And rest pos) b₂) : Ts W k cs ρ (.BoolOp .And (x :: rest) pos) (b₁ && b₂) := by
  intro c own N m lm s₀ s ok hc hns at' he
  refine isTrue_and (wpAny_mono (h c own N m lm s₀ s ok hc hns at' he) (fun b' s' h' => ?_) fun _ _ x => x)
  obtain ⟨rfl, N1, sb1, at1⟩ := h'
  cases b' with
  | false => exact ⟨rfl, N1, sb1, at1⟩
  | true =>
    simp only [if_true, Bool.true_and]
    exact wpAny_mono (h2 rfl c own N1 m lm s₀ s' ok hc hns at1 (he.mono sb1)) (fun b'' s'' h'' => ⟨h''.1, h''.2.choose, fun p hp => h''.2.choose_spec.1 p (sb1 p hp), h''.2.choose_spec.2⟩) fun _ _ x => x
theorem Ts.or_cons {x : Expr} {rest : List Expr} {pos : Pos} {b₁ b₂ : Bool} (h : Ts W k cs ρ x b₁) (h2 : b₁ = false → Ts W k cs ρ (.BoolOp .Or rest pos) b₂) : Ts W k cs ρ (.BoolOp .Or (x :: rest) pos) (b₁ || b₂) := by
  intro c own N m lm s₀ s ok hc hns at' he
  refine isTrue_or (wpAny_mono (h c own N m lm s₀ s ok hc hns at' he) (fun b' s' h' => ?_) fun _ _ x => x)
  obtain ⟨rfl, N1, sb1, at1⟩ := h'
  cases b' with
  | true => exact ⟨rfl, N1, sb1, at1⟩
  | false =>
    simp only [Bool.false_eq_true, if_false, Bool.false_or]
    exact wpAny_mono (h2 rfl c own N1 m lm s₀ s' ok hc hns at1 (he.mono sb1)) (fun b'' s'' h'' => ⟨h''.1, h''.2.choose, fun p hp => h''.2.choose_spec.1 p (sb1 p hp), h''.2.choose_spec.2⟩) fun _ _ x => x
theorem Ts.chain2 {l r₁ r₂ : Expr} {op₁ op₂ : CmpOp} {pos : Pos} {d₁ d₂ d₃ : PV} {b₁ b₂ : Bool} (h1 : Ev W k cs ρ l d₁) (h2 : Ev W k cs ρ r₁ d₂) (h3 : Ev W k cs ρ r₂ d₃)
    (ho1 : Op2 W d₁ d₂ (fun a b => compareOp op₁ a b) (.bool b₁)) (ho2 : Op2 W d₂ d₃ (fun a b => compareOp op₂ a b) (.bool b₂)) (hb : lastMarks [op₁, op₂] [r₁, r₂] = false := by rfl) : Ts W k cs ρ (.Compare l [op₁, op₂] [r₁, r₂] pos) (b₁ && b₂) := by
  intro c own N m lm s₀ s ok hc hns at' he
  refine isTrue_chain (Ev.use (h1) ok hc hns at' he fun a s1 N1 sb1 at1 r1 => ?_) hb
  refine test_link (Ev.use (h2) ok hc hns at1 (he.mono sb1) fun b s2 N2 sb2 at2 r2 => ?_)
  refine wpAny_mono (ho1 c own N2 m s₀ s2 a b (ok.mono (Nat.zero_le _)) at2 (r1.mono sb2) r2) (fun v s3 ⟨N3, sb3, at3, r3⟩ => ?_) fun _ _ x => x
  have sb13 : ∀ p ∈ N, p ∈ N3 := fun p hp => sb3 p (sb2 p (sb1 p hp))
  refine wpAny_mono (truthy_rd at3 r3 (N₀ := N3) fun _ h => h) (fun t s4 h4 => ?_) fun _ _ x => x
  obtain ⟨rfl, N4, sb4, at4⟩ := h4
  cases t with
  | false => exact ⟨rfl, N4, fun p hp => sb4 p (sb13 p hp), at4⟩
  | true =>
    simp only [if_true, Bool.true_and]
    refine test_last (Ev.use (h3) ok hc hns at4 (he.mono fun p hp => sb4 p (sb13 p hp)) fun b2 s5 N5 sb5 at5 r5 => ?_)
    refine wpAny_mono (ho2 c own N5 m s₀ s5 b b2 (ok.mono (Nat.zero_le _)) at5 (r2.mono fun p hp => sb5 p (sb4 p (sb3 p hp))) r5) (fun v s6 ⟨N6, sb6, at6, r6⟩ => ?_) fun _ _ x => x
    exact truthy_rd at6 r6 fun p hp => sb6 p (sb5 p (sb4 p (sb13 p hp)))
theorem Ev.chain2 {l r₁ r₂ : Expr} {op₁ op₂ : CmpOp} {pos : Pos} {d₁ d₂ d₃ : PV} {b₁ b₂ : Bool} (h1 : Ev W k cs ρ l d₁) (h2 : Ev W k cs ρ r₁ d₂) (h3 : Ev W k cs ρ r₂ d₃)
    (ho1 : Op2 W d₁ d₂ (fun a b => compareOp op₁ a b) (.bool b₁)) (ho2 : Op2 W d₂ d₃ (fun a b => compareOp op₂ a b) (.bool b₂)) (hb : lastMarks [op₁, op₂] [r₁, r₂] = false := by rfl) : Ev W k cs ρ (.Compare l [op₁, op₂] [r₁, r₂] pos) (.bool (b₁ && b₂)) := by
  intro c own N m lm s₀ s ok hc hns at' he
  refine Compare_chain (Ev.use (h1) ok hc hns at' he fun a s1 N1 sb1 at1 r1 => ?_) hb
  refine chain_link (Ev.use (h2) ok hc hns at1 (he.mono sb1) fun b s2 N2 sb2 at2 r2 => ?_)
  refine wpAny_mono (ho1 c own N2 m s₀ s2 a b (ok.mono (Nat.zero_le _)) at2 (r1.mono sb2) r2) (fun v s3 ⟨N3, sb3, at3, r3⟩ => ?_) fun _ _ x => x
  have sb13 : ∀ p ∈ N, p ∈ N3 := fun p hp => sb3 p (sb2 p (sb1 p hp))
  refine wpAny_mono (truthy_rd at3 r3 (N₀ := N3) fun _ h => h) (fun t s4 h4 => ?_) fun _ _ x => x
  obtain ⟨rfl, N4, sb4, at4⟩ := h4
  cases t with
  | false =>
    obtain rfl := r3.bool_inv
    exact ⟨N4, fun p hp => sb4 p (sb13 p hp), at4, .bool _⟩
  | true =>
    simp only [if_true, Bool.true_and]
    refine chain_last (Ev.use (h3) ok hc hns at4 (he.mono fun p hp => sb4 p (sb13 p hp)) fun b2 s5 N5 sb5 at5 r5 => ?_)
    refine wpAny_mono (ho2 c own N5 m s₀ s5 b b2 (ok.mono (Nat.zero_le _)) at5 (r2.mono fun p hp => sb5 p (sb4 p (sb3 p hp))) r5) (fun v s6 q6 => ?_) fun _ _ x => x
    exact q6.sub fun p hp => sb5 p (sb4 p (sb13 p hp))
theorem Ev.bool_one {op : BoolOp} {e : Expr} {pos : Pos} {d : PV} (h : Ev W k cs ρ e d) : Ev W k cs ρ (.BoolOp op [e] pos) d :=
  fun c own N m lm s₀ s ok hc hns at' he => BoolOp_one (h c own N m lm s₀ s ok hc hns at' he)
theorem Ev.bool_and {e₁ e₂ : Expr} {rest : List Expr} {pos : Pos} {b₁ b₂ : Bool} (h : Ev W k cs ρ e₁ (.bool b₁)) (h2 : b₁ = true → Ev W k cs ρ (.BoolOp .And (e₂ :: rest) pos) (.bool b₂)) : Ev W k cs ρ (.BoolOp .And (e₁ :: e₂ :: rest) pos) (.bool (b₁ && b₂)) := by
  intro c own N m lm s₀ s ok hc hns at' he
  refine BoolOp_and (Ev.use (h) ok hc hns at' he fun v s1 N1 sb1 at1 r1 => ?_)
  refine wpAny_mono (truthy_rd at1 r1 (N₀ := N1) fun _ h => h) (fun t s4 h4 => ?_) fun _ _ x => x
  obtain ⟨rfl, N4, sb4, at4⟩ := h4
  cases t with
  | false => obtain rfl := r1.bool_inv; exact ⟨N4, fun p hp => sb4 p (sb1 p hp), at4, .bool _⟩
  | true =>
    simp only [if_true, Bool.true_and]
    exact wpAny_mono (h2 rfl c own N4 m lm s₀ s4 ok hc hns at4 (he.mono fun p hp => sb4 p (sb1 p hp))) (fun v s' q => q.sub fun p hp => sb4 p (sb1 p hp)) fun _ _ x => x
theorem Ev.bool_or {e₁ e₂ : Expr} {rest : List Expr} {pos : Pos} {b₁ b₂ : Bool} (h : Ev W k cs ρ e₁ (.bool b₁)) (h2 : b₁ = false → Ev W k cs ρ (.BoolOp .Or (e₂ :: rest) pos) (.bool b₂)) : Ev W k cs ρ (.BoolOp .Or (e₁ :: e₂ :: rest) pos) (.bool (b₁ || b₂)) := by
  intro c own N m lm s₀ s ok hc hns at' he
  refine BoolOp_or (Ev.use (h) ok hc hns at' he fun v s1 N1 sb1 at1 r1 => ?_)
  refine wpAny_mono (truthy_rd at1 r1 (N₀ := N1) fun _ h => h) (fun t s4 h4 => ?_) fun _ _ x => x
  obtain ⟨rfl, N4, sb4, at4⟩ := h4
  cases t with
  | true => obtain rfl := r1.bool_inv; exact ⟨N4, fun p hp => sb4 p (sb1 p hp), at4, .bool _⟩
  | false =>
    simp only [Bool.false_eq_true, if_false, Bool.false_or]
    exact wpAny_mono (h2 rfl c own N4 m lm s₀ s4 ok hc hns at4 (he.mono fun p hp => sb4 p (sb1 p hp))) (fun v s' q => q.sub fun p hp => sb4 p (sb1 p hp)) fun _ _ x => x
theorem Ev.ife {test body orelse : Expr} {pos : Pos} {b : Bool} {d : PV} (h : Ts W k cs ρ test b) (h1 : b = true → Ev W k cs ρ body d) (h2 : b = false → Ev W k cs ρ orelse d) : Ev W k cs ρ (.IfExp test body orelse pos) d := by
  intro c own N m lm s₀ s ok hc hns at' he
  refine wpAny_IfExp (wpAny_mono (h c own N m lm s₀ s ok hc hns at' he) (fun t s4 h4 => ?_) fun _ _ x => x)
  obtain ⟨rfl, N4, sb4, at4⟩ := h4
  cases t with
  | true =>
    simp only [if_true]
    exact Ev.go (h1 rfl) ok hc hns at4 (he.mono sb4) sb4
  | false =>
    simp only [Bool.false_eq_true, if_false]
    exact Ev.go (h2 rfl) ok hc hns at4 (he.mono sb4) sb4
theorem op_not {b : Bool} : Op1 W (.bool b) (fun a => unaryOp .Not a) (.bool (!b)) := fun c own N m s₀ s a ok at' ra => by
  refine not_of (wpAny_mono (truthy_rd at' ra (N₀ := N) fun _ h => h) (fun t s4 h4 => ?_) fun _ _ x => x)
  obtain ⟨rfl, N4, sb4, at4⟩ := h4
  exact ⟨N4, sb4, at4, .bool _⟩
theorem op_sle {l r : List Nat} : Op2 W (.str l) (.str r) (fun a b => compareOp .LtE a b) (.bool (!decide (r < l))) := fun c own N m s₀ s a b ok at' ra rb => by
  obtain ⟨_, _, rfl⟩ := ra.str_inv; obtain ⟨_, _, rfl⟩ := rb.str_inv; with_reducible refine P.le_str ?_; exact Post.of (fun _ h => h) at' (.bool _)

noncomputable def Evs (W : Wd) (k : Nat) (cs : Scope) (ρ : PEnv) (es : List Expr) (ds : List PV) : Prop :=
  ∀ (c : Cx) (own N : Led) (m lm : Str → Option Value) (s₀ s : Shared) (pos : Pos), c.Ok W k → c.env.scope = cs → NsOk c own m lm → At c own N m s₀ s → EnvRd c N lm ρ →
    wpAny (model W.prog W.w) c.A (spliced (backTo pos (starEach es c.env))) (fun vs s' => ∃ N', (∀ p ∈ N, p ∈ N') ∧ At c own N' m s₀ s' ∧ Rds N' vs ds) noE s
theorem Evs.nil : Evs W k cs ρ [] [] := fun c own N m lm s₀ s pos ok hc hns at' he => wpAny_pure ⟨N, fun _ h => h, at', .nil⟩
theorem Evs.use {es : List Expr} {ds : List PV} (h : Evs W k cs ρ es ds) {c : Cx} {own N : Led} {m lm : Str → Option Value} {s₀ s : Shared} {pos : Pos} {Q : List Value → Shared → Prop} (ok : c.Ok W k) (hc : c.env.scope = cs) (hns : NsOk c own m lm) (at' : At c own N m s₀ s) (he : EnvRd c N lm ρ)
    (hq : ∀ vs s1 N1, (∀ p ∈ N, p ∈ N1) → At c own N1 m s₀ s1 → Rds N1 vs ds → Q vs s1) : wpAny (model W.prog W.w) c.A (spliced (backTo pos (starEach es c.env))) Q noE s :=
  wpAny_mono (h c own N m lm s₀ s pos ok hc hns at' he) (fun v s1 ⟨N1, sb1, at1, r1⟩ => hq v s1 N1 sb1 at1 r1) fun _ _ x => x
theorem Evs.cons {e : Expr} {es : List Expr} {d : PV} {ds : List PV} (h : Ev W k cs ρ e d) (hs : Evs W k cs ρ es ds) (hp : ∀ env, starEach (e :: es) env = (false, eval e env) :: starEach es env := by intro _; rfl) : Evs W k cs ρ (e :: es) (d :: ds) := by
  intro c own N m lm s₀ s pos ok hc hns at' he
  rw [hp]
  refine spliced_cons (Ev.use (h) ok hc hns at' he fun v s1 N1 sb1 at1 r1 => ?_)
  exact wpAny_mono (hs c own N1 m lm s₀ s1 pos ok hc hns at1 (he.mono sb1)) (fun vs s2 ⟨N2, sb2, at2, r2⟩ => ⟨N2, fun p hp => sb2 p (sb1 p hp), at2, .cons (r1.mono sb2) r2⟩) fun _ _ x => x
theorem Rds.seq {N : Led} {vs : List Value} {ds : List PV} (h : Rds N vs ds) : ∀ (i : Nat) (v : Value) (d : PV), vs[i]? = some v → ds[i]? = some d → Rd N v d := h.at'
theorem Ev.tuple {es : List Expr} {n : Nat} {pos : Pos} {ds : List PV} (h : Evs W k cs ρ es ds) (hz : ds.length ≤ 1000000 := by decide) : Ev W k cs ρ (.Tuple es n pos) (.tup ds) := by
  intro c own N m lm s₀ s ok hc hns at' he
  refine Tuple_ (Evs.use (h) ok hc hns at' he fun vs s1 N1 sb1 at1 r1 => ?_)
  refine wpAny_newObj_type ?_ (by show vs.toArray.size ≤ sizeLine; rw [List.size_toArray, r1.len]; exact Nat.le_trans hz (by decide))
  have sb : ∀ p ∈ N1, p ∈ ((s1.heap.objs.size, ({ cls := .type "tuple", data := .seq vs.toArray } : Obj)) :: N1) := fun p hp => .tail _ hp
  exact ⟨_, fun p hp => sb p (sb1 p hp), at1.push _, .tup (.head _) r1.len hz (r1.mono sb).at'⟩
theorem Ev.list {es : List Expr} {pos : Pos} {ds : List PV} (h : Evs W k cs ρ es ds) (hz : ds.length ≤ 1000000 := by decide) : Ev W k cs ρ (.List es pos) (.lst ds) := by
  intro c own N m lm s₀ s ok hc hns at' he
  refine List_ (Evs.use (h) ok hc hns at' he fun vs s1 N1 sb1 at1 r1 => ?_)
  refine wpAny_newObj_type ?_ (by show vs.toArray.size ≤ sizeLine; rw [List.size_toArray, r1.len]; exact Nat.le_trans hz (by decide))
  have sb : ∀ p ∈ N1, p ∈ ((s1.heap.objs.size, ({ cls := .type "list", data := .seq vs.toArray } : Obj)) :: N1) := fun p hp => .tail _ hp
  exact ⟨_, fun p hp => sb p (sb1 p hp), at1.push _, .lst (.head _) r1.len hz (r1.mono sb).at'⟩

noncomputable abbrev CallTo (W : Wd) (k : Nat) (f : Value) (ds : List PV) (d : PV) : Prop := Sm W k ds (fun _ vs => call f vs) d
theorem CallTo.mono {k' : Nat} {f : Value} {ds : List PV} {d : PV} (h : CallTo W k f ds d) (hk : k ≤ k') : CallTo W k' f ds d := fun c own N m s₀ s vs ok at' r => h c own N m s₀ s vs (ok.mono hk) at' r

theorem Name_glob {x : Str} {pos : Pos} {v : Value} (hk : nsIn W.K mainGlobals x = some (some v)) (hl : cs.names.lookup x = some .globalImplicit) (hd : (x == ("__debug__" : Str)) = false := by decide +kernel)
    {c : Cx} {own N : Led} {m : Str → Option Value} {s₀ s : Shared} {Q : Value → Shared → Prop} (ok : c.Ok W k) (hc : c.env.scope = cs) (at' : At c own N m s₀ s) (h : Q v s) :
    wpAny (model W.prog W.w) c.A (eval (.Name x pos) c.env) Q noE s :=
  Name_function_global ok.ek (by subst hc; exact hl) (loadGlobal_global (env := c.env) (by rw [ok.eg]; exact ok.top.g.keeps at'.fr.keep) (mg_of ok.kin ok.top.g hk) h) hd
theorem Name_blt {x : Str} {pos : Pos} {v : Value} (hk : nsIn W.K mainGlobals x = some none) (hv : bootBuiltins x = some v) (hl : cs.names.lookup x = some .globalImplicit) (hn : x ≠ "__name__" := by decide +kernel) (hd : (x == ("__debug__" : Str)) = false := by decide +kernel)
    {c : Cx} {own N : Led} {m : Str → Option Value} {s₀ s : Shared} {Q : Value → Shared → Prop} (ok : c.Ok W k) (hc : c.env.scope = cs) (at' : At c own N m s₀ s) (h : Q v s) :
    wpAny (model W.prog W.w) c.A (eval (.Name x pos) c.env) Q noE s :=
  Name_function_global ok.ek (by subst hc; exact hl) (loadGlobal_builtin (env := c.env) (by rw [ok.eg]; exact ok.top.g.keeps at'.fr.keep) (mg_none_of ok.kin ok.top.g hk) (by rw [ok.eb]; exact ok.top.b.keeps at'.fr.keep) ((ok.top.builtins x hn).trans hv) h) hd

theorem callDef_rule {f : Value} {x : Str} {np pos : Pos} {e : Expr} {es : List Expr} {ds : List PV} {d : PV} (hk : nsIn W.K mainGlobals x = some (some f)) (hf : keepIn W.K f = true) (hl : cs.names.lookup x = some .globalImplicit)
    (ha : Evs W k cs ρ (e :: es) ds) (hcall : CallTo W k f ds d) (hd : (x == ("__debug__" : Str)) = false := by decide +kernel)
    (hp : ∀ env, starEach (e :: es) env = (false, eval e env) :: starEach es env := by intro _; rfl) (hn : ∀ env, (backTo pos (starEach es env)).any (·.1) = false := by intro _; rfl) : Ev W k cs ρ (.Call (.Name x np) (e :: es) [] pos) d := by
  intro c own N m lm s₀ s ok hc hns at' he
  show wpAny _ _ (eval (.Name x np) c.env >>= fun v => callWith pos v [] (backTo pos (starEach (e :: es) c.env)) []) _ _ s
  refine wpAny_bind (Name_glob hk hl hd ok hc at' ?_)
  refine callWith_K ok.kin hf (Evs.use (ha) ok hc hns at' he fun vs s1 N1 sb1 at1 r1 => ?_) (hp _) (hn _)
  exact ⟨at1.kin ok, wpAny_mono (hcall c own N1 m s₀ s1 vs ok at1 r1) (fun v s' q => q.sub sb1) fun _ _ x => x⟩
theorem callDef0_rule {f : Value} {x : Str} {np pos : Pos} {d : PV} (hk : nsIn W.K mainGlobals x = some (some f)) (hf : keepIn W.K f = true) (hl : cs.names.lookup x = some .globalImplicit)
    (hcall : CallTo W k f [] d) (hd : (x == ("__debug__" : Str)) = false := by decide +kernel) : Ev W k cs ρ (.Call (.Name x np) [] [] pos) d := by
  intro c own N m lm s₀ s ok hc hns at' he
  show wpAny _ _ (eval (.Name x np) c.env >>= fun v => callWith pos v [] (backTo pos (starEach [] c.env)) []) _ _ s
  refine wpAny_bind (Name_glob hk hl hd ok hc at' ?_)
  exact callWith_K0 (at'.kin ok) hf (hcall c own N m s₀ s [] ok at' .nil)
theorem callBlt_rule {id : String} {x : Str} {np pos : Pos} {e : Expr} {es : List Expr} {ds : List PV} {d : PV} (hk : nsIn W.K mainGlobals x = some none) (hv : bootBuiltins x = some (.builtin id)) (hl : cs.names.lookup x = some .globalImplicit)
    (ha : Evs W k cs ρ (e :: es) ds) (hcall : CallTo W k (.builtin id) ds d) (hnm : x ≠ "__name__" := by decide +kernel) (hd : (x == ("__debug__" : Str)) = false := by decide +kernel)
    (hp : ∀ env, starEach (e :: es) env = (false, eval e env) :: starEach es env := by intro _; rfl) (hn : ∀ env, (backTo pos (starEach es env)).any (·.1) = false := by intro _; rfl) : Ev W k cs ρ (.Call (.Name x np) (e :: es) [] pos) d := by
  intro c own N m lm s₀ s ok hc hns at' he
  show wpAny _ _ (eval (.Name x np) c.env >>= fun v => callWith pos v [] (backTo pos (starEach (e :: es) c.env)) []) _ _ s
  refine wpAny_bind (Name_blt hk hv hl hnm hd ok hc at' ?_)
  refine PyProof.Rows.callWith_builtin1 (Evs.use (ha) ok hc hns at' he fun vs s1 N1 sb1 at1 r1 => ?_) (hp _) (hn _)
  exact wpAny_mono (hcall c own N1 m s₀ s1 vs ok at1 r1) (fun v s' q => q.sub sb1) fun _ _ x => x
theorem callType_rule {T : String} {x : Str} {np pos : Pos} {e : Expr} {es : List Expr} {ds : List PV} {d : PV} (hk : nsIn W.K mainGlobals x = some none) (hv : bootBuiltins x = some (.type T)) (hl : cs.names.lookup x = some .globalImplicit)
    (ha : Evs W k cs ρ (e :: es) ds) (hcall : CallTo W k (.type T) ds d) (hnm : x ≠ "__name__" := by decide +kernel) (hd : (x == ("__debug__" : Str)) = false := by decide +kernel)
    (hp : ∀ env, starEach (e :: es) env = (false, eval e env) :: starEach es env := by intro _; rfl) (hn : ∀ env, (backTo pos (starEach es env)).any (·.1) = false := by intro _; rfl) : Ev W k cs ρ (.Call (.Name x np) (e :: es) [] pos) d := by
  intro c own N m lm s₀ s ok hc hns at' he
  show wpAny _ _ (eval (.Name x np) c.env >>= fun v => callWith pos v [] (backTo pos (starEach (e :: es) c.env)) []) _ _ s
  refine wpAny_bind (Name_blt hk hv hl hnm hd ok hc at' ?_)
  refine Pv.callWith_type1 (Evs.use (ha) ok hc hns at' he fun vs s1 N1 sb1 at1 r1 => ?_) (hp _) (hn _)
  exact wpAny_mono (hcall c own N1 m s₀ s1 vs ok at1 r1) (fun v s' q => q.sub sb1) fun _ _ x => x
end rules2

noncomputable def DefAt (W : Wd) (f : Addr) (params : Arguments) (body : List Stmt) (scope : Scope) : Prop :=
  ∃ (oc : Value) (od : Option Addr) (osl : Array (Option Value)) (name qual : Str) (kV doc pm cdv ct : Value) (an : Option Addr),
    W.K.lookup f = some ⟨oc, od, .func (fnOf name qual params body scope .none kV doc pm an cdv ct), osl⟩ ∧ codeIn W.K cdv qual = true

inductive Out where
  | next (ρ : PEnv)
  | cont (ρ : PEnv)
  | brk (ρ : PEnv)
  | ret (d : PV)

noncomputable def ExPost (c : Cx) (own N : Led) (s₀ : Shared) (out : Out) (f : Flow) (s : Shared) : Prop :=
  match out with
  | .next ρ => f = .next ∧ ∃ N' m', (∀ p ∈ N, p ∈ N') ∧ At c own N' m' s₀ s ∧ EnvRd c N' m' ρ
  | .cont ρ => f = .cont ∧ ∃ N' m', (∀ p ∈ N, p ∈ N') ∧ At c own N' m' s₀ s ∧ EnvRd c N' m' ρ
  | .brk ρ => f = .brk ∧ ∃ N' m', (∀ p ∈ N, p ∈ N') ∧ At c own N' m' s₀ s ∧ EnvRd c N' m' ρ
  | .ret d => ∃ v N' m', f = .ret v ∧ (∀ p ∈ N, p ∈ N') ∧ At c own N' m' s₀ s ∧ Rd N' v d
theorem ExPost.sub {c : Cx} {own N N₁ : Led} {s₀ : Shared} {out : Out} {f : Flow} {s : Shared} (hs : ∀ p ∈ N, p ∈ N₁) (h : ExPost c own N₁ s₀ out f s) : ExPost c own N s₀ out f s := by
  cases out with
  | next ρ => obtain ⟨e, N', m', a, b⟩ := h; exact ⟨e, N', m', fun p hp => a p (hs p hp), b⟩
  | cont ρ => obtain ⟨e, N', m', a, b⟩ := h; exact ⟨e, N', m', fun p hp => a p (hs p hp), b⟩
  | brk ρ => obtain ⟨e, N', m', a, b⟩ := h; exact ⟨e, N', m', fun p hp => a p (hs p hp), b⟩
  | ret d => obtain ⟨v, N', m', e, a, b⟩ := h; exact ⟨v, N', m', e, fun p hp => a p (hs p hp), b⟩

noncomputable def Ex (W : Wd) (k : Nat) (cs : Scope) (ρ : PEnv) (ss : List Stmt) (out : Out) : Prop :=
  ∀ (c : Cx) (own N : Led) (m : Str → Option Value) (s₀ s : Shared), c.Ok W k → c.env.scope = cs → c.env.locals = c.L → At c own N m s₀ s → EnvRd c N m ρ →
    wpAny (model W.prog W.w) c.A (execs ss c.env) (ExPost c own N s₀ out) noE s

theorem nsOk_L {c : Cx} {own : Led} {m : Str → Option Value} (h : c.env.locals = c.L) : NsOk c own m m := fun _ F _ => h ▸ F.ns

theorem lookup_mem {x : Str} {v : Value} : ∀ {l : List (Str × Value)}, (l.map (·.1)).Nodup → (x, v) ∈ l → l.lookup x = some v
  | (y, w) :: l, hnd, hm => by
    rw [List.map_cons, List.nodup_cons] at hnd
    rw [List.lookup_cons]
    rcases List.mem_cons.mp hm with e | hm
    · cases e; simp
    · have hne : x ≠ y := fun e => hnd.1 (e ▸ List.mem_map_of_mem (f := (·.1)) hm)
      have : (x == y) = false := by simpa using hne
      rw [this]
      exact lookup_mem hnd.2 hm
theorem lookup_zip {N : Led} : ∀ (xs : List Str) (ds : List PV) (vs : List Value), xs.Nodup → xs.length = ds.length → Rds N vs ds → ∀ p ∈ xs.zip ds, ∃ v, Rd N v p.2 ∧ (xs.zip vs).reverse.lookup p.1 = some v := by
  intro xs ds vs hnd hl hr p hp
  obtain ⟨i, hi, hpi⟩ := List.mem_iff_getElem.mp hp
  have hi2 : i < ds.length := by simp at hi; omega
  have hi1 : i < xs.length := by omega
  have hi3 : i < vs.length := by rw [hr.len]; exact hi2
  have e : p = (xs[i], ds[i]) := by rw [← hpi]; simp
  subst e
  refine ⟨vs[i], hr.at' i _ _ (by simp [hi3]) (by simp [hi2]), ?_⟩
  have hmem : (xs[i], vs[i]) ∈ (xs.zip vs).reverse := by
    rw [List.mem_reverse]
    exact List.mem_iff_getElem.mpr ⟨i, by simp; omega, by simp⟩
  have hkeys : (((xs.zip vs).reverse).map (·.1)).Nodup := by
    rw [List.map_reverse, (List.reverse_perm _).nodup_iff, List.map_fst_zip (by rw [hr.len]; omega)]
    exact hnd
  exact lookup_mem hkeys hmem

end Mine
end
section
open PySem PySem.W PySem.Calls PySem.Spec PyProof.Rows
set_option maxRecDepth 10000
set_option autoImplicit false
namespace Mine

noncomputable def Upd (x : Str) (d : PV) (ρ ρ' : PEnv) : Prop := ∀ p ∈ ρ', p = (x, d) ∨ (p ∈ ρ ∧ p.1 ≠ x)
noncomputable def Off (x : Str) (ρ : PEnv) : Prop := ∀ p ∈ ρ, p.1 ≠ x
theorem Off.nil {x : Str} : Off x [] := fun _ h => nomatch h
theorem Off.cons {x y : Str} {e : PV} {ρ : PEnv} (h : (y != x) = true) (hs : Off x ρ) : Off x ((y, e) :: ρ) := fun p hp => by
  rcases List.mem_cons.mp hp with rfl | hp
  · simpa using h
  · exact hs p hp
theorem Upd.nil {x : Str} {d : PV} : Upd x d [] [(x, d)] := fun p hp => .inl (List.mem_singleton.mp hp)
theorem Upd.hit {x : Str} {d e : PV} {ρ : PEnv} (h : Off x ρ) : Upd x d ((x, e) :: ρ) ((x, d) :: ρ) := fun p hp => by
  rcases List.mem_cons.mp hp with rfl | hp
  · exact .inl rfl
  · exact .inr ⟨.tail _ hp, h p hp⟩
theorem Upd.miss {x y : Str} {d e : PV} {ρ ρ' : PEnv} (h : (y != x) = true) (hs : Upd x d ρ ρ') : Upd x d ((y, e) :: ρ) ((y, e) :: ρ') := fun p hp => by
  rcases List.mem_cons.mp hp with rfl | hp
  · exact .inr ⟨.head _, by simpa using h⟩
  · exact (hs p hp).imp id fun q => ⟨.tail _ q.1, q.2⟩
theorem EnvRd.upd {c : Cx} {N : Led} {m : Str → Option Value} {ρ ρ' : PEnv} {x : Str} {d : PV} {v : Value} (he : EnvRd c N m ρ) (hu : Upd x d ρ ρ') (r : Rd N v d) (hx : c.env.kindOf x = some .local) (hno : NmOk x = true) :
    EnvRd c N (fun y => if y = x then some v else m y) ρ' := fun p hp => by
  rcases hu p hp with rfl | ⟨h1, h2⟩
  · exact ⟨v, r, hno, .inl ⟨hx, by simp⟩⟩
  · obtain ⟨w, r', q⟩ := he p h1
    refine ⟨w, r', q.1, q.2.imp (fun z => ⟨z.1, ?_⟩) id⟩
    simp only [if_neg h2]; exact z.2

theorem At.set {c : Cx} {own N : Led} {m m' : Str → Option Value} {s₀ s : Shared} {h' : Heap} {tk : Nat} (h : At c own N m s₀ s) (hn : h'.Ns c.L m') (hs : Heap.SameBut c.L s.heap h') : At c own N m' s₀ { s with heap := h', toks := tk } :=
  ⟨by obtain ⟨h2, t2, rfl⟩ := h.same; exact ⟨h', tk, rfl⟩, h.fr.set hn hs, h.news.set hs, h.disj⟩

section
variable {W : Wd} {k : Nat} {cs : Scope} {ρ : PEnv}

theorem store_rule {c : Cx} {own N : Led} {m : Str → Option Value} {s₀ s : Shared} {x : Str} {v : Value} {Q : Unit → Shared → Prop} (ok : c.Ok W k) (hL : c.env.locals = c.L) (hx : c.env.kindOf x = some .local) (at' : At c own N m s₀ s)
    (h : ∀ s', At c own N (fun y => if y = x then some v else m y) s₀ s' → Q () s') : wpAny (model W.prog W.w) c.A (storeName c.env x v) Q noE s := by
  refine wpAny_storeName_local hx (by rw [hL]; exact at'.fr.ns) (fun h' hn hs => ?_) (by rw [ok.ek]; rfl)
  rw [hL] at hn hs
  exact h _ (at'.set hn hs)

theorem execs_append (a b : List Stmt) (env : Env) : execs (a ++ b) env = (execs a env >>= fun f => match f with | .next => execs b env | f => pure f) := by
  induction a with
  | nil => rw [List.nil_append, execs_nil, pure_bind]
  | cons st rest ih =>
    rw [List.cons_append, execs_cons, execs_cons, bind_assoc]
    congr 1
    funext f
    cases f <;> simp [ih, pure_bind]

theorem Ex.go {ss : List Stmt} {out : Out} (hr : Ex W k cs ρ ss out) {c : Cx} {own N N1 : Led} {m : Str → Option Value} {s₀ s : Shared} (ok : c.Ok W k) (hc : c.env.scope = cs) (hL : c.env.locals = c.L) (at1 : At c own N1 m s₀ s) (he : EnvRd c N1 m ρ) (sb : ∀ p ∈ N, p ∈ N1) : wpAny (model W.prog W.w) c.A (execs ss c.env) (ExPost c own N s₀ out) noE s :=
  wpAny_mono (hr c own N1 m s₀ s ok hc hL at1 he) (fun f s3 q => q.sub sb) fun _ _ x => x
theorem Ex.conv {ss : List Stmt} {o o' : Out} (h : Ex W k cs ρ ss o) (q : o = o') : Ex W k cs ρ ss o' := q ▸ h
theorem Ex.sub {ρ' : PEnv} {ss : List Stmt} {o : Out} (h : Ex W k cs ρ ss o) (hs : ∀ p ∈ ρ, p ∈ ρ') : Ex W k cs ρ' ss o := fun c own N m s₀ s ok hc hL at' he => h c own N m s₀ s ok hc hL at' (he.sub hs)
theorem Ex.mono {k' : Nat} {ss : List Stmt} {o : Out} (h : Ex W k cs ρ ss o) (hk : k ≤ k') : Ex W k' cs ρ ss o := fun c own N m s₀ s ok hc hL at' he => h c own N m s₀ s (ok.mono hk) hc hL at' he
theorem Ex.nil : Ex W k cs ρ [] (.next ρ) := fun c own N m s₀ s ok hc hL at' he => wpAny_execs_nil ⟨rfl, N, m, fun _ h => h, at', he⟩
theorem Ex.nil_sub {ρ' : PEnv} (hs : ∀ p ∈ ρ', p ∈ ρ) : Ex W k cs ρ [] (.next ρ') := fun c own N m s₀ s ok hc hL at' he => wpAny_execs_nil ⟨rfl, N, m, fun _ h => h, at', he.sub hs⟩
theorem Ex.ret {e : Expr} {pos : Pos} {rest : List Stmt} {d : PV} (h : Ev W k cs ρ e d) : Ex W k cs ρ (.Return (some e) pos :: rest) (.ret d) := by
  intro c own N m s₀ s ok hc hL at' he
  refine wpAny_execs_cons (wpAny_Return_some (Ev.use (h) ok hc (nsOk_L hL) at' he fun v s1 N1 sb1 at1 r1 => ?_))
  exact ⟨v, N1, m, rfl, sb1, at1, r1⟩
theorem Ex.assign {x : Str} {p1 pos : Pos} {e : Expr} {rest : List Stmt} {d : PV} {ρ' : PEnv} {out : Out} (hx : cs.names.lookup x = some .local) (hno : NmOk x = true) (h : Ev W k cs ρ e d) (hu : Upd x d ρ ρ') (hr : Ex W k cs ρ' rest out)
    (hsw : ∀ env, swapsWith e (some (.Name x p1)) pos.line env = pure false := by intro _; rfl) : Ex W k cs ρ (.Assign [.Name x p1] e pos :: rest) out := by
  intro c own N m s₀ s ok hc hL at' he
  have hx' : c.env.kindOf x = some .local := by subst hc; exact hx
  refine wpAny_execs_cons (wpAny_Assign_Name (Ev.use (h) ok hc (nsOk_L hL) at' he fun v s1 N1 sb1 at1 r1 => ?_) (hsw _))
  refine store_rule ok hL hx' at1 fun s2 at2 => ?_
  exact Ex.go (hr) ok hc hL at2 ((he.mono sb1).upd hu r1 hx' hno) (sb1)
theorem op_iadd {i j : Int} : Op2 W (.int i) (.int j) (fun a b => inplaceOp .Add a b) (.int (i + j)) := fun c own N m s₀ s a b ok at' ra rb => by
  obtain ⟨_, rfl⟩ := ra.int_inv; obtain ⟨_, rfl⟩ := rb.int_inv; with_reducible refine P.iadd_int ?_; exact Post.of (fun _ h => h) at'.tok (.int _ _)
theorem Ex.aug {x : Str} {p1 pos : Pos} {op : Operator} {e : Expr} {rest : List Stmt} {d₁ d₂ d : PV} {ρ' : PEnv} {out : Out} (hx : cs.names.lookup x = some .local) (hm : (x, d₁) ∈ ρ) (h : Ev W k cs ρ e d₂) (ho : Op2 W d₁ d₂ (fun a b => inplaceOp op a b) d)
    (hu : Upd x d ρ ρ') (hr : Ex W k cs ρ' rest out) : Ex W k cs ρ (.AugAssign (.Name x p1) op e pos :: rest) out := by
  intro c own N m s₀ s ok hc hL at' he
  have hx' : c.env.kindOf x = some .local := by subst hc; exact hx
  obtain ⟨v₁, r₁, hno, q⟩ := he _ hm
  have hv : m x = some v₁ := by
    rcases q with q | ⟨q | q, _⟩
    · exact q.2
    · rw [hx'] at q; cases q
    · rw [hx'] at q; cases q
  refine wpAny_execs_cons (wpAny_AugAssign_Name (wpAny_loadName_local ok.ek hx' (by rw [hL]; exact at'.fr.ns) hv ?_))
  refine Ev.use (h) ok hc (nsOk_L hL) at' he fun v s1 N1 sb1 at1 r1 => ?_
  refine wpAny_mono (ho c own N1 m s₀ s1 v₁ v (ok.mono (Nat.zero_le _)) at1 (r₁.mono sb1) r1) (fun v s2 ⟨N2, sb2, at2, r2⟩ => ?_) fun _ _ x => x
  refine store_rule ok hL hx' at2 fun s3 at3 => ?_
  exact Ex.go (hr) ok hc hL at3 ((he.mono fun p hp => sb2 p (sb1 p hp)).upd hu r2 hx' hno) (fun p hp => sb2 p (sb1 p hp))
theorem exec_If_eq (t : Expr) (b o : List Stmt) (pos : Pos) (rest : List Stmt) (env : Env) : execs (.If t b o pos :: rest) env = (standAt pos >>= fun _ => isTrue t env (eval t env) >>= fun c => if c = true then execs (b ++ rest) env else execs (o ++ rest) env) := by
  rw [execs_cons]
  show ((standAt pos >>= fun _ => isTrue t env (eval t env) >>= fun c => if c = true then execs b env else execs o env) >>= _) = _
  rw [bind_assoc]
  congr 1
  funext _
  rw [bind_assoc]
  congr 1
  funext c
  cases c
  · simp only [Bool.false_eq_true, if_false]; rw [execs_append]; rfl
  · simp only [if_true]; rw [execs_append]; rfl
theorem Ex.ite {t : Expr} {b o rest : List Stmt} {pos : Pos} {tb : Bool} {out : Out} (ht : Ts W k cs ρ t tb) (h1 : tb = true → Ex W k cs ρ (b ++ rest) out) (h2 : tb = false → Ex W k cs ρ (o ++ rest) out) : Ex W k cs ρ (.If t b o pos :: rest) out := by
  intro c own N m s₀ s ok hc hL at' he
  rw [exec_If_eq]
  refine wpAny_bind (wpAny_standAt (wpAny_bind (wpAny_mono (ht c own N m m s₀ s ok hc (nsOk_L hL) at' he) (fun t' s1 h1' => ?_) fun _ _ x => x)))
  obtain ⟨rfl, N1, sb1, at1⟩ := h1'
  cases t' with
  | true => simp only [if_true]; exact Ex.go (h1 rfl) ok hc hL at1 (he.mono sb1) (sb1)
  | false => simp only [Bool.false_eq_true, if_false]; exact Ex.go (h2 rfl) ok hc hL at1 (he.mono sb1) (sb1)

inductive WhileL (W : Wd) (k : Nat) (cs : Scope) (t : Expr) (body : List Stmt) : Nat → PEnv → Out → Prop where
  | done {n : Nat} {ρ : PEnv} (h : Ts W k cs ρ t false) : WhileL W k cs t body n ρ (.next ρ)
  | step {n : Nat} {ρ ρ₁ : PEnv} {out : Out} (h : Ts W k cs ρ t true) (hb : Ex W k cs ρ body (.next ρ₁)) (hr : WhileL W k cs t body n ρ₁ out) : WhileL W k cs t body (n + 1) ρ out
  | ret {n : Nat} {ρ : PEnv} {d : PV} (h : Ts W k cs ρ t true) (hb : Ex W k cs ρ body (.ret d)) : WhileL W k cs t body (n + 1) ρ (.ret d)

theorem WhileL.run {t : Expr} {body : List Stmt} {pos : Pos} {n : Nat} {out : Out} (h : WhileL W k cs t body n ρ out) : 
    ∀ (c : Cx) (own N : Led) (m : Str → Option Value) (s₀ s : Shared), c.Ok W k → c.env.scope = cs → c.env.locals = c.L → At c own N m s₀ s → EnvRd c N m ρ →
    wpAny (model W.prog W.w) c.A (exec (.While t body [] pos) c.env) (ExPost c own N s₀ out) noE s := by
  intro c own N m s₀ s ok hc hL at' he
  refine wpAny_While ?_
  obtain ⟨J, hJ⟩ : ∃ J : Nat → Shared → Prop, ∀ n s', J n s' ↔ (∃ N' m' ρ', (∀ p ∈ N, p ∈ N') ∧ At c own N' m' s₀ s' ∧ EnvRd c N' m' ρ' ∧ WhileL W k cs t body n ρ' out) := ⟨_, fun _ _ => Iff.rfl⟩
  refine codeAny_whileLoop J (fun n s' hI => ?_) n ((hJ _ _).mpr ⟨N, m, ρ, fun _ h => h, at', he, h⟩)
  obtain ⟨N', m', ρ', sb', at1, he', hw⟩ := (hJ _ _).mp hI
  have noN : ∀ (e : Value) (s' : Shared), noE e s' → notedBy (model W.prog W.w) c.A c.env (fun e s' => (match (Except.error e : Result) with | .ok f => ExPost c own N s₀ out f s' | .error e => cameBackBy (model W.prog W.w) c.A c.env noE e s')) e s' := fun _ _ x => x.elim
  cases hw with
  | done ht =>
    refine wpAny_mono (ht c own N' m' m' s₀ s' ok hc (nsOk_L hL) at1 he') (fun b s1 h1 => ?_) noN
    obtain ⟨rfl, N1, sb1, at2⟩ := h1
    simp only [Bool.false_eq_true, if_false]
    exact wpAny_execs_nil ⟨rfl, N1, m', fun p hp => sb1 p (sb' p hp), at2, he'.mono sb1⟩
  | step ht hb hr =>
    refine wpAny_mono (ht c own N' m' m' s₀ s' ok hc (nsOk_L hL) at1 he') (fun b s1 h1 => ?_) noN
    obtain ⟨rfl, N1, sb1, at2⟩ := h1
    simp only [if_true]
    refine wpAny_mono (hb c own N1 m' s₀ s1 ok hc hL at2 (he'.mono sb1)) (fun f s2 q => ?_) noN
    obtain ⟨rfl, N2, m2, sb2, at3, he3⟩ := q
    exact ⟨_, Nat.lt_succ_self _, (hJ _ _).mpr ⟨N2, m2, _, fun p hp => sb2 p (sb1 p (sb' p hp)), at3, he3, hr⟩⟩
  | ret ht hb =>
    refine wpAny_mono (ht c own N' m' m' s₀ s' ok hc (nsOk_L hL) at1 he') (fun b s1 h1 => ?_) noN
    obtain ⟨rfl, N1, sb1, at2⟩ := h1
    simp only [if_true]
    refine wpAny_mono (hb c own N1 m' s₀ s1 ok hc hL at2 (he'.mono sb1)) (fun f s2 q => ?_) noN
    obtain ⟨v, N2, m2, rfl, sb2, at3, r3⟩ := q
    exact ⟨v, N2, m2, rfl, fun p hp => sb2 p (sb1 p (sb' p hp)), at3, r3⟩
theorem Ex.while_next {t : Expr} {body rest : List Stmt} {pos : Pos} {n : Nat} {ρ' : PEnv} {out : Out} (h : WhileL W k cs t body n ρ (.next ρ')) (hr : Ex W k cs ρ' rest out) : Ex W k cs ρ (.While t body [] pos :: rest) out := by
  intro c own N m s₀ s ok hc hL at' he
  refine wpAny_execs_cons (wpAny_mono (h.run c own N m s₀ s ok hc hL at' he) (fun f s1 q => ?_) fun _ _ x => x)
  obtain ⟨rfl, N1, m1, sb1, at1, he1⟩ := q
  exact Ex.go (hr) ok hc hL at1 he1 (sb1)
theorem Ex.while_ret {t : Expr} {body rest : List Stmt} {pos : Pos} {n : Nat} {d : PV} (h : WhileL W k cs t body n ρ (.ret d)) : Ex W k cs ρ (.While t body [] pos :: rest) (.ret d) := by
  intro c own N m s₀ s ok hc hL at' he
  refine wpAny_execs_cons (wpAny_mono (h.run c own N m s₀ s ok hc hL at' he) (fun f s1 q => ?_) fun _ _ x => x)
  obtain ⟨v, N1, m1, rfl, sb1, at1, r1⟩ := q
  exact ⟨v, N1, m1, rfl, sb1, at1, r1⟩
end
end Mine
end
section
open PySem PySem.W PySem.Calls PySem.Spec PyProof.Rows
set_option maxRecDepth 10000
set_option autoImplicit false
namespace Mine

inductive ItAt (W : Wd) (c : Cx) (own N : Led) (m : Str → Option Value) (s₀ : Shared) (ds : List PV) (it : Value) (s : Shared) : Prop where
  | mk (I : Addr) (oI : Obj) (fp : List Addr) (P : Nat → Value → Prop) (St : Nat → Heap → Prop) (N' : Led) (e : it = .ref I) (wk : Walks W.prog W.w c.A I fp [I] ds.length P St) (hfp : ∀ b ∈ fp, b = I ∨ ∃ o, (b, o) ∈ N')
    (hP : ∀ i v, P i v → ∃ d, ds[i]? = some d ∧ Rd N' v d) (hI : ∀ i h, St i h → ∃ o, h.get? I = some o) (sb : ∀ p ∈ N, p ∈ N') (at' : At c ((I, oI) :: own) N' m s₀ s) (st : St 0 s.heap) (ho : ∀ q ∈ own, q.1 ≠ I) : ItAt W c own N m s₀ ds it s

theorem At.next {c : Cx} {own N : Led} {m : Str → Option Value} {s₀ s : Shared} {I : Addr} {oI oI' : Obj} {h' : Heap} {tk : Nat} (h : At c ((I, oI) :: own) N m s₀ s) (hk : ∀ b o, b ∉ [I] → s.heap.get? b = some o → h'.get? b = some o)
    (hI : h'.get? I = some oI') (ho : ∀ q ∈ own, q.1 ≠ I) : At c ((I, oI') :: own) N m s₀ { s with heap := h', toks := tk } := by
  have z := h.news (I, oI) (.head _)
  refine ⟨by obtain ⟨h2, t2, rfl⟩ := h.same; exact ⟨h', tk, rfl⟩, LCg.fr_but h.fr hk (Ne.symm z.2.1) z.2.2, fun p hp => ?_, fun p hp q hq => ?_⟩
  · rw [List.cons_append] at hp
    rcases List.mem_cons.mp hp with rfl | hp
    · exact ⟨hI, z.2⟩
    · have y := h.news p (.tail _ hp)
      refine ⟨hk _ _ ?_ y.1, y.2⟩
      simp only [List.mem_singleton]
      rcases List.mem_append.mp hp with hp | hp
      · exact ho p hp
      · exact h.disj p hp (I, oI) (.head _)
  · rcases List.mem_cons.mp hq with rfl | hq
    · exact h.disj p hp (I, oI) (.head _)
    · exact h.disj p hp q (.tail _ hq)
theorem At.drop {c : Cx} {own N : Led} {m : Str → Option Value} {s₀ s : Shared} {x : Addr × Obj} (h : At c (x :: own) N m s₀ s) : At c own N m s₀ s :=
  ⟨h.same, h.fr, fun p hp => h.news p (by rw [List.cons_append]; exact .tail _ hp), fun p hp q hq => h.disj p hp q (.tail _ hq)⟩
theorem At.pushOwn {c : Cx} {own N : Led} {m : Str → Option Value} {s₀ s : Shared} (h : At c own N m s₀ s) (o : Obj) (hf : o.isFreed = false := by rfl) :
    At c ((s.heap.objs.size, o) :: own) N m s₀ { s with heap := s.heap.push o } := by
  refine ⟨by obtain ⟨h', t, rfl⟩ := h.same; exact ⟨_, t, rfl⟩, h.fr.push o, h.news.push h.fr o hf, fun p hp q hq => ?_⟩
  rcases List.mem_cons.mp hq with rfl | hq
  · exact Nat.ne_of_lt (Heap.lt_size (h.news p (List.mem_append_right _ hp)).1)
  · exact h.disj p hp q hq
theorem At.fresh_own {c : Cx} {own N : Led} {m : Str → Option Value} {s₀ s : Shared} (h : At c own N m s₀ s) : ∀ q ∈ own, q.1 ≠ s.heap.objs.size := fun q hq => Nat.ne_of_lt (Heap.lt_size (h.news q (List.mem_append_left _ hq)).1)

theorem At.carry {c c' : Cx} {own own' N N' : Led} {m m' : Str → Option Value} {s₀ s₀' s s' : Shared} (h : At c own N m s₀ s) (h' : At c' own' N' m' s₀' s') {b : Addr} {o x : Obj} (hm : (b, x) ∈ own ++ N) (hm' : (b, x) ∈ own' ++ N')
    (e : s.heap.get? b = some o) : s'.heap.get? b = some o := (h'.news _ hm').1.trans ((h.news _ hm).1.symm.trans e)
theorem walks_keep {W : Wd} {c c2 c3 : Cx} {own own' N0 N1 N3 : Led} {m2 m3 : Str → Option Value} {t2 t3 s2 s3 : Shared} {I : Addr} {oI : Obj} {fp : List Addr} {n i : Nat} {P : Nat → Value → Prop} {St : Nat → Heap → Prop} (Wk : Walks W.prog W.w c.A I fp [I] n P St)
    (hfp : ∀ b ∈ fp, b = I ∨ ∃ o, (b, o) ∈ N0) (at2 : At c2 own N1 m2 t2 s2) (at3 : At c3 own' N3 m3 t3 s3) (h2 : (I, oI) ∈ own) (h3 : (I, oI) ∈ own') (sb1 : ∀ p ∈ N0, p ∈ N1) (sb3 : ∀ p ∈ N1, p ∈ N3) (st : St i s2.heap) : St i s3.heap :=
  Wk.frame _ _ _ st fun b hb o e => (hfp b hb).elim (fun q => by subst q; exact at2.carry at3 (List.mem_append_left _ h2) (List.mem_append_left _ h3) e) fun ⟨o', hm⟩ => at2.carry at3 (List.mem_append_right _ (sb1 _ hm)) (List.mem_append_right _ (sb3 _ (sb1 _ hm))) e
theorem At.done {c : Cx} {own N : Led} {m : Str → Option Value} {s₀ s : Shared} {I : Addr} {oI : Obj} {h' : Heap} {tk : Nat} (h : At c ((I, oI) :: own) N m s₀ s) (hk : ∀ b o, b ∉ [I] → s.heap.get? b = some o → h'.get? b = some o)
    (ho : ∀ q ∈ own, q.1 ≠ I) : At c own N m s₀ { s with heap := h', toks := tk } := by
  have z := h.news (I, oI) (.head _)
  refine ⟨by obtain ⟨h2, t2, e⟩ := h.same; rw [e]; exact ⟨h', tk, rfl⟩, LCg.fr_but h.fr hk (Ne.symm z.2.1) z.2.2, fun p hp => ?_, h.drop.disj⟩
  have y := h.news p (.tail _ hp)
  exact ⟨hk _ _ (fun q => (List.mem_append.mp hp).elim (fun hp => ho p hp (List.mem_singleton.mp q)) fun hp => h.disj p hp (I, oI) (.head _) (List.mem_singleton.mp q)) y.1, y.2⟩
theorem turn_lt {i n : Nat} (h : i < n) : n + 1 - (i + 1) < n + 1 - i := by omega
theorem turn_end {i n : Nat} (h : i ≤ n) (h' : ¬ i < n) : n = i := by omega

section
variable {W : Wd} {k : Nat} {cs : Scope} {ρ : PEnv}

noncomputable def Itr (W : Wd) (k : Nat) (cs : Scope) (ρ : PEnv) (e : Expr) (ds : List PV) : Prop :=
  ∀ (c : Cx) (own N : Led) (m lm : Str → Option Value) (s₀ s : Shared), c.Ok W k → c.env.scope = cs → NsOk c own m lm → At c own N m s₀ s → EnvRd c N lm ρ →
    wpAny (model W.prog W.w) c.A (eval e c.env) (fun v s1 => wpAny (model W.prog W.w) c.A (pyIter v) (ItAt W c own N m s₀ ds) noE s1) noE s

theorem Itr.list {e : Expr} {ds : List PV} (h : Ev W k cs ρ e (.lst ds)) : Itr W k cs ρ e ds := by
  intro c own N m lm s₀ s ok hc hns at' he
  refine Ev.use (h) ok hc hns at' he fun v s1 N1 sb1 at1 r1 => ?_
  obtain ⟨a, vs, n, hm, hl, hz, hr, rfl⟩ := r1.lst_inv
  ·
    have hL := at1.isList hm
    have hlt : a < s1.heap.objs.size := Heap.lt_size (at1.obj hm)
    refine wpAny_pyIter_list hL ?_
    refine ⟨s1.heap.objs.size, _, [s1.heap.objs.size, a], fun i v => vs.toArray[i]? = some v, fun i h => h.IsListIter s1.heap.objs.size a i ∧ h.IsList a vs.toArray, N1, rfl, ?_, ?_, ?_, ?_, sb1, at1.pushOwn { cls := .type "list_iterator", data := .fields #[.ref a, .int 0 0] }, ?_, at1.fresh_own⟩
    · have := Walks.list (prog := W.prog) (w := W.w) (A := c.A) rfl s1.heap.objs.size a (Nat.ne_of_lt hlt) vs.toArray
      have e : vs.toArray.size = ds.length := by rw [List.size_toArray, hl]
      rw [e] at this
      exact this
    · intro b hb
      rcases List.mem_cons.mp hb with rfl | hb
      · exact .inl rfl
      · rw [List.mem_singleton.mp hb]; exact .inr ⟨_, hm⟩
    · intro i v hP
      have hP' : vs[i]? = some v := by simpa using hP
      have hi : i < ds.length := by
        rw [← hl]
        exact (List.getElem?_eq_some_iff.mp hP').1
      exact ⟨ds[i], by simp [hi], hr i v _ hP' (by simp [hi])⟩
    · intro i h st
      obtain ⟨o', e', _⟩ := st.1
      exact ⟨o', e'⟩
    · exact ⟨⟨_, Heap.get?_push_size _ rfl, rfl, rfl⟩, hL.at fun o e => Heap.get?_push_of_some _ e⟩
theorem Itr.str {e : Expr} {l : List Nat} (h : Ev W k cs ρ e (.str l)) : Itr W k cs ρ e (l.map fun x => .str [x]) := by
  intro c own N m lm s₀ s ok hc hns at' he
  refine Ev.use (h) ok hc hns at' he fun v s1 N1 sb1 at1 r1 => ?_
  obtain ⟨t, hz, rfl⟩ := r1.str_inv
  ·
    have fin : ∀ (T : String),
        Walks W.prog W.w c.A s1.heap.objs.size [s1.heap.objs.size] [s1.heap.objs.size] (⟨l.toArray⟩ : Str).cps.size (SignAt ⟨l.toArray⟩) (fun i h => h.IsStrIter s1.heap.objs.size T ⟨l.toArray⟩ t i) →
        ItAt W c own N m s₀ (l.map fun x => .str [x]) (.ref s1.heap.objs.size) { s1 with heap := s1.heap.push { cls := .type T, data := .fields #[.str ⟨l.toArray⟩ t, .int 0 0] } } := by
      intro T hW
      refine ⟨s1.heap.objs.size, _, [s1.heap.objs.size], SignAt ⟨l.toArray⟩, fun i h => h.IsStrIter s1.heap.objs.size T ⟨l.toArray⟩ t i, N1, rfl, by simpa using hW, fun b hb => .inl (List.mem_singleton.mp hb), ?_, ?_, sb1, at1.pushOwn _, ⟨_, Heap.get?_push_size _ rfl, rfl, rfl⟩, at1.fresh_own⟩
      · rintro i v ⟨x, u, hx, rfl⟩
        refine ⟨.str [x], ?_, .str [x] u (by simp)⟩
        have : l[i]? = some x := by simpa using hx
        simp [this]
      · rintro i h ⟨o, e, _⟩
        exact ⟨o, e⟩
    cases ha : (⟨l.toArray⟩ : Str).cps.all (· < 128)
    · exact wpAny_pyIter_wide ha (fin "str_iterator" (Walks.strWide rfl _ _ _))
    · exact wpAny_pyIter_ascii ha (fin "str_ascii_iterator" (Walks.strAscii rfl _ _ _))

inductive ForL (W : Wd) (k : Nat) (cs : Scope) (x : Str) (body : List Stmt) : List PV → PEnv → Out → Prop where
  | nil {ρ : PEnv} : ForL W k cs x body [] ρ (.next ρ)
  | next {d : PV} {ds : List PV} {ρ ρ₁ ρ₂ : PEnv} {out : Out} (hu : Upd x d ρ ρ₁) (hb : Ex W k cs ρ₁ body (.next ρ₂)) (hr : ForL W k cs x body ds ρ₂ out) : ForL W k cs x body (d :: ds) ρ out
  | cont {d : PV} {ds : List PV} {ρ ρ₁ ρ₂ : PEnv} {out : Out} (hu : Upd x d ρ ρ₁) (hb : Ex W k cs ρ₁ body (.cont ρ₂)) (hr : ForL W k cs x body ds ρ₂ out) : ForL W k cs x body (d :: ds) ρ out
  | ret {d : PV} {ds : List PV} {ρ ρ₁ : PEnv} {r : PV} (hu : Upd x d ρ ρ₁) (hb : Ex W k cs ρ₁ body (.ret r)) : ForL W k cs x body (d :: ds) ρ (.ret r)

theorem For_run {x : Str} {xp pos : Pos} {iter : Expr} {body : List Stmt} {ds : List PV} {out : Out} (hi : Itr W k cs ρ iter ds) (hx : cs.names.lookup x = some .local) (hno : NmOk x = true) (hl : ForL W k cs x body ds ρ out)
    (hs : ∀ env v, foldedSetIterable iter env v = pure v := by intro _ _; rfl) :
    ∀ (c : Cx) (own N : Led) (m : Str → Option Value) (s₀ s : Shared), c.Ok W k → c.env.scope = cs → c.env.locals = c.L → At c own N m s₀ s → EnvRd c N m ρ →
    wpAny (model W.prog W.w) c.A (exec (.For (.Name x xp) iter body [] pos) c.env) (ExPost c own N s₀ out) noE s := by
  intro c own N m s₀ s ok hc hL at' he
  have hx' : c.env.kindOf x = some .local := by subst hc; exact hx
  refine wpAny_For (wpAny_mono (hi c own N m m s₀ s ok hc (nsOk_L hL) at' he) (fun v s1 h1 => wpAny_mono h1 (fun it s2 h2 => ?_) fun _ _ x => x) fun _ _ x => x) (hs _)
  obtain ⟨I, oI, fp, P, St, N0, rfl, Wk, hfp, hP, hIo, sb0, at0, hst, hoI⟩ := h2
  have noN : ∀ (e : Value) (s' : Shared), noE e s' → notedBy (model W.prog W.w) c.A c.env (fun e s' => (match (Except.error e : Result) with | .ok f => ExPost c own N s₀ out f s' | .error e => cameBackBy (model W.prog W.w) c.A c.env noE e s')) e s' := fun _ _ x => x.elim
  obtain ⟨J, hJ⟩ : ∃ J : Nat → Shared → Prop, ∀ n s', J n s' ↔ (∃ i oI' N' m' ρ', i ≤ ds.length ∧ n = ds.length + 1 - i ∧ (∀ p ∈ N0, p ∈ N') ∧ At c ((I, oI') :: own) N' m' s₀ s' ∧ St i s'.heap ∧ EnvRd c N' m' ρ' ∧ ForL W k cs x body (ds.drop i) ρ' out) := ⟨_, fun _ _ => Iff.rfl⟩
  refine codeAny_forLoop J (fun n s' hI => ?_) (ds.length + 1) ((hJ _ _).mpr ⟨0, oI, N0, m, ρ, Nat.zero_le _, rfl, fun _ h => h, at0, hst, he.mono sb0, by simpa using hl⟩)
  obtain ⟨i, oI1, N1, m1, ρ1, hi1, rfl, sb1, at1, st1, he1, hf1⟩ := (hJ _ _).mp hI
  by_cases hlt : i < ds.length
  · refine Wk.item i _ _ _ hlt st1 fun v h2 tk2 hPv st2 hk2 => ?_
    obtain ⟨d, hd, rd⟩ := hP i v hPv
    obtain ⟨oI2, heI2⟩ := hIo _ _ st2
    have at2 := at1.next (tk := tk2) hk2 heI2 hoI
    have hdrop : ds.drop i = d :: ds.drop (i + 1) := by
      rw [List.drop_eq_getElem_cons hlt]
      congr 1
      exact (List.getElem?_eq_some_iff.mp hd).2
    rw [hdrop] at hf1
    have rd1 : Rd N1 v d := rd.mono sb1
    refine wpAny_assign_Name ?_
    refine wpAny_mono (E := noE) (Q := fun _ s3 => At c ((I, oI2) :: own) N1 (fun y => if y = x then some v else m1 y) s₀ s3) (store_rule ok hL hx' at2 fun s3 at3 => at3) (fun _ s3 at3 => ?_) noN
    cases hf1 with
    | next hu hb hr =>
      refine wpAny_mono (hb c _ N1 _ s₀ s3 ok hc hL at3 (he1.upd hu rd1 hx' hno)) (fun f s4 q => ?_) noN
      obtain ⟨rfl, N4, m4, sb4, at4, he4⟩ := q
      exact ⟨_, turn_lt hlt, (hJ _ _).mpr ⟨i + 1, oI2, N4, m4, _, hlt, rfl, fun p hp => sb4 p (sb1 p hp), at4, walks_keep Wk hfp at2 at4 (.head _) (.head _) sb1 sb4 st2, he4, hr⟩⟩
    | cont hu hb hr =>
      refine wpAny_mono (hb c _ N1 _ s₀ s3 ok hc hL at3 (he1.upd hu rd1 hx' hno)) (fun f s4 q => ?_) noN
      obtain ⟨rfl, N4, m4, sb4, at4, he4⟩ := q
      exact ⟨_, turn_lt hlt, (hJ _ _).mpr ⟨i + 1, oI2, N4, m4, _, hlt, rfl, fun p hp => sb4 p (sb1 p hp), at4, walks_keep Wk hfp at2 at4 (.head _) (.head _) sb1 sb4 st2, he4, hr⟩⟩
    | ret hu hb =>
      refine wpAny_mono (hb c _ N1 _ s₀ s3 ok hc hL at3 (he1.upd hu rd1 hx' hno)) (fun f s4 q => ?_) noN
      obtain ⟨v4, N4, m4, rfl, sb4, at4, r4⟩ := q
      exact ⟨v4, N4, m4, rfl, fun p hp => sb4 p (sb1 p (sb0 p hp)), at4.drop, r4⟩
  · have hi2 := turn_end hi1 hlt
    rw [← hi2, List.drop_length] at hf1
    cases hf1
    exact Wk.done _ _ _ (hi2 ▸ st1) fun h2 tk2 hk2 => wpAny_execs_nil ⟨rfl, N1, m1, fun p hp => sb1 p (sb0 p hp), at1.done hk2 hoI, he1⟩
theorem Ex.for_next {x : Str} {xp pos : Pos} {iter : Expr} {body rest : List Stmt} {ds : List PV} {ρ' : PEnv} {out : Out} (hx : cs.names.lookup x = some .local) (hno : NmOk x = true) (hi : Itr W k cs ρ iter ds) (hl : ForL W k cs x body ds ρ (.next ρ')) (hr : Ex W k cs ρ' rest out)
    (hs : ∀ env v, foldedSetIterable iter env v = pure v := by intro _ _; rfl) : Ex W k cs ρ (.For (.Name x xp) iter body [] pos :: rest) out := by
  intro c own N m s₀ s ok hc hL at' he
  refine wpAny_execs_cons (wpAny_mono (For_run hi hx hno hl hs c own N m s₀ s ok hc hL at' he) (fun f s1 q => ?_) fun _ _ x => x)
  obtain ⟨rfl, N1, m1, sb1, at1, he1⟩ := q
  exact Ex.go (hr) ok hc hL at1 he1 (sb1)
theorem Ex.for_ret {x : Str} {xp pos : Pos} {iter : Expr} {body rest : List Stmt} {ds : List PV} {d : PV} (hx : cs.names.lookup x = some .local) (hno : NmOk x = true) (hi : Itr W k cs ρ iter ds) (hl : ForL W k cs x body ds ρ (.ret d))
    (hs : ∀ env v, foldedSetIterable iter env v = pure v := by intro _ _; rfl) : Ex W k cs ρ (.For (.Name x xp) iter body [] pos :: rest) (.ret d) := by
  intro c own N m s₀ s ok hc hL at' he
  refine wpAny_execs_cons (wpAny_mono (For_run hi hx hno hl hs c own N m s₀ s ok hc hL at' he) (fun f s1 q => ?_) fun _ _ x => x)
  obtain ⟨v, N1, m1, rfl, sb1, at1, r1⟩ := q
  exact ⟨v, N1, m1, rfl, sb1, at1, r1⟩
end
end Mine
end
section
open PySem PySem.W PySem.Calls PySem.Spec PyProof.Rows
set_option maxRecDepth 10000
set_option autoImplicit false
namespace Mine
noncomputable def BndN : Nat → (List Value → Prop) → Prop
  | 0, P => P []
  | n + 1, P => ∀ v, BndN n fun vs => P (v :: vs)
noncomputable def Bnd (args : List Arg) (n : Nat) : Prop := ∀ (nm qual : Str) (body : List Stmt) (scope : Scope) (kV doc pm cdv ct : Value) (an : Option Addr), BndN n fun vs => bindArgs (fnOf nm qual ⟨[], args, none, [], [], none, []⟩ body scope .none kV doc pm an cdv ct) ⟨vs, []⟩ = pure ((args.map (·.arg)).zip vs)
theorem BndN.at' : ∀ {vs : List Value} {n : Nat} {P : List Value → Prop}, BndN n P → vs.length = n → P vs
  | [], _, _, h, rfl => h
  | v :: vs, _, P, h, rfl => BndN.at' (vs := vs) (P := fun l => P (v :: l)) (h v) rfl
theorem bind_plain {n : Nat} {name qual : Str} {args : List Arg} {body : List Stmt} {scope : Scope} {kV doc pm cdv ct : Value} {an : Option Addr} {vs : List Value} (h : Bnd args n) (hl : vs.length = n) :
    bindArgs (fnOf name qual ⟨[], args, none, [], [], none, []⟩ body scope .none kV doc pm an cdv ct) ⟨vs, []⟩ = pure ((args.map (·.arg)).zip vs) := (h name qual body scope kV doc pm cdv ct an).at' hl
noncomputable def Cx.into (c : Cx) (e : Env) (g : Heap) (L' : Addr) : Cx := { dp := c.dp + 1, un := c.un + 3, gd := c.gd, fenv := e, outer := c.fenv :: c.outer, A₀ := c.A, base := c.base, h₀ := g, L := L', env := e }
theorem Cx.Ok.into {W : Wd} {c : Cx} {k : Nat} {e : Env} {g : Heap} {L' : Addr} {m : Str → Option Value} (ok : c.Ok W (k + 1)) (B : Below c.A c.base (c.fenv :: c.outer) g) (X : W.K.In g) (T : Top W.p W.loose W.mean W.mg W.mb g) (F : Fr c.h₀ c.L g m)
    (e1 : e.frame = some L') (e2 : e.scope.kind = .function) (e3 : e.globals = mainGlobals) (e4 : e.builtins = builtinsNs) : (c.into e g L').Ok W k :=
  ⟨B, X, T, e1, e2, e2, e3, e4, by have := ok.room; show c.dp + 1 + k < _; omega, by have := ok.units; show c.un + 3 + 8 * k + 8 < _; omega, (by obtain ⟨o, e, r⟩ := ok.scr; exact ⟨o, F.keep _ _ e, r⟩)⟩
theorem Cx.Ok.deep {W : Wd} {c : Cx} {k : Nat} (ok : c.Ok W (k + 1)) : c.dp < recursionLimit := Nat.lt_of_le_of_lt (Nat.le_add_right _ _) ok.room
theorem At.into {c c' : Cx} {own N : Led} {m m' : Str → Option Value} {s₀ s : Shared} {h₁ : Heap} {tk : Nat} (a : At c own N m s₀ s) (F : Fr c'.h₀ c'.L h₁ m') (N' : News c'.h₀ c'.L h₁ (own ++ N)) : At c' own N m' s₀ { s with heap := h₁, toks := tk } :=
  ⟨by obtain ⟨h', t, e⟩ := a.same; rw [e]; exact ⟨h₁, _, rfl⟩, F, N', a.disj⟩
theorem env_zip {c : Cx} {N : Led} {xs : List Str} {ds : List PV} {vs : List Value} (hnd : xs.Nodup) (hlen : xs.length = ds.length) (hno : ∀ x ∈ xs, NmOk x = true) (hr : Rds N vs ds) (hloc : ∀ x ∈ xs, c.env.scope.names.lookup x = some .local) :
    EnvRd c N (fun y => (xs.zip vs).reverse.lookup y) (xs.zip ds) := fun p hp => by
  obtain ⟨v, r, e⟩ := lookup_zip xs ds vs hnd hlen hr p hp
  exact ⟨v, r, hno p.1 (List.of_mem_zip hp).1, .inl ⟨hloc p.1 (List.of_mem_zip hp).1, e⟩⟩
theorem enter {W : Wd} {k : Nat} {args : List Arg} {body : List Stmt} {scope : Scope} {ds : List PV} {f : Addr} (hd : DefAt W f ⟨[], args, none, [], [], none, []⟩ body scope)
    (hlen : args.length = ds.length) (hb : Bnd args ds.length) (hnd : (args.map (·.arg)).Nodup) (hloc : ∀ x ∈ args.map (·.arg), scope.names.lookup x = some .local) (hno : ∀ x ∈ args.map (·.arg), NmOk x = true)
    (hco : scope.isCoroutine = false) (hgen : scope.isGenerator = false) (hk : scope.kind = .function) (hcell : ∀ x ∈ scope.names, x.2 ≠ .cell)
    {c : Cx} {own N : Led} {m : Str → Option Value} {s₀ s : Shared} {vs : List Value} {R : Result → Shared → Prop} (ok : c.Ok W (k + 1)) (at' : At c own N m s₀ s) (hr : Rds N vs ds)
    (h : ∀ qual cdv g L' m' s1, (c.into (envOf qual scope L' f cdv) g L').Ok W k → Fr c.h₀ c.L g m → At (c.into (envOf qual scope L' f cdv) g L') own N m' s₀ s1 → EnvRd (c.into (envOf qual scope L' f cdv) g L') N m' ((args.map (·.arg)).zip ds) →
      wpAny (model W.prog W.w) (c.into (envOf qual scope L' f cdv) g L').A (execs body (envOf qual scope L' f cdv))
        (fun fl s' => LeaveK c.h₀ c.L m g R (match fl with | .ret v => v | _ => .none) s')
        (fun e s' => wpAny (model W.prog W.w) (c.into (envOf qual scope L' f cdv) g L').A (leaving (envOf qual scope L' f cdv) e) (fun _ s'' => R (.error e) s'') (fun e' s'' => R (.error e') s'') s') s1) :
    codeAny (model W.prog W.w) c.A (.call (.ref f) ⟨vs, []⟩) R s := by
  obtain ⟨oc, od, osl, name, qual, kV, doc, pm, cdv, ct, an, hlook, hcode⟩ := hd
  exact code_def ok.below at'.fr ok.kin at'.news ok.top rfl ok.fL ok.fk hlook hcode ok.deep (BindsTo.of_eq (bind_plain hb hr.len)) (fun y hy => hloc y.1 (List.of_mem_zip hy).1)
    (fun g L' h₁ FG F' N' B' X' T' => h qual cdv g L' _ _ (ok.into B' X' T' FG rfl hk rfl rfl) FG (at'.into F' N') (env_zip hnd (by rw [List.length_map]; exact hlen) hno hr hloc)) hco hgen hk hcell

noncomputable def DefOf (W : Wd) (st : Stmt) : Prop := match st with
  | .FunctionDef name ⟨[], args, none, [], [], none, []⟩ body _ _ _ scope _ _ _ => ∃ f, nsIn W.K mainGlobals name = some (some (.ref f)) ∧ keepIn W.K (.ref f) = true ∧
      ∃ (oc : Value) (od : Option Addr) (osl : Array (Option Value)) (nm qual : Str) (kV doc pm cdv ct : Value) (an : Option Addr),
        W.K.lookup f = some ⟨oc, od, .func (fnOf nm qual ⟨[], args, none, [], [], none, []⟩ body scope .none kV doc pm an cdv ct), osl⟩ ∧ codeIn W.K cdv qual = true
  | _ => False
noncomputable def CallOf (W : Wd) (k : Nat) (x : Str) (ds : List PV) (d : PV) : Prop := ∃ f, nsIn W.K mainGlobals x = some (some (.ref f)) ∧ keepIn W.K (.ref f) = true ∧ CallTo W k (.ref f) ds d
theorem CallOf.mono {W : Wd} {k k' : Nat} {x : Str} {ds : List PV} {d : PV} (h : CallOf W k x ds d) (hk : k ≤ k') : CallOf W k' x ds d := let ⟨f, a, b, c⟩ := h; ⟨f, a, b, c.mono hk⟩
theorem CallOf.conv {W : Wd} {k : Nat} {x : Str} {ds : List PV} {d d' : PV} (h : CallOf W k x ds d) (e : d = d') : CallOf W k x ds d' := e ▸ h

theorem CallOf.intro {W : Wd} {k : Nat} {name : Str} {args : List Arg} {body : List Stmt} {scope : Scope} {a1 a2 a3 : _} {b1 b2 b3 : _} {ds : List PV} {d : PV} (hd : DefOf W (.FunctionDef name ⟨[], args, none, [], [], none, []⟩ body a1 a2 a3 scope b1 b2 b3))
    (hlen : args.length = ds.length) (hb : Bnd args ds.length) (hnd : (args.map (·.arg)).Nodup) (hloc : ∀ x ∈ args.map (·.arg), scope.names.lookup x = some .local) (hno : ∀ x ∈ args.map (·.arg), NmOk x = true)
    (hco : scope.isCoroutine = false) (hgen : scope.isGenerator = false) (hk : scope.kind = .function) (hcell : ∀ x ∈ scope.names, x.2 ≠ .cell)
    (h : Ex W k scope ((args.map (·.arg)).zip ds) body (.ret d)) : CallOf W (k + 1) name ds d := by
  obtain ⟨f, h1, h2, hd⟩ := hd
  refine ⟨f, h1, h2, fun c own N m s₀ s vs ok at' hr => wpAny_call (enter hd hlen hb hnd hloc hno hco hgen hk hcell ok at' hr fun qual cdv g L' m' s1 ok' FG at1 env1 => wpAny_mono (h _ own N m' s₀ s1 ok' rfl rfl at1 env1) (fun fl s' q => ?_) fun _ _ x => x.elim)⟩
  obtain ⟨v, N2, m2, rfl, sb2, at2, r2⟩ := q
  exact ⟨L', m2, own ++ N2, at2.fr, at2.news, fun FQ NQ => ⟨N2, sb2, ⟨at2.same, FQ, NQ, at2.disj⟩, r2⟩⟩

section
variable {W : Wd} {k : Nat} {cs : Scope} {ρ : PEnv}
theorem Ev.call {k' : Nat} {x : Str} {np pos : Pos} {e : Expr} {es : List Expr} {ds : List PV} {d : PV} (hl : cs.names.lookup x = some .globalImplicit)
    (ha : Evs W k cs ρ (e :: es) ds) (hc : CallOf W k' x ds d) (hk : k' ≤ k) (hd : (x == ("__debug__" : Str)) = false := by decide +kernel)
    (hp : ∀ env, starEach (e :: es) env = (false, eval e env) :: starEach es env := by intro _; rfl) (hn : ∀ env, (backTo pos (starEach es env)).any (·.1) = false := by intro _; rfl) : Ev W k cs ρ (.Call (.Name x np) (e :: es) [] pos) d :=
  let ⟨f, h1, h2, h3⟩ := hc
  callDef_rule h1 h2 hl ha (h3.mono hk) hd hp hn
theorem Ev.call0 {k' : Nat} {x : Str} {np pos : Pos} {d : PV} (hl : cs.names.lookup x = some .globalImplicit) (hc : CallOf W k' x [] d) (hk : k' ≤ k) (hd : (x == ("__debug__" : Str)) = false := by decide +kernel) : Ev W k cs ρ (.Call (.Name x np) [] [] pos) d :=
  let ⟨f, h1, h2, h3⟩ := hc
  callDef0_rule h1 h2 hl (h3.mono hk) hd

theorem call_len_str {l : List Nat} : CallTo W k (.builtin "len") [.str l] (.int l.length) := by
  intro c own N m s₀ s vs ok at' r
  obtain ⟨v, vs, rfl, r1, r2⟩ := r.inv
  obtain rfl := r2.inv0
  obtain ⟨t, hz, rfl⟩ := r1.str_inv
  ·
    with_reducible refine PyProof.Rows.len_str ?_ ?_
    · show ¬ ((l.toArray.size : Nat) : Int) ≥ 2 ^ 63
      rw [List.size_toArray]; omega
    · exact Post.of (fun _ h => h) at'.tok (.int _ _)
theorem ltg_str {value : Expr} {x : Str} {t : Tok} : ∀ r, letTemporaryGo value (.str x t) r = pure () := by intro r; cases value <;> rfl
theorem Ev.item_str {value slice : Expr} {pos : Pos} {l : List Nat} {i : Int} (h1 : Ev W k cs ρ value (.str l)) (h2 : Ev W k cs ρ slice (.int i)) (h0 : 0 ≤ i) (hi : i < l.length)
    (hs : ∀ o j, subscripted slice false o j = operate [o, j] (getItem o j) := by intro _ _; rfl) : Ev W k cs ρ (.Subscript value slice pos) (.str [l.getD i.toNat 0]) := by
  intro c own N m lm s₀ s ok hc hns at' he
  refine Subscript_ (Ev.use (h1) ok hc hns at' he fun a s1 N1 sb1 at1 r1 => ?_)
  refine Ev.use (h2) ok hc hns at1 (he.mono sb1) fun b s2 N2 sb2 at2 r2 => ?_
  obtain ⟨t, hz, rfl⟩ := r1.str_inv
  ·
    obtain ⟨_, rfl⟩ := r2.int_inv
    have hlen : Str.length ⟨l.toArray⟩ = l.length := by show l.toArray.size = _; simp
    have hget : (PySem.Txt.item ⟨l.toArray⟩ i) = ⟨#[l.getD i.toNat 0]⟩ := by
      have hj : i.toNat < l.length := by omega
      unfold PySem.Txt.item PySem.Txt.charAt seqIndex?
      rw [hlen]
      simp only [show ¬ i < 0 by omega, if_false, h0, decide_true, Bool.true_and, hi, if_true]
      simp [hj, List.getD_eq_getElem?_getD]
    refine PyProof.Rows.item_str (by unfold fitsSsize; simp; omega) (by rw [hlen]; omega) (by rw [hlen]; omega) (fun _ => ?_) (hs _ _) ltg_str
    rw [hget]
    exact Post.of (fun p hp => sb2 p (sb1 p hp)) at2.tok (.str [l.getD i.toNat 0] _ (by simp))
end
end Mine
end
section
open PySem PySem.W PySem.Calls PySem.Spec PyProof.Rows
set_option maxRecDepth 10000
set_option autoImplicit false
namespace Mine

noncomputable def flat : PV → Bool
  | .tup _ => false
  | .lst _ => false
  | .adr _ => false
  | _ => true
noncomputable def peq : PV → PV → Bool
  | .none, .none => true
  | .bool a, .bool b => a == b
  | .int a, .int b => a == b
  | .str a, .str b => a == b
  | .bool a, .int b => (if a then 1 else 0) == b
  | .int a, .bool b => a == (if b then 1 else 0)
  | _, _ => false
noncomputable def pvOf : Value → PV
  | .bool b => .bool b
  | .int i _ => .int i
  | .str x _ => .str x.cps.toList
  | _ => .none
theorem pvOf_rd {N : Led} {v : Value} {d : PV} (h : Rd N v d) (hf : flat d = true) : pvOf v = d := by
  cases h <;> first | rfl | cases hf
theorem eqAt_rd {A : Around} {s : Shared} {N : Led} {x y : Value} {d e : PV} (h1 : Rd N y d) (h2 : Rd N x e) (f1 : flat d = true) (f2 : flat e = true) : SeqAt.EqAt A s y x (peq d e) := by
  cases h1 with
  | adr _ => cases f1
  | tup _ _ _ _ => cases f1
  | lst _ _ _ _ => cases f1
  | none => cases h2 with
    | adr _ => cases f2
    | tup _ _ _ _ => cases f2
    | lst _ _ _ _ => cases f2
    | none => exact SeqAt.EqAt.same _
    | bool b => exact SeqAt.EqAt.none_bool _
    | int b u => exact SeqAt.EqAt.none_int _ _
    | str b u _ => exact SeqAt.EqAt.none_str _ _
  | bool a => cases h2 with
    | adr _ => cases f2
    | tup _ _ _ _ => cases f2
    | lst _ _ _ _ => cases f2
    | none => exact SeqAt.EqAt.bool_none _
    | bool b => exact SeqAt.EqAt.bool_bool _ _
    | int b u => exact SeqAt.EqAt.bool_int _ _ _
    | str b u _ => exact SeqAt.EqAt.bool_str _ _ _
  | int a t => cases h2 with
    | adr _ => cases f2
    | tup _ _ _ _ => cases f2
    | lst _ _ _ _ => cases f2
    | none => exact SeqAt.EqAt.int_none _ _
    | bool b => exact SeqAt.EqAt.int_bool _ _ _
    | int b u => exact SeqAt.EqAt.int_int _ _ _ _
    | str b u _ => exact SeqAt.EqAt.int_str _ _ _ _
  | str a t _ => cases h2 with
    | adr _ => cases f2
    | tup _ _ _ _ => cases f2
    | lst _ _ _ _ => cases f2
    | none => exact SeqAt.EqAt.str_none _ _
    | bool b => exact SeqAt.EqAt.str_bool _ _ _
    | int b u => exact SeqAt.EqAt.str_int _ _ _ _
    | str b u _ =>
      have := SeqAt.EqAt.str_str (A := A) (s := s) ⟨a.toArray⟩ t ⟨b.toArray⟩ u
      rw [Mine.str_beq] at this
      exact this

section
variable {W : Wd} {k : Nat} {cs : Scope} {ρ : PEnv}
theorem any_rd {N : Led} {vs : List Value} {ds : List PV} (hl : vs.length = ds.length) (h : ∀ (i : Nat) (v : Value) (d : PV), vs[i]? = some v → ds[i]? = some d → Rd N v d) (hf : ds.all flat = true) (p : PV → Bool) :
    vs.toArray.any (fun y => p (pvOf y)) = ds.any p := by
  rw [List.any_toArray]
  induction ds generalizing vs with
  | nil => cases vs with | nil => rfl | cons _ _ => cases hl
  | cons d ds ih => cases vs with
    | nil => cases hl
    | cons v vs =>
      simp only [List.all_cons, Bool.and_eq_true] at hf
      rw [List.any_cons, List.any_cons, pvOf_rd (h 0 v d rfl rfl) hf.1, ih (by simpa using hl) (fun i v d a b => h (i + 1) v d (by simpa using a) (by simpa using b)) hf.2]
theorem mem_rd {N : Led} {vs : List Value} {ds : List PV} (hl : vs.length = ds.length) (h : ∀ (i : Nat) (v : Value) (d : PV), vs[i]? = some v → ds[i]? = some d → Rd N v d) {y : Value} (hy : y ∈ vs) : ∃ d ∈ ds, Rd N y d := by
  obtain ⟨i, hi, rfl⟩ := List.getElem_of_mem hy
  exact ⟨ds[i]'(by omega), List.getElem_mem _, h i _ _ (by simp [hi]) (by simp [hl ▸ hi])⟩
theorem op_in_tup {x : PV} {ds : List PV} (hx : flat x = true) (hf : ds.all flat = true) : Op2 W x (.tup ds) (fun a b => compareOp .In a b) (.bool (ds.any fun d => peq d x)) := fun c own N m s₀ s a b ok at' ra rb => by
  obtain ⟨_, _, _, hm, hl, hz, hr, rfl⟩ := rb.tup_inv
  ·
    refine SeqAt.in_tupleAt (fun y => peq (pvOf y) x) (at'.isTup hm) (fun y hy => ?_) ?_
    · obtain ⟨d, hd, r⟩ := mem_rd hl hr (by simpa using hy)
      have fd := List.all_eq_true.mp hf d hd
      rw [pvOf_rd r fd]
      exact eqAt_rd r ra fd hx
    · rw [any_rd hl hr hf (fun d => peq d x)]
      exact Post.of (fun _ h => h) at' (.bool _)
theorem op_notin_tup {x : PV} {ds : List PV} (hx : flat x = true) (hf : ds.all flat = true) : Op2 W x (.tup ds) (fun a b => compareOp .NotIn a b) (.bool (!ds.any fun d => peq d x)) := fun c own N m s₀ s a b ok at' ra rb => by
  obtain ⟨_, _, _, hm, hl, hz, hr, rfl⟩ := rb.tup_inv
  ·
    refine SeqAt.notIn_tupleAt (fun y => peq (pvOf y) x) (at'.isTup hm) (fun y hy => ?_) ?_
    · obtain ⟨d, hd, r⟩ := mem_rd hl hr (by simpa using hy)
      have fd := List.all_eq_true.mp hf d hd
      rw [pvOf_rd r fd]
      exact eqAt_rd r ra fd hx
    · rw [any_rd hl hr hf (fun d => peq d x)]
      exact Post.of (fun _ h => h) at' (.bool _)
noncomputable def peqs (ds es : List PV) : Bool := ds.length == es.length && (List.range ds.length).all fun j => peq (ds.getD j .none) (es.getD j .none)
theorem op_eq_lst {ds es : List PV} (hf : ds.all flat = true) (hg : es.all flat = true) : Op2 W (.lst ds) (.lst es) (fun a b => compareOp .Eq a b) (.bool (peqs ds es)) := fun c own N m s₀ s a b ok at' ra rb => by
  obtain ⟨a, vs, n, hm, hl, hz, hr, rfl⟩ := ra.lst_inv
  ·
    obtain ⟨b, ws, n', hm', hl', hz', hr', rfl⟩ := rb.lst_inv
    ·
      have hu : c.A.units < cLine := by have := ok.units; show c.un < cLine; omega
      by_cases e : ds.length = es.length
      · have hsz : vs.toArray.size = ws.toArray.size := by simp [hl, hl', e]
        refine SeqAt.eq_listAt (e := fun j => peq (ds.getD j .none) (es.getD j .none)) (at'.isList hm) (at'.isList hm') hsz hu (fun j h1 h2 => ?_) ?_
        · have j1 : j < vs.length := by simpa using h1
          have j2 : j < ws.length := by simpa using h2
          have d1 : ds[j]? = some (ds.getD j .none) := by simp [List.getD_eq_getElem?_getD, hl ▸ j1]
          have d2 : es[j]? = some (es.getD j .none) := by simp [List.getD_eq_getElem?_getD, hl' ▸ j2]
          have r1 := hr j (vs.toArray[j]) _ (by simp [j1]) d1
          have r2 := hr' j (ws.toArray[j]) _ (by simp [j2]) d2
          exact eqAt_rd r1 r2 (List.all_eq_true.mp hf _ (List.mem_of_getElem? d1)) (List.all_eq_true.mp hg _ (List.mem_of_getElem? d2))
        · have : vs.toArray.size = ds.length := by simp [hl]
          rw [this]
          refine Post.of (fun _ h => h) at' ?_
          have q : peqs ds es = (List.range ds.length).all fun j => peq (ds.getD j .none) (es.getD j .none) := by simp [peqs, e]
          rw [q]; exact .bool _
      · refine SeqAt.eq_list_lengthsAt (at'.isList hm) (at'.isList hm') (by simp [hl, hl', e]) hu ?_
        refine Post.of (fun _ h => h) at' ?_
        have q : peqs ds es = false := by simp [peqs, e]
        rw [q]; exact .bool _
theorem op_add_lst {ds es : List PV} (hz : (ds ++ es).length ≤ 1000000) : Op2 W (.lst ds) (.lst es) (fun a b => binaryOp .Add a b) (.lst (ds ++ es)) := fun c own N m s₀ s a b ok at' ra rb => by
  obtain ⟨a, vs, n, hm, hl, _, hr, rfl⟩ := ra.lst_inv
  ·
    obtain ⟨b, ws, n', hm', hl', _, hr', rfl⟩ := rb.lst_inv
    ·
      refine add_arrays at'.fr at'.news (at'.isList hm) (at'.isList hm') (fun h' F' N' => ?_) (by simp only [List.size_toArray, hl, hl']; simp at hz; exact Nat.le_trans hz (by decide))
      have hd : ∀ p ∈ N, ∀ q ∈ own, p.1 ≠ q.1 := at'.disj
      refine ⟨(s.heap.objs.size, lstO (vs ++ ws) 0) :: N, fun p hp => .tail _ hp, ⟨by obtain ⟨h2, t2, rfl⟩ := at'.same; exact ⟨_, _, rfl⟩, F', fun p hp => ?_, fun p hp q hq => ?_⟩, ?_⟩
      · rcases List.mem_append.mp hp with hp | hp
        · exact N' p (.tail _ (List.mem_append_left _ hp))
        · rcases List.mem_cons.mp hp with rfl | hp
          · exact N' _ (by simp [lstO])
          · exact N' p (.tail _ (List.mem_append_right _ hp))
      · rcases List.mem_cons.mp hp with rfl | hp
        · exact Ne.symm (Nat.ne_of_lt (Heap.lt_size (at'.news q (List.mem_append_left _ hq)).1))
        · exact hd p hp q hq
      · have sb : ∀ p ∈ N, p ∈ ((s.heap.objs.size, lstO (vs ++ ws) 0) :: N) := fun p hp => .tail _ hp
        refine .lst (.head _) (by simp [hl, hl']) hz ?_
        exact (Rds.app (⟨hl, hr⟩ : Rds N vs ds) (⟨hl', hr'⟩ : Rds N ws es) |>.mono sb).at'
noncomputable def isNone : PV → Bool
  | .none => true
  | _ => false
theorem none_beq {N : Led} {v : Value} {d : PV} (h : Rd N v d) : (v == Value.none) = isNone d := by
  cases h <;> rfl
theorem op_is_none {d : PV} : Op2 W d .none (fun a b => compareOp .Is a b) (.bool (isNone d)) := fun c own N m s₀ s a b ok at' ra rb => by
  obtain rfl := rb.none_inv
  have e := none_beq ra
  with_reducible refine is_none ?_
  rw [e]; exact Post.of (fun _ h => h) at' (.bool _)
theorem op_isnot_none {d : PV} : Op2 W d .none (fun a b => compareOp .IsNot a b) (.bool (!isNone d)) := fun c own N m s₀ s a b ok at' ra rb => by
  obtain rfl := rb.none_inv
  have e := none_beq ra
  with_reducible refine isNot_none ?_
  rw [e]; exact Post.of (fun _ h => h) at' (.bool _)
noncomputable def isBool (b : Bool) : PV → Bool
  | .bool c => c == b
  | _ => false
theorem op_is_bool {d : PV} {b : Bool} (hf : flat d = true) : Op2 W d (.bool b) (fun a b => compareOp .Is a b) (.bool (isBool b d)) := fun c own N m s₀ s a b ok at' ra rb => by
  obtain rfl := rb.bool_inv
  cases ra with
  | none => exact wpAny_is_other rfl (fun e => by cases e) (Post.of (fun _ h => h) at' (.bool _))
  | int i t => exact wpAny_is_other rfl (fun e => by cases e) (Post.of (fun _ h => h) at' (.bool _))
  | str l t hz => exact wpAny_is_other rfl (fun e => by cases e) (Post.of (fun _ h => h) at' (.bool _))
  | bool x =>
    by_cases e : x = b
    · subst e
      refine wpAny_is_self rfl ?_
      have : isBool x (.bool x) = true := by simp [isBool]
      rw [this]; exact Post.of (fun _ h => h) at' (.bool _)
    · refine wpAny_is_other rfl (fun q => e (by injection q)) ?_
      have : isBool b (.bool x) = false := by simpa [isBool] using e
      rw [this]; exact Post.of (fun _ h => h) at' (.bool _)
  | adr _ => cases hf
  | tup _ _ _ _ => cases hf
  | lst _ _ _ _ => cases hf

theorem Ev.item_tup {value slice : Expr} {pos : Pos} {ds : List PV} {i : Int} {d : PV} (h1 : Ev W k cs ρ value (.tup ds)) (h2 : Ev W k cs ρ slice (.int i)) (h0 : 0 ≤ i) (hi : ds[i.toNat]? = some d)
    (hs : ∀ o j, subscripted slice false o j = operate [o, j] (getItem o j)) : Ev W k cs ρ (.Subscript value slice pos) d := by
  intro c own N m lm s₀ s ok hc hns at' he
  refine Subscript_ (Ev.use (h1) ok hc hns at' he fun a s1 N1 sb1 at1 r1 => ?_)
  refine Ev.use (h2) ok hc hns at1 (he.mono sb1) fun b s2 N2 sb2 at2 r2 => ?_
  obtain ⟨t, vs, n, hm, hl, hz, hr, rfl⟩ := r1.tup_inv
  ·
    obtain ⟨_, rfl⟩ := r2.int_inv
    have hlt : i.toNat < ds.length := (List.getElem?_eq_some_iff.mp hi).1
    have hv : vs[i.toNat]? = some (vs[i.toNat]'(by omega)) := by simp [hl ▸ hlt]
    refine item_tupleT (at2.isTup (sb2 _ hm)) (by omega) (by omega) (j := i.toNat) ?_ hv ?_ (hs _ _)
    · unfold seqIndex?
      simp only [show ¬ i < 0 by omega, if_false]
      simp; omega
    · exact Post.of (fun p hp => sb2 p (sb1 p hp)) at2 ((hr _ _ _ hv hi).mono sb2)
theorem Ev.item_lst {value slice : Expr} {pos : Pos} {ds : List PV} {i : Int} {d : PV} (h1 : Ev W k cs ρ value (.lst ds)) (h2 : Ev W k cs ρ slice (.int i)) (h0 : 0 ≤ i) (hi : ds[i.toNat]? = some d)
    (hs : ∀ o j, subscripted slice false o j = operate [o, j] (getItem o j)) : Ev W k cs ρ (.Subscript value slice pos) d := by
  intro c own N m lm s₀ s ok hc hns at' he
  refine Subscript_ (Ev.use (h1) ok hc hns at' he fun a s1 N1 sb1 at1 r1 => ?_)
  refine Ev.use (h2) ok hc hns at1 (he.mono sb1) fun b s2 N2 sb2 at2 r2 => ?_
  obtain ⟨t, vs, n, hm, hl, hz, hr, rfl⟩ := r1.lst_inv
  ·
    obtain ⟨_, rfl⟩ := r2.int_inv
    have hlt : i.toNat < ds.length := (List.getElem?_eq_some_iff.mp hi).1
    have hv : vs[i.toNat]? = some (vs[i.toNat]'(by omega)) := by simp [hl ▸ hlt]
    have hL := at2.isList (sb2 _ hm)
    refine tail_any hL.typeIs slot_list_getitem.lookup (wpAny_getItem_list hL h0 (by omega) (x := vs[i.toNat]'(by omega)) (by rw [List.getElem?_toArray]; exact hv) ?_) (hs _ _)
    exact Post.of (fun p hp => sb2 p (sb1 p hp)) at2 ((hr _ _ _ hv hi).mono sb2)
end
end Mine
end
section
open PySem PySem.W PySem.Calls PySem.Spec PyProof.Rows
set_option maxRecDepth 10000
set_option autoImplicit false
namespace Mine
section
variable {W : Wd} {k : Nat} {cs : Scope} {ρ : PEnv}

theorem CallTo.one {f : Value} {d r : PV} (h : ∀ (c : Cx) (own N : Led) (m : Str → Option Value) (s₀ s : Shared) (a : Value), c.Ok W k → At c own N m s₀ s → Rd N a d → wpAny (model W.prog W.w) c.A (call f [a]) (Post c own N m s₀ r) noE s) : CallTo W k f [d] r := by
  intro c own N m s₀ s vs ok at' r
  obtain ⟨v, vs, rfl, r1, r2⟩ := r.inv
  obtain rfl := r2.inv0
  exact h c own N m s₀ s v ok at' r1
theorem CallTo.two {f : Value} {d e r : PV} (h : ∀ (c : Cx) (own N : Led) (m : Str → Option Value) (s₀ s : Shared) (a b : Value), c.Ok W k → At c own N m s₀ s → Rd N a d → Rd N b e → wpAny (model W.prog W.w) c.A (call f [a, b]) (Post c own N m s₀ r) noE s) : CallTo W k f [d, e] r := by
  intro c own N m s₀ s vs ok at' r
  obtain ⟨v, vs, rfl, r1, r2⟩ := r.inv
  obtain ⟨v2, vs2, rfl, r3, r4⟩ := r2.inv
  obtain rfl := r4.inv0
  exact h c own N m s₀ s v v2 ok at' r1 r3
theorem call_ord {x : Nat} : CallTo W k (.builtin "ord") [.str [x]] (.int x) := .one fun c own N m s₀ s a ok at' r => by
  obtain ⟨_, _, rfl⟩ := r.str_inv
  with_reducible refine P.ord_of_char ?_
  exact Post.of (fun _ h => h) at'.tok (.int _ _)
theorem call_chr {i : Int} (h0 : 0 ≤ i) (h1 : i ≤ 1114111) : CallTo W k (.builtin "chr") [.int i] (.str [i.toNat]) := .one fun c own N m s₀ s a ok at' r => by
  obtain ⟨_, rfl⟩ := r.int_inv
  with_reducible refine chr_of_range h0 h1 ?_
  exact Post.of (fun _ h => h) at'.tok (.str [i.toNat] _ (by simp))
theorem call_abs {i : Int} : CallTo W k (.builtin "abs") [.int i] (.int (if i < 0 then -i else i)) := .one fun c own N m s₀ s a ok at' r => by
  obtain ⟨_, rfl⟩ := r.int_inv
  with_reducible refine call_abs_int ?_
  intro u tk
  exact Post.of (fun _ h => h) at'.tok (.int _ _)
theorem call_int_i {i : Int} : CallTo W k (.type "int") [.int i] (.int i) := .one fun c own N m s₀ s a ok at' r => by
  obtain ⟨_, rfl⟩ := r.int_inv
  with_reducible refine call_int_int ?_
  exact Post.of (fun _ h => h) at' (.int _ _)
theorem call_int_b {b : Bool} : CallTo W k (.type "int") [.bool b] (.int (if b = true then 1 else 0)) := .one fun c own N m s₀ s a ok at' r => by
  obtain rfl := r.bool_inv
  with_reducible refine call_int_bool ?_
  exact Post.of (fun _ h => h) at'.tok (.int _ _)
theorem call_str_i {i : Int} {l : List Nat} (h : i.natAbs.log2 < 1920) (hs : Str.ofString (toString i) = ⟨l.toArray⟩) (hz : l.length ≤ 1000000) : CallTo W k (.type "str") [.int i] (.str l) := .one fun c own N m s₀ s a ok at' r => by
  obtain ⟨_, rfl⟩ := r.int_inv
  with_reducible refine P.str_of_int h ?_
  rw [hs]
  exact Post.of (fun _ h => h) at'.tok (.str l _ hz)
theorem call_len_lst {ds : List PV} : CallTo W k (.builtin "len") [.lst ds] (.int ds.length) := .one fun c own N m s₀ s a ok at' r => by
  obtain ⟨b, vs, n, hm, hl, hz, hr, rfl⟩ := r.lst_inv
  ·
    refine PyProof.Rows.len_list (at'.isList hm) ?_ ?_
    · simp; omega
    · refine Post.of (fun _ h => h) at'.tok ?_
      have : (vs.toArray.size : Int) = ds.length := by simp [hl]
      rw [this]; exact .int _ _
theorem call_max {i j : Int} : CallTo W k (.builtin "max") [.int i, .int j] (.int (if j > i then j else i)) := .two fun c own N m s₀ s a b ok at' ra rb => by
  obtain ⟨_, rfl⟩ := ra.int_inv; obtain ⟨_, rfl⟩ := rb.int_inv
  refine max_two_N rfl at'.fr at'.news fun h' tk F' N' => ?_
  refine Post.of (fun _ h => h) (⟨by obtain ⟨h2, t2, rfl⟩ := at'.same; exact ⟨h', tk, rfl⟩, F', N', at'.disj⟩ : At c own N m s₀ { s with heap := h', toks := tk }) ?_
  exact .int _ _
theorem intsAre_rd {N : Led} {vs : List Value} {ns : List Int} (h : Rds N vs (ns.map .int)) : IntsAre vs ns := by
  induction ns generalizing vs with
  | nil => rw [h.inv0]; exact .nil
  | cons n ns ih =>
    obtain ⟨v, vs', rfl, r1, r2⟩ := h.inv
    obtain ⟨_, rfl⟩ := r1.int_inv
    exact .cons _ _ (ih r2)
theorem call_sum {ns : List Int} : CallTo W k (.builtin "sum") [.lst (ns.map .int)] (.int ns.sum) := .one fun c own N m s₀ s a ok at' r => by
  obtain ⟨b, vs, n, hm, hl, hz, hr, rfl⟩ := r.lst_inv
  ·
    refine LSm.sum_ints at'.fr at'.news rfl (at'.isList hm) (intsAre_rd ⟨hl, hr⟩) fun h' tk t' F' N' => ?_
    exact Post.of (fun _ h => h) (⟨by obtain ⟨h2, t2, rfl⟩ := at'.same; exact ⟨h', tk, rfl⟩, F', N', at'.disj⟩ : At c own N m s₀ { s with heap := h', toks := tk }) (.int _ _)

theorem Ev.meth_str {o : Expr} {name : Str} {apos pos : Pos} {e : Expr} {es : List Expr} {l : List Nat} {ds : List PV} {r : PV} {id : String} (ho : Ev W k cs ρ o (.str l)) (ha : Evs W k cs ρ (e :: es) ds)
    (hm : ∀ (M : Model) (A : Around) (s : Shared) (x : Str) (t : Tok) (pl : Sem Bool) (Q : Value × List Value → Shared → Prop), Q (.builtin id, [.str x t]) s → wpAny M A (getMethod (.str x t) name pl) Q noE s)
    (hcall : CallTo W 0 (.builtin id) (.str l :: ds) r)
    (he : ∀ env, ∃ pl, eval (.Call (.Attribute o name apos) (e :: es) [] pos) env = (do
      let ov ← eval o env
      standAt apos.atName
      let (f, first) ← holding [ov] (getMethod ov name pl)
      callWith pos f first (backTo pos (starEach (e :: es) env)) []))
    (hp : ∀ env, starEach (e :: es) env = (false, eval e env) :: starEach es env) (hn : ∀ env, (backTo pos (starEach es env)).any (·.1) = false) : Ev W k cs ρ (.Call (.Attribute o name apos) (e :: es) [] pos) r := by
  intro c own N m lm s₀ s ok hc hns at' hev
  obtain ⟨pl, hpl⟩ := he c.env
  refine MethodCall_ (pl := pl) (Ev.use (ho) ok hc hns at' hev fun v s1 N1 sb1 at1 r1 => ?_) hpl
  obtain ⟨t, hz, rfl⟩ := r1.str_inv
  ·
    refine hm _ _ _ _ _ _ _ ?_
    refine callWith_method1 (Evs.use (ha) ok hc hns at1 (hev.mono sb1) fun vs s2 N2 sb2 at2 r2 => ?_) (hp _) (hn _)
    exact wpAny_mono (hcall c own N2 m s₀ s2 _ (ok.mono (Nat.zero_le _)) at2 (.cons (.str l t hz) r2)) (fun v s' q => q.sub fun p hp => sb2 p (sb1 p hp)) fun _ _ x => x
theorem Ev.meth_str0 {o : Expr} {name : Str} {apos pos : Pos} {l : List Nat} {r : PV} {id : String} (ho : Ev W k cs ρ o (.str l))
    (hm : ∀ (M : Model) (A : Around) (s : Shared) (x : Str) (t : Tok) (pl : Sem Bool) (Q : Value × List Value → Shared → Prop), Q (.builtin id, [.str x t]) s → wpAny M A (getMethod (.str x t) name pl) Q noE s)
    (hcall : CallTo W 0 (.builtin id) [.str l] r)
    (he : ∀ env, ∃ pl, eval (.Call (.Attribute o name apos) [] [] pos) env = (do
      let ov ← eval o env
      standAt apos.atName
      let (f, first) ← holding [ov] (getMethod ov name pl)
      callWith pos f first (backTo pos (starEach [] env)) [])) : Ev W k cs ρ (.Call (.Attribute o name apos) [] [] pos) r := by
  intro c own N m lm s₀ s ok hc hns at' hev
  obtain ⟨pl, hpl⟩ := he c.env
  refine MethodCall_ (pl := pl) (Ev.use (ho) ok hc hns at' hev fun v s1 N1 sb1 at1 r1 => ?_) hpl
  obtain ⟨t, hz, rfl⟩ := r1.str_inv
  ·
    refine hm _ _ _ _ _ _ _ ?_
    refine callWith_method0 ?_
    exact wpAny_mono (hcall c own N1 m s₀ s1 _ (ok.mono (Nat.zero_le _)) at1 (.cons (.str l t hz) .nil)) (fun v s' q => q.sub sb1) fun _ _ x => x
end
end Mine
end
section
open PySem PySem.W PySem.Calls PySem.Spec PyProof.Rows
set_option maxRecDepth 10000
set_option autoImplicit false
namespace Mine
theorem cut_le (l : List Nat) (lo hi : Nat) : (cut l lo hi).length ≤ l.length := by simp [cut]; omega
inductive PtIs (n : Nat) : Option (Int × Tok) → Nat → Nat → Prop where
  | no {d : Nat} : PtIs n none d d
  | at' {i : Int} {t : Tok} {d j : Nat} (h0 : 0 ≤ i) (hj : j = min i.toNat n) : PtIs n (some (i, t)) d j
theorem filterMap_get (l : List Nat) (lo cnt : Nat) (h : lo + cnt ≤ l.length) : ((List.range cnt).map fun (k : Nat) => lo + k).filterMap (fun x => l[x]?) = (l.drop lo).take cnt := by
  induction cnt with
  | zero => simp
  | succ c ih =>
    rw [List.range_succ, List.map_append, List.filterMap_append, ih (by omega), List.take_add_one]
    congr 1
    simp only [List.map_cons, List.map_nil, List.filterMap_cons, List.filterMap_nil, List.getElem?_drop]
    cases l[lo + c]? <;> rfl
theorem range_cut (x y : Int) (a b : Nat) (hx : x = a) (hy : y = b) : List.map (fun (k : Nat) => (x + 1 * (k : Int)).toNat) (List.range (if x < y then (y - x + 1 - 1) / 1 else 0).toNat) = (List.range (b - a)).map fun (k : Nat) => a + k := by
  subst hx hy
  have e3 : (if (a : Int) < b then ((b : Int) - a + 1 - 1) / 1 else 0).toNat = b - a := by
    split
    · rw [Int.ediv_one]; omega
    · simp; omega
  rw [e3]
  refine List.map_congr_left fun k _ => ?_
  omega
theorem slice_post {l : List Nat} {t : Tok} {lo hi : Option (Int × Tok)} {a b : Nat} {Q : Value → Shared → Prop} {s : Shared} (hz : l.length ≤ 1000000) (h1 : PtIs l.length lo 0 a) (h2 : PtIs l.length hi l.length b)
    (hQ : ∀ t' tk, Q (.str ⟨(cut l a b).toArray⟩ t') { s with toks := tk }) : (sliceMade ⟨l.toArray⟩ t lo hi none).post Q s := by
  have hlen : Str.length ⟨l.toArray⟩ = l.length := by show l.toArray.size = _; simp
  have ha : a ≤ l.length := by cases h1 <;> omega
  have hb : b ≤ l.length := by cases h2 <;> omega
  have hp : slicePicked ⟨l.toArray⟩ lo hi none = (List.range (b - a)).map fun (k : Nat) => a + k := by
    unfold slicePicked Builtin.Str.strSliceIndices sliceRange
    rw [hlen]
    simp only [Option.map_none, Option.getD_none, show (1 : Int) > 0 by decide, if_true]
    refine range_cut _ _ a b ?_ ?_
    · cases h1 with
      | no => rfl
      | at' h0 hj => simp only [Option.map_some]; rw [if_neg (by omega), hj]; omega
    · cases h2 with
      | no => rfl
      | at' h0 hj => simp only [Option.map_some]; rw [if_neg (by omega), hj]; omega
  have hcut : (((List.range (b - a)).map fun (k : Nat) => a + k).filterMap (fun (x : Nat) => (⟨l.toArray⟩ : Str).cps[x]?)) = cut l a b := by
    have : (fun (x : Nat) => (⟨l.toArray⟩ : Str).cps[x]?) = fun (x : Nat) => l[x]? := by funext x; simp
    rw [this]
    by_cases hab : a ≤ b
    · rw [filterMap_get l a (b - a) (by omega)]
      unfold cut
      rw [List.drop_take]
    · have : b - a = 0 := by omega
      rw [this]; unfold cut; simp; omega
  unfold sliceMade
  rw [hp, hcut]
  split
  · rename_i hw
    simp only [Option.map_none, Option.getD_none, beq_self_eq_true, Bool.true_and, List.length_map, List.length_range, hlen, beq_iff_eq] at hw
    have : cut l a b = l := by
      have q0 : a = 0 := by omega
      have q1 : b = l.length := by omega
      rw [q0, q1]; simp [cut]
    have := hQ t s.toks
    rw [‹cut l a b = l›] at this
    exact this
  · refine ⟨?_, hQ _ _⟩
    show (cut l a b).toArray.size ≤ sizeLine
    rw [List.size_toArray]
    exact Nat.le_trans (cut_le l a b) (Nat.le_trans hz (by decide))
section
variable {W : Wd} {k : Nat} {cs : Scope} {ρ : PEnv}
noncomputable def Pt (W : Wd) (k : Nat) (cs : Scope) (ρ : PEnv) (e : Option Expr) (i : Option Int) : Prop :=
  match e, i with
  | none, none => True
  | some e, some i => Ev W k cs ρ e (.int i)
  | _, _ => False
noncomputable def ptAt (n d : Nat) : Option Int → Nat
  | none => d
  | some i => min i.toNat n
theorem Pt.run {e : Option Expr} {i : Option Int} (h : Pt W k cs ρ e i) {c : Cx} {own N : Led} {m lm : Str → Option Value} {s₀ s : Shared} (ok : c.Ok W k) (hc : c.env.scope = cs) (hns : NsOk c own m lm) (at' : At c own N m s₀ s) (he : EnvRd c N lm ρ) :
    wpAny (model W.prog W.w) c.A (evalPart e c.env) (fun v s' => ∃ o : Option (Int × Tok), v = partValue o ∧ o.map (·.1) = i ∧ ∃ N', (∀ p ∈ N, p ∈ N') ∧ At c own N' m s₀ s') noE s := by
  cases e with
  | none =>
    cases i with
    | none => rw [evalPart_none]; exact wpAny_pure ⟨none, rfl, rfl, N, fun _ h => h, at'⟩
    | some i => exact h.elim
  | some e =>
    cases i with
    | none => exact h.elim
    | some i =>
      rw [evalPart_some]
      refine Ev.use ((show Ev W k cs ρ e (.int i) from h)) ok hc hns at' he fun v s1 N1 sb1 at1 r1 => ?_
      obtain ⟨t, rfl⟩ := r1.int_inv
      · exact ⟨some (i, t), rfl, rfl, N1, sb1, at1⟩
theorem Ev.slice_str {value : Expr} {lower upper : Option Expr} {p pos : Pos} {l : List Nat} {lo hi : Option Int} (h1 : Ev W k cs ρ value (.str l)) (hl : Pt W k cs ρ lower lo) (hu : Pt W k cs ρ upper hi) (h0 : ∀ i, lo = some i → 0 ≤ i) (h2 : ∀ i, hi = some i → 0 ≤ i)
    (hg : ∀ o r, letTemporaryGo value o r = pure ()) : Ev W k cs ρ (.Subscript value (.Slice lower upper Option.none p) pos) (.str (cut l (ptAt l.length 0 lo) (ptAt l.length l.length hi))) := by
  intro c own N m lm s₀ s ok hc hns at' he
  refine wpAny_Subscript_str_slice (Ev.use (h1) ok hc hns at' he fun a s1 N1 sb1 at1 r1 => ?_) hg
  refine wpAny_mono (hl.run ok hc hns at1 (he.mono sb1)) (fun vl s2 ⟨ol, e1, e2, N2, sb2, at2⟩ => ?_) fun _ _ x => x
  refine wpAny_mono (hu.run ok hc hns at2 (he.mono fun p hp => sb2 p (sb1 p hp))) (fun vu s3 ⟨ou, e3, e4, N3, sb3, at3⟩ => ?_) fun _ _ x => x
  obtain ⟨t, hz, rfl⟩ := r1.str_inv
  ·
    refine ⟨⟨l.toArray⟩, t, ol, ou, rfl, e1, e3, ?_⟩
    have p1 : PtIs l.length ol 0 (ptAt l.length 0 lo) := by
      cases ol with
      | none => simp at e2; subst e2; exact .no
      | some q => obtain ⟨i, t⟩ := q; simp at e2; subst e2; exact .at' (h0 i rfl) rfl
    have p2 : PtIs l.length ou l.length (ptAt l.length l.length hi) := by
      cases ou with
      | none => simp at e4; subst e4; exact .no
      | some q => obtain ⟨i, t⟩ := q; simp at e4; subst e4; exact .at' (h2 i rfl) rfl
    refine slice_post hz p1 p2 fun t' tk => ?_
    exact Post.of (fun p hp => .tail _ (sb3 p (sb2 p (sb1 p hp)))) (at3.push _).tok (.str _ _ (Nat.le_trans (cut_le _ _ _) hz))

noncomputable def tyOf : PV → String
  | .none => "NoneType"
  | .bool _ => "bool"
  | .int _ => "int"
  | .str _ => "str"
  | _ => "object"
theorem isi_rd {c : Cx} {own N : Led} {m : Str → Option Value} {s₀ s : Shared} {v C : Value} {d : PV} {b : Bool} (ok : c.Ok W k) (at' : At c own N m s₀ s) (r : Rd N v d) (hf : flat d = true) (hk : kitOne W.K (.type (tyOf d)) C = some b) :
    wpAny (model W.prog W.w) c.A (call (.builtin "isinstance") [v, C]) (Post c own N m s₀ (.bool b)) noE s := by
  have fin : ∀ tk : Nat, Post c own N m s₀ (.bool b) (.bool b) { s with heap := s.heap, toks := tk } := fun tk => Post.of (fun _ h => h) at'.tok (.bool _)
  cases r with
  | none => exact kia_one kitx_none (at'.kin ok) trivial hk (fun e => by cases e) fin
  | bool _ => exact kia_one kitx_bool (at'.kin ok) trivial hk (fun e => by cases e) fin
  | int _ _ => exact kia_one kitx_int (at'.kin ok) trivial hk (fun e => by cases e) fin
  | str _ _ _ => exact kia_one kitx_str (at'.kin ok) trivial hk (fun e => by cases e) fin
  | adr _ => cases hf
  | tup _ _ _ _ => cases hf
  | lst _ _ _ _ => cases hf
theorem isi_rule {T : Str} {np tp pos : Pos} {e : Expr} {d : PV} {C : Value} {b : Bool} (hk : nsIn W.K mainGlobals ("isinstance" : Str) = some none) (hl : cs.names.lookup ("isinstance" : Str) = some .globalImplicit) (he : Ev W k cs ρ e d) (hf : flat d = true)
    (hT : ∀ (c : Cx) (own N : Led) (m : Str → Option Value) (s₀ s : Shared) (Q : Value → Shared → Prop), c.Ok W k → c.env.scope = cs → At c own N m s₀ s → Q C s → wpAny (model W.prog W.w) c.A (eval (.Name T tp) c.env) Q noE s)
    (hC : kitOne W.K (.type (tyOf d)) C = some b)
    (hp : ∀ env, starEach [e, .Name T tp] env = (false, eval e env) :: starEach [.Name T tp] env) : Ev W k cs ρ (.Call (.Name "isinstance" np) [e, .Name T tp] [] pos) (.bool b) := by
  intro c own N m lm s₀ s ok hc hns at' hev
  show wpAny _ _ (eval (.Name "isinstance" np) c.env >>= fun v => callWith pos v [] (backTo pos (starEach [e, .Name T tp] c.env)) []) _ _ s
  refine wpAny_bind (Name_blt hk Boot.isinstance hl (by decide +kernel) (by decide +kernel) ok hc at' ?_)
  refine PyProof.Rows.callWith_builtin1 ?_ (hp _) rfl
  rw [hp]
  refine spliced_cons (Ev.use (he) ok hc hns at' hev fun v s1 N1 sb1 at1 r1 => ?_)
  refine spliced_cons (hT c own N1 m s₀ s1 _ ok hc at1 ?_)
  refine wpAny_pure ?_
  exact wpAny_mono (isi_rd ok at1 r1 hf hC) (fun v s' q => q.sub sb1) fun _ _ x => x

theorem Itr.range2 {np pos : Pos} {e1 e2 : Expr} {a b : Int} (hk : nsIn W.K mainGlobals ("range" : Str) = some none) (hl : cs.names.lookup ("range" : Str) = some .globalImplicit) (h : Evs W k cs ρ [e1, e2] [.int a, .int b]) (h1 : -1000000 ≤ a) (h2 : a ≤ 1000000) (h3 : -1000000 ≤ b) (h4 : b ≤ 1000000)
    (hp : ∀ env, starEach [e1, e2] env = (false, eval e1 env) :: starEach [e2] env) (hn : ∀ env, (backTo pos (starEach [e2] env)).any (·.1) = false) : Itr W k cs ρ (.Call (.Name "range" np) [e1, e2] [] pos) ((List.range (b - a).toNat).map fun i => .int (a + (i : Nat))) := by
  intro c own N m lm s₀ s ok hc hns at' hev
  show wpAny _ _ (eval (.Name "range" np) c.env >>= fun v => callWith pos v [] (backTo pos (starEach [e1, e2] c.env)) []) _ _ s
  refine wpAny_bind (Name_blt hk Boot.range hl (by decide +kernel) (by decide +kernel) ok hc at' ?_)
  refine Pv.callWith_type1 (Evs.use (h) ok hc hns at' hev fun vs s1 N1 sb1 at1 r1 => ?_) (hp _) (hn _)
  obtain ⟨v1, vs1, rfl, ra, r1⟩ := r1.inv
  obtain ⟨v2, vs2, rfl, rb, r1⟩ := r1.inv
  obtain rfl := r1.inv0
  obtain ⟨t1, rfl⟩ := ra.int_inv
  obtain ⟨t2, rfl⟩ := rb.int_inv
  ·
    refine call_range_2 ?_
    have hsz : Builtin.Range.rangeSize a b 1 = (((b - a).toNat : Nat) : Int) := by
      unfold Builtin.Range.rangeSize
      simp only [show (1 : Int) > 0 by decide, if_true, Int.ediv_one]
      split <;> omega
    have hsm : Builtin.Range.small a b 1 = true := by
      unfold Builtin.Range.small Builtin.Range.rangeFitsLong
      rw [hsz]
      simp
      omega
    have at2 := at1.push { cls := .type "range", data := .fields #[.int a t1, .int b t2, .int 1 s1.toks] }
    refine wpAny_pyIter_range (a := a) (b := b) (c := 1) (Heap.get?_push_size _ rfl) hsm ?_
    rw [hsz]
    have at3 := at2.pushOwn { cls := .type "range_iterator", data := .fields #[rawInt a, rawInt (((b - a).toNat : Nat) : Int), rawInt 1] }
    generalize hn : (b - a).toNat = n at at3 hsz ⊢
    have hW := PySem.Walks.bound (LCg.range_walks (prog := W.prog) (w := W.w) (A := c.A) (I := (s1.heap.push ({ cls := .type "range", data := .fields #[.int a t1, .int b t2, .int 1 s1.toks] } : Obj)).objs.size) rfl a n)
    refine ⟨_, _, _, fun i v => i < n ∧ ∃ t, v = .int (a + (i : Int)) t, fun i h => IsRangeIter h (s1.heap.push ({ cls := .type "range", data := .fields #[.int a t1, .int b t2, .int 1 s1.toks] } : Obj)).objs.size (a + (i : Nat) * 1) ((n : Int) - (i : Nat)) 1, _, rfl, by simpa using hW, fun b hb => .inl (List.mem_singleton.mp hb), ?_, fun i h st => ⟨_, st⟩, fun p hp => .tail _ (sb1 p hp), at3.tok, ?_, at2.fresh_own⟩
    · rintro i v ⟨hi, t, rfl⟩
      exact ⟨_, by simp [hi], .int _ _⟩
    · show Heap.get? _ _ = some _
      simpa using Heap.get?_push_size (s1.heap.push ({ cls := .type "range", data := .fields #[.int a t1, .int b t2, .int 1 s1.toks] } : Obj)) (o := { cls := .type "range_iterator", data := .fields #[rawInt a, rawInt (n : Int), rawInt 1] }) rfl
end
end Mine
end
section
open PySem PySem.W PySem.Calls PySem.Spec PyProof.Rows
set_option maxRecDepth 10000
set_option autoImplicit false
namespace Mine
section
variable {W : Wd} {k : Nat} {cs : Scope} {ρ : PEnv}
theorem Ex.next_sub {ss : List Stmt} {ρ₂ ρ' : PEnv} (h : Ex W k cs ρ ss (.next ρ₂)) (hs : ∀ p ∈ ρ', p ∈ ρ₂) : Ex W k cs ρ ss (.next ρ') := by
  intro c own N m s₀ s ok hc hL at' he
  refine wpAny_mono (h c own N m s₀ s ok hc hL at' he) (fun f s1 q => ?_) fun _ _ x => x
  obtain ⟨rfl, N1, m1, sb1, at1, he1⟩ := q
  exact ⟨rfl, N1, m1, sb1, at1, he1.sub hs⟩
theorem ForL.steps {x : Str} {body : List Stmt} : ∀ (ds : List PV) (ρf : Nat → PEnv), (∀ i d, ds[i]? = some d → ∃ ρ1, Upd x d (ρf i) ρ1 ∧ (Ex W k cs ρ1 body (.next (ρf (i + 1))) ∨ Ex W k cs ρ1 body (.cont (ρf (i + 1))))) → ForL W k cs x body ds (ρf 0) (.next (ρf ds.length))
  | [], ρf, _ => .nil
  | d :: ds, ρf, h => by
    obtain ⟨ρ1, hu, hb⟩ := h 0 d rfl
    have ih := ForL.steps ds (fun i => ρf (i + 1)) fun i d hd => h (i + 1) d (by simpa using hd)
    rcases hb with hb | hb
    · exact .next hu hb (by simpa using ih)
    · exact .cont hu hb (by simpa using ih)
theorem WhileL.steps {t : Expr} {body : List Stmt} : ∀ (n : Nat) (ρf : Nat → PEnv), (∀ i, i < n → Ts W k cs (ρf i) t true ∧ Ex W k cs (ρf i) body (.next (ρf (i + 1)))) → Ts W k cs (ρf n) t false → WhileL W k cs t body n (ρf 0) (.next (ρf n))
  | 0, ρf, _, hd => .done hd
  | n + 1, ρf, h, hd => .step (h 0 (Nat.succ_pos _)).1 (h 0 (Nat.succ_pos _)).2 (WhileL.steps n (fun i => ρf (i + 1)) (fun i hi => h (i + 1) (Nat.succ_lt_succ hi)) hd)
theorem WhileL.steps' {t : Expr} {body : List Stmt} {out : Out} (n : Nat) (ρf : Nat → PEnv) (h0 : ρ = ρf 0) (hn : out = .next (ρf n)) (h : ∀ i, i < n → Ts W k cs (ρf i) t true ∧ Ex W k cs (ρf i) body (.next (ρf (i + 1)))) (hd : Ts W k cs (ρf n) t false) : WhileL W k cs t body n ρ out :=
  h0 ▸ hn ▸ WhileL.steps n ρf h hd
theorem ForL.steps' {x : Str} {body : List Stmt} {out : Out} {ds : List PV} (ρf : Nat → PEnv) (h0 : ρ = ρf 0) (hn : out = .next (ρf ds.length)) (h : ∀ i d, ds[i]? = some d → ∃ ρ1, Upd x d (ρf i) ρ1 ∧ (Ex W k cs ρ1 body (.next (ρf (i + 1))) ∨ Ex W k cs ρ1 body (.cont (ρf (i + 1))))) : ForL W k cs x body ds ρ out :=
  h0 ▸ hn ▸ ForL.steps ds ρf h
theorem Pt.no : Pt W k cs ρ Option.none Option.none := trivial
theorem Pt.yes {e : Expr} {i : Int} (h : Ev W k cs ρ e (.int i)) : Pt W k cs ρ (some e) (some i) := h
theorem Ex.assign_ife {x : Str} {p1 pos ip : Pos} {t a b : Expr} {rest : List Stmt} {tb : Bool} {out : Out} (hx : cs.names.lookup x = some .local) (hno : NmOk x = true) (ht : Ts W k cs ρ t tb)
    (h1 : tb = true → ∃ d ρ', Ev W k cs ρ a d ∧ Upd x d ρ ρ' ∧ Ex W k cs ρ' rest out) (h2 : tb = false → ∃ d ρ', Ev W k cs ρ b d ∧ Upd x d ρ ρ' ∧ Ex W k cs ρ' rest out)
    (hsw : ∀ env, swapsWith (.IfExp t a b ip) (some (.Name x p1)) pos.line env = pure false := by intro _; rfl) : Ex W k cs ρ (.Assign [.Name x p1] (.IfExp t a b ip) pos :: rest) out := by
  cases tb with
  | true =>
    obtain ⟨d, ρ', e, u, r⟩ := h1 rfl
    exact Ex.assign hx hno (Ev.ife ht (fun _ => e) (fun h => absurd h (by decide))) u r hsw
  | false =>
    obtain ⟨d, ρ', e, u, r⟩ := h2 rfl
    exact Ex.assign hx hno (Ev.ife ht (fun h => absurd h (by decide)) (fun _ => e)) u r hsw
theorem Ex.assignV {x : Str} {p1 pos : Pos} {e : Expr} {rest : List Stmt} (d : PV) {d₀ : PV} {ρ' : PEnv} {out : Out} (hx : cs.names.lookup x = some .local) (hno : NmOk x = true) (h : Ev W k cs ρ e d₀) (q : d₀ = d) (hu : Upd x d ρ ρ') (hr : Ex W k cs ρ' rest out)
    (hsw : ∀ env, swapsWith e (some (.Name x p1)) pos.line env = pure false := by intro _; rfl) : Ex W k cs ρ (.Assign [.Name x p1] e pos :: rest) out := by subst q; exact Ex.assign hx hno h hu hr hsw
theorem Ex.iteV {t : Expr} {b o rest : List Stmt} {pos : Pos} (tb : Bool) {tb₀ : Bool} {out : Out} (ht : Ts W k cs ρ t tb₀) (q : tb₀ = tb) (h1 : tb = true → Ex W k cs ρ (b ++ rest) out) (h2 : tb = false → Ex W k cs ρ (o ++ rest) out) : Ex W k cs ρ (.If t b o pos :: rest) out := by subst q; exact Ex.ite ht h1 h2
theorem Ex.seq {b rest : List Stmt} {ρ' : PEnv} {out : Out} (h1 : Ex W k cs ρ b (.next ρ')) (hr : Ex W k cs ρ' rest out) : Ex W k cs ρ (b ++ rest) out := by
  intro c own N m s₀ s ok hc hL at' he
  rw [execs_append]
  refine wpAny_bind (wpAny_mono (h1 c own N m s₀ s ok hc hL at' he) (fun f s1 q => ?_) fun _ _ x => x)
  obtain ⟨rfl, N1, m1, sb1, at1, he1⟩ := q
  exact Ex.go (hr) ok hc hL at1 he1 (sb1)
theorem Ex.iteJ {t : Expr} {b o rest : List Stmt} {pos : Pos} (tb : Bool) (ρ' : PEnv) {tb₀ : Bool} {out : Out} (ht : Ts W k cs ρ t tb₀) (q : tb₀ = tb) (h1 : tb = true → Ex W k cs ρ b (.next ρ')) (h2 : tb = false → Ex W k cs ρ o (.next ρ')) (hr : Ex W k cs ρ' rest out) :
    Ex W k cs ρ (.If t b o pos :: rest) out := by subst q; exact Ex.ite ht (fun h => (h1 h).seq hr) (fun h => (h2 h).seq hr)
theorem step_next {x : Str} {d : PV} {ρ₁ ρ₂ ρ' : PEnv} {body : List Stmt} (hu : Upd x d ρ ρ₁) (hb : Ex W k cs ρ₁ body (.next ρ₂)) (hs : ∀ p ∈ ρ', p ∈ ρ₂) :
    ∃ ρ1, Upd x d ρ ρ1 ∧ (Ex W k cs ρ1 body (.next ρ') ∨ Ex W k cs ρ1 body (.cont ρ')) := ⟨ρ₁, hu, .inl (hb.next_sub hs)⟩
end
end Mine
end
section
open PySem PySem.W PySem.Calls PySem.Spec PyProof.Rows
set_option maxRecDepth 10000
set_option autoImplicit false
namespace Mine
section
variable {W : Wd} {k : Nat} {cs : Scope} {ρ : PEnv}
noncomputable def bi (b : Bool) : Int := if b = true then 1 else 0
theorem op_blt {p q : Bool} : Op2 W (.bool p) (.bool q) (fun a b => compareOp .Lt a b) (.bool (decide (bi p < bi q))) := fun c own N m s₀ s a b ok at' ra rb => by
  obtain rfl := ra.bool_inv; obtain rfl := rb.bool_inv; with_reducible refine PyProof.Rows.lt_bool ?_; exact Post.of (fun _ h => h) at' (.bool _)
theorem op_bgt {p q : Bool} : Op2 W (.bool p) (.bool q) (fun a b => compareOp .Gt a b) (.bool (decide (bi q < bi p))) := fun c own N m s₀ s a b ok at' ra rb => by
  obtain rfl := ra.bool_inv; obtain rfl := rb.bool_inv; with_reducible refine PyProof.Rows.gt_bool ?_; exact Post.of (fun _ h => h) at' (.bool _)
theorem op_bne {p q : Bool} : Op2 W (.bool p) (.bool q) (fun a b => compareOp .NotEq a b) (.bool (p != q)) := fun c own N m s₀ s a b ok at' ra rb => by
  obtain rfl := ra.bool_inv; obtain rfl := rb.bool_inv; with_reducible refine PyProof.Rows.ne_bool ?_; exact Post.of (fun _ h => h) at' (.bool _)
theorem op_bne_int {p : Bool} {j : Int} : Op2 W (.bool p) (.int j) (fun a b => compareOp .NotEq a b) (.bool (bi p != j)) := fun c own N m s₀ s a b ok at' ra rb => by
  obtain rfl := ra.bool_inv; obtain ⟨_, rfl⟩ := rb.int_inv; with_reducible refine EqBoolInt.ne_bool_int ?_; exact Post.of (fun _ h => h) at' (.bool _)
theorem op_fdiv {i j : Int} (h : j ≠ 0) (h' : Builtin.divisionGoesByPylong i j = false) : Op2 W (.int i) (.int j) (fun a b => binaryOp .FloorDiv a b) (.int (Int.fdiv i j)) := fun c own N m s₀ s a b ok at' ra rb => by
  obtain ⟨_, rfl⟩ := ra.int_inv; obtain ⟨_, rfl⟩ := rb.int_inv
  refine PyProof.Rows.floordiv_int h ?_ (.inl h')
  exact Post.of (fun _ h => h) at'.tok (.int _ _)
noncomputable def isBoolV : PV → Bool
  | .bool _ => true
  | _ => false
noncomputable def isIntV : PV → Bool
  | .int _ => true
  | .bool _ => true
  | _ => false
noncomputable def isStrV : PV → Bool
  | .str _ => true
  | _ => false

theorem isi_blt {T : Str} {n : String} {np tp pos : Pos} {e : Expr} {d : PV} {b : Bool} (hk : nsIn W.K mainGlobals ("isinstance" : Str) = some none) (hl : cs.names.lookup ("isinstance" : Str) = some .globalImplicit)
    (hkT : nsIn W.K mainGlobals T = some none) (hv : bootBuiltins T = some (.type n)) (hlT : cs.names.lookup T = some .globalImplicit) (hnT : T ≠ "__name__") (hdT : (T == ("__debug__" : Str)) = false) (he : Ev W k cs ρ e d) (hf : flat d = true)
    (hC : kitOne W.K (.type (tyOf d)) (.type n) = some b)
    (hp : ∀ env, starEach [e, .Name T tp] env = (false, eval e env) :: starEach [.Name T tp] env) : Ev W k cs ρ (.Call (.Name "isinstance" np) [e, .Name T tp] [] pos) (.bool b) :=
  isi_rule hk hl he hf (fun c own N m s₀ s Q ok hc at' hQ => Name_blt hkT hv hlT hnT hdT ok hc at' hQ) hC hp
theorem isi_cls {T : Str} {C : Value} {np tp pos : Pos} {e : Expr} {d : PV} {b : Bool} (hk : nsIn W.K mainGlobals ("isinstance" : Str) = some none) (hl : cs.names.lookup ("isinstance" : Str) = some .globalImplicit)
    (hkT : nsIn W.K mainGlobals T = some (some C)) (hlT : cs.names.lookup T = some .globalImplicit) (hdT : (T == ("__debug__" : Str)) = false) (he : Ev W k cs ρ e d) (hf : flat d = true)
    (hC : kitOne W.K (.type (tyOf d)) C = some b)
    (hp : ∀ env, starEach [e, .Name T tp] env = (false, eval e env) :: starEach [.Name T tp] env) : Ev W k cs ρ (.Call (.Name "isinstance" np) [e, .Name T tp] [] pos) (.bool b) :=
  isi_rule hk hl he hf (fun c own N m s₀ s Q ok hc at' hQ => Name_glob hkT hlT hdT ok hc at' hQ) hC hp

theorem Itr.tup {e : Expr} {ds : List PV} (h : Ev W k cs ρ e (.tup ds)) : Itr W k cs ρ e ds := by
  intro c own N m lm s₀ s ok hc hns at' he
  refine Ev.use (h) ok hc hns at' he fun v s1 N1 sb1 at1 r1 => ?_
  obtain ⟨a, vs, n, hm, hl, hz, hr, rfl⟩ := r1.tup_inv
  ·
    have hL := at1.isTup hm
    have hlt : a < s1.heap.objs.size := Heap.lt_size (at1.obj hm)
    refine wpAny_pyIter_tuple hL ?_
    refine ⟨s1.heap.objs.size, _, [s1.heap.objs.size, a], fun i v => vs.toArray[i]? = some v, fun i h => h.IsTupleIter s1.heap.objs.size a i ∧ h.IsTuple a vs.toArray, N1, rfl, ?_, ?_, ?_, ?_, sb1, at1.pushOwn { cls := .type "tuple_iterator", data := .fields #[.ref a, .int 0 0] }, ?_, at1.fresh_own⟩
    · have := Walks.tuple (prog := W.prog) (w := W.w) (A := c.A) rfl s1.heap.objs.size a (Nat.ne_of_lt hlt) vs.toArray
      have e : vs.toArray.size = ds.length := by rw [List.size_toArray, hl]
      rw [e] at this
      exact this
    · intro b hb
      rcases List.mem_cons.mp hb with rfl | hb
      · exact .inl rfl
      · rw [List.mem_singleton.mp hb]; exact .inr ⟨_, hm⟩
    · intro i v hP
      have hP' : vs[i]? = some v := by simpa using hP
      have hi : i < ds.length := by
        rw [← hl]
        exact (List.getElem?_eq_some_iff.mp hP').1
      exact ⟨ds[i], by simp [hi], hr i v _ hP' (by simp [hi])⟩
    · intro i h st
      obtain ⟨o', e', _⟩ := st.1
      exact ⟨o', e'⟩
    · exact ⟨⟨_, Heap.get?_push_size _ rfl, rfl, rfl⟩, (by obtain ⟨o, e, r⟩ := hL; exact ⟨o, Heap.get?_push_of_some _ e, r⟩)⟩
theorem Itr.range1 {np pos : Pos} {e1 : Expr} {b : Int} (hk : nsIn W.K mainGlobals ("range" : Str) = some none) (hl : cs.names.lookup ("range" : Str) = some .globalImplicit) (h : Evs W k cs ρ [e1] [.int b]) (h3 : -1000000 ≤ b) (h4 : b ≤ 1000000)
    (hp : ∀ env, starEach [e1] env = (false, eval e1 env) :: starEach [] env) (hn : ∀ env, (backTo pos (starEach [] env)).any (·.1) = false) : Itr W k cs ρ (.Call (.Name "range" np) [e1] [] pos) ((List.range b.toNat).map fun i => .int (i : Nat)) := by
  intro c own N m lm s₀ s ok hc hns at' hev
  show wpAny _ _ (eval (.Name "range" np) c.env >>= fun v => callWith pos v [] (backTo pos (starEach [e1] c.env)) []) _ _ s
  refine wpAny_bind (Name_blt hk Boot.range hl (by decide +kernel) (by decide +kernel) ok hc at' ?_)
  refine Pv.callWith_type1 (Evs.use (h) ok hc hns at' hev fun vs s1 N1 sb1 at1 r1 => ?_) (hp _) (hn _)
  obtain ⟨v2, vs2, rfl, rb, r1⟩ := r1.inv
  obtain rfl := r1.inv0
  obtain ⟨t2, rfl⟩ := rb.int_inv
  ·
    refine call_range_1 ?_
    have hsz : Builtin.Range.rangeSize 0 b 1 = ((b.toNat : Nat) : Int) := by
      unfold Builtin.Range.rangeSize
      simp only [show (1 : Int) > 0 by decide, if_true, Int.ediv_one]
      split <;> omega
    have hsm : Builtin.Range.small 0 b 1 = true := by
      unfold Builtin.Range.small Builtin.Range.rangeFitsLong
      rw [hsz]
      simp
      omega
    have at2 := at1.push { cls := .type "range", data := .fields #[.int 0 s1.toks, .int b t2, .int 1 (s1.toks + 1)] }
    refine wpAny_pyIter_range (a := 0) (b := b) (c := 1) (Heap.get?_push_size _ rfl) hsm ?_
    rw [hsz]
    have at3 := at2.pushOwn { cls := .type "range_iterator", data := .fields #[rawInt 0, rawInt ((b.toNat : Nat) : Int), rawInt 1] }
    generalize hn : b.toNat = n at at3 hsz ⊢
    have hW := PySem.Walks.bound (LCg.range_walks (prog := W.prog) (w := W.w) (A := c.A) (I := (s1.heap.push ({ cls := .type "range", data := .fields #[.int 0 s1.toks, .int b t2, .int 1 (s1.toks + 1)] } : Obj)).objs.size) rfl 0 n)
    refine ⟨_, _, _, fun i v => i < n ∧ ∃ t, v = .int (0 + (i : Int)) t, fun i h => IsRangeIter h (s1.heap.push ({ cls := .type "range", data := .fields #[.int 0 s1.toks, .int b t2, .int 1 (s1.toks + 1)] } : Obj)).objs.size (0 + (i : Nat) * 1) ((n : Int) - (i : Nat)) 1, _, rfl, by simpa using hW, fun b hb => .inl (List.mem_singleton.mp hb), ?_, fun i h st => ⟨_, st⟩, fun p hp => .tail _ (sb1 p hp), at3.tok, ?_, at2.fresh_own⟩
    · rintro i v ⟨hi, t, rfl⟩
      refine ⟨.int (i : Nat), by simp [hi], ?_⟩
      rw [Int.zero_add]; exact .int _ _
    · show Heap.get? _ _ = some _
      simpa using Heap.get?_push_size (s1.heap.push ({ cls := .type "range", data := .fields #[.int 0 s1.toks, .int b t2, .int 1 (s1.toks + 1)] } : Obj)) (o := { cls := .type "range_iterator", data := .fields #[rawInt 0, rawInt (n : Int), rawInt 1] }) rfl

noncomputable def IteGo (b : Bool) (P Q : Prop) : Prop := (b = true → P) ∧ (b = false → Q)
theorem IteGo.t {b : Bool} {P Q : Prop} (e : b = true) (p : P) : IteGo b P Q := ⟨fun _ => p, fun f => absurd (e.symm.trans f) (by decide)⟩
theorem IteGo.f {b : Bool} {P Q : Prop} (e : b = false) (q : Q) : IteGo b P Q := ⟨fun f => absurd (e.symm.trans f) (by decide), fun _ => q⟩
theorem IteGo.both {b : Bool} {P Q : Prop} (p : b = true → P) (q : b = false → Q) : IteGo b P Q := ⟨p, q⟩
noncomputable def EvC (W : Wd) (k : Nat) (cs : Scope) (ρ : PEnv) (e : Expr) (d : PV) : Prop := Ev W k cs ρ e d
theorem EvC.of {e : Expr} {d d' : PV} (h : Ev W k cs ρ e d) (q : d = d') : EvC W k cs ρ e d' := q ▸ h
theorem Ex.iteG {t : Expr} {b o rest : List Stmt} {pos : Pos} {tb : Bool} {out : Out} (ht : Ts W k cs ρ t tb) (g : IteGo tb (Ex W k cs ρ (b ++ rest) out) (Ex W k cs ρ (o ++ rest) out)) : Ex W k cs ρ (.If t b o pos :: rest) out := Ex.ite ht g.1 g.2
theorem Ex.retG {t a b : Expr} {rest : List Stmt} {ip pos : Pos} {tb : Bool} {d : PV} (ht : Ts W k cs ρ t tb) (g : IteGo tb (EvC W k cs ρ a d) (EvC W k cs ρ b d)) : Ex W k cs ρ (.Return (some (.IfExp t a b ip)) pos :: rest) (.ret d) := Ex.ret (Ev.ife ht g.1 g.2)
theorem Ex.assignG {x : Str} {p1 pos ip : Pos} {t a b : Expr} {rest : List Stmt} {tb : Bool} {out : Out} (hx : cs.names.lookup x = some .local) (hno : NmOk x = true) (ht : Ts W k cs ρ t tb)
    (g : IteGo tb (∃ d ρ', Ev W k cs ρ a d ∧ Upd x d ρ ρ' ∧ Ex W k cs ρ' rest out) (∃ d ρ', Ev W k cs ρ b d ∧ Upd x d ρ ρ' ∧ Ex W k cs ρ' rest out))
    (hsw : ∀ env, swapsWith (.IfExp t a b ip) (some (.Name x p1)) pos.line env = pure false) : Ex W k cs ρ (.Assign [.Name x p1] (.IfExp t a b ip) pos :: rest) out := Ex.assign_ife hx hno ht g.1 g.2 hsw

noncomputable def AndGo (b₁ b : Bool) (P : Bool → Prop) : Prop := ∃ b₂, b = (b₁ && b₂) ∧ (b₁ = true → P b₂)
theorem AndGo.f {b₁ : Bool} {P : Bool → Prop} (e : b₁ = false) : AndGo b₁ false P := ⟨false, by rw [e]; rfl, fun f => absurd (e.symm.trans f) (by decide)⟩
theorem AndGo.t {b₁ b₂ : Bool} {P : Bool → Prop} (e : b₁ = true) (h : P b₂) : AndGo b₁ b₂ P := ⟨b₂, by rw [e]; rfl, fun _ => h⟩
theorem AndGo.both {b₁ b₂ : Bool} {P : Bool → Prop} (h : b₁ = true → P b₂) : AndGo b₁ (b₁ && b₂) P := ⟨b₂, rfl, h⟩
noncomputable def OrGo (b₁ b : Bool) (P : Bool → Prop) : Prop := ∃ b₂, b = (b₁ || b₂) ∧ (b₁ = false → P b₂)
theorem OrGo.t {b₁ : Bool} {P : Bool → Prop} (e : b₁ = true) : OrGo b₁ true P := ⟨true, by rw [e]; rfl, fun f => absurd (e.symm.trans f) (by decide)⟩
theorem OrGo.f {b₁ b₂ : Bool} {P : Bool → Prop} (e : b₁ = false) (h : P b₂) : OrGo b₁ b₂ P := ⟨b₂, by rw [e]; rfl, fun _ => h⟩
theorem OrGo.both {b₁ b₂ : Bool} {P : Bool → Prop} (h : b₁ = false → P b₂) : OrGo b₁ (b₁ || b₂) P := ⟨b₂, rfl, h⟩
theorem Ts.andG {x : Expr} {rest : List Expr} {pos : Pos} {b₁ b : Bool} (h : Ts W k cs ρ x b₁) (g : AndGo b₁ b fun b₂ => Ts W k cs ρ (.BoolOp .And rest pos) b₂) : Ts W k cs ρ (.BoolOp .And (x :: rest) pos) b :=
  let ⟨_, e, h2⟩ := g; e ▸ Ts.and_cons h h2
theorem Ts.orG {x : Expr} {rest : List Expr} {pos : Pos} {b₁ b : Bool} (h : Ts W k cs ρ x b₁) (g : OrGo b₁ b fun b₂ => Ts W k cs ρ (.BoolOp .Or rest pos) b₂) : Ts W k cs ρ (.BoolOp .Or (x :: rest) pos) b :=
  let ⟨_, e, h2⟩ := g; e ▸ Ts.or_cons h h2
theorem Ev.andG {e₁ e₂ : Expr} {rest : List Expr} {pos : Pos} {b₁ b : Bool} (h : Ev W k cs ρ e₁ (.bool b₁)) (g : AndGo b₁ b fun b₂ => Ev W k cs ρ (.BoolOp .And (e₂ :: rest) pos) (.bool b₂)) : Ev W k cs ρ (.BoolOp .And (e₁ :: e₂ :: rest) pos) (.bool b) :=
  let ⟨_, e, h2⟩ := g; e ▸ Ev.bool_and h h2
theorem Ev.orG {e₁ e₂ : Expr} {rest : List Expr} {pos : Pos} {b₁ b : Bool} (h : Ev W k cs ρ e₁ (.bool b₁)) (g : OrGo b₁ b fun b₂ => Ev W k cs ρ (.BoolOp .Or (e₂ :: rest) pos) (.bool b₂)) : Ev W k cs ρ (.BoolOp .Or (e₁ :: e₂ :: rest) pos) (.bool b) :=
  let ⟨_, e, h2⟩ := g; e ▸ Ev.bool_or h h2
theorem Ev.ifeG {t a b : Expr} {pos : Pos} {tb : Bool} {d : PV} (ht : Ts W k cs ρ t tb) (g : IteGo tb (EvC W k cs ρ a d) (EvC W k cs ρ b d)) : Ev W k cs ρ (.IfExp t a b pos) d := Ev.ife ht g.1 g.2
theorem EvC.ifeG {t a b : Expr} {pos : Pos} {tb : Bool} {d : PV} (ht : Ts W k cs ρ t tb) (g : IteGo tb (EvC W k cs ρ a d) (EvC W k cs ρ b d)) : EvC W k cs ρ (.IfExp t a b pos) d := Ev.ife ht g.1 g.2
theorem op_sgt {l r : List Nat} : Op2 W (.str l) (.str r) (fun a b => compareOp .Gt a b) (.bool (decide (r < l))) := fun c own N m s₀ s a b ok at' ra rb => by
  obtain ⟨_, _, rfl⟩ := ra.str_inv; obtain ⟨_, _, rfl⟩ := rb.str_inv; with_reducible refine P.gt_str ?_; exact Post.of (fun _ h => h) at' (.bool _)
theorem call_str_s {l : List Nat} : CallTo W k (.type "str") [.str l] (.str l) := .one fun c own N m s₀ s a ok at' r => by
  obtain ⟨t, hz, rfl⟩ := r.str_inv
  · with_reducible refine P.str_of_str ?_; exact Post.of (fun _ h => h) at' (.str _ _ hz)
end
end Mine
end
section
open PySem PySem.W PySem.Calls PySem.Spec PyProof.Rows
set_option maxRecDepth 10000
set_option autoImplicit false
namespace Mine
theorem At.grow {c : Cx} {own N : Led} {m : Str → Option Value} {s₀ s : Shared} {h' : Heap} (h : At c own N m s₀ s) (hk : ∀ b o, s.heap.get? b = some o → h'.get? b = some o) : At c own N m s₀ { s with heap := h' } :=
  ⟨by obtain ⟨h2, t2, rfl⟩ := h.same; exact ⟨h', t2, rfl⟩, h.fr.keeps hk, h.news.grown hk, h.disj⟩
theorem ext_keeps {h h' : Heap} (x : Heap.ExtBut h.objs.size h h') : ∀ b o, h.get? b = some o → h'.get? b = some o := fun b o e => x b o (Nat.ne_of_lt (Heap.lt_size e)) e
section
variable {W : Wd} {k : Nat} {cs : Scope} {ρ : PEnv}
theorem assignInOrder_two {f g : Value → Sem Unit} {a b : Value} {M : Model} {A : Around} {E : Value → Shared → Prop} {s : Shared} {Q : Unit → Shared → Prop} (h : wpAny M A (f a) (fun _ s' => wpAny M A (g b) Q E s') E s) : wpAny M A (assignInOrder [f, g] [a, b]) Q E s := by
  show wpAny M A (do holding [b] (f a); assignInOrder [g] [b]) Q E s
  refine wpAny_bind (wpAny_holding (wpAny_mono h (fun _ s' h' => ?_) fun _ _ x => x))
  show wpAny M A (do holding [] (g b); assignInOrder [] []) Q E s'
  refine wpAny_bind (wpAny_holding (wpAny_mono h' (fun _ s' h' => ?_) fun _ _ x => x))
  exact wpAny_pure h'
theorem Ex.pair {x y : Str} {px py tp vp pos : Pos} {kk kv : Nat} {e1 e2 : Expr} {rest : List Stmt} {d1 d2 : PV} {ρ1 ρ2 : PEnv} {out : Out} (hx : cs.names.lookup x = some .local) (hnx : NmOk x = true) (hy : cs.names.lookup y = some .local) (hny : NmOk y = true)
    (h : Evs W k cs ρ [e1, e2] [d1, d2]) (u1 : Upd y d2 ρ ρ1) (u2 : Upd x d1 ρ1 ρ2) (hr : Ex W k cs ρ2 rest out)
    (hs : ∀ env, swapsWithSole [.Tuple [.Name x px, .Name y py] kk tp] (.Tuple [e1, e2] kv vp) pos.line env = pure false)
    (hw : ∀ env : Env, env.scope = cs → swappedStores [.Tuple [.Name x px, .Name y py] kk tp] (.Tuple [e1, e2] kv vp) env = pure (some [x, y])) :
    Ex W k cs ρ (.Assign [.Tuple [.Name x px, .Name y py] kk tp] (.Tuple [e1, e2] kv vp) pos :: rest) out := by
  intro c own N m s₀ s ok hc hL at' he
  have hx' : c.env.kindOf x = some .local := by subst hc; exact hx
  have hy' : c.env.kindOf y = some .local := by subst hc; exact hy
  refine wpAny_execs_cons (Assign_Tuple_swapped (names := [x, y]) ?_ (hs _) (hw _ hc))
  refine Ev.use (Ev.tuple h (by simp)) ok hc (nsOk_L hL) at' he fun v s1 N1 sb1 at1 r1 => ?_
  obtain ⟨t, vs, n, hm, hl, hz, hr', rfl⟩ := r1.tup_inv
  ·
    obtain ⟨v1, vs1, rfl, ra, r1⟩ := (⟨hl, hr'⟩ : Rds N1 vs [d1, d2]).inv
    obtain ⟨v2, vs2, rfl, rb, r1⟩ := r1.inv
    obtain rfl := r1.inv0
    refine unpackItems_tuple (items := [v1, v2].toArray) rfl (at1.isTup hm) fun h' he' => ?_
    have at2 := at1.grow (ext_keeps he')
    refine assignInOrder_two (bindName_ (store_rule ok hL hy' at2 fun s3 at3 => bindName_ (store_rule ok hL hx' at3 fun s4 at4 => ?_)))
    have e3 := ((he.mono sb1).upd u1 rb hy' hny).upd u2 ra hx' hnx
    exact Ex.go (hr) ok hc hL at4 e3 (sb1)
theorem Ex.pairV {x y : Str} {px py tp vp pos : Pos} {kk kv : Nat} {e1 e2 : Expr} {rest : List Stmt} (d1 d2 : PV) {d01 d02 : PV} {ρ1 ρ2 : PEnv} {out : Out} (hx : cs.names.lookup x = some .local) (hnx : NmOk x = true) (hy : cs.names.lookup y = some .local) (hny : NmOk y = true)
    (h : Evs W k cs ρ [e1, e2] [d01, d02]) (q : [d01, d02] = [d1, d2]) (u1 : Upd y d2 ρ ρ1) (u2 : Upd x d1 ρ1 ρ2) (hr : Ex W k cs ρ2 rest out)
    (hs : ∀ env, swapsWithSole [.Tuple [.Name x px, .Name y py] kk tp] (.Tuple [e1, e2] kv vp) pos.line env = pure false)
    (hw : ∀ env : Env, env.scope = cs → swappedStores [.Tuple [.Name x px, .Name y py] kk tp] (.Tuple [e1, e2] kv vp) env = pure (some [x, y])) :
    Ex W k cs ρ (.Assign [.Tuple [.Name x px, .Name y py] kk tp] (.Tuple [e1, e2] kv vp) pos :: rest) out := by
  injection q with q1 q2; injection q2 with q2 _; subst q1 q2; exact Ex.pair hx hnx hy hny h u1 u2 hr hs hw
theorem Ex.while_ind {α : Type} {t : Expr} {body rest : List Stmt} {pos : Pos} {out : Out} (I : α → Prop) (ρf : α → PEnv) (μ : α → Nat)
    (step : ∀ a, I a → (Ts W k cs (ρf a) t false ∧ Ex W k cs (ρf a) rest out) ∨ (Ts W k cs (ρf a) t true ∧ ((∃ a', I a' ∧ Ex W k cs (ρf a) body (.next (ρf a')) ∧ μ a' < μ a) ∨ ∃ d, Ex W k cs (ρf a) body (.ret d) ∧ out = .ret d)))
    (a : α) (ha : I a) : Ex W k cs (ρf a) (.While t body [] pos :: rest) out := by
  have key : ∀ n a, I a → μ a ≤ n → (∃ d m, out = .ret d ∧ WhileL W k cs t body m (ρf a) (.ret d)) ∨ ∃ a' m, WhileL W k cs t body m (ρf a) (.next (ρf a')) ∧ Ex W k cs (ρf a') rest out := by
    intro n
    induction n with
    | zero =>
      intro a ha hn
      rcases step a ha with ⟨h, e⟩ | ⟨h, ⟨a', _, _, hm⟩ | ⟨d, hb, e⟩⟩
      · exact .inr ⟨a, 0, .done h, e⟩
      · omega
      · exact .inl ⟨d, 1, e, .ret h hb⟩
    | succ n ih =>
      intro a ha hn
      rcases step a ha with ⟨h, e⟩ | ⟨h, ⟨a', ha', hb, hm⟩ | ⟨d, hb, e⟩⟩
      · exact .inr ⟨a, 0, .done h, e⟩
      · rcases ih a' ha' (by omega) with ⟨d, m, e, w⟩ | ⟨a'', m, w, e⟩
        · exact .inl ⟨d, m + 1, e, .step h hb w⟩
        · exact .inr ⟨a'', m + 1, .step h hb w, e⟩
      · exact .inl ⟨d, 1, e, .ret h hb⟩
  rcases key (μ a) a ha (Nat.le_refl _) with ⟨d, m, rfl, w⟩ | ⟨a', m, w, e⟩
  · exact Ex.while_ret w
  · exact Ex.while_next w e
theorem Ex.while_out {α : Type} {t : Expr} {body rest : List Stmt} {pos : Pos} {out : Out} (I : α → Prop) (ρf : α → PEnv) (μ : α → Nat)
    (step : ∀ a, I a → (Ts W k cs (ρf a) t false ∧ Ex W k cs (ρf a) rest out) ∨ (Ts W k cs (ρf a) t true ∧ ∃ o, Ex W k cs (ρf a) body o ∧ ((∃ d, o = .ret d ∧ out = .ret d) ∨ ∃ a', o = .next (ρf a') ∧ I a' ∧ μ a' < μ a)))
    (a : α) (ha : I a) : Ex W k cs (ρf a) (.While t body [] pos :: rest) out := by
  refine Ex.while_ind I ρf μ (fun a ha => ?_) a ha
  rcases step a ha with h | ⟨h, o, hb, ⟨d, rfl, e⟩ | ⟨a', rfl, hi, hm⟩⟩
  · exact .inl h
  · exact .inr ⟨h, .inr ⟨d, hb, e⟩⟩
  · exact .inr ⟨h, .inl ⟨a', hi, hb, hm⟩⟩
end
end Mine
end
section
open PySem PySem.W PySem.Calls PySem.Spec PyProof.Rows
set_option maxRecDepth 10000
set_option autoImplicit false
namespace Mine
noncomputable def StM (c : Cx) (P : Addr) (own N : Led) (m : Str → Option Value) (s₀ : Shared) (es : List PV) (s : Shared) : Prop :=
  ∃ vs n, At c ((P, lstO vs n) :: own) N m s₀ s ∧ Rds N vs es ∧ ∀ q ∈ own, q.1 ≠ P
noncomputable def ExM (W : Wd) (k : Nat) (cs : Scope) (P : Addr) (ρ : PEnv) (es : List PV) (ss : List Stmt) (ρ' : PEnv) (es' : List PV) : Prop :=
  ∀ (c : Cx) (own N : Led) (m : Str → Option Value) (s₀ s : Shared), c.Ok W k → c.env.scope = cs → c.env.locals = c.L → StM c P own N m s₀ es s → EnvRd c N m ρ →
    wpAny (model W.prog W.w) c.A (execs ss c.env) (fun f s' => f = .next ∧ ∃ N' m', (∀ p ∈ N, p ∈ N') ∧ StM c P own N' m' s₀ es' s' ∧ EnvRd c N' m' ρ') noE s
noncomputable def ExF (W : Wd) (k : Nat) (cs : Scope) (P : Addr) (ρ : PEnv) (es : List PV) (ss : List Stmt) (out : Out) : Prop :=
  ∀ (c : Cx) (own N : Led) (m : Str → Option Value) (s₀ s : Shared), c.Ok W k → c.env.scope = cs → c.env.locals = c.L → StM c P own N m s₀ es s → EnvRd c N m ρ →
    wpAny (model W.prog W.w) c.A (execs ss c.env) (ExPost c own N s₀ out) noE s
section
variable {W : Wd} {k : Nat} {cs : Scope} {ρ ρ' : PEnv} {P : Addr} {es es' : List PV}
theorem ExM.sub {ss : List Stmt} {ρ'' : PEnv} (h : ExM W k cs P ρ es ss ρ' es') (hs : ∀ p ∈ ρ'', p ∈ ρ') : ExM W k cs P ρ es ss ρ'' es' := by
  intro c own N m s₀ s ok hc hL st he
  refine wpAny_mono (h c own N m s₀ s ok hc hL st he) (fun f s1 q => ?_) fun _ _ x => x
  obtain ⟨rfl, N1, m1, sb1, st1, he1⟩ := q
  exact ⟨rfl, N1, m1, sb1, st1, he1.sub hs⟩
theorem ExF.step {a b : List Stmt} {out : Out} (h : ExM W k cs P ρ es a ρ' es') (hr : ExF W k cs P ρ' es' b out) : ExF W k cs P ρ es (a ++ b) out := by
  intro c own N m s₀ s ok hc hL st he
  rw [execs_append]
  refine wpAny_bind (wpAny_mono (h c own N m s₀ s ok hc hL st he) (fun f s1 q => ?_) fun _ _ x => x)
  obtain ⟨rfl, N1, m1, sb1, st1, he1⟩ := q
  exact wpAny_mono (hr c own N1 m1 s₀ s1 ok hc hL st1 he1) (fun f s3 q => q.sub sb1) fun _ _ x => x
theorem ExF.cons {a : Stmt} {b : List Stmt} {out : Out} (h : ExM W k cs P ρ es [a] ρ' es') (hr : ExF W k cs P ρ' es' b out) : ExF W k cs P ρ es (a :: b) out := ExF.step h hr
noncomputable def Frz (P : Addr) (es : List PV) (ρ ρ' : PEnv) : Prop := ∀ p ∈ ρ', p ∈ ρ ∨ (p.2 = .lst es ∧ (p.1, .adr P) ∈ ρ)
theorem ExF.freeze {ss : List Stmt} {out : Out} (hf : Frz P es ρ ρ') (hz : es.length ≤ 1000000) (h : Ex W k cs ρ' ss out) : ExF W k cs P ρ es ss out := by
  intro c own N m s₀ s ok hc hL ⟨vs, n, at', r, hP⟩ he
  have sb : ∀ p ∈ N, p ∈ (P, lstO vs n) :: N := fun p hp => .tail _ hp
  have at1 : At c own ((P, lstO vs n) :: N) m s₀ s := ⟨at'.same, at'.fr, fun p hp => at'.news p (by
      rcases List.mem_append.mp hp with hp | hp
      · exact .tail _ (List.mem_append_left _ hp)
      · rcases List.mem_cons.mp hp with rfl | hp
        · exact .head _
        · exact .tail _ (List.mem_append_right _ hp)), fun p hp q hq => by
      rcases List.mem_cons.mp hp with rfl | hp
      · exact Ne.symm (hP q hq)
      · exact at'.disj p hp q (.tail _ hq)⟩
  refine wpAny_mono (h c own _ m s₀ s ok hc hL at1 fun p hp => ?_) (fun f s1 q => q.sub sb) fun _ _ x => x
  rcases hf p hp with hp | ⟨e, hp⟩
  · exact (he.mono sb) p hp
  · obtain ⟨v, rv, hv⟩ := (he.mono sb) _ hp
    obtain rfl := rv.adr_inv
    · exact ⟨_, e ▸ .lst (.head _) r.len hz (r.mono sb).at', hv⟩
theorem Ex.newlist {x : Str} {p1 lp pos : Pos} {rest : List Stmt} {out : Out} {ρf : Addr → PEnv} (hx : cs.names.lookup x = some .local) (hno : NmOk x = true) (hu : ∀ P, Upd x (.adr P) ρ (ρf P)) (h : ∀ P, ExF W k cs P (ρf P) [] rest out) :
    Ex W k cs ρ (.Assign [.Name x p1] (.List [] lp) pos :: rest) out := by
  intro c own N m s₀ s ok hc hL at' he
  have hx' : c.env.kindOf x = some .local := by subst hc; exact hx
  refine wpAny_execs_cons (wpAny_Assign_Name (List_ (wpAny_pure ?_)) rfl)
  refine wpAny_newObj_type ?_ (Nat.zero_le _)
  have at1 := at'.pushOwn { cls := .type "list", data := .seq ([] : List Value).toArray }
  refine store_rule ok hL hx' at1 fun s2 at2 => ?_
  exact h s.heap.objs.size c own N _ s₀ s2 ok hc hL ⟨[], 0, at2, .nil, at'.fresh_own⟩ (he.upd (hu _) (.adr _) hx' hno)
theorem ExM.append {x : Str} {xp ap cp ep : Pos} {e : Expr} {d : PV} (hm : (x, .adr P) ∈ ρ) (h : Ev W k cs ρ e d) (hz : es.length ≤ 1000000)
    (he' : ∀ env, ∃ pl, eval (.Call (.Attribute (.Name x xp) "append" ap) [e] [] cp) env = (do
      let ov ← eval (.Name x xp) env
      standAt ap.atName
      let (f, first) ← holding [ov] (getMethod ov "append" pl)
      callWith cp f first (backTo cp (starEach [e] env)) []))
    (hp : ∀ env, starEach [e] env = (false, eval e env) :: starEach [] env)
    (hs : ∀ env, swapsWith (.Call (.Attribute (.Name x xp) "append" ap) [e] [] cp) none ep.line env = pure false) : ExM W k cs P ρ es [.Expr (.Call (.Attribute (.Name x xp) "append" ap) [e] [] cp) ep] ρ (es ++ [d]) := by
  intro c own N m s₀ s ok hc hL ⟨vs, n, at', r, hP⟩ hev
  obtain ⟨pl, hpl⟩ := he' c.env
  have hi : interactive c.env = false := by unfold interactive; rw [ok.ek]; rfl
  refine wpAny_execs_cons (wpAny_Expr ?_ hi (hs _))
  refine MethodCall_ (pl := pl) (Ev.use (Ev.name hm) ok hc (nsOk_L hL) at' hev fun v s1 N1 sb1 at1 r1 => ?_) hpl
  obtain rfl := r1.adr_inv
  refine getMethod_list_append (at1.news _ (.head _)).1 rfl rfl ?_
  refine callWith_method1 ?_ (hp _) rfl
  rw [hp]
  refine spliced_cons (Ev.use (h) ok hc (nsOk_L hL) at1 (hev.mono sb1) fun v s2 N2 sb2 at2 r2 => ?_)
  refine wpAny_pure ?_
  refine append_at (at2.news _ (.head _)).1 (fun h' hs' hD => ?_) (by rw [List.size_toArray, r.len]; exact Nat.le_trans hz (by decide))
  refine wpAny_execs_nil ⟨rfl, N2, m, fun p hp => sb2 p (sb1 p hp), ⟨vs ++ [v], n + 1, ?_, (r.mono fun p hp => sb2 p (sb1 p hp)).app (.cons r2 .nil), hP⟩, hev.mono fun p hp => sb2 p (sb1 p hp)⟩
  refine at2.next (tk := s2.toks) (fun b o hb e => hs'.extBut b o (by simpa using hb) e) ?_ hP
  rw [hD, List.push_toArray]
theorem At.swap {c : Cx} {own N : Led} {a b : Addr × Obj} {m : Str → Option Value} {s₀ s : Shared} (h : At c (a :: b :: own) N m s₀ s) : At c (b :: a :: own) N m s₀ s :=
  ⟨h.same, h.fr, fun p hp => h.news p (by simp only [List.cons_append, List.mem_cons] at hp ⊢; rcases hp with h | h | h <;> simp [h]), fun p hp q hq => h.disj p hp q (by simp only [List.mem_cons] at hq ⊢; rcases hq with h | h | h <;> simp [h])⟩
theorem ExM.forN {x : Str} {xp pos : Pos} {iter : Expr} {body : List Stmt} {ds : List PV} (E : Nat → List PV) (hi : Itr W k cs ρ iter ds) (hx : cs.names.lookup x = some .local) (hno : NmOk x = true)
    (hb : ∀ i d, ds[i]? = some d → ∃ ρ1, Upd x d ρ ρ1 ∧ ExM W k cs P ρ1 (E i) body ρ (E (i + 1)))
    (hs : ∀ env v, foldedSetIterable iter env v = pure v) : ExM W k cs P ρ (E 0) [.For (.Name x xp) iter body [] pos] ρ (E ds.length) := by
  intro c own N m s₀ s ok hc hL ⟨vs, n, at', r, hP⟩ he
  have hx' : c.env.kindOf x = some .local := by subst hc; exact hx
  refine wpAny_execs_cons (wpAny_For (wpAny_mono (hi c _ N m m s₀ s ok hc (nsOk_L hL) at' he) (fun v s1 h1 => wpAny_mono h1 (fun it s2 h2 => ?_) fun _ _ x => x) fun _ _ x => x) (hs _))
  obtain ⟨I, oI, fp, PP, St, N0, rfl, Wk, hfp, hPP, hIo, sb0, at0, hst, hoI⟩ := h2
  have hIP : P ≠ I := hoI (P, lstO vs n) (.head _)
  have hoI' : ∀ q ∈ own, q.1 ≠ I := fun q hq => hoI q (.tail _ hq)
  have at0' := at0.swap
  obtain ⟨J, hJ⟩ : ∃ J : Nat → Shared → Prop, ∀ n s', J n s' ↔ (∃ i oI' vs' n' N' m', i ≤ ds.length ∧ n = ds.length + 1 - i ∧ (∀ p ∈ N0, p ∈ N') ∧ At c ((P, lstO vs' n') :: (I, oI') :: own) N' m' s₀ s' ∧ St i s'.heap ∧ EnvRd c N' m' ρ ∧ Rds N' vs' (E i)) := ⟨_, fun _ _ => Iff.rfl⟩
  refine codeAny_forLoop J (fun n s' hI => ?_) (ds.length + 1) ((hJ _ _).mpr ⟨0, oI, vs, n, N0, m, Nat.zero_le _, rfl, fun _ h => h, at0', hst, he.mono sb0, r.mono sb0⟩)
  obtain ⟨i, oI1, vs1, n1, N1, m1, hi1, rfl, sb1, at1, st1, he1, r1⟩ := (hJ _ _).mp hI
  by_cases hlt : i < ds.length
  · refine Wk.item i _ _ _ hlt st1 fun v h2 tk2 hPv st2 hk2 => ?_
    obtain ⟨d, hd, rd⟩ := hPP i v hPv
    obtain ⟨oI2, heI2⟩ := hIo _ _ st2
    have at2 := (at1.swap.next (tk := tk2) hk2 heI2 (fun q hq => by
      rcases List.mem_cons.mp hq with rfl | hq
      · exact hIP
      · exact hoI' q hq)).swap
    have rd1 : Rd N1 v d := rd.mono sb1
    obtain ⟨ρ1, hu, hbd⟩ := hb i d hd
    refine wpAny_assign_Name ?_
    refine wpAny_mono (E := noE) (Q := fun _ s3 => At c ((P, lstO vs1 n1) :: (I, oI2) :: own) N1 (fun y => if y = x then some v else m1 y) s₀ s3) (store_rule ok hL hx' at2 fun s3 at3 => at3) (fun _ s3 at3 => ?_) fun _ _ x => False.elim x
    refine wpAny_mono (hbd c ((I, oI2) :: own) N1 _ s₀ s3 ok hc hL ⟨vs1, n1, at3, r1, fun q hq => by
      rcases List.mem_cons.mp hq with rfl | hq
      · exact Ne.symm hIP
      · exact hP q hq⟩ (he1.upd hu rd1 hx' hno)) (fun f s4 q => ?_) fun _ _ x => False.elim x
    obtain ⟨rfl, N4, m4, sb4, ⟨vs4, n4, at4, r4, _⟩, he4⟩ := q
    exact ⟨_, turn_lt hlt, (hJ _ _).mpr ⟨i + 1, oI2, vs4, n4, N4, m4, hlt, rfl, fun p hp => sb4 p (sb1 p hp), at4, walks_keep Wk hfp at2 at4 (.tail _ (.head _)) (.tail _ (.head _)) sb1 sb4 st2, he4, r4⟩⟩
  · have hi2 := turn_end hi1 hlt
    refine Wk.done _ _ _ (hi2 ▸ st1) fun h2 tk2 hk2 => wpAny_execs_nil (wpAny_execs_nil ⟨rfl, N1, m1, fun p hp => sb1 p (sb0 p hp), ⟨vs1, n1, at1.swap.done hk2 fun q hq => ?_, hi2 ▸ r1, hP⟩, he1⟩)
    rcases List.mem_cons.mp hq with rfl | hq
    · exact hIP
    · exact hoI' q hq
end
end Mine
end
section
open PySem PySem.W PySem.Calls PySem.Spec PyProof.Rows
open PySem.Builtin PySem.Builtin.Str
set_option maxRecDepth 10000
set_option autoImplicit false
namespace Mine
section
variable {W : Wd} {k : Nat} {cs : Scope} {ρ : PEnv}
noncomputable def stripP (y l : List Nat) : List Nat := (l.take (l.length - ((l.drop (l.takeWhile y.contains).length).reverse.takeWhile y.contains).length)).drop (l.takeWhile y.contains).length
theorem contains_arr (y : List Nat) : (fun c => (⟨y.toArray⟩ : Str).cps.contains c) = y.contains := by funext c; simp
theorem lstrip_is (l y : List Nat) : Txt.lstripChars ⟨l.toArray⟩ ⟨y.toArray⟩ = ⟨(l.dropWhile y.contains).toArray⟩ := by
  unfold Txt.lstripChars
  rw [PyProof.Rows.stripBy_eq]
  unfold stripLo stripHi strSub
  have e : (⟨y.toArray⟩ : Str).cps.contains = y.contains := contains_arr y
  rw [e]
  simp only [if_true, Bool.false_eq_true, if_false, Str.length]
  congr 1
  rw [List.extract_toArray, List.extract_eq_drop_take']
  simp only [List.size_toArray, List.take_length]
  rw [drop_tw]
theorem strip_is (l y : List Nat) : Txt.stripChars ⟨l.toArray⟩ ⟨y.toArray⟩ = ⟨(stripP y l).toArray⟩ := by
  unfold Txt.stripChars
  rw [PyProof.Rows.stripBy_eq]
  unfold stripLo stripHi strSub
  have e : (⟨y.toArray⟩ : Str).cps.contains = y.contains := contains_arr y
  rw [e]
  simp only [if_true, Str.length]
  congr 1
  rw [List.extract_toArray, List.extract_eq_drop_take']
  simp [stripP]
theorem call_lstrip {l y : List Nat} : CallTo W k (.builtin "str.lstrip") [.str l, .str y] (.str (l.dropWhile y.contains)) := .two fun c own N m s₀ s a b ok at' ra rb => by
  obtain ⟨t, hz, rfl⟩ := ra.str_inv
  obtain ⟨u, hz', rfl⟩ := rb.str_inv
  ·
      refine SC.lstripChars (fun t' k => ?_) (by show l.toArray.size ≤ sizeLine; rw [List.size_toArray]; exact Nat.le_trans hz (by decide))
      rw [lstrip_is]
      exact Post.of (fun _ h => h) at'.tok (.str _ _ (Nat.le_trans (dropWhile_len _ _) hz))
theorem call_strip {l y : List Nat} : CallTo W k (.builtin "str.strip") [.str l, .str y] (.str (stripP y l)) := .two fun c own N m s₀ s a b ok at' ra rb => by
  obtain ⟨t, hz, rfl⟩ := ra.str_inv
  obtain ⟨u, hz', rfl⟩ := rb.str_inv
  ·
      refine SC.stripChars (fun t' k => ?_) (by show l.toArray.size ≤ sizeLine; rw [List.size_toArray]; exact Nat.le_trans hz (by decide))
      rw [strip_is]
      exact Post.of (fun _ h => h) at'.tok (.str _ _ (by unfold stripP; simp; omega))
noncomputable abbrev digs : List Nat := [48, 49, 50, 51, 52, 53, 54, 55, 56, 57]
theorem occ_digs : ∀ c ∈ digs, occurrences ⟨digs.toArray⟩ ⟨#[c]⟩ 0 10 1 = [c - 48] := by decide +kernel
theorem call_index {c : Nat} (hc : isD c = true) : CallTo W k (.builtin "str.index") [.str digs, .str [c]] (.int (c - 48 : Nat)) := .two fun c' own N m s₀ s a b ok at' ra rb => by
  have hm : c ∈ digs := by
    rw [isD_iff] at hc
    exact (by decide +kernel : ∀ c < 58, 48 ≤ c → c ∈ digs) c (Nat.lt_succ_of_le hc.2) hc.1
  obtain ⟨t, hz, rfl⟩ := ra.str_inv
  obtain ⟨u, hz', rfl⟩ := rb.str_inv
  ·
      refine SC.index (i := c - 48) (rest := []) (occ_digs c hm) ?_
      exact Post.of (fun _ h => h) at'.tok (.int _ _)
noncomputable def lowP (l : List Nat) : List Nat := l.map fun c => if 65 ≤ c ∧ c ≤ 90 then c + 32 else c
noncomputable def upP (l : List Nat) : List Nat := l.map fun c => if 97 ≤ c ∧ c ≤ 122 then c - 32 else c
theorem fit_lower' {l : List Nat} (hz : l.length ≤ 1000000) : tooLong (Str.length ⟨(lowP l).toArray⟩) = false := by
  unfold tooLong sizeLine Str.length
  simp [lowP]; omega
theorem sum_ones (l : List Nat) : (l.map fun _ => 1).sum = l.length := by
  induction l with
  | nil => rfl
  | cons c l ih => simp only [List.map_cons, List.sum_cons, ih, List.length_cons]; omega
theorem call_lower {l : List Nat} (ha : ∀ c ∈ l, c < 128) : CallTo W k (.builtin "str.lower") [.str l] (.str (lowP l)) := .one fun c own N m s₀ s a ok at' ra => by
  obtain ⟨t, hz, rfl⟩ := ra.str_inv
  ·
    have e : Txt.lower ⟨l.toArray⟩ = ⟨(lowP l).toArray⟩ := by
      rw [lower_ascii (by simpa using ha)]
      simp [lowP, lo1]
    refine SC.lower ?_ ?_
    · rw [e]; exact fit_lower' hz
    · rw [e]; exact Post.of (fun _ h => h) at'.tok (.str _ _ (by simp [lowP]; exact hz))
theorem call_join {l : List Nat} (hz : l.length ≤ 1000000) : CallTo W k (.builtin "str.join") [.str [], .lst (l.map fun c => .str [c])] (.str l) := .two fun c own N m s₀ s a b ok at' ra rb => by
  obtain ⟨t, hz0, rfl⟩ := ra.str_inv
  obtain ⟨D, vs, n, hm, hl, hz', hr, rfl⟩ := rb.lst_inv
  ·
      have hs : StrsAre vs (l.map fun c => ⟨#[c]⟩) := by
        clear hm hz' hz rb ra at'
        induction l generalizing vs with
        | nil =>
          have e : vs = [] := List.length_eq_zero_iff.mp (by simpa using hl)
          rw [e]; exact .nil
        | cons x l ih =>
          cases vs with
          | nil => simp at hl
          | cons v vs =>
            have h0 := hr 0 v (.str [x]) rfl rfl
            cases h0 with
            | str _ u _ => exact .cons _ u (ih _ (by simpa using hl) fun i w d hw hd => hr (i + 1) w d (by simpa using hw) (by simpa using hd))
      refine join_list (at'.isList hm) (ys := l.map fun c => ⟨#[c]⟩) (by simpa using hs) (by rw [show (l.map fun c => (⟨#[c]⟩ : Str)).map (·.length) = l.map fun _ => 1 from by rw [List.map_map]; rfl, sum_ones]; simp [Str.length]; omega) (fun t' k => ?_)
      have e : Txt.join ⟨#[]⟩ (l.map fun c => ⟨#[c]⟩) = ⟨l.toArray⟩ := by
        show glued _ _ = _
        rw [StrLaws.glued_eq_join]
        exact join_nil_signs ⟨l.toArray⟩
      show Post _ _ _ _ _ _ (.str (Txt.join ⟨#[]⟩ _) _) _
      rw [e]
      exact Post.of (fun _ h => h) at'.tok (.str _ _ hz)
theorem Ev.mLstrip {o : Expr} {apos pos : Pos} {e : Expr} {l y : List Nat} (ho : Ev W k cs ρ o (.str l)) (h : Evs W k cs ρ [e] [.str y])
    (he : ∀ env, ∃ pl, eval (.Call (.Attribute o "lstrip" apos) [e] [] pos) env = (do
      let ov ← eval o env
      standAt apos.atName
      let (f, first) ← holding [ov] (getMethod ov "lstrip" pl)
      callWith pos f first (backTo pos (starEach [e] env)) []))
    (hp : ∀ env, starEach [e] env = (false, eval e env) :: starEach [] env) (hn : ∀ env, (backTo pos (starEach [] env)).any (·.1) = false) : Ev W k cs ρ (.Call (.Attribute o "lstrip" apos) [e] [] pos) (.str (l.dropWhile y.contains)) :=
  Ev.meth_str (id := "str.lstrip") ho h (fun _ _ _ _ _ _ _ q => GM.lstrip q) call_lstrip he hp hn
theorem Ev.mStrip {o : Expr} {apos pos : Pos} {e : Expr} {l y : List Nat} (ho : Ev W k cs ρ o (.str l)) (h : Evs W k cs ρ [e] [.str y])
    (he : ∀ env, ∃ pl, eval (.Call (.Attribute o "strip" apos) [e] [] pos) env = (do
      let ov ← eval o env
      standAt apos.atName
      let (f, first) ← holding [ov] (getMethod ov "strip" pl)
      callWith pos f first (backTo pos (starEach [e] env)) []))
    (hp : ∀ env, starEach [e] env = (false, eval e env) :: starEach [] env) (hn : ∀ env, (backTo pos (starEach [] env)).any (·.1) = false) : Ev W k cs ρ (.Call (.Attribute o "strip" apos) [e] [] pos) (.str (stripP y l)) :=
  Ev.meth_str (id := "str.strip") ho h (fun _ _ _ _ _ _ _ q => GM.strip q) call_strip he hp hn
theorem Ev.mIndex {o : Expr} {apos pos : Pos} {e : Expr} {c : Nat} (ho : Ev W k cs ρ o (.str digs)) (h : Evs W k cs ρ [e] [.str [c]]) (hc : isD c = true)
    (he : ∀ env, ∃ pl, eval (.Call (.Attribute o "index" apos) [e] [] pos) env = (do
      let ov ← eval o env
      standAt apos.atName
      let (f, first) ← holding [ov] (getMethod ov "index" pl)
      callWith pos f first (backTo pos (starEach [e] env)) []))
    (hp : ∀ env, starEach [e] env = (false, eval e env) :: starEach [] env) (hn : ∀ env, (backTo pos (starEach [] env)).any (·.1) = false) : Ev W k cs ρ (.Call (.Attribute o "index" apos) [e] [] pos) (.int (c - 48 : Nat)) :=
  Ev.meth_str (id := "str.index") ho h (fun _ _ _ _ _ _ _ q => GM.index q) (call_index hc) he hp hn
theorem Ev.mJoin {o : Expr} {apos pos : Pos} {e : Expr} {l : List Nat} (ho : Ev W k cs ρ o (.str [])) (h : Evs W k cs ρ [e] [.lst (l.map fun c => .str [c])]) (hz : l.length ≤ 1000000)
    (he : ∀ env, ∃ pl, eval (.Call (.Attribute o "join" apos) [e] [] pos) env = (do
      let ov ← eval o env
      standAt apos.atName
      let (f, first) ← holding [ov] (getMethod ov "join" pl)
      callWith pos f first (backTo pos (starEach [e] env)) []))
    (hp : ∀ env, starEach [e] env = (false, eval e env) :: starEach [] env) (hn : ∀ env, (backTo pos (starEach [] env)).any (·.1) = false) : Ev W k cs ρ (.Call (.Attribute o "join" apos) [e] [] pos) (.str l) :=
  Ev.meth_str (id := "str.join") ho h (fun _ _ _ _ _ _ _ q => GM.join q) (call_join hz) he hp hn
theorem Ev.mLower {o : Expr} {apos pos : Pos} {l : List Nat} (ho : Ev W k cs ρ o (.str l)) (ha : ∀ c ∈ l, c < 128)
    (he : ∀ env, ∃ pl, eval (.Call (.Attribute o "lower" apos) [] [] pos) env = (do
      let ov ← eval o env
      standAt apos.atName
      let (f, first) ← holding [ov] (getMethod ov "lower" pl)
      callWith pos f first (backTo pos (starEach [] env)) [])) : Ev W k cs ρ (.Call (.Attribute o "lower" apos) [] [] pos) (.str (lowP l)) :=
  Ev.meth_str0 (id := "str.lower") ho (fun _ _ _ _ _ _ _ q => GM.lower q) (call_lower ha) he
end
end Mine
end
section
open PySem PySem.W PySem.Calls PySem.Spec PyProof.Rows
set_option maxRecDepth 10000
set_option autoImplicit false
namespace Mine
theorem mmA {α : Type} {x y : α} {l r : List α} : ∀ p, p ∈ x :: (l ++ y :: r) → p ∈ l ++ y :: x :: r := fun p hp => by
  simp only [List.mem_cons, List.mem_append] at hp ⊢
  rcases hp with h | h | h | h <;> simp [h]
theorem mmB {α : Type} {x y : α} {l r : List α} : ∀ p, p ∈ l ++ y :: x :: r → p ∈ x :: (l ++ y :: r) := fun p hp => by
  simp only [List.mem_cons, List.mem_append] at hp ⊢
  rcases hp with h | h | h | h <;> simp [h]
theorem mmC {α : Type} {x y : α} {l r : List α} : ∀ p, p ∈ y :: (l ++ x :: r) → p ∈ l ++ y :: x :: r := fun p hp => by
  simp only [List.mem_cons, List.mem_append] at hp ⊢
  rcases hp with h | h | h | h <;> simp [h]
theorem mmD {α : Type} {x y : α} {l r : List α} : ∀ p, p ∈ l ++ y :: x :: r → p ∈ y :: (l ++ x :: r) := fun p hp => by
  simp only [List.mem_cons, List.mem_append] at hp ⊢
  rcases hp with h | h | h | h <;> simp [h]
theorem mmE {α : Type} {x y : α} {l r : List α} : ∀ p, p ∈ l ++ x :: y :: r → p ∈ x :: y :: (l ++ r) := fun p hp => by
  simp only [List.mem_cons, List.mem_append] at hp ⊢
  rcases hp with h | h | h | h <;> simp [h]
theorem mmF {α : Type} {x y : α} {l r : List α} : ∀ p, p ∈ x :: y :: (l ++ r) → p ∈ l ++ x :: y :: r := fun p hp => by
  simp only [List.mem_cons, List.mem_append] at hp ⊢
  rcases hp with h | h | h | h <;> simp [h]
theorem mm1 {α : Type} {x : α} {l r : List α} : x ∈ l ++ x :: r := List.mem_append_right _ (.head _)
theorem mm2 {α : Type} {x y : α} {l r : List α} : x ∈ l ++ y :: x :: r := List.mem_append_right _ (.tail _ (.head _))
theorem mm3 {α : Type} {x y : α} {l r : List α} : x ∈ l ++ (y :: x :: r) := List.mem_append_right _ (.tail _ (.head _))
theorem At.perm {c : Cx} {own own' N : Led} {m : Str → Option Value} {s₀ s : Shared} (h : At c own N m s₀ s) (hp : ∀ p ∈ own', p ∈ own) : At c own' N m s₀ s :=
  ⟨h.same, h.fr, fun p hp' => h.news p (by
    rcases List.mem_append.mp hp' with q | q
    · exact List.mem_append_left _ (hp p q)
    · exact List.mem_append_right _ q), fun p hp' q hq => h.disj p hp' q (hp q hq)⟩
theorem comp_loop {W : Wd} {k : Nat} {c : Cx} {own N : Led} {m lm : Str → Option Value} {s₀ s : Shared} {ds : List PV} (F : Nat → Option PV) (addrs : List Addr) (Good : Nat → Led → Prop) (hG : ∀ i priv, Good i priv → priv.map (·.1) = addrs)
    {ρ : PEnv} {cenv : Env} {elt target iter : Expr} {ifs : List Expr} {scope : Scope} {pos : Pos} {I D : Addr} {oI : Obj} {fp : List Addr} {PP : Nat → Value → Prop} {St : Nat → Heap → Prop} {priv0 : Led} {R : Result → Shared → Prop}
    (Wk : Walks W.prog W.w c.A I fp [I] ds.length PP St) (hfp : ∀ b ∈ fp, b = I ∨ ∃ o, (b, o) ∈ N) (hPP : ∀ i v, PP i v → ∃ d, ds[i]? = some d ∧ Rd N v d) (hIo : ∀ i h, St i h → ∃ o, h.get? I = some o)
    (hz : ds.length ≤ 1000000) (he : EnvRd c N lm ρ) (hg0 : Good 0 priv0) (at0 : At c (priv0 ++ (D, lstO [] 0) :: (I, oI) :: own) N m s₀ s) (hst : St 0 s.heap)
    (hDI : D ≠ I) (hDa : D ∉ addrs) (hIa : I ∉ addrs) (hDo : ∀ q ∈ own, q.1 ≠ D) (hIw : ∀ q ∈ own, q.1 ≠ I) (hOa : ∀ q ∈ own, q.1 ∉ addrs)
    (hstep : ∀ i d v own' N' priv s', ds[i]? = some d → Good i priv → At c (priv ++ own') N' m s₀ s' → Rd N' v d → EnvRd c N' lm ρ → (∀ q ∈ own', q.1 ∉ addrs) →
      wpAny (model W.prog W.w) c.A (assign target cenv v) (fun _ s₂ =>
        wpAny (model W.prog W.w) c.A (forIn ifs true fun c r => if r = true then do let ok ← isTrue c cenv (eval c cenv); pure (ForInStep.yield ok) else pure (ForInStep.yield r)) (fun ok s₃ =>
          if ok = true then wpAny (model W.prog W.w) c.A (eval elt cenv) (fun w s₄ => ∃ e, F i = some e ∧ ∃ N'' priv', (∀ p ∈ N', p ∈ N'') ∧ Good (i + 1) priv' ∧ At c (priv' ++ own') N'' m s₀ s₄ ∧ Rd N'' w e) noE s₃
          else F i = none ∧ ∃ N'' priv', (∀ p ∈ N', p ∈ N'') ∧ Good (i + 1) priv' ∧ At c (priv' ++ own') N'' m s₀ s₃) noE s₂) noE s')
    (hfin : ∀ N' vs n priv s', (∀ p ∈ N, p ∈ N') → Good ds.length priv → At c (priv ++ (D, lstO vs n) :: own) N' m s₀ s' → Rds N' vs ((List.range ds.length).filterMap F) → R (.ok .next) s')
    (ht : ∀ v, letOwnedTupleGo target (.ref I) v = pure ()) :
    codeAny (model W.prog W.w) c.A (.compStart (.ListComp elt [⟨target, iter, ifs, 0⟩] scope pos) 0 (.ref I) (.ref D) cenv) R s := by
  have hpr : ∀ {i : Nat} {priv : Led}, Good i priv → ∀ q ∈ priv, q.1 ∈ addrs := fun g q hq => by rw [← hG _ _ g]; exact List.mem_map_of_mem (f := (·.1)) hq
  have loop : codeAny (model W.prog W.w) c.A (.compLoop (.ListComp elt [⟨target, iter, ifs, 0⟩] scope pos) 0 (.ref I) (.ref D) cenv) R s := by
    obtain ⟨J, hJ⟩ : ∃ J : Nat → Shared → Prop, ∀ n s', J n s' ↔ (∃ i oI' vs nn N' priv, i ≤ ds.length ∧ n = ds.length + 1 - i ∧ (∀ p ∈ N, p ∈ N') ∧ Good i priv ∧ At c (priv ++ (D, lstO vs nn) :: (I, oI') :: own) N' m s₀ s' ∧ St i s'.heap ∧ Rds N' vs ((List.range i).filterMap F)) := ⟨_, fun _ _ => Iff.rfl⟩
    refine codeAny_compLoop_tests J (fun n s' hI => ?_) (ds.length + 1) ((hJ _ _).mpr ⟨0, oI, [], 0, N, priv0, Nat.zero_le _, rfl, fun _ h => h, hg0, at0, hst, .nil⟩) ht
    obtain ⟨i, oI1, vs1, n1, N1, priv1, hi1, rfl, sb1, g1, at1, st1, r1⟩ := (hJ _ _).mp hI
    by_cases hlt : i < ds.length
    · refine Wk.item i _ _ _ hlt st1 fun v h2 tk2 hPv st2 hk2 => ?_
      obtain ⟨d, hd, rd⟩ := hPP i v hPv
      obtain ⟨oI2, heI2⟩ := hIo _ _ st2
      have at1' : At c ((I, oI1) :: (priv1 ++ (D, lstO vs1 n1) :: own)) N1 m s₀ s' := at1.perm mmA
      have at2 := at1'.next (tk := tk2) hk2 heI2 (fun q hq => by
        rcases List.mem_append.mp hq with hq | hq
        · exact fun e => hIa (e ▸ hpr g1 q hq)
        · rcases List.mem_cons.mp hq with rfl | hq
          · exact hDI
          · exact hIw q hq)
      have at2' : At c (priv1 ++ (D, lstO vs1 n1) :: (I, oI2) :: own) N1 m s₀ { s' with heap := h2, toks := tk2 } := at2.perm mmB
      have hl : vs1.length ≤ 1000000 := by
        rw [r1.len]
        exact Nat.le_trans (List.length_filterMap_le _ _) (by simp; omega)
      refine wpAny_mono (hstep i d v _ N1 priv1 _ hd g1 at2' (rd.mono sb1) (he.mono sb1) (fun q hq => by
        rcases List.mem_cons.mp hq with rfl | hq
        · exact hDa
        · rcases List.mem_cons.mp hq with rfl | hq
          · exact hIa
          · exact hOa q hq)) (fun _ s3 h3 => wpAny_mono h3 (fun ok s4 h4 => ?_) fun _ _ x => False.elim x) fun _ _ x => False.elim x
      cases ok with
      | true =>
        simp only [if_true] at h4 ⊢
        refine wpAny_mono h4 (fun w s5 h5 => ?_) fun _ _ x => False.elim x
        obtain ⟨e, hF, N2, priv2, sb2, g2, at4, rw'⟩ := h5
        have hDin : (D, lstO vs1 n1) ∈ (priv2 ++ (D, lstO vs1 n1) :: (I, oI2) :: own) ++ N2 := by simp
        refine append_at (at4.news _ hDin).1 (fun h' hs' hD => ?_) (by rw [List.size_toArray]; exact Nat.le_trans hl (by decide))
        have at5 : At c ((D, lstO vs1 n1) :: (priv2 ++ (I, oI2) :: own)) N2 m s₀ s5 := at4.perm mmC
        have at6 := at5.next (oI' := lstO (vs1 ++ [w]) (n1 + 1)) (tk := s5.toks) (fun b o hb e => hs'.extBut b o (by simpa using hb) e) (by rw [hD, List.push_toArray]) (fun q hq => by
          rcases List.mem_append.mp hq with hq | hq
          · exact fun e => hDa (e ▸ hpr g2 q hq)
          · rcases List.mem_cons.mp hq with rfl | hq
            · exact Ne.symm hDI
            · exact hDo q hq)
        refine ⟨_, turn_lt hlt, (hJ _ _).mpr ⟨i + 1, oI2, vs1 ++ [w], n1 + 1, N2, priv2, hlt, rfl, fun p hp => sb2 p (sb1 p hp), g2, at6.perm mmD, ?_, ?_⟩⟩
        · refine Wk.frame _ _ _ (walks_keep Wk hfp at2' at4 mm2 mm2 sb1 sb2 st2) fun b hb o e => hs'.extBut b o (fun q => ?_) e
          subst q
          rcases hfp b hb with rfl | ⟨o', hm⟩
          · exact hDI rfl
          · exact at0.disj _ hm (b, lstO [] 0) (by simp) rfl
        · rw [List.range_succ, List.filterMap_append]
          refine (r1.mono sb2).app ?_
          simp only [List.filterMap_cons, hF, List.filterMap_nil]
          exact .cons rw' .nil
      | false =>
        simp only [Bool.false_eq_true, if_false] at h4 ⊢
        obtain ⟨hF, N2, priv2, sb2, g2, at4⟩ := h4
        refine ⟨_, turn_lt hlt, (hJ _ _).mpr ⟨i + 1, oI2, vs1, n1, N2, priv2, hlt, rfl, fun p hp => sb2 p (sb1 p hp), g2, at4, walks_keep Wk hfp at2' at4 mm2 mm2 sb1 sb2 st2, ?_⟩⟩
        rw [List.range_succ, List.filterMap_append]
        simp only [List.filterMap_cons, hF, List.filterMap_nil, List.append_nil]
        exact r1.mono sb2
    · have hi2 := turn_end hi1 hlt
      refine Wk.done _ _ _ (hi2 ▸ st1) fun h2 tk2 hk2 => hfin N1 vs1 n1 priv1 _ sb1 (hi2 ▸ g1) ((at1.perm mmA).done hk2 fun p hp => ?_) (hi2 ▸ r1)
      rcases List.mem_append.mp hp with hp | hp
      · exact fun e => hIa (e ▸ hpr g1 p hp)
      · rcases List.mem_cons.mp hp with rfl | hp
        · exact hDI
        · exact hIw p hp
  exact codeAny_compStart_list loop (Wk.self 0 _ _ _ hst loop)
end Mine
end
section
open PySem PySem.W PySem.Calls PySem.Spec PyProof.Rows
set_option maxRecDepth 10000
set_option autoImplicit false
namespace Mine
noncomputable def relC (scope cs : Scope) : Scope :=
  { scope with names := scope.names.map fun (n, k) => if (k == .free && cs.kind == .function && cs.names.lookup n == some .cell) then (n, .cell) else (n, k) }
theorem relC_is (scope : Scope) (env : Env) : relabel scope env = relC scope env.scope := rfl
theorem lookup_rel_free {cs : Scope} : ∀ {names : List (Str × NameKind)} {x : Str}, names.lookup x = some .free →
    (names.map fun (n, k) => if (k == NameKind.free && cs.kind == .function && cs.names.lookup n == some .cell) then (n, NameKind.cell) else (n, k)).lookup x = some .cell ∨
    (names.map fun (n, k) => if (k == NameKind.free && cs.kind == .function && cs.names.lookup n == some .cell) then (n, NameKind.cell) else (n, k)).lookup x = some .free
  | [], _, h => by simp at h
  | (n, k) :: r, x, h => by
    have ih := @lookup_rel_free cs r x
    simp only [List.map_cons]
    cases hx : x == n with
    | true =>
      simp only [List.lookup_cons, hx] at h
      cases h
      by_cases hc : (NameKind.free == NameKind.free && cs.kind == .function && cs.names.lookup n == some .cell) = true
      · rw [if_pos hc]; simp [List.lookup_cons, hx]
      · rw [if_neg hc]; simp [List.lookup_cons, hx]
    | false =>
      simp only [List.lookup_cons, hx] at h
      by_cases hc : (k == .free && cs.kind == .function && cs.names.lookup n == some .cell) = true
      · rw [if_pos hc]; simp only [List.lookup_cons, hx]; exact ih h
      · rw [if_neg hc]; simp only [List.lookup_cons, hx]; exact ih h
theorem closure_of {scope : Scope} {env : Env} (h : ∀ y ∈ scope.names, y.2 = .free → ∃ a, env.cells.lookup y.1 = some a) :
    ∃ cl, closureFor scope env = pure cl ∧ ∀ y, (y, NameKind.free) ∈ scope.names → cl.lookup y = env.cells.lookup y := by
  have key : ∀ (names : List (Str × NameKind)) (acc : List (Str × Addr)), (∀ y ∈ names, y.2 = .free → ∃ a, env.cells.lookup y.1 = some a) → (∀ y a, acc.lookup y = some a → env.cells.lookup y = some a) →
      ∃ cl, (forIn names acc (fun x r => do if x.2 == NameKind.free then let a ← cellOf env x.1; pure (ForInStep.yield ((x.1, a) :: r)) else pure (ForInStep.yield r)) : Sem (List (Str × Addr))) = pure cl ∧
        (∀ y a, cl.lookup y = some a → env.cells.lookup y = some a) ∧ (∀ y, (acc.lookup y).isSome = true → (cl.lookup y).isSome = true) ∧ ∀ y, (y, NameKind.free) ∈ names → (cl.lookup y).isSome = true := by
    intro names
    induction names with
    | nil => intro acc _ ha; exact ⟨acc, by simp, ha, fun _ q => q, fun _ q => nomatch q⟩
    | cons x r ih =>
      intro acc hn ha
      obtain ⟨n, kd⟩ := x
      by_cases hk : kd = .free
      · subst hk
        obtain ⟨a, e⟩ := hn (n, .free) (.head _) rfl
        have hacc : ∀ y b, ((n, a) :: acc).lookup y = some b → env.cells.lookup y = some b := fun y b q => by
          simp only [List.lookup_cons] at q
          by_cases hy : y == n
          · rw [hy] at q; simp only [Option.some.injEq] at q; rw [beq_iff_eq.mp hy, e, q]
          · rw [Bool.not_eq_true] at hy; rw [hy] at q; exact ha y b q
        obtain ⟨cl, h1, h2, h3, h4⟩ := ih ((n, a) :: acc) (fun y hy => hn y (.tail _ hy)) hacc
        refine ⟨cl, ?_, h2, fun y q => h3 y ?_, fun y q => ?_⟩
        · rw [List.forIn_cons]
          simp only [beq_self_eq_true, if_true, cellOf, e, pure_bind]
          exact h1
        · simp only [List.lookup_cons]; split
          · rfl
          · exact q
        · rcases List.mem_cons.mp q with q | q
          · injection q with q1 _; subst q1; exact h3 y (by simp)
          · exact h4 y q
      · obtain ⟨cl, h1, h2, h3, h4⟩ := ih acc (fun y hy => hn y (.tail _ hy)) ha
        refine ⟨cl, ?_, h2, h3, fun y q => ?_⟩
        · rw [List.forIn_cons]
          have : (kd == NameKind.free) = false := by simpa using hk
          simp only [this, Bool.false_eq_true, if_false, pure_bind]
          exact h1
        · rcases List.mem_cons.mp q with q | q
          · injection q with _ q2; exact absurd q2.symm hk
          · exact h4 y q
  obtain ⟨cl, h1, h2, _, h4⟩ := key scope.names [] h (fun _ _ q => by simp at q)
  refine ⟨cl, ?_, fun y hy => ?_⟩
  · unfold closureFor
    rw [← h1]
    exact bind_pure _
  · have := h4 y hy
    cases e : cl.lookup y with
    | none => rw [e] at this; cases this
    | some a => exact (h2 y a e).symm

theorem At.env {c : Cx} {own N : Led} {m : Str → Option Value} {s₀ s : Shared} {e : Env} (h : At c own N m s₀ s) : At { c with env := e } own N m s₀ s := ⟨h.same, h.fr, h.news, h.disj⟩
theorem At.unenv {c : Cx} {own N : Led} {m : Str → Option Value} {s₀ s : Shared} {e : Env} (h : At { c with env := e } own N m s₀ s) : At c own N m s₀ s := ⟨h.same, h.fr, h.news, h.disj⟩
theorem mem_of_lookup : ∀ {l : List (Str × NameKind)} {x : Str} {k : NameKind}, l.lookup x = some k → (x, k) ∈ l
  | (n, k') :: r, x, k, h => by
    simp only [List.lookup_cons] at h
    by_cases hx : x == n
    · rw [hx] at h; simp only [Option.some.injEq] at h; rw [beq_iff_eq.mp hx, h]; exact .head _
    · rw [Bool.not_eq_true] at hx; rw [hx] at h; exact .tail _ (mem_of_lookup h)
noncomputable def Turn (W : Wd) (k : Nat) (cs : Scope) (ρ : PEnv) (ifs : List Expr) (elt : Expr) (r : Option PV) : Prop := match ifs with
  | [] => ∃ e, r = some e ∧ Ev W k cs ρ elt e
  | [ct] => Ts W k cs ρ ct r.isSome ∧ ∀ e, r = some e → Ev W k cs ρ elt e
  | _ => False
theorem Turn.run {W : Wd} {k : Nat} {cs : Scope} {ρ : PEnv} {ifs : List Expr} {elt : Expr} {r : Option PV} (h : Turn W k cs ρ ifs elt r) {c : Cx} {own N : Led} {m lm : Str → Option Value} {s₀ s : Shared} (ok : c.Ok W k) (hc : c.env.scope = cs) (hns : NsOk c own m lm) (at' : At c own N m s₀ s) (he : EnvRd c N lm ρ) :
    wpAny (model W.prog W.w) c.A (forIn ifs true fun x r => if r = true then do let ok ← isTrue x c.env (eval x c.env); pure (ForInStep.yield ok) else pure (ForInStep.yield r)) (fun ok s₃ =>
      if ok = true then wpAny (model W.prog W.w) c.A (eval elt c.env) (fun w s₄ => ∃ e, r = some e ∧ ∃ N', (∀ p ∈ N, p ∈ N') ∧ At c own N' m s₀ s₄ ∧ Rd N' w e) noE s₃
      else r = none ∧ ∃ N', (∀ p ∈ N, p ∈ N') ∧ At c own N' m s₀ s₃) noE s := by
  match ifs, h with
  | [], h =>
    obtain ⟨e, hr, h⟩ := h
    refine wpAny_tests_nil ?_
    simp only [if_true]
    exact wpAny_mono (h c own N m lm s₀ s ok hc hns at' he) (fun v s1 ⟨N1, sb1, at1, r1⟩ => ⟨e, hr, N1, sb1, at1, r1⟩) fun _ _ x => x
  | [ct], h =>
    obtain ⟨h1, h2⟩ := h
    refine wpAny_tests_one (wpAny_mono (h1 c own N m lm s₀ s ok hc hns at' he) (fun b s1 q => ?_) fun _ _ x => x)
    obtain ⟨rfl, N1, sb1, at1⟩ := q
    cases r with
    | none => exact ⟨rfl, N1, sb1, at1⟩
    | some e =>
      simp only [Option.isSome_some, if_true]
      exact wpAny_mono (h2 e rfl c own N1 m lm s₀ s1 ok hc hns at1 (he.mono sb1)) (fun v s2 ⟨N2, sb2, at2, r2⟩ => ⟨e, rfl, N2, fun p hp => sb2 p (sb1 p hp), at2, r2⟩) fun _ _ x => x
noncomputable def IsFree (scope cs : Scope) (x : Str) : Prop := scope.names.lookup x = some .free ∧ (cs.names.lookup x = some .cell ∨ cs.names.lookup x = some .free)
structure CompOk (scope cs : Scope) (ρ ρi : PEnv) : Prop where
  fv : ∀ y ∈ scope.names, y.2 = .free → ∃ d, (y.1, d) ∈ ρ ∧ (cs.names.lookup y.1 = some .cell ∨ cs.names.lookup y.1 = some .free)
  sub : ∀ p ∈ ρi, p ∈ ρ ∧ IsFree scope cs p.1
  kind : scope.kind = .function
  names : ∀ y ∈ scope.names, y.2 = .local → scope.names.lookup y.1 = some .local
theorem cells_of {c : Cx} {cs scope : Scope} {N : Led} {lm : Str → Option Value} {ρ ρi : PEnv} (hc : c.env.scope = cs) (ho : CompOk scope cs ρ ρi) (he : EnvRd c N lm ρ) : ∃ cl, closureFor scope c.env = pure cl ∧ ∀ y, (y, NameKind.free) ∈ scope.names → cl.lookup y = c.env.cells.lookup y := by
  refine closure_of fun y hy hf => ?_
  obtain ⟨d, hm, hk⟩ := ho.fv y hy hf
  obtain ⟨v, r, hno, hh⟩ := he _ hm
  have hk' : c.env.kindOf y.1 = some .cell ∨ c.env.kindOf y.1 = some .free := by subst hc; exact hk
  rcases hh with h | ⟨_, a, o, h1, _⟩
  · rcases hk' with q | q <;> rw [h.1] at q <;> cases q
  · exact ⟨a, h1⟩
theorem env_in {c : Cx} {cs scope : Scope} {N : Led} {lm lm' : Str → Option Value} {ρ ρi : PEnv} {cl : List (Str × Addr)} {C : Addr} (hc : c.env.scope = cs) (ho : CompOk scope cs ρ ρi) (he : EnvRd c N lm ρ) (hcl : ∀ y, (y, NameKind.free) ∈ scope.names → cl.lookup y = c.env.cells.lookup y) :
    EnvRd { c with env := compEnvC scope cl C c.env } N lm' ρi := fun p hp => by
  obtain ⟨hm, hf, hk⟩ := ho.sub p hp
  obtain ⟨v, r, hno, hh⟩ := he _ hm
  have hk' : c.env.kindOf p.1 = some .cell ∨ c.env.kindOf p.1 = some .free := by subst hc; exact hk
  refine ⟨v, r, hno, .inr ?_⟩
  rcases hh with h | ⟨_, a, o, h1, h2, h3⟩
  · rcases hk' with q | q <;> rw [h.1] at q <;> cases q
  · refine ⟨?_, a, o, ?_, h2, h3⟩
    · exact lookup_rel_free (cs := c.env.scope) hf
    · show cl.lookup p.1 = some a
      rw [hcl _ (mem_of_lookup hf)]; exact h1
end Mine
end
section
open PySem PySem.W PySem.Calls PySem.Spec PyProof.Rows
set_option maxRecDepth 10000
set_option autoImplicit false
namespace Mine
theorem At.but {c : Cx} {own N : Led} {C : Addr} {oC : Obj} {m : Str → Option Value} {s₀ s : Shared} {h' : Heap} (h : At c ((C, oC) :: own) N m s₀ s) (hk : Heap.SameBut C s.heap h') (ho : ∀ q ∈ own, q.1 ≠ C) : At c own N m s₀ { s with heap := h' } :=
  At.done h (tk := s.toks) (fun b o hb e => hk.extBut b o (by simpa using hb) e) ho
theorem At.ownAt {c : Cx} {own own' N : Led} {m m' : Str → Option Value} {s₀ s₀' s s' : Shared} {b : Addr} {o : Obj} (h : At c own N m s₀ s) (hb : s.heap.objs.size ≤ b) (h1 : At c own' N m' s₀' s') (e : s'.heap.get? b = some o) : At c ((b, o) :: own') N m' s₀' s' := by
  refine ⟨h1.same, h1.fr, fun p hp => ?_, fun p hp q hq => ?_⟩
  · rw [List.cons_append] at hp
    rcases List.mem_cons.mp hp with rfl | hp
    · exact ⟨e, Nat.ne_of_gt (Nat.lt_of_lt_of_le h.fr.ns.lt hb), Heap.get?_none_of_le (Nat.le_trans h.fr.above (Nat.le_trans (Nat.le_of_lt h.fr.ns.lt) hb))⟩
    · exact h1.news p hp
  · rcases List.mem_cons.mp hq with rfl | hq
    · exact Nat.ne_of_lt (Nat.lt_of_lt_of_le (Heap.lt_size (h.obj hp)) hb)
    · exact h1.disj p hp q hq
section
variable {W : Wd} {k : Nat} {cs : Scope} {ρ : PEnv}
theorem comp_run {elt iter : Expr} {x : Str} {px pos ipos : Pos} {ifs : List Expr} {scope : Scope} {ρi : PEnv} {ds : List PV} {use : Option (Value → Sem Unit)} {Q : Value → Shared → Prop} (F : Nat → Option PV)
    (ho : CompOk scope cs ρ ρi) (hcell : ∀ y ∈ scope.names, y.2 ≠ .cell) (hx : scope.names.lookup x = some .local) (hno : NmOk x = true) (hz : ds.length ≤ 1000000) (hi : Itr W k cs ρ iter ds)
    (hturn : ∀ i d, ds[i]? = some d → Turn W k (relC scope cs) ((x, d) :: ρi) ifs elt (F i)) (hs : ∀ env v, foldedSetIterable iter env v = pure v)
    (c : Cx) (own N : Led) (m lm : Str → Option Value) (s₀ s : Shared) (ok : c.Ok W k) (hc : c.env.scope = cs) (hns : NsOk c own m lm) (at' : At c own N m s₀ s) (he : EnvRd c N lm ρ)
    (hfin : ∀ N' vs n C oC mC D s', (∀ p ∈ N, p ∈ N') → At c ((C, oC) :: (D, lstO vs n) :: own) N' m s₀ s' → LCg.NsObj oC mC → Rds N' vs ((List.range ds.length).filterMap F) → (∀ q ∈ own, q.1 ≠ D ∧ q.1 ≠ C) → D ≠ C → compPost (model W.prog W.w) c.A noE use Q (.ref D) C (.ok .next) s') :
    wpAny (model W.prog W.w) c.A (comprehension (.ListComp elt [⟨.Name x px, iter, ifs, 0⟩] scope pos) scope c.env ipos (newList []) false (eval iter c.env) use) Q noE s := by
  obtain ⟨cl, hclos, hcl⟩ := cells_of hc ho he
  refine wpAny_comprehension_free (cl := cl) rfl (hs _) hclos ho.kind ho.names ?_
  refine wpAny_mono (hi c own N m lm s₀ s ok hc hns at' he) (fun v s1 h1 => wpAny_mono h1 (fun it s2 h2 => ?_) fun _ _ x => x) fun _ _ x => x
  obtain ⟨I, oI, fp, PP, St, N0, rfl, Wk, hfp, hPP, hIo, sb0, at0, hst, hoI⟩ := h2
  refine wpAny_newObj_type ?_ (Nat.zero_le _)
  have atD := at0.pushOwn { cls := .type "list", data := .seq ([] : List Value).toArray }
  have fD := at0.fresh_own
  generalize hD : s2.heap.objs.size = D at atD fD ⊢
  generalize hh1 : s2.heap.push { cls := .type "list", data := .seq ([] : List Value).toArray } = h1 at atD ⊢
  have hDlt : D < h1.objs.size := by rw [← hh1, Heap.size_push, hD]; exact Nat.lt_succ_self _
  refine wpAny_newFunctionEnv hcell (by intro y hy; simp at hy) (fun h₂ hns₂ hsb₂ => ?_) ho.kind
  dsimp only at hns₂ hsb₂ ⊢
  have keep2 : ∀ b o, h1.get? b = some o → h₂.get? b = some o := fun b o e => hsb₂.extBut b o (Nat.ne_of_lt (Heap.lt_size e)) (Heap.get?_push_of_some _ e)
  obtain ⟨oC, hoC, nC⟩ := LCg.ns_obj hns₂
  generalize hC : h1.objs.size = C at *
  have at1 : At c ((D, lstO [] 0) :: (I, oI) :: own) N0 m s₀ { s2 with heap := h₂, toks := s2.toks + ([] : List (Str × Value)).length } := by
    have := (At.grow (s := { s2 with heap := h1 }) (h' := h₂) atD keep2)
    exact this.tok
  have newC : ∀ q ∈ (D, lstO [] 0) :: (I, oI) :: own, q.1 ≠ C := fun q hq => by
    rw [← hC]; exact Nat.ne_of_lt (Heap.lt_size (atD.news q (List.mem_append_left _ hq)).1)
  have at2 : At c ([(C, oC)] ++ (D, lstO [] 0) :: (I, oI) :: own) N0 m s₀ { s2 with heap := h₂, toks := s2.toks + ([] : List (Str × Value)).length } := atD.ownAt (Nat.le_of_eq hC) at1 hoC
  have hst2 : St 0 h₂ := Wk.frame _ _ _ hst fun b hb o e => keep2 b o (by rw [← hh1]; exact Heap.get?_push_of_some _ e)
  refine comp_loop (k := k) F [C] (fun _ priv => ∃ oC' mC', priv = [(C, oC')] ∧ LCg.NsObj oC' mC') (fun _ priv ⟨oC', mC', e, _⟩ => by rw [e]; rfl) Wk hfp hPP hIo hz (he.mono sb0) ⟨oC, _, rfl, nC⟩ at2 hst2
    (fun e => fD (I, oI) (.head _) e.symm) (by simpa using newC (D, lstO [] 0) (.head _)) (by simpa using newC (I, oI) (.tail _ (.head _))) (fun q hq => fD q (.tail _ hq)) hoI (fun q hq => by simpa using newC q (.tail _ (.tail _ hq)))
    (fun i d v own' N' priv s' hd hg at3 rd he3 hof => ?_) (fun N' vs n priv s' sb hg at3 r => ?_) (by intro _; rfl)
  · obtain ⟨oC', mC', rfl, nC'⟩ := hg
    have hCn := at3.news (C, oC') (.head _)
    refine wpAny_assign_Name (wpAny_storeName_local (lookup_relabel_local hx) (nC'.ns hCn.1) (fun h₃ hn₃ hs₃ => ?_) (by simp [newEnv, compEnvC, relabel, ho.kind]))
    obtain ⟨oC2, hoC2, nC2⟩ := LCg.ns_obj hn₃
    have at4 : At c ((C, oC2) :: own') N' m s₀ { s' with heap := h₃, toks := s'.toks + 1 } := by
      exact at3.next (tk := s'.toks + 1) (fun b o hb e => hs₃.extBut b o (fun q => hb (List.mem_singleton.mpr q)) e) hoC2 (fun q hq => by simpa using hof q hq)
    let c' : Cx := { c with env := compEnvC scope cl C c.env }
    have ok' : c'.Ok W k := { ok with ek := ho.kind, eg := ok.eg, eb := ok.eb }
    have hns' : NsOk c' ((C, oC2) :: own') m (fun y => if y = x then some v else mC' y) := fun h _ N => nC2.ns (N (C, oC2) (.head _)).1
    have he' : EnvRd c' N' (fun y => if y = x then some v else mC' y) ((x, d) :: ρi) := fun p hp => by
      rcases List.mem_cons.mp hp with rfl | hp
      · exact ⟨v, rd, hno, .inl ⟨lookup_relabel_local hx, by simp⟩⟩
      · exact env_in hc ho he3 hcl p hp
    have hrel : c'.env.scope = relC scope cs := by subst hc; rfl
    refine wpAny_mono (Turn.run (hturn i d hd) ok' hrel hns' at4.env he') (fun okb s3 h3 => ?_) fun _ _ x => x
    cases okb with
    | true =>
      simp only [if_true] at h3 ⊢
      refine wpAny_mono h3 (fun w s4 h4 => ?_) fun _ _ x => x
      obtain ⟨e, hF, N2, sb2, at5, r5⟩ := h4
      exact ⟨e, hF, N2, [(C, oC2)], sb2, ⟨oC2, _, rfl, nC2⟩, at5.unenv, r5⟩
    | false =>
      simp only [Bool.false_eq_true, if_false] at h3 ⊢
      obtain ⟨hF, N2, sb2, at5⟩ := h3
      exact ⟨hF, N2, [(C, oC2)], sb2, ⟨oC2, _, rfl, nC2⟩, at5.unenv⟩
  · obtain ⟨oC', mC', rfl, nC'⟩ := hg
    exact hfin N' vs n C oC' mC' D s' (fun p hp => sb p (sb0 p hp)) at3 nC' r (fun q hq => ⟨fD q (.tail _ hq), newC q (.tail _ (.tail _ hq))⟩) (newC (D, lstO [] 0) (.head _))
end
end Mine
end
section
open PySem PySem.W PySem.Calls PySem.Spec PyProof.Rows
set_option maxRecDepth 10000
set_option autoImplicit false
namespace Mine
theorem Rd.cut {N : Led} {a : Addr} {v : Value} {d : PV} (h : Rd N v d) (hc : ∀ p ∈ N, p.1 = a → ∃ u, p.2.data = .cell u) : Rd (N.filter fun p => p.1 != a) v d := by
  have key : ∀ {b : Addr} {o : Obj}, (b, o) ∈ N → (∀ u, o.data ≠ .cell u) → (b, o) ∈ N.filter fun p => p.1 != a := fun {b o} hm hn => by
    refine List.mem_filter.mpr ⟨hm, ?_⟩
    simp only [bne_iff_ne, ne_eq]
    intro e
    obtain ⟨u, hu⟩ := hc _ hm e
    exact hn u hu
  induction h with
  | none => exact .none
  | bool b => exact .bool b
  | int i t => exact .int i t
  | adr a => exact .adr a
  | str l t hz => exact .str l t hz
  | tup hm hl hz _ ih => exact .tup (key hm fun u e => nomatch e) hl hz ih
  | lst hm hl hz _ ih => exact .lst (key hm fun u e => nomatch e) hl hz ih
theorem At.give {c : Cx} {own N : Led} {x : Addr × Obj} {m : Str → Option Value} {s₀ s : Shared} (h : At c (x :: own) N m s₀ s) (ho : ∀ q ∈ own, q.1 ≠ x.1) : At c own (x :: N) m s₀ s :=
  ⟨h.same, h.fr, fun p hp => h.news p (by simp only [List.mem_append, List.mem_cons] at hp ⊢; rcases hp with h | h | h <;> simp [h]), fun p hp q hq => by
    rcases List.mem_cons.mp hp with rfl | hp
    · exact Ne.symm (ho q hq)
    · exact h.disj p hp q (.tail _ hq)⟩
theorem At.take {c : Cx} {own N : Led} {x : Addr × Obj} {m : Str → Option Value} {s₀ s : Shared} (h : At c own N m s₀ s) (hx : x ∈ N) : At c (x :: own) (N.filter fun p => p.1 != x.1) m s₀ s :=
  ⟨h.same, h.fr, fun p hp => h.news p (by
    rcases List.mem_append.mp hp with hp | hp
    · rcases List.mem_cons.mp hp with rfl | hp
      · exact List.mem_append_right _ hx
      · exact List.mem_append_left _ hp
    · exact List.mem_append_right _ (List.mem_filter.mp hp).1), fun p hp q hq => by
    rcases List.mem_cons.mp hq with rfl | hq
    · exact bne_iff_ne.mp (List.mem_filter.mp hp).2
    · exact h.disj p (List.mem_filter.mp hp).1 q hq⟩
theorem At.one {c : Cx} {own N : Led} {x : Addr × Obj} {m : Str → Option Value} {s₀ s : Shared} (h : At c own N m s₀ s) (hx : x ∈ N) {p : Addr × Obj} (hp : p ∈ N) (e : p.1 = x.1) : p.2 = x.2 := by
  have h1 := h.obj hx
  have h2 := h.obj hp
  rw [e, h1] at h2
  exact (Option.some.inj h2).symm
theorem lookup_rel_cell {cs : Scope} : ∀ {names : List (Str × NameKind)} {x : Str}, names.lookup x = some .cell →
    (names.map fun (n, k) => if (k == NameKind.free && cs.kind == .function && cs.names.lookup n == some .cell) then (n, NameKind.cell) else (n, k)).lookup x = some .cell
  | [], _, h => by simp at h
  | (n, k) :: r, x, h => by
    have ih := @lookup_rel_cell cs r x
    simp only [List.map_cons]
    cases hx : x == n with
    | true =>
      simp only [List.lookup_cons, hx] at h
      cases h
      simp [List.lookup_cons, hx]
    | false =>
      simp only [List.lookup_cons, hx] at h
      by_cases hc : (k == .free && cs.kind == .function && cs.names.lookup n == some .cell) = true
      · rw [if_pos hc]; simp only [List.lookup_cons, hx]; exact ih h
      · rw [if_neg hc]; simp only [List.lookup_cons, hx]; exact ih h
theorem bindL_skip {kf : Str → Option NameKind} {x : Str} : ∀ (bs : List (Str × Value)) (m : Str → Option Value), x ∉ bs.map (·.1) → bindL kf bs m x = m x
  | [], _, _ => rfl
  | (n, v) :: r, m, h => by
    simp only [List.map_cons, List.mem_cons, not_or] at h
    unfold bindL
    rw [bindL_skip r _ h.2]
    split
    · exact if_neg h.1
    · rfl
theorem bindC_skip {kf : Str → Option NameKind} {x : Str} : ∀ (bs : List (Str × Value)) (m : Str → Option Value), x ∉ bs.map (·.1) → bindC kf bs m x = m x
  | [], _, _ => rfl
  | (n, v) :: r, m, h => by
    simp only [List.map_cons, List.mem_cons, not_or] at h
    unfold bindC
    rw [bindC_skip r _ h.2]
    split
    · rfl
    · exact if_neg h.1
theorem bindL_at {kf : Str → Option NameKind} {x : Str} {v : Value} (hk : kf x = some .local) : ∀ (bs : List (Str × Value)) (m : Str → Option Value), (bs.map (·.1)).Nodup → (x, v) ∈ bs → bindL kf bs m x = some v
  | (n, w) :: r, m, hnd, hm => by
    rw [List.map_cons, List.nodup_cons] at hnd
    unfold bindL
    rcases List.mem_cons.mp hm with e | hm
    · cases e
      rw [bindL_skip r _ hnd.1, if_pos hk, if_pos rfl]
    · exact bindL_at hk r _ hnd.2 hm
theorem bindC_at {kf : Str → Option NameKind} {x : Str} {v : Value} (hk : kf x ≠ some .local) : ∀ (bs : List (Str × Value)) (m : Str → Option Value), (bs.map (·.1)).Nodup → (x, v) ∈ bs → bindC kf bs m x = some v
  | (n, w) :: r, m, hnd, hm => by
    rw [List.map_cons, List.nodup_cons] at hnd
    unfold bindC
    rcases List.mem_cons.mp hm with e | hm
    · cases e
      rw [bindC_skip r _ hnd.1, if_neg hk, if_pos rfl]
    · exact bindC_at hk r _ hnd.2 hm
theorem cellsAre_at {cm : Str → Option Value} {n : Str} {a : Addr} : ∀ {cs : List (Str × Addr)} {cells : List (Addr × Obj)}, CellsAre cm cs cells → (n, a) ∈ cs → ∃ o, (a, o) ∈ cells ∧ o.data = .cell (cm n)
  | _, _, .nil, h => nomatch h
  | _, _, .cons hd hr, h => by
    rcases List.mem_cons.mp h with e | h
    · cases e; exact ⟨_, .head _, hd⟩
    · obtain ⟨o, h1, h2⟩ := cellsAre_at hr h; exact ⟨o, .tail _ h1, h2⟩
theorem lookup_mem' {α : Type} {x : Str} : ∀ {l : List (Str × α)}, (l.lookup x).isSome = true → ∃ a, l.lookup x = some a ∧ (x, a) ∈ l
  | (n, b) :: r, h => by
    simp only [List.lookup_cons] at h ⊢
    by_cases hx : x == n
    · rw [hx]; rw [beq_iff_eq.mp hx]; exact ⟨b, rfl, .head _⟩
    · rw [Bool.not_eq_true] at hx; rw [hx] at h ⊢; obtain ⟨a, h1, h2⟩ := lookup_mem' h; exact ⟨a, h1, .tail _ h2⟩
theorem cellsFrom_lt {L : Addr} : ∀ {names : List (Str × NameKind)} {n : Nat} {acc : List (Str × Addr)}, L < n → (∀ y a, (y, a) ∈ acc → L < a) → ∀ y a, (y, a) ∈ cellsFrom n names acc → L < a
  | [], _, _, _, h => h
  | x :: r, n, acc, hn, h => by
    unfold cellsFrom
    split
    · exact cellsFrom_lt (Nat.lt_succ_of_lt hn) fun y a hy => by
        rcases List.mem_cons.mp hy with e | hy
        · cases e; exact hn
        · exact h y a hy
    · exact cellsFrom_lt hn h
theorem cellsAre_lt {L : Addr} {cm : Str → Option Value} : ∀ {cs : List (Str × Addr)} {cells : List (Addr × Obj)}, CellsAre cm cs cells → (∀ n a, (n, a) ∈ cs → L < a) → ∀ p ∈ cells, L < p.1
  | _, _, .nil, _, _, hp => nomatch hp
  | _, _, .cons hd hr, hl, p, hp => by
    rcases List.mem_cons.mp hp with rfl | hp
    · exact hl _ _ (.head _)
    · exact cellsAre_lt hr (fun n a h => hl n a (.tail _ h)) p hp
theorem env_zipC {c : Cx} {N cells : Led} {xs : List Str} {ds : List PV} {vs : List Value} (hnd : xs.Nodup) (hlen : xs.length = ds.length) (hno : ∀ x ∈ xs, NmOk x = true) (hr : Rds N vs ds)
    (hkind : (xs.all fun y => c.env.scope.names.lookup y == some .local || c.env.scope.names.lookup y == some .cell) = true) {n : Nat} (hcs : c.env.cells = cellsFrom n c.env.scope.names []) (Y : CellsAre (bindC c.env.kindOf (xs.zip vs) fun _ => none) c.env.cells cells) :
    EnvRd c (cells ++ N) (bindL c.env.kindOf (xs.zip vs) fun _ => none) (xs.zip ds) := fun p hp => by
  obtain ⟨i, hi, hpi⟩ := List.mem_iff_getElem.mp hp
  have hi2 : i < ds.length := by simp at hi; omega
  have hi1 : i < xs.length := by omega
  have hi3 : i < vs.length := by rw [hr.len]; exact hi2
  have e : p = (xs[i], ds[i]) := by rw [← hpi]; simp
  have hmem : (xs[i], vs[i]) ∈ xs.zip vs := List.mem_iff_getElem.mpr ⟨i, by simp; omega, by simp⟩
  have hmf : ((xs.zip vs).map (·.1)).Nodup := by rw [List.map_fst_zip (by rw [hr.len]; omega)]; exact hnd
  subst e
  refine ⟨vs[i], (hr.at' i _ _ (by simp [hi3]) (by simp [hi2])).mono fun p hp => List.mem_append_right _ hp, hno _ (List.getElem_mem _), ?_⟩
  have hkd := List.all_eq_true.mp hkind _ (List.getElem_mem hi1)
  by_cases hloc : c.env.kindOf xs[i] = some .local
  · exact .inl ⟨hloc, bindL_at hloc _ _ hmf hmem⟩
  · have hc : c.env.scope.names.lookup xs[i] = some .cell := by
      rw [Bool.or_eq_true, beq_iff_eq, beq_iff_eq] at hkd
      exact hkd.resolve_left hloc
    obtain ⟨a, ha1, ha2⟩ := lookup_mem' (cellsFrom_some c.env.scope.names n [] (.inl hc))
    rw [← hcs] at ha1 ha2
    obtain ⟨o, ho1, ho2⟩ := cellsAre_at Y ha2
    refine .inr ⟨.inl hc, a, o, ha1, List.mem_append_left _ ho1, ?_⟩
    rw [ho2, bindC_at hloc _ _ hmf hmem]
theorem CallOf.introG {W : Wd} {k : Nat} {name : Str} {args : List Arg} {body : List Stmt} {scope : Scope} {a1 a2 a3 : _} {b1 b2 b3 : _} {ds : List PV} {d : PV} (hd : DefOf W (.FunctionDef name ⟨[], args, none, [], [], none, []⟩ body a1 a2 a3 scope b1 b2 b3))
    (hlen : args.length = ds.length) (hb : Bnd args ds.length) (hnd : (args.map (·.arg)).Nodup) (hkind : ((args.map (·.arg)).all fun y => scope.names.lookup y == some .local || scope.names.lookup y == some .cell) = true) (hno : ∀ x ∈ args.map (·.arg), NmOk x = true)
    (hco : scope.isCoroutine = false) (hgen : scope.isGenerator = false) (hk : scope.kind = .function) (hcnd : ((cellsFrom 0 scope.names []).map (·.1)).Nodup)
    (h : ∀ (c : Cx) (own cells N : Led) (m : Str → Option Value) (s₀ s : Shared), c.Ok W k → c.env.scope = scope → c.env.locals = c.L → c.env.cells = cellsFrom (c.L + 1) scope.names [] →
      (∀ n a, (n, a) ∈ c.env.cells → n ∉ args.map (·.arg) → ∃ o, (a, o) ∈ cells ∧ o.data = .cell none) → (∀ p ∈ N, ∀ q ∈ cells, p.1 ≠ q.1) → At c own (cells ++ N) m s₀ s → EnvRd c (cells ++ N) m ((args.map (·.arg)).zip ds) →
      wpAny (model W.prog W.w) c.A (execs body c.env) (ExPost c own N s₀ (.ret d)) noE s) : CallOf W (k + 1) name ds d := by
  obtain ⟨f, h1, h2, oc, od, osl, nm, qual, kV, doc, pm, cdv, ct, an, hlook, hcode⟩ := hd
  refine ⟨f, h1, h2, ?_⟩
  intro c own N m s₀ s vs ok at' hr
  have hl2 : (args.map (·.arg)).length = ds.length := by rw [List.length_map]; exact hlen
  refine wpAny_call (code_defC ok.below at'.fr ok.kin at'.news ok.top rfl ok.fL ok.fk hlook hcode ok.deep
    (BindsTo.of_eq (bind_plain hb hr.len)) ?_ hcnd (fun g L' h₁ tk cells FG F' N' Y B' X' T' l => ?_) hco hgen hk)
  · exact List.all_eq_true.mpr fun y hy => List.all_eq_true.mp hkind y.1 (List.of_mem_zip hy).1
  · have hge : ∀ p ∈ cells, L' < p.1 := cellsAre_lt Y (cellsFrom_lt (Nat.lt_succ_self _) fun _ _ q => nomatch q)
    have at1 : At (c.into (envOfC qual scope L' f cdv) g L') own (cells ++ N) (bindL (envOfC qual scope L' f cdv).kindOf ((args.map (·.arg)).zip vs) fun _ => none) s₀ { s with heap := h₁, toks := tk } :=
      ⟨by obtain ⟨h', t, e⟩ := at'.same; rw [e]; exact ⟨h₁, _, rfl⟩, F', fun p hp => N' p ((List.mem_append.mp hp).elim (fun h => List.mem_append_right _ (List.mem_append_left _ h)) fun h => (List.mem_append.mp h).elim (fun h => List.mem_append_left _ h) fun h => List.mem_append_right _ (List.mem_append_right _ h)), fun p hp q hq =>
        (List.mem_append.mp hp).elim (fun hp => Nat.ne_of_gt (Nat.lt_trans (l q (List.mem_append_left _ hq)) (hge p hp))) fun hp => at'.disj p hp q hq⟩
    refine wpAny_mono (h (c.into (envOfC qual scope L' f cdv) g L') own cells N _ s₀ _ (ok.into B' X' T' FG rfl hk rfl rfl) rfl rfl rfl (fun n a hm hn => ?_) (fun p hp q hq => Nat.ne_of_lt (Nat.lt_trans (l p (List.mem_append_right _ hp)) (hge q hq))) at1
      (env_zipC (c := c.into (envOfC qual scope L' f cdv) g L') hnd hl2 hno hr hkind rfl Y)) (fun fl s' q => ?_) fun _ _ x => x.elim
    · obtain ⟨o, ho1, ho2⟩ := cellsAre_at Y hm
      exact ⟨o, ho1, ho2.trans (congrArg _ (bindC_skip _ _ (by rw [List.map_fst_zip (by rw [hr.len, hl2]; exact Nat.le_refl _)]; exact hn)))⟩
    · obtain ⟨v, N2, m2, rfl, sb2, at2, r2⟩ := q
      exact ⟨L', m2, own ++ N2, at2.fr, at2.news, fun FQ NQ => ⟨N2, sb2, ⟨at2.same, FQ, NQ, at2.disj⟩, r2⟩⟩
end Mine
end
section
open PySem PySem.W PySem.Calls PySem.Spec PyProof.Rows
set_option maxRecDepth 10000
set_option autoImplicit false
namespace Mine
theorem wpAny_newEnvC {M : Model} {A : Around} {E : Value → Shared → Prop} {s : Shared} {scope : Scope} {x : Str} {cl : List (Str × Addr)} {env : Env} {Q : Env → Shared → Prop}
    (hc1 : ∀ n acc, cellsFrom n scope.names acc = (x, n) :: acc) (hc2 : ∀ h, pushCells h scope.names = h.push { cls := .type "cell", data := .cell none })
    (h : Q { scope, locals := s.heap.objs.size, globals := env.globals, cells := (x, s.heap.objs.size + 1) :: cl, qual := env.qual, func := none, code := env.code, frame := env.frame, builtins := env.builtins }
      { s with heap := (s.heap.push { cls := .type "dict", data := .dict #[] }).push { cls := .type "cell", data := .cell none } }) :
    wpAny M A (newFunctionEnv scope env.globals cl [] env.qual none .none (some env)) Q E s := by
  simp only [newFunctionEnv, Option.isSome_some, if_true]
  refine wpAny_bind (wpAny_alloc ?_)
  refine wpAny_bind (wpAny_layCells _ (fun name kind cells => by cases hkc : kind == NameKind.cell <;> simp [hkc]) _ _ _ _ ?_)
  rw [List.forIn_nil, hc1, hc2]
  refine wpAny_bind (wpAny_pure (wpAny_pure ?_))
  rw [show ({ s with heap := s.heap.push { cls := .type "dict", data := .dict #[] } } : Shared).heap.objs.size = s.heap.objs.size + 1 from Heap.size_push ..]
  exact h
section
variable {W : Wd} {k : Nat} {cs : Scope} {ρ : PEnv}
theorem comp_runC {elt iter : Expr} {x : Str} {px pos ipos : Pos} {ifs : List Expr} {scope : Scope} {ρi : PEnv} {ds : List PV} {use : Option (Value → Sem Unit)} {Q : Value → Shared → Prop} (F : Nat → Option PV)
    (ho : CompOk scope cs ρ ρi) (hc1 : ∀ n acc, cellsFrom n scope.names acc = (x, n) :: acc) (hc2 : ∀ h, pushCells h scope.names = h.push { cls := .type "cell", data := .cell none })
    (hx : scope.names.lookup x = some .cell) (hno : NmOk x = true) (hz : ds.length ≤ 1000000) (hi : Itr W k cs ρ iter ds)
    (hturn : ∀ i d, ds[i]? = some d → Turn W k (relC scope cs) ((x, d) :: ρi) ifs elt (F i)) (hs : ∀ env v, foldedSetIterable iter env v = pure v)
    (c : Cx) (own N : Led) (m lm : Str → Option Value) (s₀ s : Shared) (ok : c.Ok W k) (hc : c.env.scope = cs) (hns : NsOk c own m lm) (at' : At c own N m s₀ s) (he : EnvRd c N lm ρ)
    (hfin : ∀ N' vs n C oC mC D s', (∀ p ∈ N, p ∈ N') → At c ((C, oC) :: (D, lstO vs n) :: own) N' m s₀ s' → LCg.NsObj oC mC → Rds N' vs ((List.range ds.length).filterMap F) → (∀ q ∈ own, q.1 ≠ D ∧ q.1 ≠ C) → D ≠ C → compPost (model W.prog W.w) c.A noE use Q (.ref D) C (.ok .next) s') :
    wpAny (model W.prog W.w) c.A (comprehension (.ListComp elt [⟨.Name x px, iter, ifs, 0⟩] scope pos) scope c.env ipos (newList []) false (eval iter c.env) use) Q noE s := by
  obtain ⟨cl, hclos, hcl⟩ := cells_of hc ho he
  refine wpAny_comprehension_free (cl := cl) rfl (hs _) hclos ho.kind ho.names ?_
  refine wpAny_mono (hi c own N m lm s₀ s ok hc hns at' he) (fun v s1 h1 => wpAny_mono h1 (fun it s2 h2 => ?_) fun _ _ x => x) fun _ _ x => x
  obtain ⟨I, oI, fp, PP, St, N0, rfl, Wk, hfp, hPP, hIo, sb0, at0, hst, hoI⟩ := h2
  refine wpAny_newObj_type ?_ (Nat.zero_le _)
  have atD := at0.pushOwn { cls := .type "list", data := .seq ([] : List Value).toArray }
  have fD := at0.fresh_own
  generalize hD : s2.heap.objs.size = D at atD fD ⊢
  generalize hh1 : s2.heap.push { cls := .type "list", data := .seq ([] : List Value).toArray } = h1 at atD ⊢
  refine wpAny_newEnvC hc1 hc2 ?_
  dsimp only
  have atC := atD.pushOwn { cls := .type "dict", data := .dict #[] }
  have fC := atD.fresh_own
  dsimp only at atC fC
  generalize hC : h1.objs.size = C at atC fC ⊢
  generalize hh2 : h1.push { cls := .type "dict", data := .dict #[] } = h2 at atC ⊢
  have hh2s : h2.objs.size = C + 1 := by rw [← hh2, Heap.size_push, hC]
  have atA := atC.pushOwn { cls := .type "cell", data := .cell none }
  have fA := atC.fresh_own
  dsimp only at atA fA
  rw [hh2s] at atA fA
  generalize hh3 : h2.push { cls := .type "cell", data := .cell none } = h3 at atA ⊢
  generalize hCa : C + 1 = Ca at atA fA ⊢
  have nC0 : LCg.NsObj ({ cls := .type "dict", data := .dict #[] } : Obj) (fun _ => none) := by
    obtain ⟨o, e, n⟩ := LCg.ns_obj (Heap.Ns.new h1 (.type "dict"))
    rw [Heap.get?_push_size _ rfl] at e
    cases e; exact n
  have hst2 : St 0 h3 := Wk.frame _ _ _ hst fun b hb o e => by
    rw [← hh3, ← hh2, ← hh1]; exact Heap.get?_push_of_some _ (Heap.get?_push_of_some _ (Heap.get?_push_of_some _ e))
  have dA : Ca ≠ C ∧ Ca ≠ D ∧ Ca ≠ I := ⟨fun e => fA (C, _) (.head _) e.symm, fun e => fA (D, _) (.tail _ (.head _)) e.symm, fun e => fA (I, oI) (.tail _ (.tail _ (.head _))) e.symm⟩
  have dC : C ≠ D ∧ C ≠ I := ⟨fun e => fC (D, _) (.head _) e.symm, fun e => fC (I, oI) (.tail _ (.head _)) e.symm⟩
  have dD : D ≠ I := fun e => fD (I, oI) (.head _) e.symm
  let O0 : Obj := { cls := .type "cell", data := .cell none }
  have at2 : At c ([(C, ({ cls := .type "dict", data := .dict #[] } : Obj)), (Ca, O0)] ++ (D, lstO [] 0) :: (I, oI) :: own) N0 m s₀ { s2 with heap := h3 } := atA.swap
  refine comp_loop (k := k) F [C, Ca] (fun _ priv => ∃ oC' mC' oA u, priv = [(C, oC'), (Ca, oA)] ∧ LCg.NsObj oC' mC' ∧ oA.data = .cell u) (fun _ priv ⟨oC', mC', oA, u, e, _⟩ => by rw [e]; rfl) Wk hfp hPP hIo hz (he.mono sb0) ⟨_, _, O0, _, rfl, nC0, rfl⟩ at2 hst2
    dD (by simp [dC.1.symm, dA.2.1.symm]) (by simp [dC.2.symm, dA.2.2.symm]) (fun q hq => fD q (.tail _ hq)) hoI (fun q hq => by simp [fC q (.tail _ (.tail _ hq)), fA q (.tail _ (.tail _ (.tail _ hq)))])
    (fun i d v own' N' priv s' hd hg at3 rd he3 hof => ?_) (fun N' vs n priv s' sb hg at3 r => ?_) (by intro _; rfl)
  · obtain ⟨oC', mC', oA, u, rfl, nC', hu⟩ := hg
    have hCn := at3.news (C, oC') (.head _)
    have hAn := at3.news (Ca, oA) (.tail _ (.head _))
    have hofC : ∀ q ∈ own', q.1 ≠ C := fun q hq e => hof q hq (by simp [e])
    have hofA : ∀ q ∈ own', q.1 ≠ Ca := fun q hq e => hof q hq (by simp [e])
    have hkx : (relC scope c.env.scope).names.lookup x = some .cell := lookup_rel_cell hx
    refine wpAny_assign_Name (wpAny_storeName_cell (c := Ca) (v₀ := u) ho.kind hkx (by simp) ⟨oA, hAn.1, hu⟩ (fun h₃ hv₃ hs₃ => ?_))
    obtain ⟨oA2, hoA2, hdA2⟩ := hv₃
    have at3' : At c ((Ca, oA) :: ((C, oC') :: own')) N' m s₀ s' := at3.swap
    have at4 : At c ((Ca, oA2) :: ((C, oC') :: own')) N' m s₀ { s' with heap := h₃ } := by
      exact at3'.next (tk := s'.toks) (fun b o hb e => hs₃.extBut b o (fun q => hb (List.mem_singleton.mpr q)) e) hoA2 (fun q hq => by
        rcases List.mem_cons.mp hq with rfl | hq
        · exact dA.1.symm
        · exact hofA q hq)
    have at5 : At c ((C, oC') :: own') ((Ca, oA2) :: N') m s₀ { s' with heap := h₃ } := at4.give fun q hq => by
      rcases List.mem_cons.mp hq with rfl | hq
      · exact dA.1.symm
      · exact hofA q hq
    have hN'a : ∀ p ∈ N', p.1 ≠ Ca := fun p hp => at3.disj p hp (Ca, oA) (.tail _ (.head _))
    let c' : Cx := { c with env := { scope := relabel scope c.env, locals := C, globals := c.env.globals, cells := (x, Ca) :: cl, qual := c.env.qual, func := none, code := c.env.code, frame := c.env.frame, builtins := c.env.builtins } }
    have ok' : c'.Ok W k := { ok with ek := ho.kind, eg := ok.eg, eb := ok.eb }
    have hns' : NsOk c' ((C, oC') :: own') m mC' := fun h _ N => nC'.ns (N (C, oC') (.head _)).1
    have he' : EnvRd c' ((Ca, oA2) :: N') mC' ((x, d) :: ρi) := fun p hp => by
      rcases List.mem_cons.mp hp with rfl | hp
      · exact ⟨v, rd.mono fun _ h => .tail _ h, hno, .inr ⟨.inl hkx, Ca, oA2, by simp [c'], .head _, hdA2⟩⟩
      · obtain ⟨v', r', hn', hh⟩ := env_in (C := C) (lm' := mC') hc ho he3 hcl p hp
        have hpx : (p.1 == x) = false := by
          have hf := (ho.sub p hp).2.1
          simp only [beq_eq_false_iff_ne, ne_eq]
          intro e; rw [e, hx] at hf; cases hf
        have hf := (ho.sub p hp).2
        have hk' : c'.env.kindOf p.1 = some .cell ∨ c'.env.kindOf p.1 = some .free := lookup_rel_free (cs := c.env.scope) hf.1
        refine ⟨v', r'.mono fun _ h => .tail _ h, hn', .inr ⟨hk', ?_⟩⟩
        rcases hh with h | ⟨_, a, o, h1, h2, h3⟩
        · rcases hk' with q | q
          · have := h.1.symm.trans q; cases this
          · have := h.1.symm.trans q; cases this
        · refine ⟨a, o, ?_, .tail _ h2, h3⟩
          show ((x, Ca) :: cl).lookup p.1 = some a
          rw [List.lookup_cons, hpx]; exact h1
    have hrel : c'.env.scope = relC scope cs := by subst hc; rfl
    have back : ∀ {N2 : Led} {s4 : Shared}, (∀ p ∈ (Ca, oA2) :: N', p ∈ N2) → At c ((C, oC') :: own') N2 m s₀ s4 → ∀ {P : Led → Led → Prop}, (∀ N3, (∀ p ∈ N', p ∈ N3) → (∀ w e, Rd N2 w e → Rd N3 w e) → At c ([(C, oC'), (Ca, oA2)] ++ own') N3 m s₀ s4 → P N3 [(C, oC'), (Ca, oA2)]) → ∃ N3 priv', P N3 priv' := fun {N2 s4} sb2 at6 {P} h => by
      have hm2 : (Ca, oA2) ∈ N2 := sb2 _ (.head _)
      refine ⟨_, _, h (N2.filter fun p => p.1 != Ca) (fun p hp => List.mem_filter.mpr ⟨sb2 p (.tail _ hp), bne_iff_ne.mpr (hN'a p hp)⟩) (fun w e r => r.cut fun p hp e => ⟨_, by rw [at6.one hm2 hp e]; exact hdA2⟩) ?_⟩
      exact (at6.take hm2).swap
    refine wpAny_mono (Turn.run (hturn i d hd) ok' hrel hns' at5.env he') (fun okb s3 h3 => ?_) fun _ _ x => x
    cases okb with
    | true =>
      simp only [if_true] at h3 ⊢
      refine wpAny_mono h3 (fun w s4 h4 => ?_) fun _ _ x => x
      obtain ⟨e, hF, N2, sb2, at6, r6⟩ := h4
      refine ⟨e, hF, ?_⟩
      exact back (P := fun N3 priv' => (∀ p ∈ N', p ∈ N3) ∧ (∃ oC' mC' oA u, priv' = [(C, oC'), (Ca, oA)] ∧ LCg.NsObj oC' mC' ∧ oA.data = .cell u) ∧ At c (priv' ++ own') N3 m s₀ s4 ∧ Rd N3 w e) sb2 at6.unenv fun N3 sb3 hr at7 => ⟨sb3, ⟨_, _, _, _, rfl, nC', hdA2⟩, at7, hr w e r6⟩
    | false =>
      simp only [Bool.false_eq_true, if_false] at h3 ⊢
      obtain ⟨hF, N2, sb2, at6⟩ := h3
      refine ⟨hF, ?_⟩
      exact back (P := fun N3 priv' => (∀ p ∈ N', p ∈ N3) ∧ (∃ oC' mC' oA u, priv' = [(C, oC'), (Ca, oA)] ∧ LCg.NsObj oC' mC' ∧ oA.data = .cell u) ∧ At c (priv' ++ own') N3 m s₀ s3) sb2 at6.unenv fun N3 sb3 hr at7 => ⟨sb3, ⟨_, _, _, _, rfl, nC', hdA2⟩, at7⟩
  · obtain ⟨oC', mC', oA, u, rfl, nC', hu⟩ := hg
    refine hfin N' vs n C oC' mC' D s' (fun p hp => sb p (sb0 p hp)) ?_ nC' r (fun q hq => ⟨fD q (.tail _ hq), fC q (.tail _ (.tail _ hq))⟩) dC.1.symm
    have at4 : At c ((Ca, oA) :: ((C, oC') :: (D, lstO vs n) :: own)) N' m s₀ s' := at3.swap
    exact at4.drop
noncomputable def CompR (W : Wd) (k : Nat) (cs : Scope) (ρ : PEnv) (elt iter : Expr) (x : Str) (px : Pos) (ifs : List Expr) (scope : Scope) (pos : Pos) (res : List PV) : Prop :=
  ∀ (ipos : Pos) (use : Option (Value → Sem Unit)) (Q : Value → Shared → Prop) (c : Cx) (own N : Led) (m lm : Str → Option Value) (s₀ s : Shared), c.Ok W k → c.env.scope = cs → NsOk c own m lm → At c own N m s₀ s → EnvRd c N lm ρ →
    (∀ N' vs n C oC mC D s', (∀ p ∈ N, p ∈ N') → At c ((C, oC) :: (D, lstO vs n) :: own) N' m s₀ s' → LCg.NsObj oC mC → Rds N' vs res → (∀ q ∈ own, q.1 ≠ D ∧ q.1 ≠ C) → D ≠ C → compPost (model W.prog W.w) c.A noE use Q (.ref D) C (.ok .next) s') →
    wpAny (model W.prog W.w) c.A (comprehension (.ListComp elt [⟨.Name x px, iter, ifs, 0⟩] scope pos) scope c.env ipos (newList []) false (eval iter c.env) use) Q noE s
theorem CompR.conv {elt iter : Expr} {x : Str} {px pos : Pos} {ifs : List Expr} {scope : Scope} {r r' : List PV} (h : CompR W k cs ρ elt iter x px ifs scope pos r) (e : r = r') : CompR W k cs ρ elt iter x px ifs scope pos r' := e ▸ h
theorem ev_comp {elt iter : Expr} {x : Str} {px pos : Pos} {ifs : List Expr} {scope : Scope} {res : List PV} (h : CompR W k cs ρ elt iter x px ifs scope pos res) (hz : res.length ≤ 1000000) :
    Ev W k cs ρ (.ListComp elt [⟨.Name x px, iter, ifs, 0⟩] scope pos) (.lst res) := by
  intro c own N m lm s₀ s ok hc hns at' he
  rw [eval_ListComp]
  refine h _ none _ c own N m lm s₀ s ok hc hns at' he fun N' vs n C oC mC D s' sb at1 nC r hd hDC => ?_
  refine ⟨mC, nC.ns (at1.news _ (.head _)).1, fun h' hs' => ?_⟩
  have at2 : At c ((D, lstO vs n) :: own) N' m s₀ { s' with heap := h' } := at1.but hs' fun q hq => by
    rcases List.mem_cons.mp hq with rfl | hq
    · exact hDC
    · exact (hd q hq).2
  exact ⟨(D, lstO vs n) :: N', fun p hp => .tail _ (sb p hp), at2.give fun q hq => (hd q hq).1, .lst (.head _) r.len hz (r.mono fun p hp => .tail _ hp).at'⟩
theorem ex_comp {elt iter : Expr} {x y : Str} {px py pos spos : Pos} {ifs : List Expr} {scope : Scope} {ρ' : PEnv} {res : List PV} {rest : List Stmt} {out : Out} (h : CompR W k cs ρ elt iter x px ifs scope pos res) (hz : res.length ≤ 1000000)
    (hy : cs.names.lookup y = some .local) (hny : NmOk y = true) (hu : Upd y (.lst res) ρ ρ') (hr : Ex W k cs ρ' rest out)
    (hsw : ∀ env : Env, env.scope = cs → swapsWith (.ListComp elt [⟨.Name x px, iter, ifs, 0⟩] scope pos) (some (.Name y py)) spos.line env = pure true) :
    Ex W k cs ρ (.Assign [.Name y py] (.ListComp elt [⟨.Name x px, iter, ifs, 0⟩] scope pos) spos :: rest) out := by
  intro c own N m s₀ s ok hc hL at' he
  have hy' : c.env.kindOf y = some .local := by subst hc; exact hy
  refine wpAny_execs_cons ?_
  rw [exec_Assign_Name_used _ _ _ _ (hsw _ hc)]
  refine wpAny_bind (wpAny_standAt (wpAny_bind ?_))
  show wpAny _ c.A (do let _ ← comprehension (.ListComp elt [⟨.Name x px, iter, ifs, 0⟩] scope pos) scope c.env _ (newList []) false (eval iter c.env) (some (PySem.assign (.Name y py) c.env))) _ _ s
  refine wpAny_bind (wpAny_mono (h _ (some (PySem.assign (.Name y py) c.env)) (fun _ s' => ∃ N' m', (∀ p ∈ N, p ∈ N') ∧ At c own N' m' s₀ s' ∧ EnvRd c N' m' ρ') c own N m m s₀ s ok hc (nsOk_L hL) at' he fun N' vs n C oC mC D s' sb at1 nC r hd hDC => ?_) (fun _ s' hq => wpAny_pure (wpAny_pure ?_)) fun _ _ e => e)
  · show wpAny _ c.A (PySem.assign (.Name y py) c.env (.ref D)) _ _ _
    refine wpAny_assign_Name (store_rule ok hL hy' at1 fun s2 at2 => ?_)
    refine ⟨mC, nC.ns (at2.news _ (.head _)).1, fun h' hs' => ?_⟩
    have at3 : At c ((D, lstO vs n) :: own) N' _ s₀ { s2 with heap := h' } := at2.but hs' fun q hq => by
      rcases List.mem_cons.mp hq with rfl | hq
      · exact hDC
      · exact (hd q hq).2
    have hrd : Rd ((D, lstO vs n) :: N') (.ref D) (.lst res) := .lst (.head _) r.len hz (r.mono fun p hp => .tail _ hp).at'
    exact ⟨(D, lstO vs n) :: N', _, fun p hp => .tail _ (sb p hp), at3.give fun q hq => (hd q hq).1, (he.mono fun p hp => .tail _ (sb p hp)).upd hu hrd hy' hny⟩
  · obtain ⟨N1, m1, sb1, at1, he1⟩ := hq
    exact wpAny_mono (hr c own N1 m1 s₀ s' ok hc hL at1 he1) (fun f s3 q => q.sub sb1) fun _ _ x => x
end
end Mine
end
section
open PySem PySem.W PySem.Calls PySem.Spec PyProof.Rows
set_option maxRecDepth 10000
set_option autoImplicit false
namespace Mine
theorem all3m {x y z : Addr} {p : Addr → Prop} (h1 : p x) (h2 : p y) (h3 : p z) : ∀ b ∈ [x, y, z], p b := fun b hb => by
  rcases hb with _ | ⟨_, _ | ⟨_, _ | ⟨_, hb⟩⟩⟩
  · exact h1
  · exact h2
  · exact h3
  · cases hb
theorem At.done2 {c : Cx} {own N : Led} {m : Str → Option Value} {s₀ s : Shared} {a b : Addr} {oa ob : Obj} {h' : Heap} {tk : Nat} (h : At c ((a, oa) :: (b, ob) :: own) N m s₀ s)
    (hk : ∀ x o, x ∉ [a, b] → s.heap.get? x = some o → h'.get? x = some o) (ho : ∀ q ∈ own, q.1 ≠ a ∧ q.1 ≠ b) : At c own N m s₀ { s with heap := h', toks := tk } := by
  have za := h.news (a, oa) (.head _)
  have zb := h.news (b, ob) (.tail _ (.head _))
  have off : ∀ {x : Addr}, x ≠ a → x ≠ b → x ∉ [a, b] := fun ha hb q => by
    rcases q with _ | ⟨_, _ | ⟨_, q⟩⟩
    · exact ha rfl
    · exact hb rfl
    · cases q
  refine ⟨by obtain ⟨h2, t2, e⟩ := h.same; rw [e]; exact ⟨h', tk, rfl⟩, ⟨h.fr.ns.at' fun o e => hk _ o (off (Ne.symm za.2.1) (Ne.symm zb.2.1)) e, fun x o e => hk x o (off ?_ ?_) (h.fr.keep x o e), h.fr.above⟩, fun p hp => ?_, h.drop.drop.disj⟩
  · exact fun q => by have := za.2.2; dsimp only at this; rw [← q, e] at this; cases this
  · exact fun q => by have := zb.2.2; dsimp only at this; rw [← q, e] at this; cases this
  · have y := h.news p (.tail _ (.tail _ hp))
    rcases List.mem_append.mp hp with hp | hp
    · exact ⟨hk _ _ (off (ho p hp).1 (ho p hp).2) y.1, y.2⟩
    · exact ⟨hk _ _ (off (h.disj p hp (a, oa) (.head _)) (h.disj p hp (b, ob) (.tail _ (.head _)))) y.1, y.2⟩
theorem At.chg2 {c : Cx} {own N : Led} {m : Str → Option Value} {s₀ s : Shared} {a b : Addr} {oa ob oa' ob' : Obj} {h' : Heap} {tk : Nat} (h : At c ((a, oa) :: (b, ob) :: own) N m s₀ s)
    (hk : ∀ x o, x ∉ [a, b] → s.heap.get? x = some o → h'.get? x = some o) (ha : h'.get? a = some oa') (hb : h'.get? b = some ob') (ho : ∀ q ∈ own, q.1 ≠ a ∧ q.1 ≠ b) :
    At c ((a, oa') :: (b, ob') :: own) N m s₀ { s with heap := h', toks := tk } := by
  have d := h.done2 (tk := tk) hk ho
  have za := h.news (a, oa) (.head _)
  have zb := h.news (b, ob) (.tail _ (.head _))
  refine ⟨d.same, d.fr, fun p hp => ?_, fun p hp q hq => ?_⟩
  · rcases List.mem_cons.mp hp with rfl | hp
    · exact ⟨ha, za.2⟩
    · rcases List.mem_cons.mp hp with rfl | hp
      · exact ⟨hb, zb.2⟩
      · exact d.news p hp
  · rcases List.mem_cons.mp hq with rfl | hq
    · exact h.disj p hp (a, oa) (.head _)
    · rcases List.mem_cons.mp hq with rfl | hq
      · exact h.disj p hp (b, ob) (.tail _ (.head _))
      · exact d.disj p hp q hq
section
variable {W : Wd} {k : Nat} {cs : Scope} {ρ : PEnv}
theorem For_enum {xi xc : Str} {pi pc pt pos np ap : Pos} {x1 : Nat} {arg : Expr} {body : List Stmt} {ds : List PV} (hblt : nsIn W.K mainGlobals "enumerate" = some none) (hen : cs.names.lookup ("enumerate" : Str) = some .globalImplicit)
    (hi : Ev W k cs ρ arg (.lst ds)) (hxi : cs.names.lookup xi = some .local) (hxc : cs.names.lookup xc = some .local) (hni : NmOk xi = true) (hnc : NmOk xc = true)
    (Inv : Nat → PEnv → Prop) (Good : Nat → Led → Prop) (addrs : List Addr) (hG : ∀ i priv, Good i priv → priv.map (·.1) = addrs) (ret : Option PV)
    (hp : ∀ env, starEach [arg] env = (false, eval arg env) :: starEach [] env)
    (hs : ∀ env v, foldedSetIterable (.Call (.Name "enumerate" np) [arg] [] ap) env v = pure v)
    (c : Cx) (own N : Led) (m : Str → Option Value) (s₀ s : Shared) (ok : c.Ok W k) (hc : c.env.scope = cs) (hL : c.env.locals = c.L) (priv0 : Led) (hg0 : Good 0 priv0) (at' : At c (priv0 ++ own) N m s₀ s) (he : EnvRd c N m ρ) (hinv : Inv 0 ρ) (hOa : ∀ q ∈ own, q.1 ∉ addrs)
    (hstep : ∀ i d own' N' priv m' s' v t ρi, ds[i]? = some d → Good i priv → At c (priv ++ own') N' (fun y => if y = xc then some v else if y = xi then some (.int i t) else m' y) s₀ s' → (∀ p ∈ N, p ∈ N') → Rd N' v d → EnvRd c N' m' ρi → Inv i ρi → (∀ q ∈ own', q.1 ∉ addrs) →
      wpAny (model W.prog W.w) c.A (execs body c.env) (fun f s₄ => (f = .next ∧ ∃ N'' m'' priv' ρ', (∀ p ∈ N', p ∈ N'') ∧ Good (i + 1) priv' ∧ At c (priv' ++ own') N'' m'' s₀ s₄ ∧ EnvRd c N'' m'' ρ' ∧ Inv (i + 1) ρ') ∨
        (∃ v' d' N'' m'' priv', f = .ret v' ∧ ret = some d' ∧ (∀ p ∈ N', p ∈ N'') ∧ At c (priv' ++ own') N'' m'' s₀ s₄ ∧ Rd N'' v' d')) noE s') :
    wpAny (model W.prog W.w) c.A (exec (.For (.Tuple [.Name xi pi, .Name xc pc] x1 pt) (.Call (.Name "enumerate" np) [arg] [] ap) body [] pos) c.env)
      (fun f s₄ => (f = .next ∧ ∃ N'' m'' priv' ρ', (∀ p ∈ N, p ∈ N'') ∧ Good ds.length priv' ∧ At c (priv' ++ own) N'' m'' s₀ s₄ ∧ EnvRd c N'' m'' ρ' ∧ Inv ds.length ρ') ∨
        (∃ v' d' N'' m'' priv', f = .ret v' ∧ ret = some d' ∧ (∀ p ∈ N, p ∈ N'') ∧ At c (priv' ++ own) N'' m'' s₀ s₄ ∧ Rd N'' v' d')) noE s := by
  have hxi' : c.env.kindOf xi = some .local := by subst hc; exact hxi
  have hxc' : c.env.kindOf xc = some .local := by subst hc; exact hxc
  have hpr : ∀ {i : Nat} {priv : Led}, Good i priv → ∀ q ∈ priv, q.1 ∈ addrs := fun g q hq => by rw [← hG _ _ g]; exact List.mem_map_of_mem (f := (·.1)) hq
  obtain ⟨QQ, hQ⟩ : ∃ QQ : Flow → Shared → Prop, ∀ f s₄, QQ f s₄ ↔ ((f = .next ∧ ∃ N'' m'' priv' ρ', (∀ p ∈ N, p ∈ N'') ∧ Good ds.length priv' ∧ At c (priv' ++ own) N'' m'' s₀ s₄ ∧ EnvRd c N'' m'' ρ' ∧ Inv ds.length ρ') ∨
        (∃ v' d' N'' m'' priv', f = .ret v' ∧ ret = some d' ∧ (∀ p ∈ N, p ∈ N'') ∧ At c (priv' ++ own) N'' m'' s₀ s₄ ∧ Rd N'' v' d')) := ⟨_, fun _ _ => Iff.rfl⟩
  refine wpAny_mono (Q := QQ) ?_ (fun f s h => (hQ f s).mp h) fun _ _ x => x
  refine wpAny_For ?_ (hs _)
  show wpAny _ _ (eval (.Name "enumerate" np) c.env >>= fun v => callWith ap v [] (backTo ap (starEach [arg] c.env)) []) _ _ s
  refine wpAny_bind (Name_blt hblt boot_enumerate hen (by decide +kernel) (by decide +kernel) ok hc at' ?_)
  refine Pv.callWith_type1 ?_ (hp _) rfl
  rw [hp]
  refine spliced_cons (Ev.use (hi) ok hc (nsOk_L hL) at' he fun v1 s1 N1 sb1 at1 r1 => ?_)
  refine wpAny_pure ?_
  obtain ⟨a, vs, n, hm, hl, hz, hr, rfl⟩ := r1.lst_inv
  have hLs := at1.isList hm
  have hlt : a < s1.heap.objs.size := Heap.lt_size (at1.obj hm)
  refine call_enumerate_list hLs fun h1 he1 hit1 hsz1 hk1 => ?_
  generalize hI : s1.heap.objs.size = I at he1 hit1 hsz1 hlt ⊢
  generalize hE : I + 1 = E at he1 ⊢
  have hIE : I < E := hE ▸ Nat.lt_succ_self I
  have hEI : E ≠ I := Nat.ne_of_gt hIE
  obtain ⟨oI, hoI, _⟩ := id hit1
  refine wpAny_pyIter_enum he1 ?_
  have D := Draws.list (prog := W.prog) (w := W.w) (A := c.A.in1) rfl I a (Nat.ne_of_lt hlt) vs.toArray
  have Wk := WalksT.enumerateD D E hEI (by simp only [List.mem_cons, List.not_mem_nil, or_false, not_or]; exact ⟨hEI, Nat.ne_of_gt (Nat.lt_trans hlt hIE)⟩) (.head _)
  have sz : vs.toArray.size = ds.length := by rw [List.size_toArray, hl]
  rw [sz] at Wk
  obtain ⟨Pt, St, Mid, Wk, hPtD, hSt0, hStD⟩ : ∃ (Pt : Nat → Array Value → Prop) (St : Nat → Heap → Prop) (Mid : Nat → Addr → Heap → Prop), WalksT W.prog W.w c.A E [E, I, a] [E, I] ds.length Pt St Mid ∧ (∀ i vals, Pt i vals → ∃ t x, vs.toArray[i]? = some x ∧ vals = #[.int i t, x]) ∧
    (∀ (i : Nat) h, ((∃ old, IsEnum h E I i old) ∧ h.IsListIter I a i ∧ h.IsList a vs.toArray) → St i h) ∧ (∀ (i : Nat) h, St i h → ((∃ old, IsEnum h E I i old) ∧ h.IsListIter I a i ∧ h.IsList a vs.toArray)) := ⟨_, _, _, Wk, fun _ _ h => h, fun _ _ h => h, fun _ _ h => h⟩
  let oE0 : Obj := { cls := .type "enumerate", dict := none, data := .fields #[.none, .bool false, .ref I, rawInt 0, .none, .none], slots := #[] }
  have lowO : ∀ q ∈ (priv0 ++ own) ++ N1, q.1 < I := fun q hq => by rw [← hI]; exact Heap.lt_size (at1.news q hq).1
  have at2 : At c ((E, oE0) :: (I, oI) :: (priv0 ++ own)) N1 m s₀ { s1 with heap := h1 } := at1.ownAt (Nat.le_trans (Nat.le_of_eq hI) (Nat.le_of_lt hIE)) (at1.ownAt (Nat.le_of_eq hI) (at1.grow hk1) hoI) he1
  have hown : ∀ q ∈ priv0 ++ own, q.1 ≠ E ∧ q.1 ≠ I := fun q hq => ⟨Nat.ne_of_lt (Nat.lt_trans (lowO q (List.mem_append_left _ hq)) hIE), Nat.ne_of_lt (lowO q (List.mem_append_left _ hq))⟩
  have hEa : E ∉ addrs := fun h => by rw [← hG _ _ hg0] at h; obtain ⟨q, hq, e⟩ := List.mem_map.mp h; exact (hown q (List.mem_append_left _ hq)).1 e
  have hIa : I ∉ addrs := fun h => by rw [← hG _ _ hg0] at h; obtain ⟨q, hq, e⟩ := List.mem_map.mp h; exact (hown q (List.mem_append_left _ hq)).2 e
  have live : ∀ {i : Nat} {h : Heap}, (((∃ old, IsEnum h E I i old) ∧ h.IsListIter I a i ∧ h.IsList a vs.toArray)) → ∃ oe oi, h.get? E = some oe ∧ h.get? I = some oi := fun {i h} st => by
    obtain ⟨⟨old, x⟩, ⟨o, y, _⟩, _⟩ := st; exact ⟨_, o, x, y⟩
  obtain ⟨J, hK⟩ : ∃ J : Nat → Shared → Prop, ∀ n s', J n s' ↔ (∃ i oe oi N' priv m' ρi, i ≤ ds.length ∧ n = ds.length + 1 - i ∧ (∀ p ∈ N1, p ∈ N') ∧ Good i priv ∧ At c ((E, oe) :: (I, oi) :: (priv ++ own)) N' m' s₀ s' ∧ St i s'.heap ∧ EnvRd c N' m' ρi ∧ Inv i ρi) := ⟨_, fun _ _ => Iff.rfl⟩
  refine codeAny_forLoop_any J (fun n s' hJ => ?_) (ds.length + 1) ((hK _ _).mpr ⟨0, oE0, oI, N1, priv0, m, ρ, Nat.zero_le _, rfl, fun _ h => h, hg0, at2, hSt0 _ _ ⟨⟨_, he1⟩, hit1, hLs.at fun o e => hk1 a o e⟩, he.mono sb1, hinv⟩)
  obtain ⟨i, oe, oi, N2, priv, m2, ρi, hi1, rfl, sb2, g2, at3, st3, he3, hv3⟩ := (hK _ _).mp hJ
  have hown3 : ∀ q ∈ priv ++ own, q.1 ≠ E ∧ q.1 ≠ I := fun q hq => by
    rcases List.mem_append.mp hq with hq | hq
    · exact ⟨fun e => hEa (e ▸ hpr g2 q hq), fun e => hIa (e ▸ hpr g2 q hq)⟩
    · exact hown q (List.mem_append_right _ hq)
  by_cases hltn : i < ds.length
  · refine Wk.item i _ _ _ hltn st3 fun T vals h4 tk4 hPt hsT hT hMid hk4 => ?_
    obtain ⟨t, v, hv, rfl⟩ := hPtD _ _ hPt
    refine Wk.go _ x1 pt i T _ _ _ hMid fun h5 st5 hk5 => ?_
    have hT5 : h5.IsTuple T #[.int i t, v] := hT.at fun o e => hk5 T o (Wk.apart i T h4 hMid) e
    refine wpAny_assign_Tuple (A := c.A) rfl hT5 rfl rfl fun h6 hx6 => ?_
    have up6 : ∀ b o, h5.get? b = some o → h6.get? b = some o := fun b o x => hx6 b o (Nat.ne_of_lt (Heap.lt_size x)) x
    have st6 := Wk.frame _ _ _ st5 fun b hb o e => up6 b o e
    obtain ⟨oe6, oi6, hoe6, hoi6⟩ := live (hStD _ _ st6)
    have at6 := at3.chg2 (tk := tk4) (h' := h6) (fun x o hx e => up6 x o (hk5 x o hx (hk4 x o hx e))) hoe6 hoi6 hown3
    show wpAny _ c.A (do holding [v] (PySem.assign (.Name xi pi) c.env (.int i t)); do holding [] (PySem.assign (.Name xc pc) c.env v); pure ()) _ _ _
    refine wpAny_bind (wpAny_holding (wpAny_assign_Name (wpAny_mono (E := noE) (Q := fun _ s7 => At c ((E, oe6) :: (I, oi6) :: (priv ++ own)) N2 (fun y => if y = xi then some (.int i t) else m2 y) s₀ s7) (store_rule ok hL hxi' at6 fun s7 at7 => at7) (fun _ s7 at7 => ?_) (fun _ _ x => False.elim x))))
    refine wpAny_bind (wpAny_holding (wpAny_assign_Name (wpAny_mono (E := noE) (Q := fun _ s8 => At c ((E, oe6) :: (I, oi6) :: (priv ++ own)) N2 (fun y => if y = xc then some v else if y = xi then some (.int i t) else m2 y) s₀ s8) (store_rule ok hL hxc' at7 fun s8 at8 => at8) (fun _ s8 at8 => wpAny_pure ?_) (fun _ _ x => False.elim x))))
    have hvd : vs[i]? = some v := by simpa using hv
    have rd : Rd N2 v ds[i] := (hr i v _ hvd (by simp [hltn])).mono sb2
    have at9 : At c (priv ++ ((E, oe6) :: (I, oi6) :: own)) N2 _ s₀ s8 := at8.perm mmE
    have hst8 : St (i + 1) s8.heap := Wk.frame _ _ _ st6 (all3m (fun o e => at6.carry at8 (.head _) (.head _) e) (fun o e => at6.carry at8 (.tail _ (.head _)) (.tail _ (.head _)) e)
      (fun o e => at6.carry at8 (List.mem_append_right _ (sb2 _ hm)) (List.mem_append_right _ (sb2 _ hm)) e))
    refine wpAny_mono (hstep i ds[i] ((E, oe6) :: (I, oi6) :: own) N2 priv m2 s8 v t ρi (by simp [hltn]) g2 at9 (fun p hp => sb2 p (sb1 p hp)) rd he3 hv3 (fun q hq => ?_)) (fun f s9 q9 => ?_) (fun _ _ x => False.elim x)
    · simp only [List.mem_cons] at hq
      rcases hq with rfl | rfl | hq
      · exact hEa
      · exact hIa
      · exact hOa q hq
    · rcases q9 with ⟨rfl, N3, m3, priv3, ρ3, sb3, g3, at10, he10, hv10⟩ | ⟨v', d', N3, m3, priv3, rfl, hret, sb3, at10, r10⟩
      · have at11 : At c ((E, oe6) :: (I, oi6) :: (priv3 ++ own)) N3 m3 s₀ s9 := at10.perm mmF
        exact ⟨_, turn_lt hltn, (hK _ _).mpr ⟨i + 1, oe6, oi6, N3, priv3, m3, ρ3, hltn, rfl, fun p hp => sb3 p (sb2 p hp), g3, at11, Wk.frame _ _ _ hst8 (all3m (fun o e => at8.carry at11 (.head _) (.head _) e) (fun o e => at8.carry at11 (.tail _ (.head _)) (.tail _ (.head _)) e)
          (fun o e => at8.carry at11 (List.mem_append_right _ (sb2 _ hm)) (List.mem_append_right _ (sb3 _ (sb2 _ hm))) e)), he10, hv10⟩⟩
      · refine (hQ _ _).mpr (.inr ⟨v', d', N3, m3, priv3, rfl, hret, fun p hp => sb3 p (sb2 p (sb1 p hp)), ?_, r10⟩)
        have at11 : At c ((E, oe6) :: (I, oi6) :: (priv3 ++ own)) N3 m3 s₀ s9 := at10.perm mmF
        exact at11.drop.drop
  · have hi2 := turn_end hi1 hltn
    exact Wk.done _ _ _ (hi2 ▸ st3) fun h4 tk4 hk4 => wpAny_execs_nil ((hQ _ _).mpr (.inl ⟨rfl, N2, m2, priv, ρi, fun p hp => sb2 p (sb1 p hp), hi2 ▸ g2, at3.done2 hk4 hown3, he3, hi2 ▸ hv3⟩))
theorem ex_enum {xi xc : Str} {pi pc pt pos np ap : Pos} {x1 : Nat} {arg : Expr} {body rest : List Stmt} {ds : List PV} {out : Out} (hblt : nsIn W.K mainGlobals "enumerate" = some none) (hen : cs.names.lookup ("enumerate" : Str) = some .globalImplicit)
    (hi : Ev W k cs ρ arg (.lst ds)) (hxi : cs.names.lookup xi = some .local) (hxc : cs.names.lookup xc = some .local) (hni : NmOk xi = true) (hnc : NmOk xc = true)
    (hb : ∀ (i : Nat) d, ds[i]? = some d → ∃ ρ1 ρ2 ρ3, Upd xi (.int i) ρ ρ1 ∧ Upd xc d ρ1 ρ2 ∧ Ex W k cs ρ2 body (.next ρ3) ∧ ∀ p ∈ ρ, p ∈ ρ3) (hr : Ex W k cs ρ rest out)
    (hp : ∀ env, starEach [arg] env = (false, eval arg env) :: starEach [] env)
    (hs : ∀ env v, foldedSetIterable (.Call (.Name "enumerate" np) [arg] [] ap) env v = pure v) :
    Ex W k cs ρ (.For (.Tuple [.Name xi pi, .Name xc pc] x1 pt) (.Call (.Name "enumerate" np) [arg] [] ap) body [] pos :: rest) out := by
  intro c own N m s₀ s ok hc hL at' he
  have hxi' : c.env.kindOf xi = some .local := by subst hc; exact hxi
  have hxc' : c.env.kindOf xc = some .local := by subst hc; exact hxc
  refine wpAny_execs_cons (wpAny_mono (For_enum hblt hen hi hxi hxc hni hnc (fun _ ρ' => ρ' = ρ) (fun _ priv => priv = []) [] (fun _ _ h => by rw [h]; rfl) none hp hs c own N m s₀ s ok hc hL [] rfl at' he rfl (fun _ _ h => by cases h) fun i d own' N' priv m' s' v t ρi hd hg at1 sb rd he1 hv _ => ?_) (fun f s1 q => ?_) fun _ _ x => x)
  · subst hg hv
    obtain ⟨ρ1, ρ2, ρ3, u1, u2, hbd, hsub⟩ := hb i d hd
    refine wpAny_mono (hbd c own' N' _ s₀ s' ok hc hL at1 ((he1.upd u1 (.int _ _) hxi' hni).upd u2 rd hxc' hnc)) (fun f s2 q => ?_) fun _ _ x => x
    obtain ⟨rfl, N2, m2, sb2, at2, he2⟩ := q
    exact .inl ⟨rfl, N2, m2, [], _, sb2, rfl, at2, he2.sub hsub, rfl⟩
  · rcases q with ⟨rfl, N1, m1, priv, ρ', sb1, hg, at1, he1, hv⟩ | ⟨_, _, _, _, _, _, h, _⟩
    · subst hg hv
      exact Ex.go (hr) ok hc hL at1 he1 (sb1)
    · cases h
end
end Mine
end
section
open PySem PySem.W PySem.Calls PySem.Spec PyProof.Rows
set_option maxRecDepth 10000
set_option autoImplicit false
namespace Mine
section
variable {prog : Program} {w : World} {A : Around} {E : Value → Shared → Prop}
theorem draw_list {it l : Addr} {items : Array Value} (hne : l ≠ it) : ∀ (n i : Nat) (s : Shared) (Q : List Value → Shared → Prop), s.heap.IsListIter it l i → s.heap.IsList l items → i + n ≤ items.size →
    (∀ h', h'.IsListIter it l (i + n) → Heap.SameBut it s.heap h' → Q ((items.toList.drop i).take n) { s with heap := h' }) → wpAny (model prog w) A (draw (.ref it) n) Q E s
  | 0, i, s, Q, hit, _, _, hQ => by
    show wpAny _ _ (pure []) Q E s
    exact wpAny_pure (by simpa using hQ s.heap hit (Heap.SameBut.refl ..))
  | n + 1, i, s, Q, hit, ht, hle, hQ => by
    have hlt : i < items.size := by omega
    show wpAny _ _ (pyNext (.ref it) >>= _) Q E s
    refine wpAny_bind (wpAny_pyNext_list_item hit ht (x := items[i]) (by simp [hlt]) fun h₁ hit₁ hs₁ => ?_)
    refine wpAny_bind (wpAny_holding (draw_list hne n (i + 1) _ _ hit₁ (ht.extBut hs₁.extBut hne) (by omega) fun h₂ hit₂ hs₂ => wpAny_pure ?_))
    have hd : items.toList.drop i = items[i] :: items.toList.drop (i + 1) := by simp [List.drop_eq_getElem_cons, hlt]
    have := hQ h₂ (by rw [show i + (n + 1) = i + 1 + n by omega]; exact hit₂) (hs₁.trans hs₂)
    rw [hd, List.take_succ_cons] at this
    exact this
theorem unpackItems_list {s : Shared} {l : Addr} {items : Array Value} {Q : List Value → Shared → Prop} (hh : A.handled = none) (hl : s.heap.IsList l items)
    (hQ : ∀ h', Heap.ExtBut s.heap.objs.size s.heap h' → Q items.toList { s with heap := h' }) : wpAny (model prog w) A (unpackItems (.ref l) items.size none) Q E s := by
  have hlt : l ≠ s.heap.objs.size := by obtain ⟨o, ho, _⟩ := hl; exact Nat.ne_of_lt (Heap.lt_size ho)
  have hl' : ∀ (o : Obj), (s.heap.push o).IsList l items := fun o => hl.at fun _ e => Heap.get?_push_of_some _ e
  unfold unpackItems
  refine wpAny_bind ?_
  · unfold notIterableAtAll
    refine wpAny_bind (wpAny_specialOf hl.typeIs F.slot_list_iter.lookup ?_)
    refine wpAny_pure ?_
    simp only [Bool.false_eq_true, if_false]
    refine wpAny_bind (wpAny_holding (wpAny_pyIter_list hl ?_))
    refine wpAny_bind (wpAny_holding (draw_list hlt items.size 0 _ _ ⟨_, Heap.get?_push_size _ rfl, rfl, rfl⟩ (hl' _) (by omega) fun h₁ hit₁ hs₁ => ?_))
    have hall : List.take items.size (List.drop 0 items.toList) = items.toList := by
      rw [List.drop_zero]; exact List.take_of_length_le (by simp)
    rw [hall]
    rw [if_neg (by simp)]
    have hl₁ : h₁.IsList l items := (hl' _).extBut hs₁.extBut hlt
    refine wpAny_bind (wpAny_holding (wpAny_pyNext_list_end hh hit₁ hl₁ (by simp) fun h₂ he₂ => ?_))
    simp only [Option.isSome_none, Bool.false_eq_true, if_false]
    refine wpAny_pure (hQ h₂ fun b o hb e => he₂ b o hb (hs₁.extBut b o hb (Heap.get?_push_of_some _ e)))
end
section
variable {W : Wd} {k : Nat} {cs : Scope} {ρ : PEnv}
theorem Ex.unpack2 {x y : Str} {px py tp pos : Pos} {kk : Nat} {e : Expr} {rest : List Stmt} {d1 d2 : PV} {ρ1 ρ2 : PEnv} {out : Out} (hx : cs.names.lookup x = some .local) (hnx : NmOk x = true) (hy : cs.names.lookup y = some .local) (hny : NmOk y = true)
    (h : Ev W k cs ρ e (.lst [d1, d2])) (u1 : Upd x d1 ρ ρ1) (u2 : Upd y d2 ρ1 ρ2) (hr : Ex W k cs ρ2 rest out)
    (hs : ∀ env : Env, env.scope = cs → swapsWithSole [.Tuple [.Name x px, .Name y py] kk tp] e pos.line env = pure false)
    (hw : ∀ env : Env, env.scope = cs → swappedStores [.Tuple [.Name x px, .Name y py] kk tp] e env = pure none) :
    Ex W k cs ρ (.Assign [.Tuple [.Name x px, .Name y py] kk tp] e pos :: rest) out := by
  intro c own N m s₀ s ok hc hL at' he
  have hx' : c.env.kindOf x = some .local := by subst hc; exact hx
  have hy' : c.env.kindOf y = some .local := by subst hc; exact hy
  refine wpAny_execs_cons (Assign_Tuple ?_ (hs _ hc) (hw _ hc))
  refine Ev.use (h) ok hc (nsOk_L hL) at' he fun v s1 N1 sb1 at1 r1 => ?_
  obtain ⟨t, vs, n, hm, hl, hz, hr', rfl⟩ := r1.lst_inv
  ·
    obtain ⟨v1, vs1, rfl, ra, r1⟩ := (⟨hl, hr'⟩ : Rds N1 vs [d1, d2]).inv
    obtain ⟨v2, vs2, rfl, rb, r1⟩ := r1.inv
    obtain rfl := r1.inv0
    rw [arm_assign_Tuple]
    refine wpAny_bind (wpAny_standAt ?_)
    show wpAny _ _ (do assignInOrder [PySem.assign (.Name x px) c.env, PySem.assign (.Name y py) c.env] (← holding [.ref t] (unpackItems (.ref t) [v1, v2].toArray.size none))) _ _ _
    refine wpAny_bind (wpAny_holding (unpackItems_list (items := [v1, v2].toArray) rfl (at1.isList hm) fun h' he' => ?_))
    have at2 := at1.grow (ext_keeps he')
    refine assignInOrder_two (wpAny_assign_Name (store_rule ok hL hx' at2 fun s3 at3 => wpAny_assign_Name (store_rule ok hL hy' at3 fun s4 at4 => ?_)))
    have e3 := ((he.mono sb1).upd u1 ra hx' hnx).upd u2 rb hy' hny
    exact Ex.go (hr) ok hc hL at4 e3 (sb1)
end
end Mine
end
section
open PySem PySem.W PySem.Calls PySem.Spec PyProof.Rows
set_option maxRecDepth 100000
set_option autoImplicit false
namespace Mine
section
variable {M : Model} {A : Around} {E : Value → Shared → Prop} {h : Heap} {g : Array GenState} {d : Drawn} {t : Nat} {os : OsState}
variable {nm q : Str} {C P N : Addr} {bs : List Value} {hdct : Bool} {sn : List Str} {sub : List Value} {ab : Bool} {col : Option Bool} {dd : Option Addr} {k0 k1 k2 k3 k5 : Option Value}
noncomputable abbrev excMro (P : Addr) : List Value := [.ref P, .type "Exception", .type "BaseException", .type "object"]
noncomputable abbrev excTail : List Value := [.type "Exception", .type "BaseException", .type "object"]
noncomputable abbrev bareExc (C : Addr) (t : Addr) : Obj := { cls := .ref C, data := .fields #[.ref t, .none, .none, .none, .bool false, .none] }
theorem check_newE {rest : List Value} {Q : Unit → Shared → Prop} (hC : h.get? C = some (excClassObj nm q C N bs (excMro P) hdct sn sub ab col dd k0 k1 k2 k3 k5 "Exception.__new__"))
    (hq : Q () ⟨h, g, d, t, os⟩) : wpAny M A (checkBuiltinCall "Exception.__new__" ⟨.ref C :: rest, []⟩) Q E ⟨h, g, d, t, os⟩ := by
  have Fn := PySem.F.excBase_Exception
  have hcont : (Value.ref C :: excMro P).contains (.type "Exception") = true := by simp
  have hstar := Fn.noStar
  simp only [checkBuiltinCall, Fn.newKind, Fn.newSplit, Fn.newRow]
  repeat (first | refine wpAny_loadPart_at hC ?_ | (refine wpAny_isSubtype_exc hC ?_; rw [hcont]) | refine wpAny_staticBase_exc hC ?_ | refine wpAny_madeBy_exc hC ?_ | simp only [bne_self_eq_false, Bool.false_eq_true, if_false] | wp_step)
  exact hq
theorem check_initE {e : Addr} {oe : Obj} {rest : List Value} {Q : Unit → Shared → Prop} (hC : h.get? C = some (excClassObj nm q C N bs (excMro P) hdct sn sub ab col dd k0 k1 k2 k3 k5 "Exception.__new__")) (he : h.get? e = some oe) (hcls : oe.cls = .ref C) (hq : Q () ⟨h, g, d, t, os⟩) :
    wpAny M A (checkBuiltinCall "Exception.__init__" ⟨.ref e :: rest, []⟩) Q E ⟨h, g, d, t, os⟩ := by
  have F := PySem.F.excBase_Exception
  have hcB : (Value.ref C :: excMro P).contains (.type "Exception") = true := by simp
  have hshort := F.noStar
  simp only [checkBuiltinCall, F.initKind, F.initSplit, F.initRow]
  repeat (first | (with_reducible refine wpAny_loadPart_at he ?_; rw [hcls]) | with_reducible refine wpAny_loadPart_at hC ?_ | (with_reducible refine wpAny_isSubtype_exc hC ?_; rw [hcB]) | wp_step)
  refine wpAny_onRaise ?_
  rw [show ∀ (a b : String) (n : Nat), Bind.check ⟨.positional, "*", "Exception", .self, [⟨"args", .varPos, false⟩]⟩ a b n (List.map (fun x => x.fst) ({ pos := Value.ref e :: rest } : Args).kw) = pure () from
    fun a b n => check_star_args _ _ _ _ _ _]
  exact wpAny_pure hq
end
section
variable {prog : Program} {w : World} {A : Around} {R : Result → Shared → Prop} {E : Value → Shared → Prop} {h : Heap} {g : Array GenState} {d : Drawn} {t : Nat} {os : OsState}
variable {nm q : Str} {C P N : Addr} {bs : List Value} {hdct : Bool} {sn : List Str} {sub : List Value} {ab : Bool} {col : Option Bool} {dd : Option Addr} {k0 k1 k2 k3 k5 : Option Value}
theorem code_newE {rest : List Value} (hC : h.get? C = some (excClassObj nm q C N bs (excMro P) hdct sn sub ab col dd k0 k1 k2 k3 k5 "Exception.__new__"))
    (hq : R (.ok (.ret (.ref (h.objs.size + 1)))) ⟨(h.push { cls := .type "tuple", data := .seq rest.toArray }).push (bareExc C h.objs.size), g, d, t, os⟩) (hrest : rest.length ≤ sizeLine) :
    codeAny (model prog w) A (.builtin "Exception.__new__" ⟨.ref C :: rest, []⟩) R ⟨h, g, d, t, os⟩ := by
  have Fn := PySem.F.excBase_Exception
  have hends := Fn.ends
  have hcB : (Value.ref C :: excMro P).contains (.type "Exception") = true := by simp
  have hcA : (Value.ref C :: excMro P).contains (.type "AttributeError") = false := by simp
  have hcN : (Value.ref C :: excMro P).contains (.type "NameError") = false := by simp
  refine codeAny_builtinAt Fn.entry ?_
  unfold Builtin.«BaseException.__new__»
  refine PySem.wpAt_bind ?_
  show PySem.wpAt _ _ _ (stack >>= _) _ _ _
  refine PySem.wpAt_bind (PySem.wpAt_stack fun p below => PySem.wpAt_of_wpAny ?_)
  wp_walk
  refine PySem.wpAt_of_wpAny ?_
  rw [Fn.owner]
  repeat (first | with_reducible refine wpAny_madeHere_exc Fn.canon hC ?_ | with_reducible refine wpAny_loadPart_at hC ?_ | (with_reducible refine wpAny_isSubtype_exc hC ?_; first | rw [hcB] | rw [hcA] | rw [hcN]) | wp_step)
  show R _ _
  rw [Heap.size_push]
  exact hq
end
end Mine
end
section
open PySem PySem.W PySem.Calls PySem.Spec PyProof.Rows
set_option maxRecDepth 100000
set_option autoImplicit false
namespace Mine
section
variable {prog : Program} {w : World} {A : Around} {R : Result → Shared → Prop} {E : Value → Shared → Prop} {h : Heap} {g : Array GenState} {d : Drawn} {t : Nat} {os : OsState}
variable {nm q : Str} {C P N : Addr} {bs : List Value} {hdct : Bool} {sn : List Str} {sub : List Value} {ab : Bool} {col : Option Bool} {dd : Option Addr} {k0 k1 k2 k3 k5 : Option Value}
theorem call_initE {e t0 : Addr} {v : Value} {Q : Value → Shared → Prop} (hC : h.get? C = some (excClassObj nm q C N bs (excMro P) hdct sn sub ab col dd k0 k1 k2 k3 k5 "Exception.__new__")) (he : h.get? e = some (bareExc C t0))
    (hq : ∀ h', Heap.SameBut e (h.push { cls := .type "tuple", data := .seq #[v] }) h' → h'.get? e = some (bareExc C h.objs.size) → Q .none ⟨h', g, d, t, os⟩) :
    wpAny (model prog w) A (call (.builtin "Exception.__init__") [.ref e, v]) Q E ⟨h, g, d, t, os⟩ := by
  have F := PySem.F.excBase_Exception
  refine wpAny_call (codeAny_call_builtin F.init.plain F.initEntry (check_initE hC he rfl ?_))
  wp_walk
  refine hq _ ?_ ?_
  · exact Heap.SameBut.update ..
  · exact Heap.get?_update_self _ (Heap.get?_push_of_some _ he) rfl
open Builtin Builtin.ObjectAttr in
theorem storeE {x : Addr} {o : Obj} {name : Str} {v : Value} {tk : Tok} {Q : Fin → Shared → Prop}
    (hC : h.get? C = some (excClassObj nm q C N bs (excMro P) true sn sub ab col dd k0 k1 k2 k3 k5 "Exception.__new__")) (hx : h.get? x = some o) (hc : o.cls = .ref C) (hnc : ∀ c, o.data ≠ .cls c) (hdn : o.dict = none)
    (hW : Looks (model prog w) h (typeLookup (.ref C) name) none)
    (hq : ∀ h' tk' D oD, x ≠ D → h.objs.size ≤ D → h'.get? D = some oD → h'.get? x = some { o with dict := some D } → (∀ b o, b ≠ x → h.get? b = some o → h'.get? b = some o) → Q (.done (.ret .none)) ⟨h', g, d, tk', os⟩) :
    wpAny (model prog w) A (Builtin.«object.__setattr__» ⟨[.ref x, .str name tk, v], []⟩) Q E ⟨h, g, d, t, os⟩ := by
  have hpass : refuseLoop (.ref x) "__setattr__" [.type "Exception", .type "BaseException", .type "object"] = pure () := by kernel_rfl
  unfold Builtin.«object.__setattr__»
  repeat (first | rw [refuse_eq] | (rw [refuseLoop_ref, refuseLoop_ref, hpass]) | (with_reducible refine wpAny_loadPart_at hx ?_; rw [hc]) | with_reducible refine wpAny_mroOf_exc hC ?_ | (with_reducible refine hW.at ?_) | wp_step)
  rw [hdn, if_neg (by simp [typeHasDict])]
  split
  · rename_i hcd
    cases hcd
  split
  · rename_i c hcd
    exact absurd hcd (hnc c)
  · have hx₁ : (h.push { cls := .type "dict", data := .dict #[] }).get? x = some o := Heap.get?_push_of_some _ hx
    have hxs : x ≠ h.objs.size := Nat.ne_of_lt (Heap.lt_size hx)
    refine wpAny_bind (wpAny_alloc' ?_)
    refine wpAny_bind (wpAny_update' hx₁ ?_)
    refine wpAny_pure ?_
    have hgd : ((h.push { cls := .type "dict", data := .dict #[] }).update x fun o => { cls := o.cls, dict := some h.objs.size, data := o.data, slots := o.slots }).get? h.objs.size
        = some { cls := .type "dict", data := .dict #[] } :=
      (Heap.get?_update_ne _ _ _ _ hxs.symm).trans (Heap.get?_push_at rfl rfl)
    have hnd : ((h.push { cls := .type "dict", data := .dict #[] }).update x fun o => { cls := o.cls, dict := some h.objs.size, data := o.data, slots := o.slots }).Ns h.objs.size (fun _ => none) :=
      ⟨_, #[], _, hgd, rfl, fun e he => absurd he (by simp), fun _ => rfl⟩
    show wpAny _ _ (storeInDict h.objs.size (.str name tk) name v) _ _ _
    unfold storeInDict newKeyGuard
    refine wpAny_bind (wpAny_pure (wpAny_bind (wpAny_nsSet1 (Heap.Ns1.of_empty hnd) fun h' hn' hs => ?_)))
    obtain ⟨oD, esD, epD, hoD, hdD, hcD⟩ := hn'.count (Within.cons name v Within.nil)
    refine wpAny_bind (wpAny_lookBehind hoD (by rw [hdD]; exact pastItsLine_dict (Nat.le_trans hcD (by rw [List.length_cons, List.length_nil, sizeLine_eq]; omega))) ?_)
    wp_walk
    refine hq h' _ h.objs.size oD hxs (Nat.le_refl _) hoD ?_ (fun b ob hbx hb => ?_)
    · refine (hs.2 x hxs).trans (Heap.get?_update_self _ hx₁ ?_)
      have hfr := (Heap.get?_some_iff.mp hx).2
      obtain ⟨oc, od, odt, osl⟩ := o
      cases odt <;> first | rfl | exact hfr
    · exact (hs.2 b (Nat.ne_of_lt (Heap.lt_size hb))).trans ((Heap.get?_update_ne _ _ _ _ hbx).trans (Heap.get?_push_of_some _ hb))
end
end Mine
end
section
open PySem PySem.W PySem.Calls PySem.Spec PyProof.Rows
set_option maxRecDepth 100000
set_option autoImplicit false
namespace Mine
section
variable {M : Model} {A : Around} {E : Value → Shared → Prop} {s' : Shared} {base g g₂ h : Heap} {outer : List Env} {L a e : Addr} {m : Str → Option Value} {name : Str} {scope : Scope} {cd : Value} {Q : Unit → Shared → Prop} {news : List (Addr × Obj)}
theorem leave_ownS {oe : Obj} {vs : Array Value} {a0 : Value} (K : Below A base outer g) (hk : ∀ b o, h.get? b = some o → s'.heap.get? b = some o) (hne : h.get? e = none) (he : s'.heap.get? e = some oe) (hd : oe.data = .fields vs) (h1 : vs[1]? = some .none) (h0 : vs[0]? = some a0) (F : Fr g L h m) (N : News g L h news)
    (hQ : ∀ h', RaisedSN base g outer e oe.cls news h' → g.UpToSlots h' → Q () { s' with heap := h' }) (hks : scope.kind = .function) :
    wpAny M (A.deeper (envOf name scope L a cd)) (leaving (envOf name scope L a cd) (.ref e)) Q E s' := by
  have K' := K.push (name := name) (a := a) (cd := cd) F hks
  have hin : ∀ env ∈ (envOf name scope L a cd :: outer), ∀ b, env.frame = some b → b ∈ (envOf name scope L a cd :: outer).filterMap (·.frame) := fun env he b hb => List.mem_filterMap.mpr ⟨env, he, hb⟩
  have st : base.StaysIn (hideAll h ((envOf name scope L a cd :: outer).filterMap (·.frame))) := fun b o q => hideAll_get _ (K'.stays b o q) fun hm => by
    rw [(K'.frames.mem hm).1] at q; cases q
  have sg : ∀ b o, g.get? b = some o → b ∉ outer.filterMap (·.frame) → (hideAll h ((envOf name scope L a cd :: outer).filterMap (·.frame))).get? b = some o := fun b o q nm => hideAll_get _ (F.keep b o q) fun hm => by
    rcases kts_mem hm with z | z
    · rw [z, kts_self F] at q
      cases q
    · exact nm z
  have hl : ∀ q ∈ news, (hideAll h ((envOf name scope L a cd :: outer).filterMap (·.frame))).get? q.1 = some q.2 ∧ g.get? q.1 = none ∧ base.get? q.1 = none := fun q hq => by
    refine ⟨hideAll_get _ (N q hq).1 fun hm => ?_, (N q hq).2.2, fresh_of_stays K.stays (N q hq).2.2⟩
    obtain ⟨env, he, hf⟩ := List.mem_filterMap.mp hm
    rcases List.mem_cons.mp he with rfl | he
    · exact (N q hq).2.1 (Option.some.inj hf).symm
    · obtain ⟨o, ho, _⟩ := (K.frames.mem (List.mem_filterMap.mpr ⟨env, he, hf⟩)).2
      rw [(N q hq).2.2] at ho; cases ho
  have hen : (hideAll h ((envOf name scope L a cd :: outer).filterMap (·.frame))).get? e = none := by
    cases q : (hideAll h ((envOf name scope L a cd :: outer).filterMap (·.frame))).get? e with
    | none => rfl
    | some o => have := of_hideAll _ q; rw [hne] at this; cases this
  refine wpAny_leaving_firstW (a0 := a0) K'.stack ((funFrames_hide K'.frames hin).of_keeps fun b o hb _ => ⟨o, hk b o hb, rfl⟩) rfl he (fun b o hb => hk b o (of_hideAll _ hb)) hen hd h1 h0 fun h' hL => ?_
  obtain ⟨k1, ⟨_, _, k2⟩, k3, k4⟩ := hL
  exact hQ h' ⟨_, a0, st, sg, hl, k1, hen, k2, k3⟩ (((Heap.UpToSlots.of_keeps F.keep).trans (Heap.UpToSlots.of_keeps hk)).trans k4)
end
section
variable {prog : Program} {w : World} {A₀ : Around} {E : Value → Shared → Prop} {s' : Shared} {base g g₀ G : Heap} {outer : List Env} {L a e C : Addr} {m : Str → Option Value} {name : Str} {scope : Scope} {cd : Value}
  {b₀ : Stmt} {suite : List Stmt} {pos np : Pos} {rest : List ExceptHandler} {Q : Flow → Shared → Prop} {news : List (Addr × Obj)} {KF : Frag}
  {p : Program} {loose : List Str} {mean : ExcName → Option Value} {mg mb : Str → Option Value} {x : Str}
theorem caught_own (R : RaisedSN base G (envOf name scope L a cd :: outer) e (.ref C) news s'.heap) (F : Fr g L G m) (K : Below A₀ base outer g) (hsm : G.UpToSlots s'.heap) (XB : KF.In base) (TB : Top p loose mean mg mb base)
    (D : KtsDicts (outer.filterMap (·.frame)) g)
    (ex : nsIn KF mainGlobals x = some (some (.ref C))) (q : ktsIn KF C "BaseException" = true)
    (k : ∀ h' g', KtsTurn (outer.filterMap (·.frame)) g g' → Fr g' L h' m → News g' L h' news → Below A₀ base outer g' → KF.In g' → Top p loose mean mg mb g' → KtsDicts (outer.filterMap (·.frame)) g' →
      wpAny (model prog w) ((A₀.deeper (envOf name scope L a cd)).mark (some (.ref e))) (execs (b₀ :: suite) (envOf name scope L a cd)) Q E { s' with heap := h' })
    (hk : scope.kind = .function) (hx : (envOf name scope L a cd).kindOf x = some .globalImplicit) (hd : (x == ("__debug__" : Str)) = false)
    (hE : PassesOwnAt (model prog w) ((A₀.deeper (envOf name scope L a cd)).mark (some (.ref e))) (A₀.deeper (envOf name scope L a cd)) (envOf name scope L a cd) E) :
    wpAny (model prog w) (A₀.deeper (envOf name scope L a cd)) (noteFrame (.ref e) (envOf name scope L a cd))
      (fun _ s₂ => wpAny (model prog w) (A₀.deeper (envOf name scope L a cd)) (setFlight (.ref e) none) (fun _ s₃ =>
        wpAny (model prog w) (A₀.deeper (envOf name scope L a cd)) (handleBy (.ref e) (envOf name scope L a cd) (.ExceptHandler (some (.Name x np)) none (b₀ :: suite) pos :: rest)) Q E s₃) E s₂) E s' := by
  obtain ⟨B, a0, hB, hBG, hl, hfl⟩ := R
  have hL : B.get? L = none := by
    obtain ⟨_, ⟨L', _, hf, hn', _⟩, _⟩ := hfl.2.2.1
    obtain rfl : L = L' := Option.some.inj hf
    exact hn'
  refine wpAny_looks_onW (Around.frames_deeper K.stack) rfl hfl fun h₄ hheld₄ hsm₄ => ?_
  refine wpAny_landsW hheld₄ fun h₅ hheld hsm₅' => ?_
  have hsm₅ := hsm₄.trans hsm₅'
  obtain ⟨g₅, T₅, F₅, K₅⟩ := kts_ground K F hBG hheld.1 (hsm.trans hsm₅)
  have X₅ : KF.In g₅ := XB.keeps K₅.stays
  have P₅ : TopRead p loose mg mb g₅ := topRead_of (TB.keeps K₅.stays)
  obtain ⟨ob, hob, hobc⟩ := hheld.there
  obtain ⟨nm, q', N, bs, bm, hdct, sn, sub, ab, col, dd, k0, k1, k2, k3, k5, newId, hC, hbase, hbT⟩ := kts_cls X₅ q
  have hC₅ := F₅.keep _ _ hC
  refine wpAny_handleBy_cons (codeAny_handlers_test (name_K F₅ X₅ P₅ ex ?_ hk hx hd)) (by intro q; cases q)
  refine wpAny_excMatches_sub_self hC₅ hob hobc hbase (codeAny_handlers_suite ?_)
  refine lands_againW hheld fun h₆ hfl₆ hsm₆ => ?_
  obtain ⟨g₆, T₆, F₆, K₆⟩ := kts_ground K F hBG hfl₆.1 ((hsm.trans hsm₅).trans hsm₆)
  have Nl : News g₆ L h₆ news := fun q hq => ⟨hfl₆.1 _ _ (hl q hq).1, (fun z => by have := (hl q hq).1; rw [z, hL] at this; cases this), T₆.none_ _ (kts_none F.keep (hl q hq).2.1)⟩
  exact wpAny_passesOwnAt hE (k h₆ g₆ T₆ F₆ Nl K₆ (XB.keeps K₆.stays) (TB.keeps K₆.stays) (D.turn T₆))
end
end Mine
end
section
open PySem PySem.W PySem.Calls PySem.Spec PyProof.Rows
set_option maxRecDepth 100000
set_option autoImplicit false
namespace Mine
section
variable {prog : Program} {w : World} {A : Around} {R : Result → Shared → Prop} {E : Value → Shared → Prop} {h : Heap} {g : Array GenState} {d : Drawn} {t : Nat} {os : OsState}
variable {nm q : Str} {C P N : Addr} {bs : List Value} {hdct : Bool} {sn : List Str} {sub : List Value} {ab : Bool} {col : Option Bool} {dd : Option Addr} {k0 k1 k2 k3 k5 : Option Value}
theorem setAttrE {x : Addr} {o : Obj} {name : Str} {v : Value} {Q : Unit → Shared → Prop}
    (hC : h.get? C = some (excClassObj nm q C N bs (excMro P) true sn sub ab col dd k0 k1 k2 k3 k5 "Exception.__new__")) (hx : h.get? x = some o) (hc : o.cls = .ref C) (hnc : ∀ c, o.data ≠ .cls c) (hdn : o.dict = none)
    (hS : Looks (model prog w) h (typeLookup (.ref C) "__setattr__") (some (.builtin "object.__setattr__"))) (hW : Looks (model prog w) h (typeLookup (.ref C) name) none)
    (hq : ∀ h' tk' D oD, x ≠ D → h.objs.size ≤ D → h'.get? D = some oD → h'.get? x = some { o with dict := some D } → (∀ b o, b ≠ x → h.get? b = some o → h'.get? b = some o) → Q () ⟨h', g, d, tk', os⟩) :
    wpAny (model prog w) A (setAttr (.ref x) name v) Q E ⟨h, g, d, t, os⟩ := by
  have SF := PySem.F.store_object
  have T0 : Looks (model prog w) h (typeOf (.ref x)) (.ref C) := hc ▸ (Looks.ld hx).andThen .now
  have I0 : Looks (model prog w) h (isInstance (.ref x) (.type "object")) true := by
    intro A' Q' E' s' k' q'
    obtain ⟨hh, g', d', t', os'⟩ := s'
    unfold isInstance
    refine wpAny_bind (T0 _ _ _ _ k' ?_)
    refine wpAny_isSubtype_exc (k' _ _ hC) ?_
    have : (Value.ref C :: excMro P).contains (.type "object") = true := by simp
    rw [this]; exact q'
  unfold setAttr
  refine wpAny_bind (wpAny_mkText ?_)
  refine wpAny_bind ?_
  unfold callSpecial? specialOf
  refine wpAny_bind (wpAny_bind (T0.at (hS.at ?_)))
  refine wpAny_holding (wpAny_bind ?_)
  rw [SF.slot.bind]
  refine wpAny_pure (wpAny_bind ?_)
  refine wpAny_call (codeAny_call_builtin SF.slot.plain SF.entry (@check_slot (model prog w) _ _ _ "object.__setattr__" "object" "__setattr__" (.ref x) [.str name _, v] [] _ SF.kind SF.split I0 (SF.args _ _ _) ?_))
  refine storeE hC hx hc hnc hdn hW fun h' tk' D oD h1 h2 h3 h4 h5 => ?_
  exact wpAny_pure (wpAny_pure (hq h' tk' D oD h1 h2 h3 h4 h5))
end
end Mine
end
section
open PySem PySem.W PySem.Calls PySem.Spec PyProof.Rows
set_option maxRecDepth 100000
set_option autoImplicit false
namespace Mine
section
variable {prog : Program} {w : World} {A : Around} {R : Result → Shared → Prop} {E : Value → Shared → Prop} {h : Heap} {g : Array GenState} {d : Drawn} {t : Nat} {os : OsState}
variable {nm q : Str} {C P N f : Addr} {bs : List Value} {hdct : Bool} {sn : List Str} {sub : List Value} {ab : Bool} {col : Option Bool} {dd : Option Addr} {k0 k1 k2 k3 k5 : Option Value}
theorem call_ownE {rest : List Value}
    (hC : h.get? C = some (excClassObj nm q C N bs (excMro P) hdct sn sub ab col dd k0 k1 k2 k3 k5 "Exception.__new__"))
    (call : Looks (model prog w) h (specialOf (.ref C) "__call__") (some (.builtin "type.__call__"))) (typ : Looks (model prog w) h (isInstance (.ref C) (.type "type")) true)
    (hi : Looks (model prog w) h (typeLookup (.ref C) "__init__") (some (.ref f))) (hb : ∀ self, Looks (model prog w) h (bindSpecial (.ref f) self) (.ref f, [self])) (hrest : rest.length ≤ sizeLine)
    (hq : codeAny (model prog w) (A.under (.builtin "type.__call__" ⟨.ref C :: rest, []⟩)) (.call (.ref f) ⟨.ref (h.objs.size + 1) :: rest, []⟩) (InitBack (h.objs.size + 1) R) ⟨(h.push { cls := .type "tuple", data := .seq rest.toArray }).push (bareExc C h.objs.size), g, d, t, os⟩) :
    codeAny (model prog w) A (.call (.ref C) ⟨rest, []⟩) R ⟨h, g, d, t, os⟩ := by
  have Fn := PySem.F.excBase_Exception
  have made : Looks (model prog w) h (Bind.madeBy (.ref C)) (some "Exception.__new__") := fun A' Q' E' s' k' q' => by
    obtain ⟨hh, g', d', t', os'⟩ := s'
    exact wpAny_madeBy_exc (k' _ _ hC) q'
  have self : Looks (model prog w) h (isSubtype (.ref C) (.ref C)) true := fun A' Q' E' s' k' q' => by
    obtain ⟨hh, g', d', t', os'⟩ := s'
    refine wpAny_isSubtype_exc (k' _ _ hC) ?_
    have : (Value.ref C :: excMro P).contains (.ref C) = true := by simp
    rw [this]; exact q'
  refine codeAny_of_tree ?_
  show wpAny _ _ (callAny (.ref C) _) _ _ _
  refine nd_load hC ?_
  show wpAny _ _ (callAny.viaDunder (.ref C) _) _ _ _
  unfold callAny.viaDunder
  refine wpAny_bind (call.at ?_)
  dsimp only
  rw [tc_bind]
  refine wpAny_bind (wpAny_pure (wpAny_bind (wpAny_pure ?_)))
  refine wpAny_pure (a := PySem.Fin.again (.call (.builtin "type.__call__") ⟨.ref C :: rest, []⟩)) (And.intro rfl ?_)
  refine codeAny_call_builtin_at (Code.quiet_builtin _ (by decide +kernel)) entry_typeCall (check_slot tc_kind tc_split typ (tc_args _ _ _) ?_)
  unfold Builtin.«type.__call__»
  have hm : Looks (model prog w) h (mroOf (.ref C)) (.ref C :: excMro P) := ((Looks.ld (part := none) hC).andThen .now).andThen .now
  repeat (first | simp only [List.isEmpty_cons, Bool.false_eq_true, if_false] | with_reducible refine wpAny_call ?_ | lk)
  refine codeAny_call_builtin_code (Code.quiet_builtin _ Fn.quiet) (check_newE hC ?_)
  refine code_newE hC ?_ hrest
  have k : ∀ b o, h.get? b = some o → ((h.push { cls := .type "tuple", data := .seq rest.toArray }).push (bareExc C h.objs.size)).get? b = some o := fun b o e => Heap.get?_push_of_some _ (Heap.get?_push_of_some _ e)
  have hx : ((h.push { cls := .type "tuple", data := .seq rest.toArray }).push (bareExc C h.objs.size)).get? (h.objs.size + 1) = some (bareExc C h.objs.size) := by heap_get
  have t1 : Looks (model prog w) ((h.push { cls := .type "tuple", data := .seq rest.toArray }).push (bareExc C h.objs.size)) (typeOf (.ref (h.objs.size + 1))) (.ref C) := (Looks.ld hx).andThen .now
  have s1 := self.keeps k
  have i1 := hi.keeps k
  have b1 := (hb (.ref (h.objs.size + 1))).keeps k
  unfold isInstance callSpecial? specialOf
  repeat (first | with_reducible refine wpAny_call ?_ | lk)
  refine codeAny_mono hq fun r s' z => ?_
  rcases r with e | (v | _ | _ | _) <;> first | exact z | exact z.elim | skip
  obtain ⟨rfl, z⟩ := z
  exact wpAny_pure (wpAny_pure z)
end
end Mine
end
section
open PySem PySem.W PySem.Calls PySem.Spec PyProof.Rows
set_option maxRecDepth 100000
set_option autoImplicit false
namespace Mine
structure LeftC (W : Wd) (C P f : Addr) : Prop where
  glob : nsIn W.K mainGlobals "LeftOut" = some (some (.ref C))
  cls : ∃ (nm q : Str) (N : Addr) (bs : List Value) (sn : List Str) (sub : List Value) (ab : Bool) (col : Option Bool) (dd : Option Addr) (k0 k1 k2 k3 k5 : Option Value), W.K.lookup C = some (excClassObj nm q C N bs (excMro P) true sn sub ab col dd k0 k1 k2 k3 k5 "Exception.__new__")
  init : findIn W.K (.ref C) "__init__" = some (some (.ref f))
  fn : typeIn W.K (.ref f) = some (.type "function")
  sa : findIn W.K (.ref C) "__setattr__" = some (some (.builtin "object.__setattr__"))
  why : findIn W.K (.ref C) "why" = some none
  exc : nsIn W.K mainGlobals "Exception" = some none
  kts : ktsIn W.K C "BaseException" = true
  call : specialIn W.K (.ref C) "__call__" = some (some (.builtin "type.__call__"))
  typ : instIn W.K (.ref C) (.type "type") = some true
  keep : keepIn W.K (.ref C) = true
section
variable {W : Wd} {k : Nat} {cs : Scope} {ρ : PEnv} {C P f : Addr}
theorem At.chg1 {c : Cx} {own N : Led} {m : Str → Option Value} {s₀ s : Shared} {e : Addr} {oe oe' : Obj} {h' : Heap} {tk : Nat} (h : At c ((e, oe) :: own) N m s₀ s) (hk : ∀ b o, b ≠ e → s.heap.get? b = some o → h'.get? b = some o) (he : h'.get? e = some oe') (ho : ∀ q ∈ own, q.1 ≠ e) :
    At c ((e, oe') :: own) N m s₀ { s with heap := h', toks := tk } := h.next (tk := tk) (fun b o hb q => hk b o (fun z => hb (List.mem_singleton.mpr z)) q) he ho
theorem php_1 (H : LeftC W C P f) {e t0 : Addr} {l : List Nat} {p1 p2 p3 p4 p5 p6 : Pos} (hg : cs.names.lookup ("Exception" : Str) = some .globalImplicit) (hs : (("self" : Str), PV.adr e) ∈ ρ) (hw : (("why" : Str), PV.str l) ∈ ρ)
    (hE : ∀ env, ∃ pl, eval (.Call (.Attribute (.Name "Exception" p1) "__init__" p2) [.Name "self" p3, .Name "why" p4] [] p5) env = (do
      let ov ← eval (.Name "Exception" p1) env
      standAt p2.atName
      let (f, first) ← holding [ov] (getMethod ov "__init__" pl)
      callWith p5 f first (backTo p5 (starEach [.Name "self" p3, .Name "why" p4] env)) []))
    (c : Cx) (own N : Led) (m : Str → Option Value) (s₀ s : Shared) (ok : c.Ok W k) (hc : c.env.scope = cs) (hL : c.env.locals = c.L) (at' : At c ((e, bareExc C t0) :: own) N m s₀ s) (he : EnvRd c N m ρ) (ho : ∀ q ∈ own, q.1 ≠ e) :
    wpAny (model W.prog W.w) c.A (exec (.Expr (.Call (.Attribute (.Name "Exception" p1) "__init__" p2) [.Name "self" p3, .Name "why" p4] [] p5) p6) c.env) (fun fl s' => fl = .next ∧ ∃ t1 N', (∀ p ∈ N, p ∈ N') ∧ At c ((e, bareExc C t1) :: own) N' m s₀ s') noE s := by
  have hi : interactive c.env = false := by unfold interactive; rw [ok.ek]; rfl
  refine wpAny_Expr ?_ hi rfl
  obtain ⟨pl, hpl⟩ := hE c.env
  refine MethodCall_ (pl := pl) (Name_blt H.exc PyProof.Rows.Boot.«Exception» hg (by decide +kernel) (by decide +kernel) ok hc at' ?_) hpl
  refine method_type (T := "Exception") at'.fr ok.kin (by kernel_rfl) (by decide +kernel) (v := .builtin "Exception.__init__") rfl (by rfl) ?_
  have at1 := at'.tok (tk := s.toks + 1)
  refine callWith_builtin1 ?_ rfl rfl
  refine Evs.use (Evs.cons (Ev.name hs) (Evs.cons (Ev.name hw) Evs.nil (fun _ => rfl)) (fun _ => rfl)) ok hc (nsOk_L hL) at1 he fun vs s1 N1 sb1 at2 r => ?_
  obtain ⟨v1, vs1, rfl, r1, r⟩ := r.inv
  obtain ⟨v2, vs2, rfl, r2, r⟩ := r.inv
  obtain rfl := r.inv0
  obtain rfl := r1.adr_inv
  obtain ⟨nm, q, NC, bs, sn, sub, ab, col, dd, k0, k1, k2, k3, k5, hC⟩ := H.cls
  obtain ⟨hh, g, d, tk, os⟩ := s1
  have at3 := at2.pushOwn { cls := .type "tuple", data := .seq #[v2] }
  have fr3 := at2.fresh_own
  dsimp only at at3 fr3
  refine call_initE (at2.kin ok _ _ hC) (at2.news (e, bareExc C t0) (.head _)).1 fun h' hs' he' => ?_
  refine ⟨rfl, hh.objs.size, N1, sb1, ?_⟩
  have at4 := (At.swap at3).chg1 (h' := h') (tk := tk) (fun b o hb q => hs'.extBut b o hb q) he' (fun q hq => by
    rcases List.mem_cons.mp hq with rfl | hq
    · exact fun z => fr3 (e, _) (.head _) z.symm
    · exact ho q hq)
  exact at4.swap.drop
end
end Mine
end
section
open PySem PySem.W PySem.Calls PySem.Spec PyProof.Rows
set_option maxRecDepth 100000
set_option autoImplicit false
namespace Mine
section
variable {W : Wd} {k : Nat} {cs : Scope} {ρ : PEnv} {C P f : Addr}
theorem php_2 (H : LeftC W C P f) {e t0 : Addr} {l : List Nat} {p7 p8 p9 p10 : Pos} (hs : (("self" : Str), PV.adr e) ∈ ρ) (hw : (("why" : Str), PV.str l) ∈ ρ)
    (hsw : ∀ env, swapsWith (.Name "why" p9) (some (.Attribute (.Name "self" p7) "why" p8)) p10.line env = pure false)
    (c : Cx) (own N : Led) (m : Str → Option Value) (s₀ s : Shared) (ok : c.Ok W k) (hc : c.env.scope = cs) (hL : c.env.locals = c.L) (at' : At c ((e, bareExc C t0) :: own) N m s₀ s) (he : EnvRd c N m ρ) (ho : ∀ q ∈ own, q.1 ≠ e) :
    wpAny (model W.prog W.w) c.A (exec (.Assign [.Attribute (.Name "self" p7) "why" p8] (.Name "why" p9) p10) c.env) (fun fl s' => fl = .next ∧ ∃ D N', (∀ p ∈ N, p ∈ N') ∧ At c ((e, { bareExc C t0 with dict := some D }) :: own) N' m s₀ s') noE s := by
  refine plainObj_wpAny_Assign_Attribute ?_ (hsw _)
  refine Ev.use (Ev.name hw) ok hc (nsOk_L hL) at' he fun v s1 N1 sb1 at1 r1 => ?_
  refine Ev.use (Ev.name hs) ok hc (nsOk_L hL) at1 (he.mono sb1) fun ov s2 N2 sb2 at2 r2 => ?_
  obtain rfl := r2.adr_inv
  obtain ⟨nm, q, NC, bs, sn, sub, ab, col, dd, k0, k1, k2, k3, k5, hC⟩ := H.cls
  obtain ⟨hh, g, d, tk, os⟩ := s2
  have X := at2.kin ok
  refine setAttrE (X _ _ hC) (at2.news (e, bareExc C t0) (.head _)).1 rfl (by intro c h; cases h) rfl (looks_findIn X H.sa) (looks_findIn X H.why) fun h' tk' D oD h1 h2 h3 h4 h5 => ?_
  exact ⟨rfl, D, N2, fun p hp => sb2 p (sb1 p hp), at2.chg1 h5 h4 ho⟩
theorem php_init (H : LeftC W C P f) {a1 a2 : Arg} {scope : Scope} {p1 p2 p3 p4 p5 p6 p7 p8 p9 p10 : Pos} (h1 : a1.arg = "self") (h2 : a2.arg = "why") (hb : Bnd [a1, a2] 2)
    (hd : DefAt W f ⟨[], [a1, a2], none, [], [], none, []⟩ [.Expr (.Call (.Attribute (.Name "Exception" p1) "__init__" p2) [.Name "self" p3, .Name "why" p4] [] p5) p6, .Assign [.Attribute (.Name "self" p7) "why" p8] (.Name "why" p9) p10] scope)
    (hsc : scope.names.lookup ("Exception" : Str) = some .globalImplicit) (hs1 : scope.names.lookup ("self" : Str) = some .local) (hs2 : scope.names.lookup ("why" : Str) = some .local)
    (hco : scope.isCoroutine = false) (hgen : scope.isGenerator = false) (hk : scope.kind = .function) (hcell : ∀ x ∈ scope.names, x.2 ≠ .cell)
    (hE : ∀ env, ∃ pl, eval (.Call (.Attribute (.Name "Exception" p1) "__init__" p2) [.Name "self" p3, .Name "why" p4] [] p5) env = (do
      let ov ← eval (.Name "Exception" p1) env
      standAt p2.atName
      let (f, first) ← holding [ov] (getMethod ov "__init__" pl)
      callWith p5 f first (backTo p5 (starEach [.Name "self" p3, .Name "why" p4] env)) []))
    (hsw : ∀ env, swapsWith (.Name "why" p9) (some (.Attribute (.Name "self" p7) "why" p8)) p10.line env = pure false)
    {e t0 : Addr} {l : List Nat} {v : Value} (c : Cx) (own N : Led) (m : Str → Option Value) (s₀ s : Shared) (ok : c.Ok W (k + 4)) (at' : At c ((e, bareExc C t0) :: own) N m s₀ s) (hr : Rd N v (.str l)) (ho : ∀ q ∈ own, q.1 ≠ e) {vals : List Value} {R : Result → Shared → Prop}
    (hR : ∀ s' D t1 N', (∀ p ∈ N, p ∈ N') → At c ((e, { bareExc C t1 with dict := some D }) :: own) N' m s₀ s' → R (.ok (.ret .none)) s') :
    codeAny (model W.prog W.w) (c.A.under (.builtin "type.__call__" ⟨.ref C :: vals, []⟩)) (.call (.ref f) ⟨[.ref e, v], []⟩) R s := by
  obtain ⟨oc, od, osl, name, qual, kV, doc, pm, cdv, ct, an, hlook, hcode⟩ := hd
  have hnd : (([a1, a2] : List Arg).map (·.arg)).Nodup := by simp only [List.map, h1, h2]; decide +kernel
  have hun : (c.A.under (.builtin "type.__call__" ⟨.ref C :: vals, []⟩)).units = c.un + 1 := rfl
  have hdp : (c.A.under (.builtin "type.__call__" ⟨.ref C :: vals, []⟩)).depth = c.dp + 1 := rfl
  refine code_def (K := W.K) ok.below at'.fr ok.kin at'.news ok.top (by rfl) ok.fL ok.fk hlook hcode (by rw [hdp]; have := ok.room; omega)
    (BindsTo.of_eq (bind_plain hb (by rfl))) (fun y hy => ?_) (fun g L' h₁ FG F' N' B' X' T' => ?_) hco hgen hk hcell
  · simp only [List.map, h1, h2, List.zip_cons_cons, List.zip_nil_right, List.mem_cons, List.not_mem_nil, or_false] at hy
    rcases hy with rfl | rfl
    · exact hs1
    · exact hs2
  · let c' : Cx := { dp := c.dp + 2, un := c.un + 4, gd := c.gd, fenv := envOf qual scope L' f cdv, outer := c.fenv :: c.outer, A₀ := c.A.under (.builtin "type.__call__" ⟨.ref C :: vals, []⟩), base := c.base, h₀ := g, L := L', env := envOf qual scope L' f cdv }
    have ok' : c'.Ok W k := ⟨B', X', T', rfl, hk, hk, rfl, rfl, by have := ok.room; show c.dp + 2 + k < _; omega, by have := ok.units; show c.un + 4 + 8 * k + 8 < _; omega, (by obtain ⟨o, e, r⟩ := ok.scr; exact ⟨o, FG.keep _ _ e, r⟩)⟩
    have hr2 : Rds N [.ref e, v] [.adr e, .str l] := .cons (.adr e) (.cons hr .nil)
    have at1 : At c' ((e, bareExc C t0) :: own) N (fun y => ((([a1, a2] : List Arg).map (·.arg)).zip [.ref e, v]).reverse.lookup y) s₀ { s with heap := h₁, toks := s.toks + ((([a1, a2] : List Arg).map (·.arg)).zip [Value.ref e, v]).length } :=
      ⟨by obtain ⟨h', t, q⟩ := at'.same; rw [q]; exact ⟨h₁, _, rfl⟩, F', N', at'.disj⟩
    have env1 : EnvRd c' N (fun y => ((([a1, a2] : List Arg).map (·.arg)).zip [.ref e, v]).reverse.lookup y) [("self", .adr e), ("why", .str l)] := fun p hp => by
      have hp' : p ∈ (([a1, a2] : List Arg).map (·.arg)).zip [PV.adr e, PV.str l] := by simpa only [List.map, h1, h2, List.zip_cons_cons, List.zip_nil_right] using hp
      obtain ⟨v', r, q⟩ := lookup_zip _ [PV.adr e, PV.str l] _ hnd rfl hr2 p hp'
      simp only [List.mem_cons, List.not_mem_nil, or_false] at hp
      rcases hp with rfl | rfl
      · exact ⟨v', r, (by decide +kernel : NmOk ("self" : Str) = true), .inl ⟨hs1, q⟩⟩
      · exact ⟨v', r, (by decide +kernel : NmOk ("why" : Str) = true), .inl ⟨hs2, q⟩⟩
    show wpAny (model W.prog W.w) c'.A (execs _ c'.env) _ _ _
    refine wpAny_execs_cons (wpAny_mono (php_1 H hsc (.head _) (.tail _ (.head _)) hE c' own N _ s₀ _ ok' rfl rfl at1 env1 ho) (fun fl s2 h2' => ?_) fun _ _ x => x.elim)
    obtain ⟨rfl, t1, N2, sb2, at2⟩ := h2'
    refine wpAny_execs_cons (wpAny_mono (php_2 H (.head _) (.tail _ (.head _)) hsw c' own N2 _ s₀ s2 ok' rfl rfl at2 (env1.mono sb2) ho) (fun fl s3 h3' => ?_) fun _ _ x => x.elim)
    obtain ⟨rfl, D, N3, sb3, at3⟩ := h3'
    refine wpAny_execs_nil ?_
    exact ⟨L', _, ((e, { bareExc C t1 with dict := some D }) :: own) ++ N3, at3.fr, at3.news, fun FQ NQ => hR _ D t1 N3 (fun p hp => sb3 p (sb2 p hp)) ⟨at3.same, FQ, NQ, at3.disj⟩⟩
end
end Mine
end
section
open PySem PySem.W PySem.Calls PySem.Spec PyProof.Rows
set_option maxRecDepth 100000
set_option autoImplicit false
namespace Mine
section
variable {M : Model} {A : Around} {E : Value → Shared → Prop} {env : Env}
variable {nm q : Str} {C P N : Addr} {bs : List Value} {hdct : Bool} {sn : List Str} {sub : List Value} {ab : Bool} {col : Option Bool} {dd : Option Addr} {k0 k1 k2 k3 k5 : Option Value}
theorem raise_E {s : Shared} {x : Sem Value} {Q : Flow → Shared → Prop} (hh : A.handled = none)
    (h : wpAny M A x (fun v s₁ => ∃ e t dx nm q N bs hdct sn sub ab col dd k0 k1 k2 k3 k5, v = .ref e ∧ s₁.heap.get? C = some (excClassObj nm q C N bs (excMro P) hdct sn sub ab col dd k0 k1 k2 k3 k5 "Exception.__new__") ∧
      s₁.heap.get? e = some { bareExc C t with dict := dx } ∧ E (.ref e) s₁) E s) :
    wpAny M A (raiseStmt env (some x) none) Q E s := by
  have hcB : (Value.ref C :: excMro P).contains (.type "BaseException") = true := by simp
  unfold raiseStmt
  refine wpAny_bind (wpAny_mono h (fun v s₁ h₁ => ?_) fun _ _ x => x)
  obtain ⟨e, t, dx, nm, q, N, bs, hdct, sn, sub, ab, col, dd, k0, k1, k2, k3, k5, rfl, hC, he, hE⟩ := h₁
  obtain ⟨hp, g, d, tk, os⟩ := s₁
  repeat (first | with_reducible refine wpAny_loadPart_at he ?_ | with_reducible refine wpAny_loadPart_at hC ?_ | (with_reducible refine wpAny_isSubtype_exc hC ?_; rw [hcB]) | wp_step)
  exact wpAny_raiseNew_none hh hE
end
noncomputable def RaisedAt (C : Addr) (c : Cx) (own N : Led) (s₀ : Shared) (ev : Value) (s : Shared) : Prop :=
  ∃ e oe N' m' vs a0, ev = .ref e ∧ (∀ p ∈ N, p ∈ N') ∧ At c ((e, oe) :: own) N' m' s₀ s ∧ oe.cls = .ref C ∧ oe.data = .fields vs ∧ vs[1]? = some .none ∧ vs[0]? = some a0 ∧ (∀ q ∈ own, q.1 ≠ e)
theorem RaisedAt.sub {C : Addr} {c : Cx} {own N N₁ : Led} {s₀ s : Shared} {ev : Value} (hs : ∀ p ∈ N, p ∈ N₁) (h : RaisedAt C c own N₁ s₀ ev s) : RaisedAt C c own N s₀ ev s := by
  obtain ⟨e, oe, N', m', vs, a0, h1, h2, h3⟩ := h
  exact ⟨e, oe, N', m', vs, a0, h1, fun p hp => h2 p (hs p hp), h3⟩
noncomputable def ExR (W : Wd) (k : Nat) (cs : Scope) (ρ : PEnv) (C : Addr) (ss : List Stmt) : Prop :=
  ∀ (c : Cx) (own N : Led) (m : Str → Option Value) (s₀ s : Shared), c.Ok W k → c.env.scope = cs → c.env.locals = c.L → At c own N m s₀ s → EnvRd c N m ρ →
    wpAny (model W.prog W.w) c.A (execs ss c.env) (fun _ _ => False) (RaisedAt C c own N s₀) s
noncomputable def InitOk (W : Wd) (k : Nat) (C f : Addr) : Prop := ∀ {e t0 : Addr} {l : List Nat} {v : Value} (c : Cx) (own N : Led) (m : Str → Option Value) (s₀ s : Shared) (ok : c.Ok W (k + 4)) (at' : At c ((e, bareExc C t0) :: own) N m s₀ s) (hr : Rd N v (.str l)) (ho : ∀ q ∈ own, q.1 ≠ e) {vals : List Value} {R : Result → Shared → Prop}
    (hR : ∀ s' D t1 N', (∀ p ∈ N, p ∈ N') → At c ((e, { bareExc C t1 with dict := some D }) :: own) N' m s₀ s' → R (.ok (.ret .none)) s'),
    codeAny (model W.prog W.w) (c.A.under (.builtin "type.__call__" ⟨.ref C :: vals, []⟩)) (.call (.ref f) ⟨[.ref e, v], []⟩) R s
section
variable {W : Wd} {k : Nat} {cs : Scope} {ρ : PEnv} {C P f : Addr}
theorem ExR.raise (H : LeftC W C P f) (I : InitOk W k C f) {np cp pos : Pos} {e1 : Expr} {l : List Nat} {rest : List Stmt} (hl : cs.names.lookup ("LeftOut" : Str) = some .globalImplicit) (h : Evs W (k + 4) cs ρ [e1] [.str l])
    (hp : ∀ env, starEach [e1] env = (false, eval e1 env) :: starEach [] env) : ExR W (k + 4) cs ρ C (.Raise (some (.Call (.Name "LeftOut" np) [e1] [] cp)) none pos :: rest) := by
  intro c own N m s₀ s ok hc hL at' he
  refine wpAny_execs_cons ?_
  rw [arm_exec_Raise]
  refine wpAny_bind (wpAny_standAt (raise_E (C := C) (P := P) rfl ?_))
  show wpAny _ _ (eval (.Call (.Name "LeftOut" np) [e1] [] cp) c.env >>= _) _ _ _
  refine wpAny_bind ?_
  show wpAny _ _ (eval (.Name "LeftOut" np) c.env >>= fun v => callWith cp v [] (backTo cp (starEach [e1] c.env)) []) _ _ s
  refine wpAny_bind (wpAny_mono (Name_glob (Q := fun v s' => v = .ref C ∧ s' = s) H.glob hl (by decide +kernel) ok hc at' ⟨rfl, rfl⟩) (fun v s' h' => ?_) fun _ _ x => False.elim x)
  obtain ⟨rfl, rfl⟩ := h'
  refine callWith_K ok.kin H.keep (wpAny_mono (h c own N m m s₀ s' cp ok hc (nsOk_L hL) at' he) (fun vs s1 ⟨N1, sb1, at1, r1⟩ => ?_) fun _ _ x => False.elim x) (hp _) rfl
  refine ⟨at1.kin ok, ?_⟩
  obtain ⟨v1, vs1, rfl, ra, r1⟩ := r1.inv
  obtain rfl := r1.inv0
  obtain ⟨nm, q, NC, bs, sn, sub, ab, col, dd, k0, k1, k2, k3, k5, hC⟩ := H.cls
  obtain ⟨hh, g, d, tk, os⟩ := s1
  have X := at1.kin ok
  refine wpAny_call (call_ownE (X _ _ hC) (looks_specialIn X H.call) (looks_instIn X H.typ) (looks_findIn X H.init) (fun self => bind_fn X self H.fn) (by show 1 ≤ sizeLine; decide +kernel) ?_)
  have at2 := at1.pushOwn { cls := .type "tuple", data := .seq [v1].toArray }
  have fr2 := at1.fresh_own
  have at3 := at2.pushOwn (bareExc C hh.objs.size)
  have fr3 := at2.fresh_own
  dsimp only at at2 fr2 at3 fr3
  rw [Heap.size_push] at at3 fr3
  refine I c _ N1 m s₀ _ ok at3 ra fr3 fun s' D t1 N' sb at4 => ⟨rfl, ?_⟩
  refine wpAny_bind (wpAny_standAt (wpAny_pure ?_))
  have hC' := at4.kin ok _ _ hC
  have he' := (at4.news _ (.head _)).1
  refine ⟨_, t1, some D, nm, q, NC, bs, true, sn, sub, ab, col, dd, k0, k1, k2, k3, k5, rfl, hC', he', ?_⟩
  exact ⟨_, _, N', m, _, _, rfl, fun p hp => sb p (sb1 p hp), (At.swap at4).drop, rfl, rfl, rfl, rfl, fun q hq => fr3 q (.tail _ hq)⟩
end
end Mine
end
section
open PySem PySem.W PySem.Calls PySem.Spec PyProof.Rows
set_option maxRecDepth 100000
set_option autoImplicit false
namespace Mine
section
variable {W : Wd} {k : Nat} {cs : Scope} {ρ : PEnv} {C P f : Addr}
theorem ExR.ite {t : Expr} {b o rest : List Stmt} {pos : Pos} (ht : Ts W k cs ρ t true) (h1 : ExR W k cs ρ C (b ++ rest)) : ExR W k cs ρ C (.If t b o pos :: rest) := by
  intro c own N m s₀ s ok hc hL at' he
  rw [exec_If_eq]
  refine wpAny_bind (wpAny_standAt (wpAny_bind (wpAny_mono (ht c own N m m s₀ s ok hc (nsOk_L hL) at' he) (fun t' s1 h1' => ?_) fun _ _ x => False.elim x)))
  obtain ⟨rfl, N1, sb1, at1⟩ := h1'
  simp only [if_true]
  exact wpAny_mono (h1 c own N1 m s₀ s1 ok hc hL at1 (he.mono sb1)) (fun _ _ x => x) fun ev s3 q => q.sub sb1
theorem ExR.pair {x y : Str} {px py tp vp pos : Pos} {kk kv : Nat} {e1 e2 : Expr} {rest : List Stmt} {d1 d2 : PV} {ρ1 ρ2 : PEnv} (hx : cs.names.lookup x = some .local) (hnx : NmOk x = true) (hy : cs.names.lookup y = some .local) (hny : NmOk y = true)
    (h : Evs W k cs ρ [e1, e2] [d1, d2]) (u1 : Upd y d2 ρ ρ1) (u2 : Upd x d1 ρ1 ρ2) (hr : ExR W k cs ρ2 C rest)
    (hs : ∀ env, swapsWithSole [.Tuple [.Name x px, .Name y py] kk tp] (.Tuple [e1, e2] kv vp) pos.line env = pure false)
    (hw : ∀ env : Env, env.scope = cs → swappedStores [.Tuple [.Name x px, .Name y py] kk tp] (.Tuple [e1, e2] kv vp) env = pure (some [x, y])) :
    ExR W k cs ρ C (.Assign [.Tuple [.Name x px, .Name y py] kk tp] (.Tuple [e1, e2] kv vp) pos :: rest) := by
  intro c own N m s₀ s ok hc hL at' he
  have hx' : c.env.kindOf x = some .local := by subst hc; exact hx
  have hy' : c.env.kindOf y = some .local := by subst hc; exact hy
  refine wpAny_execs_cons (Assign_Tuple_swapped (names := [x, y]) ?_ (hs _) (hw _ hc))
  refine wpAny_mono (Ev.tuple h (by simp) c own N m m s₀ s ok hc (nsOk_L hL) at' he) (fun v s1 ⟨N1, sb1, at1, r1⟩ => ?_) fun _ _ x => False.elim x
  obtain ⟨t, vs, n, hm, hl, hz, hr', rfl⟩ := r1.tup_inv
  ·
    obtain ⟨v1, vs1, rfl, ra, r1⟩ := (⟨hl, hr'⟩ : Rds N1 vs [d1, d2]).inv
    obtain ⟨v2, vs2, rfl, rb, r1⟩ := r1.inv
    obtain rfl := r1.inv0
    refine unpackItems_tuple (items := [v1, v2].toArray) rfl (at1.isTup hm) fun h' he' => ?_
    have at2 := at1.grow (ext_keeps he')
    refine wpAny_mono (E := noE) (Q := fun _ s4 => At c own N1 (fun z => if z = x then some v1 else if z = y then some v2 else m z) s₀ s4) (assignInOrder_two (bindName_ (store_rule ok hL hy' at2 fun s3 at3 => bindName_ (store_rule ok hL hx' at3 fun s4 at4 => at4)))) (fun _ s4 at4 => ?_) fun _ _ x => False.elim x
    have e3 := ((he.mono sb1).upd u1 rb hy' hny).upd u2 ra hx' hnx
    exact wpAny_mono (hr c own N1 _ s₀ s4 ok hc hL at4 e3) (fun _ _ x => x) fun ev s3 q => q.sub sb1
noncomputable def CallR (W : Wd) (k : Nat) (C : Addr) (fv : Value) (ds : List PV) : Prop :=
  ∀ (c : Cx) (own N : Led) (m : Str → Option Value) (s₀ s : Shared) (vs : List Value), c.Ok W k → At c own N m s₀ s → Rds N vs ds →
    wpAny (model W.prog W.w) c.A (call fv vs) (fun _ _ => False) (fun ev s' => ∃ e g, ev = .ref e ∧ (∃ h tk, s' = { s₀ with heap := h, toks := tk }) ∧ Fr c.h₀ c.L g m ∧ RaisedSN c.base g (c.fenv :: c.outer) e (.ref C) (own ++ N) s'.heap ∧ g.UpToSlots s'.heap) s
theorem CallR.intro {name : Str} {args : List Arg} {body : List Stmt} {scope : Scope} {a1 a2 a3 : _} {b1 b2 b3 : _} {ds : List PV} (hd : DefOf W (.FunctionDef name ⟨[], args, none, [], [], none, []⟩ body a1 a2 a3 scope b1 b2 b3))
    (hlen : args.length = ds.length) (hb : Bnd args ds.length) (hnd : (args.map (·.arg)).Nodup) (hloc : ∀ x ∈ args.map (·.arg), scope.names.lookup x = some .local) (hno : ∀ x ∈ args.map (·.arg), NmOk x = true)
    (hco : scope.isCoroutine = false) (hgen : scope.isGenerator = false) (hk : scope.kind = .function) (hcell : ∀ x ∈ scope.names, x.2 ≠ .cell)
    (h : ExR W k scope ((args.map (·.arg)).zip ds) C body) : ∃ fa, nsIn W.K mainGlobals name = some (some (.ref fa)) ∧ keepIn W.K (.ref fa) = true ∧ CallR W (k + 1) C (.ref fa) ds := by
  obtain ⟨fa, h1, h2, hd⟩ := hd
  refine ⟨fa, h1, h2, fun c own N m s₀ s vs ok at' hr => wpAny_call (enter hd hlen hb hnd hloc hno hco hgen hk hcell ok at' hr fun qual cdv g L' m' s1 ok' FG at1 env1 => wpAny_mono (h _ own N m' s₀ s1 ok' rfl rfl at1 env1) (fun fl s' q => q.elim) fun ev s' q => ?_)⟩
  obtain ⟨e, oe, N2, m2, vs2, a0, rfl, sb2, at2, hcls, hdat, hv1, hv0, ho⟩ := q
  have ze := at2.news (e, oe) (.head _)
  have nme : ∀ {b : Addr}, b ≠ e → b ∉ [e] := fun hb q => hb (List.mem_singleton.mp q)
  have F2 : Fr g L' (hideAll s'.heap [e]) m2 := ⟨at2.fr.ns.at' fun o q => hideAll_get _ q (nme (Ne.symm ze.2.1)), fun b o q => hideAll_get _ (at2.fr.keep b o q) (nme fun z => Option.some_ne_none o (q.symm.trans (by rw [z]; exact ze.2.2))), at2.fr.above⟩
  have N3 : News g L' (hideAll s'.heap [e]) (own ++ N) := fun p hp => by
    rcases List.mem_append.mp hp with hp | hp
    · have := at2.news p (List.mem_append_left _ (.tail _ hp))
      exact ⟨hideAll_get _ this.1 (nme (ho p hp)), this.2⟩
    · have := at2.news p (List.mem_append_right _ (sb2 p hp))
      exact ⟨hideAll_get _ this.1 (nme (at2.disj p (sb2 p hp) (e, oe) (.head _))), this.2⟩
  refine leave_ownS ok'.below (fun b o q => of_hideAll _ q) (hideAll_none _ (List.mem_singleton.mpr rfl)) ze.1 hdat hv1 hv0 F2 N3 (fun h' R U => ?_) hk
  exact ⟨e, g, rfl, by obtain ⟨h2', t2, z⟩ := at2.same; rw [z]; exact ⟨h', t2, rfl⟩, FG, hcls ▸ R, U⟩
end
end Mine
end
section
open PySem PySem.W PySem.Calls PySem.Spec PyProof.Rows
set_option maxRecDepth 100000
set_option autoImplicit false
namespace Mine
noncomputable abbrev Cx.frs (c : Cx) : List Addr := c.outer.filterMap (·.frame)
noncomputable abbrev Cx.on (c : Cx) (g : Heap) : Cx := { c with h₀ := g }
structure OkS (W : Wd) (c : Cx) (k : Nat) : Prop where
  ok : c.Ok W k
  kb : W.K.In c.base
  tb : Top W.p W.loose W.mean W.mg W.mb c.base
  dd : KtsDicts c.frs c.h₀
  ev : c.env = c.fenv
  ad : c.A = c.A₀.deeper c.fenv
  fe : ∃ cn cs a cd, c.fenv = envOf cn cs c.L a cd ∧ cs.kind = .function
theorem isList_up {fs : List Addr} {g g' : Heap} (T : KtsTurn fs g g') {a : Addr} {vs : Array Value} (h : g.IsList a vs) : g'.IsList a vs := by
  obtain ⟨o, e, h1, h2⟩ := h
  obtain ⟨sl, h'⟩ := T.up e
  exact ⟨_, h', h1, h2⟩
theorem OkS.on {W : Wd} {c : Cx} {k : Nat} {g : Heap} (h : OkS W c k) (T : KtsTurn c.frs c.h₀ g) (B : Below c.A₀ c.base c.outer g) (X : W.K.In g) (Tp : Top W.p W.loose W.mean W.mg W.mb g) (D : KtsDicts c.frs g) : OkS W (c.on g) k :=
  ⟨{ below := B, kin := X, top := Tp, fL := h.ok.fL, fk := h.ok.fk, ek := h.ok.ek, eg := h.ok.eg, eb := h.ok.eb, room := h.ok.room, units := h.ok.units, scr := isList_up T h.ok.scr }, h.kb, h.tb, D, h.ev, h.ad, h.fe⟩
noncomputable def ExS (W : Wd) (k : Nat) (cs : Scope) (ρ : PEnv) (ss : List Stmt) (out : Out) : Prop :=
  ∀ (c : Cx) (own N : Led) (m : Str → Option Value) (s₀ s : Shared), OkS W c k → c.env.scope = cs → c.env.locals = c.L → At c own N m s₀ s → EnvRd c N m ρ →
    wpAny (model W.prog W.w) c.A (execs ss c.env) (fun f s' => ∃ g, KtsTurn c.frs c.h₀ g ∧ OkS W (c.on g) k ∧ ExPost (c.on g) own N s₀ out f s') noE s
theorem ExS.of_ex {W : Wd} {k : Nat} {cs : Scope} {ρ : PEnv} {ss : List Stmt} {out : Out} (h : Ex W k cs ρ ss out) : ExS W k cs ρ ss out := fun c own N m s₀ s ok hc hL at' he =>
  wpAny_mono (h c own N m s₀ s ok.ok hc hL at' he) (fun f s' q => ⟨c.h₀, .refl, ok, q⟩) fun _ _ x => x
noncomputable def CallS (W : Wd) (k : Nat) (fv : Value) (ds : List PV) (d : PV) : Prop :=
  ∀ (c : Cx) (own N : Led) (m : Str → Option Value) (s₀ s : Shared) (vs : List Value), OkS W c k → At c own N m s₀ s → Rds N vs ds →
    wpAny (model W.prog W.w) c.A (call fv vs) (fun v s' => ∃ g, KtsTurn c.frs c.h₀ g ∧ OkS W (c.on g) k ∧ Post (c.on g) own N m s₀ d v s') noE s
section
variable {W : Wd} {k : Nat} {cs : Scope} {ρ : PEnv} {C P f : Addr}
theorem CallS.intro {name : Str} {args : List Arg} {body : List Stmt} {scope : Scope} {a1 a2 a3 : _} {b1 b2 b3 : _} {ds : List PV} {d : PV} (hd : DefOf W (.FunctionDef name ⟨[], args, none, [], [], none, []⟩ body a1 a2 a3 scope b1 b2 b3))
    (hlen : args.length = ds.length) (hb : Bnd args ds.length) (hnd : (args.map (·.arg)).Nodup) (hloc : ∀ x ∈ args.map (·.arg), scope.names.lookup x = some .local) (hno : ∀ x ∈ args.map (·.arg), NmOk x = true)
    (hco : scope.isCoroutine = false) (hgen : scope.isGenerator = false) (hk : scope.kind = .function) (hcell : ∀ x ∈ scope.names, x.2 ≠ .cell)
    (h : ExS W k scope ((args.map (·.arg)).zip ds) body (.ret d)) : ∃ fa, nsIn W.K mainGlobals name = some (some (.ref fa)) ∧ keepIn W.K (.ref fa) = true ∧ CallS W (k + 1) (.ref fa) ds d := by
  obtain ⟨fa, h1, h2, oc, od, osl, nm, qual, kV, doc, pm, cdv, ct, an, hlook, hcode⟩ := hd
  refine ⟨fa, h1, h2, ?_⟩
  intro c own N m s₀ s vs okS at' hr
  have ok := okS.ok
  obtain ⟨cn, ccs, ca, ccd, hfe, hck⟩ := okS.fe
  refine wpAny_call ?_
  refine code_defS (cn := cn) (cs := ccs) (a := ca) (ccd := ccd) (L := c.L) (outer := c.outer) (g₀ := c.h₀) ok.below at'.fr ok.kin at'.news ok.top okS.kb okS.tb okS.dd .refl (by show some (c.fenv :: c.outer) = _; rw [hfe]) hlook hcode ok.deep
    (BindsTo.of_eq (bind_plain hb hr.len)) (fun y hy => ?_) (fun g L' h₁ FG F' N' B' X' T' D' => ?_) hck hco hgen hk hcell
  · exact hloc y.1 (List.of_mem_zip hy).1
  · let c' : Cx := { dp := c.dp + 1, un := c.un + 3, gd := c.gd, fenv := envOf qual scope L' fa cdv, outer := envOf cn ccs c.L ca ccd :: c.outer, A₀ := c.A, base := c.base, h₀ := g, L := L', env := envOf qual scope L' fa cdv }
    have ok' : c'.Ok W k := ⟨B', X', T', rfl, hk, hk, rfl, rfl, by have := ok.room; show c.dp + 1 + k < _; omega, by have := ok.units; show c.un + 3 + 8 * k + 8 < _; omega, (by obtain ⟨o, e, r⟩ := ok.scr; exact ⟨o, FG.keep _ _ e, r⟩)⟩
    have hcA : c'.A = c.A.deeper (envOf qual scope L' fa cdv) := by
      show ({ handled := none, depth := c.dp + 1, frames := some (envOf qual scope L' fa cdv :: envOf cn ccs c.L ca ccd :: c.outer), guards := c.gd, units := c.un + 3 } : Around) = { handled := none, depth := c.dp + 1, frames := some (envOf qual scope L' fa cdv :: c.fenv :: c.outer), guards := c.gd, units := c.un + 3 }
      rw [hfe]
    have okS' : OkS W c' k := ⟨ok', okS.kb, okS.tb, D', rfl, hcA, qual, scope, fa, cdv, rfl, hk⟩
    have at1 : At c' own N (fun y => ((args.map (·.arg)).zip vs).reverse.lookup y) s₀ { s with heap := h₁, toks := s.toks + ((args.map (·.arg)).zip vs).length } :=
      ⟨by obtain ⟨h', t, e⟩ := at'.same; rw [e]; exact ⟨h₁, _, rfl⟩, F', N', at'.disj⟩
    have env1 : EnvRd c' N (fun y => ((args.map (·.arg)).zip vs).reverse.lookup y) ((args.map (·.arg)).zip ds) := fun p hp => by
      obtain ⟨v, r, e⟩ := lookup_zip (args.map (·.arg)) ds vs hnd (by simpa using hlen) hr p hp
      exact ⟨v, r, hno p.1 (List.of_mem_zip hp).1, .inl ⟨hloc p.1 (List.of_mem_zip hp).1, e⟩⟩
    rw [← hcA]
    refine wpAny_mono (h c' own N _ s₀ _ okS' rfl rfl at1 env1) (fun fl s' q => ?_) fun _ _ x => x.elim
    obtain ⟨g', T1, okS2, v, N2, m2, rfl, sb2, at2, r2⟩ := q
    exact leaveS_r at2.fr at2.news T1 fun h₀' T0 F3 N3 B3 X3 T3 D3 => ⟨h₀', T0, okS.on T0 B3 X3 T3 D3, N2, sb2, ⟨at2.same, F3, N3, at2.disj⟩, r2⟩
theorem ExS.try_catch (H : LeftC W C P f) {fa : Addr} {x : Str} {np cp ep hp1 hp2 tp rp : Pos} {e : Expr} {es : List Expr} {ds : List PV} {rest' rest : List Stmt} {kd : Nat} {cpos : Pos} {b : Bool} (hfa : nsIn W.K mainGlobals x = some (some (.ref fa))) (hkp : keepIn W.K (.ref fa) = true) (hl : cs.names.lookup x = some .globalImplicit)
    (hlo : cs.names.lookup ("LeftOut" : Str) = some .globalImplicit) (ha : Evs W k cs ρ (e :: es) ds) (hR : CallR W k C (.ref fa) ds) (hd : (x == ("__debug__" : Str)) = false)
    (hp : ∀ env, starEach (e :: es) env = (false, eval e env) :: starEach es env) (hn : ∀ env, (backTo cp (starEach es env)).any (·.1) = false)
    (hsw : ∀ env, swapsWith (.Call (.Name x np) (e :: es) [] cp) none ep.line env = pure false) :
    ExS W k cs ρ (.Try (.Expr (.Call (.Name x np) (e :: es) [] cp) ep :: rest') [.ExceptHandler (some (.Name "LeftOut" hp1)) none [.Return (some (.Constant (.bool b) kd cpos)) rp] hp2] [] [] tp :: rest) (.ret (.bool b)) := by
  intro c own N m s₀ s okS hc hL at' he
  have ok := okS.ok
  have hi : interactive c.env = false := by unfold interactive; rw [ok.ek]; rfl
  refine wpAny_execs_cons (wpAny_Try_except ?_)
  refine wpAny_mono (Q := fun _ _ => False) (E := fun ev s' => ∃ e g N1, ev = .ref e ∧ (∀ p ∈ N, p ∈ N1) ∧ (∃ h tk, s' = { s₀ with heap := h, toks := tk }) ∧ Fr c.h₀ c.L g m ∧ RaisedSN c.base g (c.fenv :: c.outer) e (.ref C) (own ++ N1) s'.heap ∧ g.UpToSlots s'.heap ∧ (∀ p ∈ N1, ∀ q ∈ own, p.1 ≠ q.1)) ?_ (fun _ _ x => x.elim) fun ev s' q => ?_
  · refine wpAny_execs_cons (wpAny_Expr ?_ hi (hsw _))
    show wpAny _ _ (eval (.Name x np) c.env >>= fun v => callWith cp v [] (backTo cp (starEach (e :: es) c.env)) []) _ _ s
    refine wpAny_bind (wpAny_mono (Name_glob (Q := fun v s' => v = .ref fa ∧ s' = s) hfa hl hd ok hc at' ⟨rfl, rfl⟩) (fun v s' h' => ?_) fun _ _ x => False.elim x)
    obtain ⟨rfl, rfl⟩ := h'
    refine callWith_K ok.kin hkp (wpAny_mono (ha c own N m m s₀ s' cp ok hc (nsOk_L hL) at' he) (fun vs s1 ⟨N1, sb1, at1, r1⟩ => ?_) fun _ _ x => False.elim x) (hp _) (hn _)
    refine ⟨at1.kin ok, wpAny_mono (hR c own N1 m s₀ s1 vs ok at1 r1) (fun _ _ x => x.elim) fun ev s2 q => ?_⟩
    obtain ⟨e, g, rfl, q1, q2, q3, q4⟩ := q
    exact ⟨e, g, N1, rfl, sb1, q1, q2, q3, q4, at1.disj⟩
  · obtain ⟨e, g, N1, rfl, sb1, q1, q2, q3, q4, q5⟩ := q
    obtain ⟨cn, ccs, ca, ccd, hfe, hck⟩ := okS.fe
    have henv : c.env = envOf cn ccs c.L ca ccd := okS.ev.trans hfe
    have hscs : ccs = cs := by (rw [← hc, henv]; rfl)
    rw [okS.ad, hfe, henv]
    refine caught_own (hfe ▸ q3) q2 ok.below q4 okS.kb okS.tb okS.dd H.glob H.kts (fun h' g' T F N' B X Tp D => ?_) hck (by rw [hscs]; exact hlo) (by decide +kernel) PassesOwnAt.never
    refine wpAny_execs_cons (wpAny_Return_some (wpAny_Constant_bool ?_))
    refine ⟨g', T, okS.on T B X Tp D, .bool b, N1, m, rfl, sb1, ⟨by obtain ⟨h2, t2, z⟩ := q1; rw [z]; exact ⟨h', t2, rfl⟩, F, N', q5⟩, .bool b⟩
end
end Mine
end
section
open PySem PySem.W PySem.Calls PySem.Spec PyProof.Rows
set_option maxRecDepth 100000
set_option autoImplicit false
namespace Mine
theorem execs_single {M : Model} {A : Around} {E : Value → Shared → Prop} {s : Shared} {st : Stmt} {env : Env} {Q : Flow → Shared → Prop} (h : wpAny M A (execs [st] env) Q E s) : wpAny M A (exec st env) Q E s := fun Γ p hΓ => by
  have h1 := h Γ p hΓ
  rw [execs_cons, Sem.wp_bind'] at h1
  refine Sem.wp_mono M Γ _ (fun f p₁ s₁ h₁ => ?_) (fun _ _ _ h' => h') _ _ h1
  cases f <;> first | (rw [execs_nil, Sem.wp_pure'] at h₁; exact h₁) | (dsimp only at h₁; rw [Sem.wp_pure'] at h₁; exact h₁)
section
variable {W : Wd} {k : Nat} {cs : Scope} {ρ : PEnv} {C P f : Addr}
theorem ExS.cons_ex {st : Stmt} {rest : List Stmt} {ρ' : PEnv} {out : Out} (h : Ex W k cs ρ [st] (.next ρ')) (hr : ExS W k cs ρ' rest out) : ExS W k cs ρ (st :: rest) out := by
  intro c own N m s₀ s ok hc hL at' he
  refine wpAny_execs_cons (wpAny_mono (execs_single (h c own N m s₀ s ok.ok hc hL at' he)) (fun fl s1 q => ?_) fun _ _ x => x)
  obtain ⟨rfl, N1, m1, sb1, at1, he1⟩ := q
  exact wpAny_mono (hr c own N1 m1 s₀ s1 ok hc hL at1 he1) (fun f s2 ⟨g, T, o, q⟩ => ⟨g, T, o, q.sub sb1⟩) fun _ _ x => x
noncomputable def EvS (W : Wd) (k : Nat) (cs : Scope) (ρ : PEnv) (e : Expr) (d : PV) : Prop :=
  ∀ (c : Cx) (own N : Led) (m : Str → Option Value) (s₀ s : Shared), OkS W c k → c.env.scope = cs → c.env.locals = c.L → At c own N m s₀ s → EnvRd c N m ρ →
    wpAny (model W.prog W.w) c.A (eval e c.env) (fun v s' => ∃ g, KtsTurn c.frs c.h₀ g ∧ OkS W (c.on g) k ∧ Post (c.on g) own N m s₀ d v s') noE s
noncomputable def TsS (W : Wd) (k : Nat) (cs : Scope) (ρ : PEnv) (e : Expr) (b : Bool) : Prop :=
  ∀ (c : Cx) (own N : Led) (m : Str → Option Value) (s₀ s : Shared), OkS W c k → c.env.scope = cs → c.env.locals = c.L → At c own N m s₀ s → EnvRd c N m ρ →
    wpAny (model W.prog W.w) c.A (isTrue e c.env (eval e c.env)) (fun b' s' => b' = b ∧ ∃ g, KtsTurn c.frs c.h₀ g ∧ OkS W (c.on g) k ∧ ∃ N', (∀ p ∈ N, p ∈ N') ∧ At (c.on g) own N' m s₀ s') noE s
theorem EnvRd.on {c : Cx} {g : Heap} {N : Led} {m : Str → Option Value} {ρ : PEnv} (h : EnvRd c N m ρ) : EnvRd (c.on g) N m ρ := h
theorem EvS.call {fa : Addr} {k' : Nat} {x : Str} {np cp : Pos} {e : Expr} {es : List Expr} {ds : List PV} {d : PV} (hfa : nsIn W.K mainGlobals x = some (some (.ref fa))) (hkp : keepIn W.K (.ref fa) = true) (hl : cs.names.lookup x = some .globalImplicit)
    (ha : Evs W k cs ρ (e :: es) ds) (hS : CallS W k (.ref fa) ds d) (hd : (x == ("__debug__" : Str)) = false)
    (hp : ∀ env, starEach (e :: es) env = (false, eval e env) :: starEach es env) (hn : ∀ env, (backTo cp (starEach es env)).any (·.1) = false) : EvS W k cs ρ (.Call (.Name x np) (e :: es) [] cp) d := by
  intro c own N m s₀ s okS hc hL at' he
  have ok := okS.ok
  show wpAny _ _ (eval (.Name x np) c.env >>= fun v => callWith cp v [] (backTo cp (starEach (e :: es) c.env)) []) _ _ s
  refine wpAny_bind (wpAny_mono (Name_glob (Q := fun v s' => v = .ref fa ∧ s' = s) hfa hl hd ok hc at' ⟨rfl, rfl⟩) (fun v s' h' => ?_) fun _ _ x => False.elim x)
  obtain ⟨rfl, rfl⟩ := h'
  refine callWith_K ok.kin hkp (wpAny_mono (ha c own N m m s₀ s' cp ok hc (nsOk_L hL) at' he) (fun vs s1 ⟨N1, sb1, at1, r1⟩ => ?_) fun _ _ x => False.elim x) (hp _) (hn _)
  exact ⟨at1.kin ok, wpAny_mono (hS c own N1 m s₀ s1 vs okS at1 r1) (fun v s2 ⟨g, T, o, q⟩ => ⟨g, T, o, q.sub sb1⟩) fun _ _ x => x⟩
theorem TsS.cmp {l r : Expr} {op : CmpOp} {pos : Pos} {d₁ d₂ : PV} {b : Bool} (h1 : EvS W k cs ρ l d₁) (h2 : Ev W k cs ρ r d₂) (ho : Op2 W d₁ d₂ (fun a b => compareOp op a b) (.bool b)) (hb : behindInMarks op r = false) : TsS W k cs ρ (.Compare l [op] [r] pos) b := by
  intro c own N m s₀ s okS hc hL at' he
  refine wpAny_isTrue_Compare1 (wpAny_mono (h1 c own N m s₀ s okS hc hL at' he) (fun a s1 ⟨g, T, ok1, N1, sb1, at1, r1⟩ => ?_) fun _ _ x => x) hb
  refine wpAny_mono (h2 (c.on g) own N1 m m s₀ s1 ok1.ok hc (nsOk_L hL) at1 (EnvRd.on (he.mono sb1))) (fun b s2 ⟨N2, sb2, at2, r2⟩ => ?_) fun _ _ x => x
  refine wpAny_mono (ho (c.on g) own N2 m s₀ s2 a b (ok1.ok.mono (Nat.zero_le _)) at2 (r1.mono sb2) r2) (fun v s3 ⟨N3, sb3, at3, r3⟩ => ?_) fun _ _ x => x
  refine wpAny_mono (truthy_rd at3 r3 fun p hp => sb3 p (sb2 p (sb1 p hp))) (fun b' s4 ⟨hb', N4, sb4, at4⟩ => ⟨hb', g, T, ok1, N4, sb4, at4⟩) fun _ _ x => x
theorem ExS.if_false {t : Expr} {b o rest : List Stmt} {pos : Pos} {out : Out} (ht : TsS W k cs ρ t false) (h2 : ExS W k cs ρ (o ++ rest) out) : ExS W k cs ρ (.If t b o pos :: rest) out := by
  intro c own N m s₀ s ok hc hL at' he
  rw [exec_If_eq]
  refine wpAny_bind (wpAny_standAt (wpAny_bind (wpAny_mono (ht c own N m s₀ s ok hc hL at' he) (fun t' s1 h1' => ?_) fun _ _ x => x)))
  obtain ⟨rfl, g, T, ok1, N1, sb1, at1⟩ := h1'
  simp only [Bool.false_eq_true, if_false]
  exact wpAny_mono (h2 (c.on g) own N1 m s₀ s1 ok1 hc hL at1 (EnvRd.on (he.mono sb1))) (fun f s3 ⟨g', T', o', q⟩ => ⟨g', T.trans T', o', q.sub sb1⟩) fun _ _ x => x
theorem ExS.ret {e : Expr} {pos : Pos} {rest : List Stmt} {d : PV} (h : EvS W k cs ρ e d) : ExS W k cs ρ (.Return (some e) pos :: rest) (.ret d) := by
  intro c own N m s₀ s ok hc hL at' he
  refine wpAny_execs_cons (wpAny_Return_some (wpAny_mono (h c own N m s₀ s ok hc hL at' he) (fun v s1 ⟨g, T, ok1, N1, sb1, at1, r1⟩ => ?_) fun _ _ x => x))
  exact ⟨g, T, ok1, v, N1, m, rfl, sb1, at1, r1⟩
theorem EvS.and {e₁ e₂ : Expr} {pos : Pos} {b₂ : Bool} (h : EvS W k cs ρ e₁ (.bool true)) (h2 : Ev W k cs ρ e₂ (.bool b₂)) : EvS W k cs ρ (.BoolOp .And [e₁, e₂] pos) (.bool b₂) := by
  intro c own N m s₀ s ok hc hL at' he
  show wpAny _ _ (boolOp pos .And [eval e₁ c.env, eval e₂ c.env]) _ _ s
  unfold boolOp
  refine wpAny_bind (wpAny_mono (h c own N m s₀ s ok hc hL at' he) (fun v s1 ⟨g, T, ok1, N1, sb1, at1, r1⟩ => ?_) fun _ _ x => x)
  refine wpAny_bind (wpAny_standAt (wpAny_bind (wpAny_holding ?_)))
  cases r1
  refine wpAny_truthy_bool ?_
  show wpAny _ _ (eval e₂ c.env) _ _ _
  exact wpAny_mono (h2 (c.on g) own N1 m m s₀ s1 ok1.ok hc (nsOk_L hL) at1 (EnvRd.on (he.mono sb1))) (fun v s2 q => ⟨g, T, ok1, q.sub sb1⟩) fun _ _ x => x
end
end Mine
end
section
open PySem PySem.W PySem.Calls PySem.Spec PyProof.Rows
set_option maxRecDepth 100000
set_option autoImplicit false
namespace Mine
section
variable {W : Wd} {k : Nat} {cs : Scope} {ρ : PEnv} {C P f : Addr}
theorem ExS.for_pass {x : Str} {xp pos : Pos} {iter : Expr} {body rest : List Stmt} {ds : List PV} {out : Out} (hx : cs.names.lookup x = some .local) (hno : NmOk x = true) (hi : Itr W k cs ρ iter ds)
    (hb : ∀ d ∈ ds, ∃ ρ1, Upd x d ρ ρ1 ∧ ExS W k cs ρ1 body (.next ρ)) (hr : ExS W k cs ρ rest out)
    (hs : ∀ env v, foldedSetIterable iter env v = pure v) : ExS W k cs ρ (.For (.Name x xp) iter body [] pos :: rest) out := by
  intro c own N m s₀ s okS hc hL at' he
  have hx' : c.env.kindOf x = some .local := by subst hc; exact hx
  have loop : wpAny (model W.prog W.w) c.A (exec (.For (.Name x xp) iter body [] pos) c.env) (fun f s' => f = .next ∧ ∃ g, KtsTurn c.frs c.h₀ g ∧ OkS W (c.on g) k ∧ ∃ N' m', (∀ p ∈ N, p ∈ N') ∧ At (c.on g) own N' m' s₀ s' ∧ EnvRd c N' m' ρ) noE s := by
    refine wpAny_For (wpAny_mono (hi c own N m m s₀ s okS.ok hc (nsOk_L hL) at' he) (fun v s1 h1 => wpAny_mono h1 (fun it s2 h2 => ?_) fun _ _ x => x) fun _ _ x => x) (hs _)
    obtain ⟨I, oI, fp, P', St, N0, rfl, Wk, hfp, hP, hIo, sb0, at0, hst, hoI⟩ := h2
    obtain ⟨J, hJ⟩ : ∃ J : Nat → Shared → Prop, ∀ n s', J n s' ↔ (∃ i oI' N' m' g, i ≤ ds.length ∧ n = ds.length + 1 - i ∧ (∀ p ∈ N0, p ∈ N') ∧ KtsTurn c.frs c.h₀ g ∧ OkS W (c.on g) k ∧ At (c.on g) ((I, oI') :: own) N' m' s₀ s' ∧ St i s'.heap ∧ EnvRd c N' m' ρ) := ⟨_, fun _ _ => Iff.rfl⟩
    refine codeAny_forLoop J (fun n s' hI => ?_) (ds.length + 1) ((hJ _ _).mpr ⟨0, oI, N0, m, c.h₀, Nat.zero_le _, rfl, fun _ h => h, .refl, okS, at0, hst, he.mono sb0⟩)
    obtain ⟨i, oI1, N1, m1, g1, hi1, rfl, sb1, T1, ok1, at1, st1, he1⟩ := (hJ _ _).mp hI
    by_cases hlt : i < ds.length
    · refine Wk.item i _ _ _ hlt st1 fun v h2 tk2 hPv st2 hk2 => ?_
      obtain ⟨d, hd, rd⟩ := hP i v hPv
      obtain ⟨oI2, heI2⟩ := hIo _ _ st2
      have at2 := at1.next (tk := tk2) hk2 heI2 hoI
      have rd1 : Rd N1 v d := rd.mono sb1
      obtain ⟨ρ1, hu, hbd⟩ := hb d (List.mem_of_getElem? hd)
      refine wpAny_assign_Name ?_
      refine wpAny_mono (E := noE) (Q := fun _ s3 => At (c.on g1) ((I, oI2) :: own) N1 (fun y => if y = x then some v else m1 y) s₀ s3) (store_rule (c := c.on g1) ok1.ok hL hx' at2 fun s3 at3 => at3) (fun _ s3 at3 => ?_) fun _ _ x => False.elim x
      refine wpAny_mono (hbd (c.on g1) ((I, oI2) :: own) N1 _ s₀ s3 ok1 hc hL at3 (he1.upd hu rd1 hx' hno)) (fun f s4 q => ?_) fun _ _ x => False.elim x
      obtain ⟨g2, T2, ok2, rfl, N4, m4, sb4, at4, he4⟩ := q
      refine ⟨_, turn_lt hlt, (hJ _ _).mpr ⟨i + 1, oI2, N4, m4, g2, hlt, rfl, fun p hp => sb4 p (sb1 p hp), T1.trans T2, ok2, at4, walks_keep Wk hfp at2 at4 (.head _) (.head _) sb1 sb4 st2, he4⟩⟩
    · have hi2 := turn_end hi1 hlt
      exact Wk.done _ _ _ (hi2 ▸ st1) fun h2 tk2 hk2 => wpAny_execs_nil ⟨rfl, g1, T1, ok1, N1, m1, fun p hp => sb1 p (sb0 p hp), at1.done hk2 hoI, he1⟩
  refine wpAny_execs_cons (wpAny_mono loop (fun f s1 q => ?_) fun _ _ x => x)
  obtain ⟨rfl, g, T, ok1, N1, m1, sb1, at1, he1⟩ := q
  exact wpAny_mono (hr (c.on g) own N1 m1 s₀ s1 ok1 hc hL at1 (EnvRd.on he1)) (fun f s3 ⟨g', T', o', q⟩ => ⟨g', T.trans T', o', q.sub sb1⟩) fun _ _ x => x
theorem Ex.try_ret {body rest : List Stmt} {h0 : ExceptHandler} {hs : List ExceptHandler} {tp : Pos} {d : PV} (h : Ex W k cs ρ body (.ret d)) : Ex W k cs ρ (.Try body (h0 :: hs) [] [] tp :: rest) (.ret d) := by
  intro c own N m s₀ s ok hc hL at' he
  refine wpAny_execs_cons (wpAny_Try_except (wpAny_mono (h c own N m s₀ s ok hc hL at' he) (fun f s1 q => ?_) fun _ _ x => False.elim x))
  obtain ⟨v, N1, m1, rfl, q⟩ := q
  exact ⟨v, N1, m1, rfl, q⟩
theorem Ex.expr_plain {e : Expr} {ep : Pos} {rest : List Stmt} {d : PV} {out : Out} (h : Ev W k cs ρ e d) (hd : flat d = true) (hr : Ex W k cs ρ rest out) (hsw : ∀ env, swapsWith e none ep.line env = pure false) : Ex W k cs ρ (.Expr e ep :: rest) out := by
  intro c own N m s₀ s ok hc hL at' he
  have hi : interactive c.env = false := by unfold interactive; rw [ok.ek]; rfl
  refine wpAny_execs_cons (wpAny_Expr (Ev.use (h) ok hc (nsOk_L hL) at' he fun v s1 N1 sb1 at1 r1 => ?_) hi (hsw _))
  have go : wpAny (model W.prog W.w) c.A (execs rest c.env) (ExPost c own N s₀ out) noE s1 := wpAny_mono (hr c own N1 m s₀ s1 ok hc hL at1 (he.mono sb1)) (fun f s3 q => q.sub sb1) fun _ _ x => x
  cases r1 <;> first | exact go | cases hd
end
end Mine
end
section
open PySem PySem.W PySem.Calls PySem.Spec PyProof.Rows
set_option maxRecDepth 10000
set_option autoImplicit false
namespace Mine
theorem NsOk.cons {c : Cx} {own : Led} {m lm : Str → Option Value} {x : Addr × Obj} (h : NsOk c own m lm) : NsOk c (x :: own) m lm := fun g F N => h g F fun p hp => N p (.tail _ hp)
noncomputable def EvM (W : Wd) (k : Nat) (cs : Scope) (P : Addr) (ρ : PEnv) (es : List PV) (e : Expr) (d : PV) (es' : List PV) : Prop :=
  ∀ (c : Cx) (own N : Led) (m lm : Str → Option Value) (s₀ s : Shared) (vs : List Value) (n : Nat), c.Ok W k → c.env.scope = cs → NsOk c own m lm → At c ((P, lstO vs n) :: own) N m s₀ s → EnvRd c N lm ρ → Rds N vs es → (∀ q ∈ own, q.1 ≠ P) →
    wpAny (model W.prog W.w) c.A (eval e c.env) (fun v s' => ∃ N' vs' n', (∀ p ∈ N, p ∈ N') ∧ At c ((P, lstO vs' n') :: own) N' m s₀ s' ∧ Rds N' vs' es' ∧ Rd N' v d) noE s
section
variable {W : Wd} {k : Nat} {cs : Scope} {ρ : PEnv} {P : Addr}
theorem EvM.use {es es' : List PV} {e : Expr} {d : PV} (h : EvM W k cs P ρ es e d es') {c : Cx} {own N : Led} {m lm : Str → Option Value} {s₀ s : Shared} {vs : List Value} {n : Nat} {Q : Value → Shared → Prop} (ok : c.Ok W k) (hc : c.env.scope = cs) (hns : NsOk c own m lm) (at' : At c ((P, lstO vs n) :: own) N m s₀ s) (he : EnvRd c N lm ρ) (r : Rds N vs es) (ho : ∀ q ∈ own, q.1 ≠ P)
    (hq : ∀ v s' N' vs' n', (∀ p ∈ N, p ∈ N') → At c ((P, lstO vs' n') :: own) N' m s₀ s' → Rds N' vs' es' → Rd N' v d → Q v s') : wpAny (model W.prog W.w) c.A (eval e c.env) Q noE s :=
  wpAny_mono (h c own N m lm s₀ s vs n ok hc hns at' he r ho) (fun v s' ⟨N', vs', n', sb, z, q, r⟩ => hq v s' N' vs' n' sb z q r) fun _ _ x => x
theorem EvM.of {es : List PV} {e : Expr} {d : PV} (h : Ev W k cs ρ e d) : EvM W k cs P ρ es e d es := fun c own N m lm s₀ s vs n ok hc hns at' he r ho =>
  wpAny_mono (h c _ N m lm s₀ s ok hc hns.cons at' he) (fun v s1 ⟨N1, sb1, at1, r1⟩ => ⟨N1, vs, n, sb1, at1, r.mono sb1, r1⟩) fun _ _ x => x
theorem EvM.item0 {es : List PV} {d : PV} {x : Str} {xp kp pos : Pos} {kd : Nat} (hm : (x, .adr P) ∈ ρ) (hz : es.length ≤ 1000000)
    (hs : ∀ o j, subscripted (.Constant (.int 0) kd kp) false o j = operate [o, j] (getItem o j)) : EvM W k cs P ρ (d :: es) (.Subscript (.Name x xp) (.Constant (.int 0) kd kp) pos) d (d :: es) := by
  intro c own N m lm s₀ s vs n ok hc hns at' he r ho
  refine Subscript_ (Ev.use (Ev.name hm) ok hc hns.cons at' he fun a s1 N1 sb1 at1 r1 => ?_)
  obtain rfl := r1.adr_inv
  refine Ev.use (Ev.int) ok hc hns.cons at1 (he.mono sb1) fun b s2 N2 sb2 at2 r2 => ?_
  obtain ⟨_, rfl⟩ := r2.int_inv
  have r' := r.mono fun p hp => sb2 p (sb1 p hp)
  obtain ⟨v0, vs0, rfl, h0, h1⟩ := r'.inv
  have hL2 : s2.heap.IsList P (v0 :: vs0).toArray := ⟨_, (at2.news _ (.head _)).1, rfl, n, rfl⟩
  refine tail_any hL2.typeIs slot_list_getitem.lookup (wpAny_getItem_list hL2 (by omega) (by omega) (x := v0) (by simp) ?_) (hs _ _)
  exact ⟨N2, v0 :: vs0, n, fun p hp => sb2 p (sb1 p hp), at2, r', h0⟩
theorem EvM.pop1 {es : List PV} {d d1 : PV} {x : Str} {xp kp ap cp : Pos} {kd : Nat} (hm : (x, .adr P) ∈ ρ) (hz : es.length ≤ 1000000)
    (he' : ∀ env, ∃ pl, eval (.Call (.Attribute (.Name x xp) "pop" ap) [.Constant (.int 1) kd kp] [] cp) env = (do
      let ov ← eval (.Name x xp) env
      standAt ap.atName
      let (f, first) ← holding [ov] (getMethod ov "pop" pl)
      callWith cp f first (backTo cp (starEach [.Constant (.int 1) kd kp] env)) [])) :
    EvM W k cs P ρ (d :: d1 :: es) (.Call (.Attribute (.Name x xp) "pop" ap) [.Constant (.int 1) kd kp] [] cp) d1 (d :: es) := by
  intro c own N m lm s₀ s vs n ok hc hns at' he r ho
  obtain ⟨pl, hpl⟩ := he' c.env
  refine MethodCall_ (pl := pl) (Ev.use (Ev.name hm) ok hc hns.cons at' he fun a s1 N1 sb1 at1 r1 => ?_) hpl
  obtain rfl := r1.adr_inv
  refine kl_method at1.news (List.mem_append_left _ (.head _)) PySem.F.slot_list_pop PySem.F.type_list_pop ?_
  refine callWith_method1 ?_ rfl rfl
  show wpAny _ _ (spliced (backTo cp ((false, eval (.Constant (.int 1) kd kp) c.env) :: starEach [] c.env))) _ _ _
  refine spliced_cons (Ev.use (Ev.int (kd := kd) (pos := kp)) ok hc hns.cons at1 (he.mono sb1) fun b s2 N2 sb2 at2 r2 => ?_)
  obtain ⟨_, rfl⟩ := r2.int_inv
  refine wpAny_pure ?_
  have r' := r.mono fun p hp => sb2 p (sb1 p hp)
  obtain ⟨v0, vs0, rfl, h0, h1⟩ := r'.inv
  obtain ⟨v1, vs1, rfl, h2, h3⟩ := h1.inv
  have hz2 : (v0 :: v1 :: vs1).length ≤ sizeLine := by
    have : (v0 :: v1 :: vs1).length ≤ 1000002 := by simp only [List.length_cons]; have := h3.len; omega
    exact Nat.le_trans this (by decide)
  have hd : ∀ p ∈ own ++ N2, p.1 ≠ P := fun p hp => by
    rcases List.mem_append.mp hp with hp | hp
    · exact ho p hp
    · exact at2.disj p hp _ (.head _)
  refine kl_popAt (k := 1) (p := [v0]) (q := vs1) (y := v1) (n := n) (its := (v0 :: v1 :: vs1).toArray) at2.fr at2.news (by decide +kernel) (by unfold seqIndex?; simp; omega) rfl (PySem.W.Upd.head hd) hz2 (fun h' F' N' => ?_)
  exact ⟨N2, v0 :: vs1, n + 1, fun p hp => sb2 p (sb1 p hp), ⟨by obtain ⟨h2', t2, e⟩ := at2.same; rw [e]; exact ⟨h', t2, rfl⟩, F', N', fun p hp q hq => by
    rcases List.mem_cons.mp hq with rfl | hq
    · exact hd p (List.mem_append_right _ hp)
    · exact at2.disj p hp q (.tail _ hq)⟩, .cons h0 h3, h2⟩
theorem EvM.binop {es es1 es2 : List PV} {l r : Expr} {op : Operator} {pos : Pos} {d₁ d₂ d : PV} (h1 : EvM W k cs P ρ es l d₁ es1) (h2 : EvM W k cs P ρ es1 r d₂ es2) (ho : Op2 W d₁ d₂ (fun a b => binaryOp op a b) d) : EvM W k cs P ρ es (.BinOp l op r pos) d es2 := by
  intro c own N m lm s₀ s vs n ok hc hns at' he rr hown
  refine wpAny_BinOp (EvM.use (h1) ok hc hns at' he rr hown fun a s1 N1 vs1 n1 sb1 at1 q1 r1 => ?_)
  refine EvM.use (h2) ok hc hns at1 (he.mono sb1) q1 hown fun b s2 N2 vs2 n2 sb2 at2 q2 r2 => ?_
  refine wpAny_mono (ho c _ N2 m s₀ s2 a b (ok.mono (Nat.zero_le _)) at2 (r1.mono sb2) r2) (fun v s3 ⟨N3, sb3, at3, r3⟩ => ?_) fun _ _ x => x
  exact ⟨N3, vs2, n2, fun p hp => sb3 p (sb2 p (sb1 p hp)), at3, q2.mono sb3, r3⟩
theorem EvM.conv {es es' es'' : List PV} {e : Expr} {d d' : PV} (h : EvM W k cs P ρ es e d es') (q : d = d') (q' : es' = es'') : EvM W k cs P ρ es e d' es'' := by subst q q'; exact h
theorem EvM.len {es : List PV} {x : Str} {np xp pos : Pos} (hb : nsIn W.K mainGlobals "len" = some none) (hl : cs.names.lookup ("len" : Str) = some .globalImplicit) (hm : (x, .adr P) ∈ ρ) (hz : es.length ≤ 1000000) :
    EvM W k cs P ρ es (.Call (.Name "len" np) [.Name x xp] [] pos) (.int es.length) es := by
  intro c own N m lm s₀ s vs n ok hc hns at' he r ho
  show wpAny _ _ (eval (.Name "len" np) c.env >>= fun v => callWith pos v [] (backTo pos (starEach [.Name x xp] c.env)) []) _ _ s
  refine wpAny_bind (Name_blt hb Boot.len hl (by decide +kernel) (by decide +kernel) ok hc at' ?_)
  refine PyProof.Rows.callWith_builtin1 (Evs.use (Evs.cons (Ev.name hm) Evs.nil (fun _ => rfl)) ok hc hns.cons at' he fun ws s1 N1 sb1 at1 r1 => ?_) rfl rfl
  obtain ⟨w, ws', rfl, rw, r1⟩ := r1.inv
  obtain rfl := r1.inv0
  obtain rfl := rw.adr_inv
  have hL2 : s1.heap.IsList P vs.toArray := ⟨_, (at1.news _ (.head _)).1, rfl, n, rfl⟩
  refine PyProof.Rows.len_list hL2 ?_ ?_
  · have := r.len; simp; omega
  · refine ⟨N1, vs, n, sb1, at1.tok, r.mono sb1, ?_⟩
    have : (vs.toArray.size : Int) = es.length := by simp [r.len]
    rw [this]; exact .int _ _
theorem EvM.ife_gt {es es1 es2 es' : List PV} {l r e1 e2 : Expr} {tp pos : Pos} {i j : Int} {d : PV} (h1 : EvM W k cs P ρ es l (.int i) es1) (h2 : EvM W k cs P ρ es1 r (.int j) es2)
    (ht : i > j → EvM W k cs P ρ es2 e1 d es') (hf : ¬ i > j → EvM W k cs P ρ es2 e2 d es') (hb : behindInMarks .Gt r = false := by rfl) : EvM W k cs P ρ es (.IfExp (.Compare l [.Gt] [r] tp) e1 e2 pos) d es' := by
  intro c own N m lm s₀ s vs n ok hc hns at' he rr hown
  refine wpAny_IfExp (wpAny_isTrue_Compare1 (EvM.use (h1) ok hc hns at' he rr hown fun a s1 N1 vs1 n1 sb1 at1 q1 r1 => ?_) hb)
  refine EvM.use (h2) ok hc hns at1 (he.mono sb1) q1 hown fun b s2 N2 vs2 n2 sb2 at2 q2 r2 => ?_
  refine wpAny_mono (op_gt c _ N2 m s₀ s2 a b (ok.mono (Nat.zero_le _)) at2 (r1.mono sb2) r2) (fun v s3 ⟨N3, sb3, at3, r3⟩ => ?_) fun _ _ x => x
  refine wpAny_mono (truthy_rd at3 r3 (N₀ := N3) fun _ h => h) (fun t s4 h4 => ?_) fun _ _ x => x
  obtain ⟨rfl, N4, sb4, at4⟩ := h4
  have sb : ∀ p ∈ N, p ∈ N4 := fun p hp => sb4 p (sb3 p (sb2 p (sb1 p hp)))
  have go : ∀ e, EvM W k cs P ρ es2 e d es' → wpAny (model W.prog W.w) c.A (eval e c.env) (fun v s' => ∃ N' vs' n', (∀ p ∈ N, p ∈ N') ∧ At c ((P, lstO vs' n') :: own) N' m s₀ s' ∧ Rds N' vs' es' ∧ Rd N' v d) noE s4 := fun e h =>
    wpAny_mono (h c own N4 m lm s₀ s4 vs2 n2 ok hc hns at4 (he.mono sb) (q2.mono fun p hp => sb4 p (sb3 p hp)) hown) (fun v s5 ⟨N5, vs5, n5, sb5, z⟩ => ⟨N5, vs5, n5, fun p hp => sb5 p (sb p hp), z⟩) fun _ _ x => x
  by_cases hij : i > j
  · simp only [hij, decide_true, if_true]
    exact go e1 (ht hij)
  · simp only [hij, decide_false, Bool.false_eq_true, if_false]
    exact go e2 (hf hij)
end
end Mine
end
section
open PySem PySem.W PySem.Calls PySem.Spec PyProof.Rows
set_option maxRecDepth 100000
set_option autoImplicit false
namespace Mine
section
variable {prog : Program} {w : World} {A : Around} {E : Value → Shared → Prop} {s : Shared}
theorem setItem_lst {l : Addr} {items : Array Value} {n : Nat} {k : Int} {t : Tok} {v : Value} {Q : Unit → Shared → Prop} (ho : s.heap.get? l = some { cls := .type "list", data := .seq items n }) (h0 : 0 ≤ k) (hfit : k < 2 ^ 63) (hn : k < items.size)
    (hQ : ∀ h', h'.get? l = some { cls := .type "list", data := .seq (items.setIfInBounds k.toNat v) n } → Heap.SameBut l s.heap h' → Q () { s with heap := h' }) : wpAny (model prog w) A (setItem (.ref l) (.int k t) v) Q E s := by
  have hl : s.heap.IsList l items := ⟨_, ho, rfl, n, rfl⟩
  unfold setItem
  try with_reducible refine wpAny_holding ?_
  first | refine wpAny_bind (wpAny_pure ?_) | skip
  refine wpAny_bind (wpAny_sequenceKey hl.typeIs (by decide) ?_)
  refine wpAny_bind (wpAny_callSpecial?_slot (name := Str.ofString "__setitem__") hl.typeIs slot_list_setitem
    (wpAny_call_entry slot_list_setitem hl.typeIs entry_list_setitem ?_ (args_list_setitem _ _ _)))
  show wpAny _ _ (Builtin.List.listSubscript? (.int k t) >>= _) _ _ s
  refine wpAny_bind (wpAny_listSubscript_int (fitsIndex_of h0 hfit) ?_)
  clear hfit
  obtain ⟨j, rfl⟩ := Int.eq_ofNat_of_zero_le h0
  have hj : j < items.size := by omega
  have hx' : items[j]? = some items[j] := Array.getElem?_eq_getElem hj
  show wpAny _ _ ((seqItemAt l j >>= fun r => pure (r.map (j, ·))) >>= _) _ _ s
  refine wpAny_bind (wpAny_bind (wpAny_seqItemAt ho rfl (wpAny_pure ?_)))
  rw [hx']
  show wpAny _ _ (setSeqItemAt l j v >>= _) _ _ s
  have hu := PySem.IsL.update ho (·.setIfInBounds j v)
  rw [if_pos (by simp)] at hu
  refine wpAny_bind (wpAny_setSeqItemAt ho rfl ?_)
  have fin : Q () { s with heap := s.heap.update l (Obj.mapSeq (·.setIfInBounds j v)) } := hQ _ hu (Heap.SameBut.update ..)
  first
    | exact wpAny_bind (wpAny_pure (wpAny_pure ⟨.none, rfl, wpAny_pure fin⟩))
    | exact wpAny_pure ⟨.none, rfl, wpAny_pure fin⟩
end
section
variable {W : Wd} {k : Nat} {cs : Scope} {ρ : PEnv} {P : Addr}
theorem ExM.assign {es es' : List PV} {x : Str} {p1 pos : Pos} {e : Expr} {d : PV} {ρ' : PEnv} (hx : cs.names.lookup x = some .local) (hno : NmOk x = true) (h : EvM W k cs P ρ es e d es') (hu : Upd x d ρ ρ')
    (hsw : ∀ env, swapsWith e (some (.Name x p1)) pos.line env = pure false) : ExM W k cs P ρ es [.Assign [.Name x p1] e pos] ρ' es' := by
  intro c own N m s₀ s ok hc hL ⟨vs, n, at', r, hP⟩ he
  have hx' : c.env.kindOf x = some .local := by subst hc; exact hx
  refine wpAny_execs_cons (wpAny_Assign_Name (EvM.use (h) ok hc (nsOk_L hL) at' he r hP fun v s1 N1 vs1 n1 sb1 at1 q1 r1 => ?_) (hsw _))
  refine store_rule ok hL hx' at1 fun s2 at2 => ?_
  exact wpAny_execs_nil ⟨rfl, N1, _, sb1, ⟨vs1, n1, at2, q1, hP⟩, (he.mono sb1).upd hu r1 hx' hno⟩
theorem ExM.set0 {es es1 : List PV} {x : Str} {xp kp sp pos : Pos} {kd : Nat} {e : Expr} {d d0 : PV} (hm : (x, .adr P) ∈ ρ) (h : EvM W k cs P ρ es e d (d0 :: es1))
    (hsw : ∀ env, swapsWith e (some (.Subscript (.Name x xp) (.Constant (.int 0) kd kp) sp)) pos.line env = pure false) : ExM W k cs P ρ es [.Assign [.Subscript (.Name x xp) (.Constant (.int 0) kd kp) sp] e pos] ρ (d :: es1) := by
  intro c own N m s₀ s ok hc hL ⟨vs, n, at', r, hP⟩ he
  refine wpAny_execs_cons (wpAny_Assign_Subscript ?_ (hsw _))
  refine EvM.use (h) ok hc (nsOk_L hL) at' he r hP fun v s1 N1 vs1 n1 sb1 at1 q1 r1 => ?_
  refine Ev.use (Ev.name hm) ok hc (nsOk_L hL) at1 (he.mono sb1) fun a s2 N2 sb2 at2 r2 => ?_
  obtain rfl := r2.adr_inv
  refine Ev.use (Ev.int (kd := kd) (pos := kp)) ok hc (nsOk_L hL) at2 (he.mono fun p hp => sb2 p (sb1 p hp)) fun b s3 N3 sb3 at3 r3 => ?_
  obtain ⟨_, rfl⟩ := r3.int_inv
  obtain ⟨v0, vs0, rfl, h0, h1⟩ := q1.inv
  refine setItem_lst (at3.news _ (.head _)).1 (by decide) (by decide) (by simp) fun h' e1 e2 => ?_
  have at4 := at3.next (oI' := lstO (v :: vs0) n1) (tk := s3.toks) (fun b o hb e => e2.extBut b o (by simpa using hb) e) (by rw [e1]; simp) hP
  have sb : ∀ p ∈ N1, p ∈ N3 := fun p hp => sb3 p (sb2 p hp)
  exact wpAny_execs_nil ⟨rfl, N3, m, fun p hp => sb p (sb1 p hp), ⟨v :: vs0, n1, at4, .cons (r1.mono sb) (h1.mono sb), hP⟩, he.mono fun p hp => sb p (sb1 p hp)⟩
noncomputable def ExP (W : Wd) (k : Nat) (cs : Scope) (P : Addr) (ρ : PEnv) (es : List PV) (ss : List Stmt) (d : PV) (es' : List PV) : Prop :=
  ∀ (c : Cx) (own N : Led) (m : Str → Option Value) (s₀ s : Shared), c.Ok W k → c.env.scope = cs → c.env.locals = c.L → StM c P own N m s₀ es s → EnvRd c N m ρ →
    wpAny (model W.prog W.w) c.A (execs ss c.env) (fun f s' => ∃ v N' m', f = .ret v ∧ (∀ p ∈ N, p ∈ N') ∧ StM c P own N' m' s₀ es' s' ∧ Rd N' v d) noE s
theorem ExP.cons {es es1 es' : List PV} {a : Stmt} {b : List Stmt} {ρ' : PEnv} {d : PV} (h : ExM W k cs P ρ es [a] ρ' es1) (hr : ExP W k cs P ρ' es1 b d es') : ExP W k cs P ρ es (a :: b) d es' := by
  intro c own N m s₀ s ok hc hL st he
  rw [show a :: b = [a] ++ b from rfl, execs_append]
  refine wpAny_bind (wpAny_mono (h c own N m s₀ s ok hc hL st he) (fun f s1 q => ?_) fun _ _ x => x)
  obtain ⟨rfl, N1, m1, sb1, st1, he1⟩ := q
  exact wpAny_mono (hr c own N1 m1 s₀ s1 ok hc hL st1 he1) (fun f s3 ⟨v, N2, m2, e, sb2, z⟩ => ⟨v, N2, m2, e, fun p hp => sb2 p (sb1 p hp), z⟩) fun _ _ x => x
theorem ExP.ret {es : List PV} {e : Expr} {pos : Pos} {d : PV} (h : Ev W k cs ρ e d) : ExP W k cs P ρ es [.Return (some e) pos] d es := by
  intro c own N m s₀ s ok hc hL ⟨vs, n, at', r, hP⟩ he
  refine wpAny_execs_cons (wpAny_Return_some (Ev.use (h) ok hc (nsOk_L hL) at' he fun v s1 N1 sb1 at1 r1 => ?_))
  exact ⟨v, N1, m, rfl, sb1, ⟨vs, n, at1, r.mono sb1, hP⟩, r1⟩
noncomputable def CallM (W : Wd) (k : Nat) (x : Str) (P : Addr) (es ds : List PV) (d : PV) (es' : List PV) : Prop :=
  ∃ f, nsIn W.K mainGlobals x = some (some (.ref f)) ∧ keepIn W.K (.ref f) = true ∧ ∀ (c : Cx) (own N : Led) (m : Str → Option Value) (s₀ s : Shared) (ws vs : List Value) (n : Nat), c.Ok W k → At c ((P, lstO vs n) :: own) N m s₀ s → Rds N vs es → Rds N ws ds → (∀ q ∈ own, q.1 ≠ P) →
    wpAny (model W.prog W.w) c.A (call (.ref f) ws) (fun v s' => ∃ N' vs' n', (∀ p ∈ N, p ∈ N') ∧ At c ((P, lstO vs' n') :: own) N' m s₀ s' ∧ Rds N' vs' es' ∧ Rd N' v d) noE s
theorem EvM.call {k' : Nat} {x : Str} {np pos : Pos} {e : Expr} {es : List Expr} {ls ls' ds : List PV} {d : PV} (hl : cs.names.lookup x = some .globalImplicit)
    (ha : Evs W k cs ρ (e :: es) ds) (hcall : CallM W k' x P ls ds d ls') (hk : k' ≤ k) (hd : (x == ("__debug__" : Str)) = false)
    (hp : ∀ env, starEach (e :: es) env = (false, eval e env) :: starEach es env) (hn : ∀ env, (backTo pos (starEach es env)).any (·.1) = false) : EvM W k cs P ρ ls (.Call (.Name x np) (e :: es) [] pos) d ls' := by
  intro c own N m lm s₀ s vs n ok hc hns at' he rr hown
  obtain ⟨f, h1, h2, h3⟩ := hcall
  show wpAny _ _ (eval (.Name x np) c.env >>= fun v => callWith pos v [] (backTo pos (starEach (e :: es) c.env)) []) _ _ s
  refine wpAny_bind (Name_glob h1 hl hd ok hc at' ?_)
  refine callWith_K ok.kin h2 (Evs.use (ha) ok hc hns.cons at' he fun ws s1 N1 sb1 at1 r1 => ?_) (hp _) (hn _)
  exact ⟨at1.kin ok, wpAny_mono (h3 c own N1 m s₀ s1 ws vs n (ok.mono hk) at1 (rr.mono sb1) r1 hown) (fun v s' ⟨N2, vs2, n2, sb2, z⟩ => ⟨N2, vs2, n2, fun p hp => sb2 p (sb1 p hp), z⟩) fun _ _ x => x⟩
theorem CallM.intro {name : Str} {args : List Arg} {body : List Stmt} {scope : Scope} {a1 a2 a3 : _} {b1 b2 b3 : _} {es es' ds : List PV} {d : PV} (hd : DefOf W (.FunctionDef name ⟨[], args, none, [], [], none, []⟩ body a1 a2 a3 scope b1 b2 b3))
    (hlen : args.length = ds.length) (hb : Bnd args ds.length) (hnd : (args.map (·.arg)).Nodup) (hloc : ∀ x ∈ args.map (·.arg), scope.names.lookup x = some .local) (hno : ∀ x ∈ args.map (·.arg), NmOk x = true)
    (hco : scope.isCoroutine = false) (hgen : scope.isGenerator = false) (hk : scope.kind = .function) (hcell : ∀ x ∈ scope.names, x.2 ≠ .cell)
    (h : ExP W k scope P ((args.map (·.arg)).zip ds) es body d es') : CallM W (k + 1) name P es ds d es' := by
  obtain ⟨f, h1, h2, hd⟩ := hd
  refine ⟨f, h1, h2, fun c own N m s₀ s ws vs n ok at' hr hw hown => wpAny_call (enter hd hlen hb hnd hloc hno hco hgen hk hcell ok at' hw fun qual cdv g L' m' s1 ok' FG at1 env1 => wpAny_mono (h _ own N m' s₀ s1 ok' rfl rfl ⟨vs, n, at1, hr, hown⟩ env1) (fun fl s' q => ?_) fun _ _ x => x.elim)⟩
  obtain ⟨v, N2, m2, rfl, sb2, ⟨vs2, n2, at2, q2, _⟩, r2⟩ := q
  exact ⟨L', m2, ((P, lstO vs2 n2) :: own) ++ N2, at2.fr, at2.news, fun FQ NQ => ⟨N2, vs2, n2, sb2, ⟨at2.same, FQ, NQ, at2.disj⟩, q2, r2⟩⟩
end
end Mine
end
section
open PySem PySem.W PySem.Calls PySem.Spec PyProof.Rows
set_option maxRecDepth 100000
set_option autoImplicit false
namespace Mine
theorem Rd.flat0 {N : Led} {v : Value} {d : PV} (h : Rd N v d) (hf : flat d = true) : Rd [] v d := by
  cases h with
  | none => exact .none
  | bool b => exact .bool b
  | int i t => exact .int i t
  | str l t hz => exact .str l t hz
  | adr _ => cases hf
  | tup _ _ _ _ => cases hf
  | lst _ _ _ _ => cases hf
theorem Rds.flat0 {N : Led} {vs : List Value} {ds : List PV} (h : Rds N vs ds) (hf : ∀ d ∈ ds, flat d = true) : Rds [] vs ds :=
  ⟨h.len, fun i v d a b => (h.at' i v d a b).flat0 (hf d (List.mem_of_getElem? b))⟩
theorem Rds.up {N : Led} {vs : List Value} {ds : List PV} (h : Rds [] vs ds) : Rds N vs ds := h.mono fun _ q => nomatch q
theorem flat_ints (l : List Int) : ∀ d ∈ l.map PV.int, flat d = true := fun d hd => by
  obtain ⟨i, _, rfl⟩ := List.mem_map.mp hd; rfl
section
variable {W : Wd} {k : Nat} {cs : Scope} {ρ : PEnv} {P : Addr}
theorem EvM.item_lst {value slice : Expr} {pos : Pos} {es es' ds : List PV} {i : Int} {d : PV} (h1 : Ev W k cs ρ value (.lst ds)) (h2 : EvM W k cs P ρ es slice (.int i) es') (h0 : 0 ≤ i) (hi : ds[i.toNat]? = some d)
    (hs : ∀ o j, subscripted slice false o j = operate [o, j] (getItem o j)) : EvM W k cs P ρ es (.Subscript value slice pos) d es' := by
  intro c own N m lm s₀ s vs n ok hc hns at' he rr hown
  refine Subscript_ (Ev.use (h1) ok hc hns.cons at' he fun a s1 N1 sb1 at1 r1 => ?_)
  refine EvM.use (h2) ok hc hns at1 (he.mono sb1) (rr.mono sb1) hown fun b s2 N2 vs2 n2 sb2 at2 q2 r2 => ?_
  obtain ⟨t, ws, nn, hm, hl, hz, hr, rfl⟩ := r1.lst_inv
  ·
    obtain ⟨_, rfl⟩ := r2.int_inv
    have hlt : i.toNat < ds.length := (List.getElem?_eq_some_iff.mp hi).1
    have hv : ws[i.toNat]? = some (ws[i.toNat]'(by omega)) := by simp [hl ▸ hlt]
    have hL := at2.isList (sb2 _ hm)
    refine tail_any hL.typeIs slot_list_getitem.lookup (wpAny_getItem_list hL h0 (by omega) (x := ws[i.toNat]'(by omega)) (by rw [List.getElem?_toArray]; exact hv) ?_) (hs _ _)
    exact ⟨N2, vs2, n2, fun p hp => sb2 p (sb1 p hp), at2, q2, (hr _ _ _ hv hi).mono sb2⟩
theorem EvM.item_str {value slice : Expr} {pos : Pos} {es es' : List PV} {l : List Nat} {i : Int} (h1 : Ev W k cs ρ value (.str l)) (h2 : EvM W k cs P ρ es slice (.int i) es') (h0 : 0 ≤ i) (hi : i < l.length)
    (hs : ∀ o j, subscripted slice false o j = operate [o, j] (getItem o j)) : EvM W k cs P ρ es (.Subscript value slice pos) (.str [l.getD i.toNat 0]) es' := by
  intro c own N m lm s₀ s vs n ok hc hns at' he rr hown
  refine Subscript_ (Ev.use (h1) ok hc hns.cons at' he fun a s1 N1 sb1 at1 r1 => ?_)
  refine EvM.use (h2) ok hc hns at1 (he.mono sb1) (rr.mono sb1) hown fun b s2 N2 vs2 n2 sb2 at2 q2 r2 => ?_
  obtain ⟨t, hz, rfl⟩ := r1.str_inv
  ·
    obtain ⟨_, rfl⟩ := r2.int_inv
    have hlen : Str.length ⟨l.toArray⟩ = l.length := by show l.toArray.size = _; simp
    have hget : (PySem.Txt.item ⟨l.toArray⟩ i) = ⟨#[l.getD i.toNat 0]⟩ := by
      have hj : i.toNat < l.length := by omega
      unfold PySem.Txt.item PySem.Txt.charAt seqIndex?
      rw [hlen]
      simp only [show ¬ i < 0 by omega, if_false, h0, decide_true, Bool.true_and, hi, if_true]
      simp [hj, List.getD_eq_getElem?_getD]
    refine PyProof.Rows.item_str (by unfold fitsSsize; simp; omega) (by rw [hlen]; omega) (by rw [hlen]; omega) (fun _ => ?_) (hs _ _) ltg_str
    rw [hget]
    exact ⟨N2, vs2, n2, fun p hp => sb2 p (sb1 p hp), at2.tok, q2, .str [l.getD i.toNat 0] _ (by simp)⟩
theorem EvM.join {o : Expr} {apos pos : Pos} {e : Expr} {es es' : List PV} {l : List Nat} (ho : Ev W k cs ρ o (.str [])) (h : EvM W k cs P ρ es e (.lst (l.map fun c => .str [c])) es') (hz : l.length ≤ 1000000)
    (he : ∀ env, ∃ pl, eval (.Call (.Attribute o "join" apos) [e] [] pos) env = (do
      let ov ← eval o env
      standAt apos.atName
      let (f, first) ← holding [ov] (getMethod ov "join" pl)
      callWith pos f first (backTo pos (starEach [e] env)) []))
    (hp : ∀ env, starEach [e] env = (false, eval e env) :: starEach [] env) : EvM W k cs P ρ es (.Call (.Attribute o "join" apos) [e] [] pos) (.str l) es' := by
  intro c own N m lm s₀ s vs n ok hc hns at' hev rr hown
  obtain ⟨pl, hpl⟩ := he c.env
  refine MethodCall_ (pl := pl) (Ev.use (ho) ok hc hns.cons at' hev fun v s1 N1 sb1 at1 r1 => ?_) hpl
  obtain ⟨t, hz0, rfl⟩ := r1.str_inv
  ·
    refine GM.join ?_
    refine callWith_method1 ?_ (hp _) rfl
    rw [hp]
    refine spliced_cons (EvM.use (h) ok hc hns at1 (hev.mono sb1) (rr.mono sb1) hown fun w s2 N2 vs2 n2 sb2 at2 q2 r2 => ?_)
    refine wpAny_pure ?_
    refine wpAny_mono (call_join hz c _ N2 m s₀ s2 _ (ok.mono (Nat.zero_le _)) at2 (.cons (.str [] t hz0) (.cons r2 .nil))) (fun v s3 ⟨N3, sb3, at3, r3⟩ => ?_) fun _ _ x => x
    exact ⟨N3, vs2, n2, fun p hp => sb3 p (sb2 p (sb1 p hp)), at3, q2.mono sb3, r3⟩
end
end Mine
end
section
open PySem PySem.W PySem.Calls PySem.Spec PyProof.Rows
set_option maxRecDepth 100000
set_option autoImplicit false
namespace Mine
section
variable {W : Wd} {k : Nat} {cs : Scope} {ρ : PEnv} {P : Addr}
noncomputable def ItrM (W : Wd) (k : Nat) (cs : Scope) (P : Addr) (ρ : PEnv) (es : List PV) (e : Expr) (ds es' : List PV) : Prop :=
  ∀ (c : Cx) (own N : Led) (m lm : Str → Option Value) (s₀ s : Shared) (vs : List Value) (n : Nat), c.Ok W k → c.env.scope = cs → NsOk c own m lm → At c ((P, lstO vs n) :: own) N m s₀ s → EnvRd c N lm ρ → Rds N vs es → (∀ q ∈ own, q.1 ≠ P) →
    wpAny (model W.prog W.w) c.A (eval e c.env) (fun v s1 => wpAny (model W.prog W.w) c.A (pyIter v) (fun it s2 => ∃ N1 vs' n', (∀ p ∈ N, p ∈ N1) ∧ Rds N1 vs' es' ∧ ItAt W c ((P, lstO vs' n') :: own) N1 m s₀ ds it s2) noE s1) noE s
theorem ItrM.range1 {np pos : Pos} {e1 : Expr} {es es' : List PV} {b : Int} (hk : nsIn W.K mainGlobals ("range" : Str) = some none) (hl : cs.names.lookup ("range" : Str) = some .globalImplicit) (h : EvM W k cs P ρ es e1 (.int b) es') (h3 : -1000000 ≤ b) (h4 : b ≤ 1000000)
    (hp : ∀ env, starEach [e1] env = (false, eval e1 env) :: starEach [] env) (hn : ∀ env, (backTo pos (starEach [] env)).any (·.1) = false) : ItrM W k cs P ρ es (.Call (.Name "range" np) [e1] [] pos) ((List.range b.toNat).map fun i => .int (i : Nat)) es' := by
  intro c own N m lm s₀ s vs nn ok hc hns at' hev rr hown
  show wpAny _ _ (eval (.Name "range" np) c.env >>= fun v => callWith pos v [] (backTo pos (starEach [e1] c.env)) []) _ _ s
  refine wpAny_bind (Name_blt hk Boot.range hl (by decide +kernel) (by decide +kernel) ok hc at' ?_)
  refine Pv.callWith_type1 ?_ (hp _) (hn _)
  rw [hp]
  refine spliced_cons (EvM.use (h) ok hc hns at' hev rr hown fun v2 s1 N1 vs2 n2 sb1 at1 q1 rb => ?_)
  refine wpAny_pure ?_
  obtain ⟨t2, rfl⟩ := rb.int_inv
  ·
    refine call_range_1 ?_
    have hsz : Builtin.Range.rangeSize 0 b 1 = ((b.toNat : Nat) : Int) := by
      unfold Builtin.Range.rangeSize
      simp only [show (1 : Int) > 0 by decide, if_true, Int.ediv_one]
      split <;> omega
    have hsm : Builtin.Range.small 0 b 1 = true := by
      unfold Builtin.Range.small Builtin.Range.rangeFitsLong
      rw [hsz]
      simp
      omega
    have at2 := at1.push { cls := .type "range", data := .fields #[.int 0 s1.toks, .int b t2, .int 1 (s1.toks + 1)] }
    refine wpAny_pyIter_range (a := 0) (b := b) (c := 1) (Heap.get?_push_size _ rfl) hsm ?_
    rw [hsz]
    have at3 := at2.pushOwn { cls := .type "range_iterator", data := .fields #[rawInt 0, rawInt ((b.toNat : Nat) : Int), rawInt 1] }
    generalize hn : b.toNat = n at at3 hsz ⊢
    have hW := PySem.Walks.bound (LCg.range_walks (prog := W.prog) (w := W.w) (A := c.A) (I := (s1.heap.push ({ cls := .type "range", data := .fields #[.int 0 s1.toks, .int b t2, .int 1 (s1.toks + 1)] } : Obj)).objs.size) rfl 0 n)
    refine ⟨N1, vs2, n2, sb1, q1, ?_⟩
    refine ⟨_, _, _, fun i v => i < n ∧ ∃ t, v = .int (0 + (i : Int)) t, fun i h => IsRangeIter h (s1.heap.push ({ cls := .type "range", data := .fields #[.int 0 s1.toks, .int b t2, .int 1 (s1.toks + 1)] } : Obj)).objs.size (0 + (i : Nat) * 1) ((n : Int) - (i : Nat)) 1, _, rfl, by simpa using hW, fun b hb => .inl (List.mem_singleton.mp hb), ?_, fun i h st => ⟨_, st⟩, fun p hp => .tail _ hp, at3.tok, ?_, at2.fresh_own⟩
    · rintro i v ⟨hi, t, rfl⟩
      refine ⟨.int (i : Nat), by simp [hi], ?_⟩
      rw [Int.zero_add]; exact .int _ _
    · show Heap.get? _ _ = some _
      simpa using Heap.get?_push_size (s1.heap.push ({ cls := .type "range", data := .fields #[.int 0 s1.toks, .int b t2, .int 1 (s1.toks + 1)] } : Obj)) (o := { cls := .type "range_iterator", data := .fields #[rawInt 0, rawInt (n : Int), rawInt 1] }) rfl
theorem comp_runM {elt iter : Expr} {x : Str} {px pos ipos : Pos} {scope : Scope} {ρi : PEnv} {ds es : List PV} {use : Option (Value → Sem Unit)} {Q : Value → Shared → Prop} (F : Nat → PV) (pens : Nat → List Int)
    (ho : CompOk scope cs ρ ρi) (hcell : ∀ y ∈ scope.names, y.2 ≠ .cell) (hx : scope.names.lookup x = some .local) (hno : NmOk x = true) (hz : ds.length ≤ 1000000) (hi : ItrM W k cs P ρ es iter ds ((pens 0).map .int))
    (hturn : ∀ i d, ds[i]? = some d → EvM W k (relC scope cs) P ((x, d) :: ρi) ((pens i).map .int) elt (F i) ((pens (i + 1)).map .int)) (hs : ∀ env v, foldedSetIterable iter env v = pure v)
    (c : Cx) (own N : Led) (m lm : Str → Option Value) (s₀ s : Shared) (vs : List Value) (n : Nat) (ok : c.Ok W k) (hc : c.env.scope = cs) (hns : NsOk c own m lm) (at' : At c ((P, lstO vs n) :: own) N m s₀ s) (he : EnvRd c N lm ρ) (rr : Rds N vs es) (hown : ∀ q ∈ own, q.1 ≠ P)
    (hfin : ∀ N' vs' n' lvs ln C oC mC D s', (∀ p ∈ N, p ∈ N') → At c ((C, oC) :: (D, lstO lvs ln) :: (P, lstO vs' n') :: own) N' m s₀ s' → LCg.NsObj oC mC → Rds N' vs' ((pens ds.length).map .int) → Rds N' lvs ((List.range ds.length).map F) → (∀ q ∈ (P, lstO vs' n') :: own, q.1 ≠ D ∧ q.1 ≠ C) → D ≠ C → compPost (model W.prog W.w) c.A noE use Q (.ref D) C (.ok .next) s') :
    wpAny (model W.prog W.w) c.A (comprehension (.ListComp elt [⟨.Name x px, iter, [], 0⟩] scope pos) scope c.env ipos (newList []) false (eval iter c.env) use) Q noE s := by
  obtain ⟨cl, hclos, hcl⟩ := cells_of hc ho he
  refine wpAny_comprehension_free (cl := cl) rfl (hs _) hclos ho.kind ho.names ?_
  refine wpAny_mono (hi c own N m lm s₀ s vs n ok hc hns at' he rr hown) (fun v s1 h1 => wpAny_mono h1 (fun it s2 h2 => ?_) fun _ _ x => x) fun _ _ x => x
  obtain ⟨Nm, vs1, n1, sbm, rr1, h2⟩ := h2
  obtain ⟨I, oI, fp, PP, St, N0, rfl, Wk, hfp, hPP, hIo, sb0, at0, hst, hoI⟩ := h2
  have sbN : ∀ p ∈ N, p ∈ N0 := fun p hp => sb0 p (sbm p hp)
  refine wpAny_newObj_type ?_ (Nat.zero_le _)
  have atD := at0.pushOwn { cls := .type "list", data := .seq ([] : List Value).toArray }
  have fD := at0.fresh_own
  generalize hD : s2.heap.objs.size = D at atD fD ⊢
  generalize hh1 : s2.heap.push { cls := .type "list", data := .seq ([] : List Value).toArray } = h1 at atD ⊢
  have hDlt : D < h1.objs.size := by rw [← hh1, Heap.size_push, hD]; exact Nat.lt_succ_self _
  refine wpAny_newFunctionEnv hcell (by intro y hy; simp at hy) (fun h₂ hns₂ hsb₂ => ?_) ho.kind
  dsimp only at hns₂ hsb₂ ⊢
  have keep2 : ∀ b o, h1.get? b = some o → h₂.get? b = some o := fun b o e => hsb₂.extBut b o (Nat.ne_of_lt (Heap.lt_size e)) (Heap.get?_push_of_some _ e)
  obtain ⟨oC, hoC, nC⟩ := LCg.ns_obj hns₂
  generalize hC : h1.objs.size = C at *
  have at1 : At c ((D, lstO [] 0) :: (I, oI) :: (P, lstO vs1 n1) :: own) N0 m s₀ { s2 with heap := h₂, toks := s2.toks + ([] : List (Str × Value)).length } := by
    have := (At.grow (s := { s2 with heap := h1 }) (h' := h₂) atD keep2)
    exact this.tok
  have newC : ∀ q ∈ (D, lstO [] 0) :: (I, oI) :: (P, lstO vs1 n1) :: own, q.1 ≠ C := fun q hq => by
    rw [← hC]; exact Nat.ne_of_lt (Heap.lt_size (atD.news q (List.mem_append_left _ hq)).1)
  have at2 : At c ([(C, oC), (P, lstO vs1 n1)] ++ (D, lstO [] 0) :: (I, oI) :: own) N0 m s₀ { s2 with heap := h₂, toks := s2.toks + ([] : List (Str × Value)).length } := by
    have at2' : At c ((C, oC) :: (D, lstO [] 0) :: (I, oI) :: (P, lstO vs1 n1) :: own) N0 m s₀ { s2 with heap := h₂, toks := s2.toks + ([] : List (Str × Value)).length } := atD.ownAt (Nat.le_of_eq hC) at1 hoC
    exact at2'.perm fun p hp => by
      simp only [List.mem_cons, List.mem_append, List.cons_append, List.nil_append] at hp ⊢
      rcases hp with h | h | h | h | h <;> simp [h]
  have hst2 : St 0 h₂ := Wk.frame _ _ _ hst fun b hb o e => keep2 b o (by rw [← hh1]; exact Heap.get?_push_of_some _ e)
  have hPC : P ≠ C := newC (P, lstO vs1 n1) (.tail _ (.tail _ (.head _)))
  have hPD : P ≠ D := fD (P, lstO vs1 n1) (.tail _ (.head _))
  have hPI : P ≠ I := hoI (P, lstO vs1 n1) (.head _)
  have hDC : D ≠ C := newC (D, lstO [] 0) (.head _)
  have hfm : (List.range ds.length).filterMap (fun i => some (F i)) = (List.range ds.length).map F := by rw [← List.filterMap_eq_map]; rfl
  refine comp_loop (k := k) (fun i => some (F i)) [C, P] (fun i priv => ∃ oC' mC' pvs pn, priv = [(C, oC'), (P, lstO pvs pn)] ∧ LCg.NsObj oC' mC' ∧ Rds [] pvs ((pens i).map .int)) (fun _ priv ⟨oC', mC', pvs, pn, e, _⟩ => by rw [e]; rfl) Wk hfp hPP hIo hz (he.mono sbN) ⟨oC, _, vs1, n1, rfl, nC, rr1.flat0 (flat_ints _)⟩ at2 hst2
    (fun e => fD (I, oI) (.head _) e.symm) (by simp [hDC, Ne.symm hPD]) (by have := newC (I, oI) (.tail _ (.head _)); simp at this; simp [this, Ne.symm hPI]) (fun q hq => fD q (.tail _ (.tail _ hq))) (fun q hq => hoI q (.tail _ hq)) (fun q hq => by have := newC q (.tail _ (.tail _ (.tail _ hq))); simp at this; simp [this, hown q hq])
    (fun i d v own' N' priv s' hd hg at3 rd he3 hof => ?_) (fun N' lvs ln priv s' sb hg at3 r => ?_) (by intro _; rfl)
  · obtain ⟨oC', mC', pvs, pn, rfl, nC', rp⟩ := hg
    have hCn := at3.news (C, oC') (.head _)
    have hofC : ∀ q ∈ own', q.1 ≠ C := fun q hq e => hof q hq (by simp [e])
    have hofP : ∀ q ∈ own', q.1 ≠ P := fun q hq e => hof q hq (by simp [e])
    refine wpAny_assign_Name (wpAny_storeName_local (lookup_relabel_local hx) (nC'.ns hCn.1) (fun h₃ hn₃ hs₃ => ?_) (by simp [newEnv, compEnvC, relabel, ho.kind]))
    obtain ⟨oC2, hoC2, nC2⟩ := LCg.ns_obj hn₃
    have at4 : At c ((C, oC2) :: (P, lstO pvs pn) :: own') N' m s₀ { s' with heap := h₃, toks := s'.toks + 1 } := by
      exact At.next (own := (P, lstO pvs pn) :: own') at3 (tk := s'.toks + 1) (fun b o hb e => hs₃.extBut b o (fun q => hb (List.mem_singleton.mpr q)) e) hoC2 (fun q hq => by
        rcases List.mem_cons.mp hq with rfl | hq
        · exact hPC
        · exact hofC q hq)
    let c' : Cx := { c with env := compEnvC scope cl C c.env }
    have ok' : c'.Ok W k := { ok with ek := ho.kind, eg := ok.eg, eb := ok.eb }
    have hns' : NsOk c' ((C, oC2) :: own') m (fun y => if y = x then some v else mC' y) := fun h _ N => nC2.ns (N (C, oC2) (.head _)).1
    have he' : EnvRd c' N' (fun y => if y = x then some v else mC' y) ((x, d) :: ρi) := fun p hp => by
      rcases List.mem_cons.mp hp with rfl | hp
      · exact ⟨v, rd, hno, .inl ⟨lookup_relabel_local hx, by simp⟩⟩
      · exact env_in hc ho he3 hcl p hp
    have hrel : c'.env.scope = relC scope cs := by subst hc; rfl
    refine wpAny_tests_nil ?_
    simp only [if_true]
    refine wpAny_mono (hturn i d hd c' ((C, oC2) :: own') N' m _ s₀ _ pvs pn ok' hrel hns' at4.swap.env he' rp.up (fun q hq => by
      rcases List.mem_cons.mp hq with rfl | hq
      · exact Ne.symm hPC
      · exact hofP q hq)) (fun w s4 ⟨N2, pvs2, pn2, sb2, at5, q5, r5⟩ => ?_) fun _ _ x => x
    exact ⟨_, rfl, N2, [(C, oC2), (P, lstO pvs2 pn2)], sb2, ⟨oC2, _, pvs2, pn2, rfl, nC2, q5.flat0 (flat_ints _)⟩, at5.unenv.swap, r5⟩
  · obtain ⟨oC', mC', pvs, pn, rfl, nC', rp⟩ := hg
    rw [hfm] at r
    refine hfin N' pvs pn lvs ln C oC' mC' D s' (fun p hp => sb p (sbN p hp)) (at3.perm fun p hp => ?_) nC' rp.up r (fun q hq => ?_) hDC
    · simp only [List.mem_cons, List.mem_append, List.cons_append, List.nil_append] at hp ⊢
      rcases hp with h | h | h | h <;> simp [h]
    · rcases List.mem_cons.mp hq with rfl | hq
      · exact ⟨hPD, hPC⟩
      · exact ⟨fD q (.tail _ (.tail _ hq)), newC q (.tail _ (.tail _ (.tail _ hq)))⟩
theorem EvM.comp {elt iter : Expr} {x : Str} {px pos : Pos} {scope : Scope} {ρi : PEnv} {ds es : List PV} (F : Nat → PV) (pens : Nat → List Int)
    (ho : CompOk scope cs ρ ρi) (hcell : ∀ y ∈ scope.names, y.2 ≠ .cell) (hx : scope.names.lookup x = some .local) (hno : NmOk x = true) (hz : ds.length ≤ 1000000) (hi : ItrM W k cs P ρ es iter ds ((pens 0).map .int))
    (hturn : ∀ i d, ds[i]? = some d → EvM W k (relC scope cs) P ((x, d) :: ρi) ((pens i).map .int) elt (F i) ((pens (i + 1)).map .int)) (hs : ∀ env v, foldedSetIterable iter env v = pure v) :
    EvM W k cs P ρ es (.ListComp elt [⟨.Name x px, iter, [], 0⟩] scope pos) (.lst ((List.range ds.length).map F)) ((pens ds.length).map .int) := by
  intro c own N m lm s₀ s vs n ok hc hns at' he rr hown
  rw [eval_ListComp]
  refine comp_runM F pens ho hcell hx hno hz hi hturn hs c own N m lm s₀ s vs n ok hc hns at' he rr hown (use := none) fun N' vs' n' lvs ln C oC mC D s' sb at1 nC rp r hd hDC => ?_
  refine ⟨mC, nC.ns (at1.news _ (.head _)).1, fun h' hs' => ?_⟩
  have at2 : At c ((D, lstO lvs ln) :: (P, lstO vs' n') :: own) N' m s₀ { s' with heap := h' } := at1.but hs' fun q hq => by
    rcases List.mem_cons.mp hq with rfl | hq
    · exact hDC
    · exact (hd q hq).2
  exact ⟨(D, lstO lvs ln) :: N', vs', n', fun p hp => .tail _ (sb p hp), at2.give fun q hq => (hd q hq).1, rp.mono fun p hp => .tail _ hp, .lst (.head _) r.len (by simpa using hz) (r.mono fun p hp => .tail _ hp).at'⟩
end
end Mine
end
section
open PySem PySem.W PySem.Calls PySem.Spec PyProof.Rows
set_option maxRecDepth 100000
set_option autoImplicit false
namespace Mine
noncomputable def pickI (ns : List Int) (lo : Int) (st : Int) : List Int :=
  (sliceRange (sliceBounds (some lo) none (some st) ns.length).1 (sliceBounds (some lo) none (some st) ns.length).2.1 (sliceBounds (some lo) none (some st) ns.length).2.2).filterMap (ns[·]?)
theorem intsAre_at {vs : List Value} {ns : List Int} (h : IntsAre vs ns) : ∀ i : Nat, (vs[i]? = none ∧ ns[i]? = none) ∨ ∃ n t, vs[i]? = some (.int n t) ∧ ns[i]? = some n := by
  induction h with
  | nil => intro i; exact .inl ⟨by simp, by simp⟩
  | cons n t h ih =>
    intro i
    cases i with
    | zero => exact .inr ⟨n, t, by simp, by simp⟩
    | succ i => simpa using ih i
theorem pickI_are {vs : List Value} {ns : List Int} (h : IntsAre vs ns) (lo st : Int) : IntsAre (slicePick vs.toArray (some lo) none (some st)).toList (pickI ns lo st) := by
  have hl : vs.toArray.size = ns.length := by simp [h.length]
  unfold slicePick pickI
  rw [hl]
  generalize sliceRange _ _ _ = idx
  show IntsAre (idx.filterMap fun x => vs.toArray[x]?) _
  induction idx with
  | nil => exact .nil
  | cons i idx ih =>
    simp only [List.filterMap_cons, List.getElem?_toArray]
    simp only [List.getElem?_toArray] at ih
    rcases intsAre_at h i with ⟨h1, h2⟩ | ⟨n, t, h1, h2⟩
    · rw [h1, h2]; exact ih
    · rw [h1, h2]; exact .cons n t ih
theorem intsAre_rds {N : Led} {vs : List Value} {ns : List Int} (h : IntsAre vs ns) : Rds N vs (ns.map .int) := by
  induction h with
  | nil => exact .nil
  | cons n t h ih => exact .cons (.int n t) ih
theorem pickI_len (ns : List Int) (lo st : Int) (svs : List Value) (h : IntsAre svs ns) : (pickI ns lo st).length ≤ ns.length := by
  have := (pickI_are h lo st).length
  have q := slicePick_size_le svs.toArray (some lo) none (some st)
  rw [← this, Array.length_toList, ← h.length]
  simpa using q
theorem EnvRd.cut {c : Cx} {N : Led} {lm : Str → Option Value} {ρ : PEnv} {a : Addr} (h : EnvRd c N lm ρ) (hl : ∀ p ∈ ρ, c.env.kindOf p.1 = some .local) (hc : ∀ p ∈ N, p.1 = a → ∃ u, p.2.data = .cell u) : EnvRd c (N.filter fun p => p.1 != a) lm ρ := fun p hp => by
  obtain ⟨v, r, hno, q⟩ := h p hp
  refine ⟨v, r.cut hc, hno, ?_⟩
  rcases q with q | ⟨q | q, _⟩
  · exact .inl q
  · rw [hl p hp] at q; cases q
  · rw [hl p hp] at q; cases q
section
variable {W : Wd} {k : Nat} {cs : Scope} {ρ : PEnv} {P V : Addr}
theorem Ev.slice_sc {x y : Str} {xp yp cp sp pos : Pos} {kd : Nat} {i j : Int} (hx : (x, .adr W.sc) ∈ ρ) (hy : (y, .int i) ∈ ρ) (hj : j ≠ 0) (hI : IntsAre W.svs W.ns) (hz : W.ns.length ≤ 1000)
    (hs : ∀ o r, ∃ ops, subscripted (.Slice (some (.Name y yp)) Option.none (some (.Constant (.int j) kd cp)) sp) false (.ref o) (.ref r) = operate ops (getItem (.ref o) (.ref r))) :
    Ev W k cs ρ (.Subscript (.Name x xp) (.Slice (some (.Name y yp)) Option.none (some (.Constant (.int j) kd cp)) sp) pos) (.lst ((pickI W.ns i j).map .int)) := by
  intro c own N m lm s₀ s ok hc hns at' he
  refine Subscript_ (Ev.use (Ev.name hx) ok hc hns at' he fun a s1 N1 sb1 at1 r1 => ?_)
  obtain rfl := r1.adr_inv
  refine PySem.wpAny_Slice ?_
  rw [evalPart_some]
  refine Ev.use (Ev.name hy) ok hc hns at1 (he.mono sb1) fun vl s2 N2 sb2 at2 r2 => ?_
  rw [evalPart_none]
  refine wpAny_pure ?_
  rw [evalPart_some]
  refine Ev.use (Ev.int (kd := kd) (pos := cp)) ok hc hns at2 (he.mono fun p hp => sb2 p (sb1 p hp)) fun vk s3 N3 sb3 at3 r3 => ?_
  cases r2 with
  | int _ tl =>
  obtain ⟨tk, rfl⟩ := r3.int_inv
  have hL3 : s3.heap.IsList W.sc W.svs.toArray := by
    obtain ⟨o, e, r⟩ := ok.scr
    exact ⟨o, at3.fr.keep _ _ e, r⟩
  have hp := pickI_are hI i j
  have hle := pickI_len W.ns i j W.svs hI
  obtain ⟨ops, hops⟩ := hs W.sc s3.heap.objs.size
  refine kmk_slice3_lit (lo := some i) (hi := Option.none) (st := some j) at3.fr at3.news hL3 (.int _ _) .none (.int _ _) (by simpa using hj) rfl (fun D h' F' N' hlt => ?_) hops (fun _ => rfl) (by rw [List.size_toArray, hI.length]; exact Nat.le_trans hz (by decide))
  have sb : ∀ p ∈ N, p ∈ N3 := fun p hp => sb3 p (sb2 p (sb1 p hp))
  refine ⟨(D, lstO (slicePick W.svs.toArray (some i) Option.none (some j)).toList 0) :: N3, fun p hp => .tail _ (sb p hp), ⟨by obtain ⟨h2, t2, e⟩ := at3.same; rw [e]; exact ⟨_, _, rfl⟩, F', fun p hp => ?_, fun p hp q hq => ?_⟩, ?_⟩
  · rcases List.mem_append.mp hp with hp | hp
    · exact N' p (.tail _ (List.mem_append_left _ hp))
    · rcases List.mem_cons.mp hp with rfl | hp
      · exact N' _ (by simp [lstO, PySem.W.listOf])
      · exact N' p (.tail _ (List.mem_append_right _ hp))
  · rcases List.mem_cons.mp hp with rfl | hp
    · exact Ne.symm (Nat.ne_of_lt (hlt q (List.mem_append_left _ hq)))
    · exact at3.disj p hp q hq
  · have rs : Rds N3 (slicePick W.svs.toArray (some i) Option.none (some j)).toList ((pickI W.ns i j).map .int) := intsAre_rds hp
    exact .lst (.head _) rs.len (by simp; omega) (rs.mono fun p hp => .tail _ hp).at'
theorem add_own {l r : Expr} {pos : Pos} {ds es : List PV} (h1 : Ev W k cs ρ l (.lst ds)) (h2 : Ev W k cs ρ r (.lst es)) (hz : (ds ++ es).length ≤ 1000000)
    (c : Cx) (own N : Led) (m lm : Str → Option Value) (s₀ s : Shared) (ok : c.Ok W k) (hc : c.env.scope = cs) (hns : NsOk c own m lm) (at' : At c own N m s₀ s) (he : EnvRd c N lm ρ) :
    wpAny (model W.prog W.w) c.A (eval (.BinOp l .Add r pos) c.env) (fun v s' => ∃ D N' vs, v = .ref D ∧ (∀ p ∈ N, p ∈ N') ∧ At c ((D, lstO vs 0) :: own) N' m s₀ s' ∧ Rds N' vs (ds ++ es) ∧ ∀ q ∈ own, q.1 ≠ D) noE s := by
  refine wpAny_BinOp (Ev.use (h1) ok hc hns at' he fun a s1 N1 sb1 at1 r1 => ?_)
  refine Ev.use (h2) ok hc hns at1 (he.mono sb1) fun b s2 N2 sb2 at2 r2 => ?_
  obtain ⟨a, vs, n, hm, hl, _, hr, rfl⟩ := r1.lst_inv
  ·
    obtain ⟨b, ws, n', hm', hl', _, hr', rfl⟩ := r2.lst_inv
    ·
      refine add_arrays at2.fr at2.news (at2.isList (sb2 _ hm)) (at2.isList hm') (fun h' F' N' => ?_) (by simp only [List.size_toArray, hl, hl']; simp at hz; exact Nat.le_trans hz (by decide))
      refine ⟨s2.heap.objs.size, N2, vs ++ ws, rfl, fun p hp => sb2 p (sb1 p hp), ⟨by obtain ⟨h2, t2, e⟩ := at2.same; rw [e]; exact ⟨_, _, rfl⟩, F', fun p hp => ?_, fun p hp q hq => ?_⟩, ?_, at2.fresh_own⟩
      · rcases List.mem_append.mp hp with hp | hp
        · rcases List.mem_cons.mp hp with rfl | hp
          · exact N' _ (by simp [lstO])
          · exact N' p (.tail _ (List.mem_append_left _ hp))
        · exact N' p (.tail _ (List.mem_append_right _ hp))
      · rcases List.mem_cons.mp hq with rfl | hq
        · exact Nat.ne_of_lt (Heap.lt_size (at2.news p (List.mem_append_right _ hp)).1)
        · exact at2.disj p hp q hq
      · exact Rds.app (⟨hl, fun i v d a b => (hr i v d a b).mono sb2⟩ : Rds N2 vs ds) (⟨hl', hr'⟩ : Rds N2 ws es)
noncomputable def StV (c : Cx) (P V : Addr) (own N : Led) (m : Str → Option Value) (s₀ : Shared) (es ws : List PV) (s : Shared) : Prop :=
  ∃ vs n us un, At c ((P, lstO vs n) :: (V, lstO us un) :: own) N m s₀ s ∧ Rds N vs es ∧ Rds [] us ws ∧ P ≠ V ∧ (∀ q ∈ own, q.1 ≠ P ∧ q.1 ≠ V)
noncomputable def ExV (W : Wd) (k : Nat) (cs : Scope) (P V : Addr) (ρ : PEnv) (es : List PV) (ss : List Stmt) (ρ' : PEnv) (d : PV) : Prop :=
  ∀ (c : Cx) (own N : Led) (m : Str → Option Value) (s₀ s : Shared) (ws : List PV), c.Ok W k → c.env.scope = cs → c.env.locals = c.L → ws.length ≤ 1000 → StV c P V own N m s₀ es ws s → EnvRd c N m ρ →
    wpAny (model W.prog W.w) c.A (execs ss c.env) (fun f s' => f = .next ∧ ∃ N' m' es', (∀ p ∈ N, p ∈ N') ∧ StV c P V own N' m' s₀ es' (ws ++ [d]) s' ∧ EnvRd c N' m' ρ') noE s
theorem ExV.assign {es es' : List PV} {x : Str} {p1 pos : Pos} {e : Expr} {d0 d : PV} {ρ1 ρ' : PEnv} {rest : List Stmt} (hx : cs.names.lookup x = some .local) (hno : NmOk x = true) (h : EvM W k cs P ρ es e d0 es') (hu : Upd x d0 ρ ρ1) (hr : ExV W k cs P V ρ1 es' rest ρ' d)
    (hsw : ∀ env, swapsWith e (some (.Name x p1)) pos.line env = pure false) : ExV W k cs P V ρ es (.Assign [.Name x p1] e pos :: rest) ρ' d := by
  intro c own N m s₀ s ws ok hc hL hw ⟨vs, n, us, un, at', r, q, hPV, hown⟩ he
  have hx' : c.env.kindOf x = some .local := by subst hc; exact hx
  have hown' : ∀ q ∈ (V, lstO us un) :: own, q.1 ≠ P := fun q hq => by
    rcases List.mem_cons.mp hq with rfl | hq
    · exact Ne.symm hPV
    · exact (hown q hq).1
  refine wpAny_execs_cons (wpAny_Assign_Name (EvM.use (h) ok hc (nsOk_L hL) at' he r hown' fun v s1 N1 vs1 n1 sb1 at1 q1 r1 => ?_) (hsw _))
  refine store_rule ok hL hx' at1 fun s2 at2 => ?_
  refine wpAny_mono (hr c own N1 _ s₀ s2 ws ok hc hL hw ⟨vs1, n1, us, un, at2, q1, q, hPV, hown⟩ ((he.mono sb1).upd hu r1 hx' hno)) (fun f s3 ⟨hf, N2, m2, es2, sb2, z⟩ => ?_) fun _ _ x => x
  exact ⟨hf, N2, m2, es2, fun p hp => sb2 p (sb1 p hp), z⟩
theorem ExV.ite {es : List PV} {t : Expr} {b o : List Stmt} {pos : Pos} {tb : Bool} {d : PV} {ρ' : PEnv} (ht : Ts W k cs ρ t tb) (h1 : tb = true → ExV W k cs P V ρ es b ρ' d) (h2 : tb = false → ExV W k cs P V ρ es o ρ' d) : ExV W k cs P V ρ es [.If t b o pos] ρ' d := by
  intro c own N m s₀ s ws ok hc hL hw ⟨vs, n, us, un, at', r, q, hPV, hown⟩ he
  rw [exec_If_eq]
  refine wpAny_bind (wpAny_standAt (wpAny_bind (wpAny_mono (ht c _ N m m s₀ s ok hc (nsOk_L hL) at' he) (fun t' s1 h1' => ?_) fun _ _ x => x)))
  obtain ⟨rfl, N1, sb1, at1⟩ := h1'
  have st1 : StV c P V own N1 m s₀ es ws s1 := ⟨vs, n, us, un, at1, r.mono sb1, q, hPV, hown⟩
  cases t' with
  | true =>
    simp only [if_true, List.append_nil]
    exact wpAny_mono (h1 rfl c own N1 m s₀ s1 ws ok hc hL hw st1 (he.mono sb1)) (fun f s3 ⟨hf, N2, m2, es2, sb2, z⟩ => ⟨hf, N2, m2, es2, fun p hp => sb2 p (sb1 p hp), z⟩) fun _ _ x => x
  | false =>
    simp only [Bool.false_eq_true, if_false, List.append_nil]
    exact wpAny_mono (h2 rfl c own N1 m s₀ s1 ws ok hc hL hw st1 (he.mono sb1)) (fun f s3 ⟨hf, N2, m2, es2, sb2, z⟩ => ⟨hf, N2, m2, es2, fun p hp => sb2 p (sb1 p hp), z⟩) fun _ _ x => x
theorem ExV.append {es es' : List PV} {x : Str} {xp ap cp ep : Pos} {e : Expr} {d : PV} {ρ' : PEnv} (hm : (x, .adr V) ∈ ρ) (h : EvM W k cs P ρ es e d es') (hf : flat d = true) (hsub : ∀ p ∈ ρ', p ∈ ρ)
    (he' : ∀ env, ∃ pl, eval (.Call (.Attribute (.Name x xp) "append" ap) [e] [] cp) env = (do
      let ov ← eval (.Name x xp) env
      standAt ap.atName
      let (f, first) ← holding [ov] (getMethod ov "append" pl)
      callWith cp f first (backTo cp (starEach [e] env)) []))
    (hp : ∀ env, starEach [e] env = (false, eval e env) :: starEach [] env)
    (hs : ∀ env, swapsWith (.Call (.Attribute (.Name x xp) "append" ap) [e] [] cp) none ep.line env = pure false) : ExV W k cs P V ρ es [.Expr (.Call (.Attribute (.Name x xp) "append" ap) [e] [] cp) ep] ρ' d := by
  intro c own N m s₀ s ws ok hc hL hw ⟨vs, n, us, un, at', r, q, hPV, hown⟩ hev
  have hown' : ∀ q ∈ (V, lstO us un) :: own, q.1 ≠ P := fun q hq => by
    rcases List.mem_cons.mp hq with rfl | hq
    · exact Ne.symm hPV
    · exact (hown q hq).1
  obtain ⟨pl, hpl⟩ := he' c.env
  have hi : interactive c.env = false := by unfold interactive; rw [ok.ek]; rfl
  refine wpAny_execs_cons (wpAny_Expr ?_ hi (hs _))
  refine MethodCall_ (pl := pl) (Ev.use (Ev.name hm) ok hc (nsOk_L hL) at' hev fun v s1 N1 sb1 at1 r1 => ?_) hpl
  obtain rfl := r1.adr_inv
  refine getMethod_list_append (at1.news (V, lstO us un) (.tail _ (.head _))).1 rfl rfl ?_
  refine callWith_method1 ?_ (hp _) rfl
  rw [hp]
  refine spliced_cons (EvM.use (h) ok hc (nsOk_L hL) at1 (hev.mono sb1) (r.mono sb1) hown' fun v s2 N2 vs2 n2 sb2 at2 q2 r2 => ?_)
  refine wpAny_pure ?_
  refine append_at (at2.news (V, lstO us un) (.tail _ (.head _))).1 (fun h' hs' hD => ?_) (by rw [List.size_toArray, q.len]; exact Nat.le_trans hw (by decide))
  have sb : ∀ p ∈ N, p ∈ N2 := fun p hp => sb2 p (sb1 p hp)
  have at3 := at2.swap.next (oI' := lstO (us ++ [v]) (un + 1)) (tk := s2.toks) (fun b o hb e => hs'.extBut b o (by simpa using hb) e) (by rw [hD, List.push_toArray]) (fun q hq => by
    rcases List.mem_cons.mp hq with rfl | hq
    · exact hPV
    · exact (hown q hq).2)
  exact wpAny_execs_nil ⟨rfl, N2, m, es', sb, ⟨vs2, n2, us ++ [v], un + 1, at3.swap, q2, q.app (.cons (r2.flat0 hf) .nil), hPV, hown⟩, (hev.mono sb).sub hsub⟩
theorem ExV.conv {es : List PV} {ss : List Stmt} {ρ' : PEnv} {d d' : PV} (h : ExV W k cs P V ρ es ss ρ' d) (q : d = d') : ExV W k cs P V ρ es ss ρ' d' := q ▸ h
end
end Mine
end
section
open PySem PySem.W PySem.Calls PySem.Spec PyProof.Rows
set_option maxRecDepth 10000
set_option maxHeartbeats 1000000
set_option autoImplicit false
namespace Mine

theorem pow63 : (2 : Int) ^ (63 : Int).toNat = 9223372036854775808 := by decide
theorem mulOk {a b : Int} (h1 : -18446744073709551616 < a) (h2 : a < 18446744073709551616) (h3 : -18446744073709551616 < b) (h4 : b < 18446744073709551616) : IntMulOk a b :=
  IntMulOk.of_bits (Nat.le_trans (PyProof.Rows.intBits_le (k := 64) (by omega)) (by decide)) (Nat.le_trans (PyProof.Rows.intBits_le (k := 64) (by omega)) (by decide))
noncomputable def StrIs (x : Str) (l : List Nat) : Prop := x = ⟨l.toArray⟩ ∧ l.length ≤ 1000000
theorem Ev.txt {W : Wd} {k : Nat} {cs : Scope} {ρ : PEnv} {x : Str} {l : List Nat} {kd : Nat} {pos : Pos} (h : StrIs x l) : Ev W k cs ρ (.Constant (.str x) kd pos) (.str l) := Ev.str h.1 h.2
theorem cs30 : StrIs (Str.ofString "0") [48] := ⟨by decide +kernel, by decide⟩
theorem cs39 : StrIs (Str.ofString "9") [57] := ⟨by decide +kernel, by decide⟩
theorem cs65 : StrIs (Str.ofString "e") [101] := ⟨by decide +kernel, by decide⟩
theorem cs45 : StrIs (Str.ofString "E") [69] := ⟨by decide +kernel, by decide⟩
theorem cs2b : StrIs (Str.ofString "+") [43] := ⟨by decide +kernel, by decide⟩
theorem cs2d : StrIs (Str.ofString "-") [45] := ⟨by decide +kernel, by decide⟩
theorem cs20 : StrIs (Str.ofString " ") [32] := ⟨by decide +kernel, by decide⟩
theorem cs09 : StrIs (Str.ofString "\t") [9] := ⟨by decide +kernel, by decide⟩
theorem cs0a : StrIs (Str.ofString "\n") [10] := ⟨by decide +kernel, by decide⟩
theorem cs0d : StrIs (Str.ofString "\r") [13] := ⟨by decide +kernel, by decide⟩
theorem cs0b : StrIs (Str.ofString "\x0b") [11] := ⟨by decide +kernel, by decide⟩
theorem cs0c : StrIs (Str.ofString "\x0c") [12] := ⟨by decide +kernel, by decide⟩
theorem cs2e : StrIs (Str.ofString ".") [46] := ⟨by decide +kernel, by decide⟩
theorem cs : StrIs (Str.ofString "") [] := ⟨by decide +kernel, by decide⟩
theorem cs31 : StrIs (Str.ofString "1") [49] := ⟨by decide +kernel, by decide⟩
theorem cs696e74 : StrIs (Str.ofString "int") [105, 110, 116] := ⟨by decide +kernel, by decide⟩
theorem cs737472696e67 : StrIs (Str.ofString "string") [115, 116, 114, 105, 110, 103] := ⟨by decide +kernel, by decide⟩
theorem cs6e756c6c : StrIs (Str.ofString "null") [110, 117, 108, 108] := ⟨by decide +kernel, by decide⟩
theorem cs626f6f6c : StrIs (Str.ofString "bool") [98, 111, 111, 108] := ⟨by decide +kernel, by decide⟩
theorem cs6172726179 : StrIs (Str.ofString "array") [97, 114, 114, 97, 121] := ⟨by decide +kernel, by decide⟩
theorem cs6f626a656374 : StrIs (Str.ofString "object") [111, 98, 106, 101, 99, 116] := ⟨by decide +kernel, by decide⟩
theorem cs41 : StrIs (Str.ofString "A") [65] := ⟨by decide +kernel, by decide⟩
theorem cs5a : StrIs (Str.ofString "Z") [90] := ⟨by decide +kernel, by decide⟩
theorem cs61 : StrIs (Str.ofString "a") [97] := ⟨by decide +kernel, by decide⟩
theorem cs7a : StrIs (Str.ofString "z") [122] := ⟨by decide +kernel, by decide⟩
theorem cs30313233343536373839 : StrIs (Str.ofString "0123456789") [48, 49, 50, 51, 52, 53, 54, 55, 56, 57] := ⟨by decide +kernel, by decide⟩
theorem cs30313239 : StrIs (Str.ofString "0129") [48, 49, 50, 57] := ⟨by decide +kernel, by decide⟩
theorem cs3031323961422d20 : StrIs (Str.ofString "0129aB- ") [48, 49, 50, 57, 97, 66, 45, 32] := ⟨by decide +kernel, by decide⟩
local macro_rules | `(tactic| walk_at "my txt") => `(tactic| with_reducible first
  | exact cs30
  | exact cs39
  | exact cs65
  | exact cs45
  | exact cs2b
  | exact cs2d
  | exact cs20
  | exact cs09
  | exact cs0a
  | exact cs0d
  | exact cs0b
  | exact cs0c
  | exact cs2e
  | exact cs
  | exact cs31
  | exact cs696e74
  | exact cs737472696e67
  | exact cs6e756c6c
  | exact cs626f6f6c
  | exact cs6172726179
  | exact cs6f626a656374
  | exact cs41
  | exact cs5a
  | exact cs61
  | exact cs7a
  | exact cs30313233343536373839
  | exact cs30313239
  | exact cs3031323961422d20)
local macro_rules | `(tactic| tb_start) => `(tactic| first
  | with_reducible exact List.mem_cons_self
  | (with_reducible refine List.mem_cons_of_mem _ ?_; tb_start))
local macro_rules | `(tactic| walk_at "my op") => `(tactic| with_reducible first
  | exact op_add
  | exact op_sub
  | exact op_neg
  | exact op_iadd
  | exact op_not
  | exact op_blt
  | exact op_bgt
  | exact op_bne
  | exact op_bne_int
  | refine' op_fdiv ?_ ?_
  | exact op_lt
  | exact op_le
  | exact op_gt
  | exact op_ge
  | exact op_eq
  | exact op_ne
  | exact op_slt
  | exact op_sgt
  | exact op_sle
  | exact op_seq
  | exact op_sne
  | exact op_is_none
  | exact op_isnot_none
  | refine' op_is_bool ?_
  | refine' op_eq_lst ?_ ?_
  | refine' op_add_lst ?_
  | refine' op_in_tup ?_ ?_
  | refine' op_notin_tup ?_ ?_
  | refine' op_mul ?_
  | refine' op_mod ?_
  | refine' op_pow ?_ ?_ ?_)
local macro_rules | `(tactic| walk_at "my off") => `(tactic| first
  | with_reducible exact Off.nil
  | (with_reducible refine Off.cons ?a ?b; (case a => decide +kernel); (case b => walk_at "my off")))
local macro_rules | `(tactic| walk_at "my upd") => `(tactic| first
  | with_reducible exact Upd.nil
  | (with_reducible refine Upd.hit ?_; walk_at "my off")
  | (with_reducible refine' Upd.miss ?a ?b; (case a => decide +kernel); (case b => walk_at "my upd")))
local macro_rules | `(tactic| walk_at "my ev") => `(tactic| first
  | (with_reducible refine' Ev.name ?hm; (case hm => tb_start))
  | with_reducible exact Ev.int
  | (with_reducible refine' Ev.txt ?hm; (case hm => walk_at "my txt"))
  | (with_reducible first | exact Ev.bool | exact Ev.none)
  | ((with_reducible show Ev _ _ _ _ (.Call (.Name _ _) (_ :: _) _ _) _); walk_at "my blt")
  | (with_reducible first | refine' Ev.call ?_ ?_ ?_ ?_ ?_ ?_ ?_ | refine' Ev.call0 ?_ ?_ ?_ ?_ | refine' Ev.cmp ?_ ?_ ?_ ?_)
  | ((with_reducible show Ev _ _ _ _ (.Call (.Attribute _ _ _) _ _ _) _); with_reducible first
    | refine' Ev.mLstrip ?_ ?_ ?_ ?_ ?_
    | refine' Ev.mStrip ?_ ?_ ?_ ?_ ?_
    | refine' Ev.mLower ?_ ?_ ?_
    | refine' Ev.mIndex ?_ ?_ ?_ ?_ ?_ ?_)
  | (with_reducible refine' Ev.binop ?_ ?_ ?_)
  | ((with_reducible show Ev _ _ _ _ (.Subscript (.Call _ _ _ _) _ _) _); with_reducible refine' Ev.item_tup ?_ ?_ ?_ ?_ ?_)
  | (with_reducible refine' Ev.slice_str ?_ ?_ ?_ ?_ ?_ ?_)
  | ((with_reducible show Ev _ _ _ _ (.Subscript (.Subscript _ _ _) _ _) _); with_reducible refine' Ev.item_lst ?_ ?_ ?_ ?_ ?_)
  | ((with_reducible show Ev _ _ _ _ (.Subscript (.List _ _) _ _) _); with_reducible refine' Ev.item_lst ?_ ?_ ?_ ?_ ?_)
  | (with_reducible refine' Ev.item_lst (Ev.name ?hm) ?_ ?_ ?_ ?_; (case hm => tb_start))
  | (with_reducible first | refine' Ev.item_str ?_ ?_ ?_ ?_ ?_ | refine' Ev.unop ?_ ?_ | refine' Ev.tuple ?_ ?_ | refine' Ev.ifeG ?_ ?_ | refine' Ev.list ?_ ?_ | refine' Ev.bool_one ?_ | refine' Ev.andG ?_ ?_ | refine' Ev.orG ?_ ?_ | refine' Ev.chain2 ?_ ?_ ?_ ?_ ?_ ?_))
local macro_rules | `(tactic| walk_at "my ts") => `(tactic| with_reducible first
  | refine' Ts.cmp ?_ ?_ ?_ ?_
  | exact Ts.and_nil
  | exact Ts.or_nil
  | refine' Ts.andG ?_ ?_
  | refine' Ts.orG ?_ ?_
  | refine' Ts.not ?_
  | refine' Ts.chain2 ?_ ?_ ?_ ?_ ?_ ?_
  | refine' Ts.plain ?_ ?_)
local macro_rules | `(tactic| walk_at "my ex") => `(tactic| first
  | (with_reducible first
    | refine' Ex.retG ?_ ?_
    | refine' Ex.ret (Ev.conv ?_ ?_)
    | refine' Ex.iteG ?_ ?_
    | refine' Ex.assignG ?_ ?_ ?_ ?_ ?_
    | refine' Ex.assign ?_ ?_ ?_ ?_ ?_ ?_
    | refine' Ex.pair ?_ ?_ ?_ ?_ ?_ ?_ ?_ ?_ ?_ ?_
    | refine' Ex.aug ?_ ?_ ?_ ?_ ?_ ?_
    | refine' Ex.conv Ex.nil ?_)
  | ((with_reducible show Ex _ _ _ _ (_ ++ _) _); dsimp only [List.cons_append, List.nil_append])
  | (exfalso; walk_at "my side"))
local macro_rules | `(tactic| walk_at "my rest") => `(tactic| first
  | ((with_reducible first | show @Eq (Option NameKind) _ _ | show NmOk _ = true); decide +kernel)
  | ((with_reducible show @Membership.mem (Str × PV) _ _ _ _); tb_start)
  | with_reducible first | exact (Eq.refl _ : @Eq PV _ _) | exact (Eq.refl _ : @Eq Out _ _)
  | ((with_reducible first | show behindInMarks _ _ = false | show lastMarks _ _ = false); exact rfl)
  | ((with_reducible show (@BEq.beq Str _ _ _) = false); decide +kernel)
  | ((with_reducible show ∀ _, ∃ _, eval _ _ = _); intro _; exact ⟨_, rfl⟩)
  | ((with_reducible first | show ∀ _, starEach _ _ = _ | show ∀ _, List.any _ _ = false | show ∀ _, swapsWith _ _ _ _ = _ | show ∀ _, swapsWithSole _ _ _ _ = _); intro _; exact rfl)
  | ((with_reducible show ∀ _, _ → swappedStores _ _ _ = _); intro env he; cases env; cases he; exact rfl)
  | ((with_reducible first | show ∀ _ _, subscripted _ _ _ _ = _ | show ∀ _ _, isTrue _ _ _ = _ | show ∀ _ _, letTemporaryGo _ _ _ = _); intro _ _; exact rfl)
  | ((with_reducible show @LE.le Nat _ _ _); first | decide | exact Nat.le_of_ble_eq_true rfl | omega)
  | ((with_reducible first | show @LE.le Int _ _ _ | show @LT.lt Int _ _ _); walk_at "my side")
  | ((with_reducible show @LT.lt Nat _ _ _); first | decide | omega)
  | ((with_reducible show @Ne Int _ _); walk_at "my side")
  | ((with_reducible show IntMulOk _ _); (refine mulOk ?_ ?_ ?_ ?_ <;> walk_at "my side"))
  | ((with_reducible show flat _ = true); first | with_reducible assumption | exact rfl | with_reducible exact V.flat _)
  | ((with_reducible first | show List.all _ flat = true | show @Eq (Option PV) _ _); exact rfl)
  | with_reducible first | exact Pt.no | refine' Pt.yes ?_
  | ((with_reducible show ∀ _, @Eq (Option Int) (some _) (some _) → @LE.le Int _ _ _); intro _ hs; injection hs with hs; subst hs; walk_at "my side")
  | ((with_reducible show ∀ _, @Eq (Option Int) none (some _) → @LE.le Int _ _ _); intro _ hs; cases hs)
  | ((with_reducible first | show PT _ | show Dom _ | show isD _ = true | show @Membership.mem Int _ _ _ _); assumption))
local macro_rules | `(tactic| tb_rel) => `(tactic| ((with_reducible show (_ : Prop)); first
  | ((with_reducible show Ev _ _ _ _ _ _); walk_at "my ev")
  | ((with_reducible show Evs _ _ _ _ _ _); first
    | (with_reducible exact Evs.nil)
    | (with_reducible refine' Evs.cons ?_ ?_ ?_))
  | ((with_reducible show Ts _ _ _ _ _ _); walk_at "my ts")
  | ((with_reducible show Ex _ _ _ _ _ _); walk_at "my ex")
  | ((with_reducible show IteGo _ _ _); first
    | refine' IteGo.t rfl ?_
    | refine' IteGo.f rfl ?_
    | refine' IteGo.both (fun h => ?_) (fun h => ?_))
  | ((with_reducible show AndGo _ _ _); first
    | exact AndGo.f rfl
    | refine' AndGo.t rfl ?_
    | refine' AndGo.both (fun h => ?_))
  | ((with_reducible show OrGo _ _ _); first
    | exact OrGo.t rfl
    | refine' OrGo.f rfl ?_
    | refine' OrGo.both (fun h => ?_))
  | ((with_reducible show EvC _ _ _ _ _ _); first | with_reducible refine' EvC.ifeG ?_ ?_ | refine' EvC.of ?_ ?_)
  | ((with_reducible show ∃ _ _, Ev _ _ _ _ _ _ ∧ _); refine' ⟨_, _, ?_, ?_, ?_⟩)
  | ((with_reducible show Op2 _ _ _ _ _); walk_at "my op")
  | ((with_reducible show Op1 _ _ _ _); walk_at "my op")
  | ((with_reducible show Upd _ _ _ _); walk_at "my upd")
  | ((with_reducible show CallOf _ _ _ _ _); with_reducible walk_at "my call")
  | ((with_reducible show CallTo _ _ _ _ _); with_reducible first
    | exact call_len_str | exact call_len_lst | exact call_ord | refine' call_chr ?_ ?_ | exact call_abs | exact call_max | exact call_int_i | exact call_int_b | exact call_str_s)
  | walk_at "my rest"))
local macro_rules | `(tactic| walk_at "my side") => `(tactic| first
  | omega
  | ((try dsimp only [isNone, isBoolV, isIntV, isStrV] at *); (try simp only [decide_eq_true_eq, decide_eq_false_iff_not, Bool.and_eq_true, Bool.not_eq_true', Bool.not_eq_false', Bool.not_eq_true, Bool.not_eq_false, beq_iff_eq, bne_iff_ne, pow63, pow53, Int.not_lt, Int.not_le, Bool.false_eq_true, reduceCtorEq, nat_lt1] at *); omega)
  | (dsimp only [isNone, isBoolV, isIntV, isStrV] at *; contradiction)
  | decide)
local macro_rules | `(tactic| walk_at "my sub") => `(tactic| first
  | exact List.forall_mem_nil _
  | (refine List.forall_mem_cons.mpr ⟨?a, ?b⟩; (case a => tb_start); (case b => walk_at "my sub")))
local macro_rules | `(tactic| walk_at "my def") => `(tactic| ((case n0 => (intro _ _ _ _ _ _ _ _ _; repeat' (first | exact rfl | intro _))); (case n1 => decide +kernel); (case n2 => decide +kernel); (case n3 => decide +kernel); (case n4 => decide +kernel); (case' b => dsimp only [List.map, List.zip, List.zipWith])))
noncomputable def sAt (i : Nat) : Stmt := PySem.Challenge.pw_pq0831_01.main.body.getD i (.Pass default)
structure Tops (W : Wd) : Prop where
  defs : ∀ i ∈ [7, 8, 12, 13, 14, 15, 16, 17, 18, 19, 41, 43, 44, 48, 49, 51, 52, 55, 56, 57, 60, 61, 62, 67, 68, 69, 70, 71, 72, 73, 74, 76, 77, 78, 79, 80, 81, 82, 83, 84, 85, 86, 87, 88, 89, 90], DefOf W (sAt i)
  blt : ∀ x ∈ (["len", "ord", "chr", "abs", "max", "sum", "int", "str", "bool", "isinstance", "range", "enumerate"] : List Str), nsIn W.K mainGlobals x = some none
  objC : ∃ C, nsIn W.K mainGlobals "Obj" = some (some (.ref C)) ∧ ∀ t ∈ ["NoneType", "bool", "int", "str"], kitOne W.K (.type t) (.ref C) = some false
  isT : ∀ t ∈ ["NoneType", "bool", "int", "str"], kitOne W.K (.type t) (.type "bool") = some (t == "bool") ∧ kitOne W.K (.type t) (.type "int") = some (t == "int" || t == "bool") ∧ kitOne W.K (.type t) (.type "str") = some (t == "str")
theorem tyOf_mem {d : PV} (hf : flat d = true) : tyOf d ∈ ["NoneType", "bool", "int", "str"] := by cases d <;> first | (cases hf; done) | simp [tyOf]
section
variable {W : Wd} {k : Nat} {cs : Scope} {ρ : PEnv}
theorem Ev.lenB {np pos : Pos} {e : Expr} {es : List Expr} {ds : List PV} {r : PV} (T : Tops W) (hl : cs.names.lookup ("len" : Str) = some .globalImplicit) (h : Evs W k cs ρ (e :: es) ds) (hc : CallTo W 0 (.builtin "len") ds r)
    (hp : ∀ env, starEach (e :: es) env = (false, eval e env) :: starEach es env) (hn : ∀ env, (backTo pos (starEach es env)).any (·.1) = false) : Ev W k cs ρ (.Call (.Name "len" np) (e :: es) [] pos) r :=
  callBlt_rule (T.blt _ (by simp)) Boot.len hl h (hc.mono (Nat.zero_le _)) (by decide +kernel) (by decide +kernel) hp hn
theorem Ev.ordB {np pos : Pos} {e : Expr} {es : List Expr} {ds : List PV} {r : PV} (T : Tops W) (hl : cs.names.lookup ("ord" : Str) = some .globalImplicit) (h : Evs W k cs ρ (e :: es) ds) (hc : CallTo W 0 (.builtin "ord") ds r)
    (hp : ∀ env, starEach (e :: es) env = (false, eval e env) :: starEach es env) (hn : ∀ env, (backTo pos (starEach es env)).any (·.1) = false) : Ev W k cs ρ (.Call (.Name "ord" np) (e :: es) [] pos) r :=
  callBlt_rule (T.blt _ (by simp)) Boot.ord hl h (hc.mono (Nat.zero_le _)) (by decide +kernel) (by decide +kernel) hp hn
theorem Ev.chrB {np pos : Pos} {e : Expr} {es : List Expr} {ds : List PV} {r : PV} (T : Tops W) (hl : cs.names.lookup ("chr" : Str) = some .globalImplicit) (h : Evs W k cs ρ (e :: es) ds) (hc : CallTo W 0 (.builtin "chr") ds r)
    (hp : ∀ env, starEach (e :: es) env = (false, eval e env) :: starEach es env) (hn : ∀ env, (backTo pos (starEach es env)).any (·.1) = false) : Ev W k cs ρ (.Call (.Name "chr" np) (e :: es) [] pos) r :=
  callBlt_rule (T.blt _ (by simp)) Boot.chr hl h (hc.mono (Nat.zero_le _)) (by decide +kernel) (by decide +kernel) hp hn
theorem Ev.absB {np pos : Pos} {e : Expr} {es : List Expr} {ds : List PV} {r : PV} (T : Tops W) (hl : cs.names.lookup ("abs" : Str) = some .globalImplicit) (h : Evs W k cs ρ (e :: es) ds) (hc : CallTo W 0 (.builtin "abs") ds r)
    (hp : ∀ env, starEach (e :: es) env = (false, eval e env) :: starEach es env) (hn : ∀ env, (backTo pos (starEach es env)).any (·.1) = false) : Ev W k cs ρ (.Call (.Name "abs" np) (e :: es) [] pos) r :=
  callBlt_rule (T.blt _ (by simp)) Boot.abs hl h (hc.mono (Nat.zero_le _)) (by decide +kernel) (by decide +kernel) hp hn
theorem Ev.maxB {np pos : Pos} {e : Expr} {es : List Expr} {ds : List PV} {r : PV} (T : Tops W) (hl : cs.names.lookup ("max" : Str) = some .globalImplicit) (h : Evs W k cs ρ (e :: es) ds) (hc : CallTo W 0 (.builtin "max") ds r)
    (hp : ∀ env, starEach (e :: es) env = (false, eval e env) :: starEach es env) (hn : ∀ env, (backTo pos (starEach es env)).any (·.1) = false) : Ev W k cs ρ (.Call (.Name "max" np) (e :: es) [] pos) r :=
  callBlt_rule (T.blt _ (by simp)) Boot.max hl h (hc.mono (Nat.zero_le _)) (by decide +kernel) (by decide +kernel) hp hn
theorem Ev.sumB {np pos : Pos} {e : Expr} {es : List Expr} {ds : List PV} {r : PV} (T : Tops W) (hl : cs.names.lookup ("sum" : Str) = some .globalImplicit) (h : Evs W k cs ρ (e :: es) ds) (hc : CallTo W 0 (.builtin "sum") ds r)
    (hp : ∀ env, starEach (e :: es) env = (false, eval e env) :: starEach es env) (hn : ∀ env, (backTo pos (starEach es env)).any (·.1) = false) : Ev W k cs ρ (.Call (.Name "sum" np) (e :: es) [] pos) r :=
  callBlt_rule (T.blt _ (by simp)) Boot.sum hl h (hc.mono (Nat.zero_le _)) (by decide +kernel) (by decide +kernel) hp hn
theorem Ev.intT {np pos : Pos} {e : Expr} {es : List Expr} {ds : List PV} {r : PV} (T : Tops W) (hl : cs.names.lookup ("int" : Str) = some .globalImplicit) (h : Evs W k cs ρ (e :: es) ds) (hc : CallTo W 0 (.type "int") ds r)
    (hp : ∀ env, starEach (e :: es) env = (false, eval e env) :: starEach es env) (hn : ∀ env, (backTo pos (starEach es env)).any (·.1) = false) : Ev W k cs ρ (.Call (.Name "int" np) (e :: es) [] pos) r :=
  callType_rule (T.blt _ (by simp)) Boot.int hl h (hc.mono (Nat.zero_le _)) (by decide +kernel) (by decide +kernel) hp hn
theorem Ev.strT {np pos : Pos} {e : Expr} {es : List Expr} {ds : List PV} {r : PV} (T : Tops W) (hl : cs.names.lookup ("str" : Str) = some .globalImplicit) (h : Evs W k cs ρ (e :: es) ds) (hc : CallTo W 0 (.type "str") ds r)
    (hp : ∀ env, starEach (e :: es) env = (false, eval e env) :: starEach es env) (hn : ∀ env, (backTo pos (starEach es env)).any (·.1) = false) : Ev W k cs ρ (.Call (.Name "str" np) (e :: es) [] pos) r :=
  callType_rule (T.blt _ (by simp)) Boot.str hl h (hc.mono (Nat.zero_le _)) (by decide +kernel) (by decide +kernel) hp hn
theorem Itr.rangeB {np pos : Pos} {e1 e2 : Expr} {a b : Int} (T : Tops W) (hl : cs.names.lookup ("range" : Str) = some .globalImplicit) (h : Evs W k cs ρ [e1, e2] [.int a, .int b]) (h1 : -1000000 ≤ a) (h2 : a ≤ 1000000) (h3 : -1000000 ≤ b) (h4 : b ≤ 1000000)
    (hp : ∀ env, starEach [e1, e2] env = (false, eval e1 env) :: starEach [e2] env) (hn : ∀ env, (backTo pos (starEach [e2] env)).any (·.1) = false) : Itr W k cs ρ (.Call (.Name "range" np) [e1, e2] [] pos) ((List.range (b - a).toNat).map fun i => .int (a + (i : Nat))) :=
  Itr.range2 (T.blt _ (by simp)) hl h h1 h2 h3 h4 hp hn
theorem Itr.range1B {np pos : Pos} {e1 : Expr} {b : Int} (T : Tops W) (hl : cs.names.lookup ("range" : Str) = some .globalImplicit) (h : Evs W k cs ρ [e1] [.int b]) (h3 : -1000000 ≤ b) (h4 : b ≤ 1000000)
    (hp : ∀ env, starEach [e1] env = (false, eval e1 env) :: starEach [] env) (hn : ∀ env, (backTo pos (starEach [] env)).any (·.1) = false) : Itr W k cs ρ (.Call (.Name "range" np) [e1] [] pos) ((List.range b.toNat).map fun i => .int (i : Nat)) :=
  Itr.range1 (T.blt _ (by simp)) hl h h3 h4 hp hn
theorem Ev.isiB {np tp pos : Pos} {e : Expr} {d : PV} (T : Tops W) (hl : cs.names.lookup ("isinstance" : Str) = some .globalImplicit) (hlT : cs.names.lookup ("bool" : Str) = some .globalImplicit) (he : Ev W k cs ρ e d) (hf : flat d = true)
    (hp : ∀ env, starEach [e, .Name "bool" tp] env = (false, eval e env) :: starEach [.Name "bool" tp] env) : Ev W k cs ρ (.Call (.Name "isinstance" np) [e, .Name "bool" tp] [] pos) (.bool (isBoolV d)) :=
  isi_blt (T.blt _ (by simp)) hl (T.blt _ (by simp)) Boot.bool hlT (by decide +kernel) (by decide +kernel) he hf (by rw [(T.isT _ (tyOf_mem hf)).1]; cases d <;> first | (cases hf; done) | rfl) hp
theorem Ev.isiI {np tp pos : Pos} {e : Expr} {d : PV} (T : Tops W) (hl : cs.names.lookup ("isinstance" : Str) = some .globalImplicit) (hlT : cs.names.lookup ("int" : Str) = some .globalImplicit) (he : Ev W k cs ρ e d) (hf : flat d = true)
    (hp : ∀ env, starEach [e, .Name "int" tp] env = (false, eval e env) :: starEach [.Name "int" tp] env) : Ev W k cs ρ (.Call (.Name "isinstance" np) [e, .Name "int" tp] [] pos) (.bool (isIntV d)) :=
  isi_blt (T.blt _ (by simp)) hl (T.blt _ (by simp)) Boot.int hlT (by decide +kernel) (by decide +kernel) he hf (by rw [(T.isT _ (tyOf_mem hf)).2.1]; cases d <;> first | (cases hf; done) | rfl) hp
theorem Ev.isiS {np tp pos : Pos} {e : Expr} {d : PV} (T : Tops W) (hl : cs.names.lookup ("isinstance" : Str) = some .globalImplicit) (hlT : cs.names.lookup ("str" : Str) = some .globalImplicit) (he : Ev W k cs ρ e d) (hf : flat d = true)
    (hp : ∀ env, starEach [e, .Name "str" tp] env = (false, eval e env) :: starEach [.Name "str" tp] env) : Ev W k cs ρ (.Call (.Name "isinstance" np) [e, .Name "str" tp] [] pos) (.bool (isStrV d)) :=
  isi_blt (T.blt _ (by simp)) hl (T.blt _ (by simp)) Boot.str hlT (by decide +kernel) (by decide +kernel) he hf (by rw [(T.isT _ (tyOf_mem hf)).2.2]; cases d <;> first | (cases hf; done) | rfl) hp
theorem Ev.isiO {np tp pos : Pos} {e : Expr} {d : PV} (T : Tops W) (hl : cs.names.lookup ("isinstance" : Str) = some .globalImplicit) (hlT : cs.names.lookup ("Obj" : Str) = some .globalImplicit) (he : Ev W k cs ρ e d) (hf : flat d = true)
    (hp : ∀ env, starEach [e, .Name "Obj" tp] env = (false, eval e env) :: starEach [.Name "Obj" tp] env) : Ev W k cs ρ (.Call (.Name "isinstance" np) [e, .Name "Obj" tp] [] pos) (.bool false) :=
  let ⟨C, h1, h2⟩ := T.objC
  isi_cls (T.blt _ (by simp)) hl h1 hlT (by decide +kernel) he hf (h2 _ (tyOf_mem hf)) hp
end
local macro_rules | `(tactic| walk_at "my blt") => `(tactic| with_reducible first
  | refine' Ev.lenB (by assumption) ?_ ?_ ?_ ?_ ?_
  | refine' Ev.ordB (by assumption) ?_ ?_ ?_ ?_ ?_
  | refine' Ev.chrB (by assumption) ?_ ?_ ?_ ?_ ?_
  | refine' Ev.absB (by assumption) ?_ ?_ ?_ ?_ ?_
  | refine' Ev.maxB (by assumption) ?_ ?_ ?_ ?_ ?_
  | refine' Ev.sumB (by assumption) ?_ ?_ ?_ ?_ ?_
  | refine' Ev.intT (by assumption) ?_ ?_ ?_ ?_ ?_
  | refine' Ev.strT (by assumption) ?_ ?_ ?_ ?_ ?_
  | refine' Ev.isiB (by assumption) ?_ ?_ ?_ ?_ ?_
  | refine' Ev.isiI (by assumption) ?_ ?_ ?_ ?_ ?_
  | refine' Ev.isiS (by assumption) ?_ ?_ ?_ ?_ ?_
  | refine' Ev.isiO (by assumption) ?_ ?_ ?_ ?_ ?_)
section
variable {W : Wd}
theorem is_digit_ok (T : Tops W) {l : List Nat} {i : Int} (h0 : 0 ≤ i) : CallOf W 1 "is_digit" [.str l, .int i] (.bool (isDig l i.toNat)) := by
  refine CallOf.intro (T.defs 12 (by decide)) rfl ?n0 ?n1 ?n2 ?n3 rfl rfl rfl ?n4 ?b
  walk_at "my def"
  repeat' tb_rel
  · have : (i < (l.length : Int)) = (i.toNat < l.length) := by simp; omega
    simp only [isDig, isD, nat_lt1, this, PV.bool.injEq]
    congr 1
    rw [Bool.eq_iff_iff]; simp
local macro_rules | `(tactic| walk_at "my call") => `(tactic| refine' is_digit_ok ‹_› ?_)
theorem tw_mem {p : Nat → Bool} (l : List Nat) (n i : Nat) (h : i < ((l.drop n).takeWhile p).length) : n + i < l.length ∧ p (l.getD (n + i) 0) = true := by
  have h1 := (List.takeWhile_prefix p (l := l.drop n)).length_le
  simp at h1
  refine ⟨by omega, ?_⟩
  have := PyProof.Rows.takeWhile_all p 0 (l.drop n) i h
  rwa [PyProof.Rows.drop_getD] at this
theorem tw_stop {p : Nat → Bool} (l : List Nat) (n : Nat) : (decide (n + ((l.drop n).takeWhile p).length < l.length) && p (l.getD (n + ((l.drop n).takeWhile p).length) 0)) = false := by
  rcases PyProof.Rows.takeWhile_stop p 0 (l.drop n) with h | h
  · simp at h
    have : ¬ (n + ((l.drop n).takeWhile p).length < l.length) := by omega
    simp [this]
  · rw [PyProof.Rows.drop_getD] at h; rw [h, Bool.and_false]
theorem digits_behind_ok (T : Tops W) {l : List Nat} {i : Int} (h0 : 0 ≤ i) : CallOf W 2 "digits_behind" [.str l, .int i] (.int (digB l i.toNat)) := by
  refine CallOf.intro (T.defs 13 (by decide)) rfl ?n0 ?n1 ?n2 ?n3 rfl rfl rfl ?n4 ?b
  walk_at "my def"
  refine Ex.while_next (n := ((l.drop i.toNat).takeWhile isD).length) (ρ' := [("text", .str l), ("at", .int (i + (((l.drop i.toNat).takeWhile isD).length : Nat)))]) ?_ ?_
  · refine WhileL.steps' ((l.drop i.toNat).takeWhile isD).length (fun j => [("text", .str l), ("at", .int (i + (j : Nat)))]) (by simp) rfl (fun j hj => ⟨?_, ?_⟩) ?_
    · refine Ts.conv (b := isDig l (i + (j : Nat)).toNat) ?_ ?_
      · repeat' tb_rel
      · have := tw_mem l i.toNat j hj
        have e : (i + (j : Nat)).toNat = i.toNat + j := by omega
        rw [e]; simp only [isDig, this.2, this.1, decide_true, Bool.and_self]
    · repeat' tb_rel
      simp only [Out.next.injEq, List.cons.injEq, Prod.mk.injEq, PV.int.injEq, and_true, true_and]; omega
    · refine Ts.conv (b := isDig l (i + ((((l.drop i.toNat).takeWhile isD).length : Nat) : Int)).toNat) ?_ ?_
      · repeat' tb_rel
      · have e : (i + ((((l.drop i.toNat).takeWhile isD).length : Nat) : Int)).toNat = i.toNat + ((l.drop i.toNat).takeWhile isD).length := by omega
        rw [e]; exact tw_stop l i.toNat
  · repeat' tb_rel
    simp only [digB]; congr 1; omega
end
local macro_rules | `(tactic| walk_at "my call") => `(tactic| first | refine' is_digit_ok ‹_› ?_ | refine' digits_behind_ok ‹_› ?_)
variable {W : Wd}
theorem least_ok (T : Tops W) : CallOf W 1 "least" [] (.int (-9223372036854775808)) := by
  refine CallOf.intro (T.defs 7 (by decide)) rfl ?n0 ?n1 ?n2 ?n3 rfl rfl rfl ?n4 ?b
  walk_at "my def"
  repeat' tb_rel
  rw [pow63]
theorem greatest_ok (T : Tops W) : CallOf W 1 "greatest" [] (.int 9223372036854775807) := by
  refine CallOf.intro (T.defs 8 (by decide)) rfl ?n0 ?n1 ?n2 ?n3 rfl rfl rfl ?n4 ?b
  walk_at "my def"
  repeat' tb_rel
  rw [pow63]; rfl
local macro_rules | `(tactic| walk_at "my call") => `(tactic| refine' least_ok ‹_›)
local macro_rules | `(tactic| walk_at "my call") => `(tactic| refine' greatest_ok ‹_›)
noncomputable def dv (l : List Nat) (a : Nat) : Nat → Int
  | 0 => 0
  | n + 1 => dv l a n * 10 + (l.getD (a + n) 0 : Nat) - 48
theorem dv_bound {l : List Nat} {a : Nat} : ∀ n, (∀ j, j < n → isD (l.getD (a + j) 0) = true) → 0 ≤ dv l a n ∧ dv l a n < 10 ^ n
  | 0, _ => by simp [dv]
  | n + 1, h => by
    have ih := dv_bound n fun j hj => h j (by omega)
    have hd := h n (by omega)
    simp only [isD, Bool.and_eq_true, decide_eq_true_eq] at hd
    simp only [dv, Int.pow_succ]
    omega
theorem dv_small {l : List Nat} {a n : Nat} (h : ∀ j, j < n → isD (l.getD (a + j) 0) = true) (hn : n ≤ 17) : 0 ≤ dv l a n ∧ dv l a n < 100000000000000000 := by
  have h1 := dv_bound n h
  have h2 : (10 : Int) ^ n ≤ 10 ^ 17 := by
    have : (10 : Nat) ^ n ≤ 10 ^ 17 := Nat.pow_le_pow_right (by decide) hn
    exact_mod_cast this
  exact ⟨h1.1, by have e : (10 : Int) ^ 17 = 100000000000000000 := by decide
                  omega⟩
theorem digits_value_ok (T : Tops W) {l : List Nat} {a b : Int} (h0 : 0 ≤ a) (hab : a ≤ b) (hb : b ≤ l.length) (hd : ∀ j, j < (b - a).toNat → isD (l.getD (a.toNat + j) 0) = true) (hn : b - a ≤ 17) (hz : l.length ≤ 1000) :
    CallOf W 1 "digits_value" [.str l, .int a, .int b] (.int (dv l a.toNat (b - a).toNat)) := by
  refine CallOf.intro (T.defs 14 (by decide)) rfl ?n0 ?n1 ?n2 ?n3 rfl rfl rfl ?n4 ?b
  walk_at "my def"
  repeat' tb_rel
  refine Ex.for_next (ρ' := [("text", .str l), ("first", .int a), ("behind", .int b), ("value", .int (dv l a.toNat (b - a).toNat))]) (by decide +kernel) (by decide +kernel) (Itr.rangeB (a := a) (b := b) T ?_ ?_ ?_ ?_ ?_ ?_ ?_ ?_) ?loop ?_ (fun _ _ => rfl)
  case loop =>
    refine ForL.steps' (fun j => [("text", .str l), ("first", .int a), ("behind", .int b), ("value", .int (dv l a.toNat j))]) rfl (by simp) (fun j d hj => ?_)
    obtain ⟨hj1, rfl⟩ : j < (b - a).toNat ∧ PV.int (a + (j : Nat)) = d := by
      simp only [List.getElem?_map, Option.map_eq_some_iff] at hj
      obtain ⟨q, hq, rfl⟩ := hj
      have := List.getElem?_eq_some_iff.mp hq
      simp at this
      exact ⟨by omega, by rw [this.2]⟩
    have hv := dv_small (l := l) (a := a.toNat) (n := j) (fun q hq => hd q (by omega)) (by omega)
    have hv2 := dv_small (l := l) (a := a.toNat) (n := j + 1) (fun q hq => hd q (by omega)) (by omega)
    have e : (a + (j : Nat)).toNat = a.toNat + j := by omega
    have hv3 : 0 ≤ dv l a.toNat j * 10 + (l.getD (a + (j : Nat)).toNat 0 : Nat) - 48 ∧ dv l a.toNat j * 10 + (l.getD (a + (j : Nat)).toNat 0 : Nat) - 48 < 100000000000000000 := by rw [e]; exact hv2
    refine' step_next ?hu ?hb ?hs
    case hu => walk_at "my upd"
    case hb => repeat' tb_rel
    case hs => dsimp only [dv]; rw [← e]; walk_at "my sub"
  all_goals (repeat' tb_rel)
local macro_rules | `(tactic| walk_at "my call") => `(tactic| first | refine' digits_value_ok ‹_› ?_ ?_ ?_ ?_ ?_ ?_)
variable {W : Wd} {k : Nat} {cs : Scope} {ρ : PEnv}
theorem signed_ok (T : Tops W) {m : Bool} {v : Int} (h0 : 0 ≤ v) (h1 : v < 100000000000000000) : CallOf W 2 "signed" [.bool m, .int v] (.int (if m = true then -v else v)) := by
  refine CallOf.intro (T.defs 15 (by decide)) rfl ?n0 ?n1 ?n2 ?n3 rfl rfl rfl ?n4 ?b
  walk_at "my def"
  repeat' tb_rel
  all_goals first
    | (exfalso; simp only [Bool.or_eq_true, decide_eq_true_eq, Bool.false_eq_true, or_false] at *; omega)
    | simp [*]
noncomputable def sl1 (l : List Nat) (n : Nat) : List Nat := if n < l.length then [l.getD n 0] else []
theorem cut1 {l : List Nat} {a b : Int} (h0 : 0 ≤ a) (hb : b = a + 1) : cut l (ptAt l.length 0 (some a)) (ptAt l.length l.length (some b)) = sl1 l a.toNat := by
  subst hb
  unfold cut ptAt sl1
  dsimp only
  by_cases h : a.toNat < l.length
  · have e1 : min a.toNat l.length = a.toNat := by omega
    have e2 : min (a + 1).toNat l.length = a.toNat + 1 := by omega
    rw [if_pos h, e1, e2, List.drop_take, show a.toNat + 1 - a.toNat = 1 by omega, List.drop_eq_getElem_cons h, List.take_succ_cons, List.take_zero]
    simp [List.getD_eq_getElem?_getD, h]
  · have e1 : min a.toNat l.length = l.length := by omega
    have e2 : min (a + 1).toNat l.length = l.length := by omega
    rw [if_neg h, e1, e2]; simp
theorem sl1_mem {l : List Nat} {n c : Nat} (h : sl1 l n = [c]) : n < l.length ∧ l.getD n 0 = c := by
  unfold sl1 at h
  split at h
  · simp at h; exact ⟨‹_›, by simpa using h⟩
  · cases h
noncomputable def okc (c : Nat) : Bool := [48, 49, 50, 57, 97, 66, 45, 32].contains c
structure PT (l : List Nat) : Prop where
  len : l.length ≤ 5
  all : ∀ c ∈ l, okc c = true
theorem PT.at {l : List Nat} (h : PT l) {n c : Nat} (e : sl1 l n = [c]) : okc c = true := by
  obtain ⟨h1, h2⟩ := sl1_mem e
  have := h.all (l.getD n 0) (by simp [List.getD_eq_getElem?_getD, h1])
  rw [h2] at this; exact this
theorem sl1_ne {l : List Nat} (h : PT l) {n c : Nat} (hc : okc c = false) : ([c] == sl1 l n) = false := by
  cases e : ([c] == sl1 l n) with
  | false => rfl
  | true => have := h.at (beq_iff_eq.mp e).symm; rw [hc] at this; cases this
theorem sl1_ne' {l : List Nat} (h : PT l) {n c : Nat} (hc : okc c = false) : (sl1 l n == [c]) = false := by rw [Bool.beq_comm]; exact sl1_ne h hc
theorem any_two {x y z : PV} : ([x, y].any fun d => peq d z) = (peq x z || peq y z) := by simp
theorem exponent_behind_ok (T : Tops W) {l : List Nat} (hp : PT l) {i : Int} (h0 : 0 ≤ i) : CallOf W 3 "exponent_behind" [.str l, .int i] (.int i) := by
  refine CallOf.intro (T.defs 16 (by decide)) rfl ?n0 ?n1 ?n2 ?n3 rfl rfl rfl ?n4 ?b
  walk_at "my def"
  refine Ex.ite (tb := true) (Ts.conv (b := !([PV.str [101], .str [69]].any fun d => peq d (.str (sl1 l i.toNat)))) ?_ ?_) (fun h => ?_) (fun h => by cases h)
  · rw [← cut1 h0 rfl]
    repeat' tb_rel
  · rw [any_two]
    simp only [peq, sl1_ne hp (show okc 101 = false by decide), sl1_ne hp (show okc 69 = false by decide)]; rfl
  · repeat' tb_rel

noncomputable def isBl (l : List Nat) (n : Nat) : Bool := decide (n < l.length) && isB (l.getD n 0)
theorem one_beq (a c : Nat) : (([a] : List Nat) == [c]) = (c == a) := by rw [Bool.eq_iff_iff]; simp; exact ⟨Eq.symm, Eq.symm⟩
theorem any_isB (c : Nat) : ([PV.str [32], .str [9], .str [10], .str [13], .str [11], .str [12]].any fun d => peq d (.str [c])) = isB c := by
  simp only [List.any_cons, List.any_nil, peq, isB, Bool.or_false, one_beq, Bool.or_assoc]
theorem blanks_behind_ok (T : Tops W) {l : List Nat} {i : Int} (h0 : 0 ≤ i) : CallOf W 1 "blanks_behind" [.str l, .int i] (.int (blB l i.toNat)) := by
  refine CallOf.intro (T.defs 17 (by decide)) rfl ?n0 ?n1 ?n2 ?n3 rfl rfl rfl ?n4 ?b
  walk_at "my def"
  refine Ex.while_next (n := ((l.drop i.toNat).takeWhile isB).length) (ρ' := [("text", .str l), ("at", .int (i + (((l.drop i.toNat).takeWhile isB).length : Nat)))]) ?_ ?_
  · refine WhileL.steps' ((l.drop i.toNat).takeWhile isB).length (fun j => [("text", .str l), ("at", .int (i + (j : Nat)))]) (by simp) rfl (fun j hj => ⟨?_, ?_⟩) ?_
    · have := tw_mem l i.toNat j hj
      have e : (i + (j : Nat)).toNat = i.toNat + j := by omega
      refine Ts.conv (b := decide (i + (j : Nat) < (l.length : Int)) && ([PV.str [32], .str [9], .str [10], .str [13], .str [11], .str [12]].any (fun d => peq d (.str [l.getD (i + (j : Nat)).toNat 0])) && true)) ?_ ?_
      · repeat' tb_rel
      · rw [any_isB, e, this.2]; simp; omega
    · repeat' tb_rel
      simp only [Out.next.injEq, List.cons.injEq, Prod.mk.injEq, PV.int.injEq, and_true, true_and]; omega
    · have e : (i + ((((l.drop i.toNat).takeWhile isB).length : Nat) : Int)).toNat = i.toNat + ((l.drop i.toNat).takeWhile isB).length := by omega
      have := tw_stop (p := isB) l i.toNat
      refine Ts.conv (b := decide (i + ((((l.drop i.toNat).takeWhile isB).length : Nat) : Int) < (l.length : Int)) && ([PV.str [32], .str [9], .str [10], .str [13], .str [11], .str [12]].any (fun d => peq d (.str [l.getD (i + ((((l.drop i.toNat).takeWhile isB).length : Nat) : Int)).toNat 0])) && true)) ?_ ?_
      · repeat' tb_rel
      · rw [any_isB, e]
        simp only [Bool.and_true]
        rw [← this]; congr 1
        rw [Bool.eq_iff_iff]; simp; omega
  · repeat' tb_rel
    simp only [blB]; congr 1; omega
local macro_rules | `(tactic| walk_at "my call") => `(tactic| first | refine' signed_ok ‹_› ?_ ?_ | refine' exponent_behind_ok ‹_› ?_ ?_ | refine' blanks_behind_ok ‹_› ?_)
local macro_rules | `(tactic| walk_at "my rest") => `(tactic| ((with_reducible show PT _); assumption))
noncomputable def numF (l : List Nat) : Nat := blB l 0
noncomputable def numN (l : List Nat) : Bool := sl1 l (numF l) == [45]
noncomputable def numA (l : List Nat) : Nat := if numN l = true then numF l + 1 else numF l
noncomputable def numE (l : List Nat) : Nat := digB l (numA l)
noncomputable def numV (l : List Nat) : Int := if numN l = true then -dv l (numA l) (numE l - numA l) else dv l (numA l) (numE l - numA l)
noncomputable def numC (l : List Nat) : Int := if numE l = numA l then 0 else if blB l (numE l) = l.length then 2 else 1
theorem blB_le {l : List Nat} {n : Nat} (h : n ≤ l.length) : n ≤ blB l n ∧ blB l n ≤ l.length := by
  have h1 := (List.takeWhile_prefix isB (l := l.drop n)).length_le
  simp at h1
  unfold blB; omega
theorem digB_le {l : List Nat} {n : Nat} (h : n ≤ l.length) : n ≤ digB l n ∧ digB l n ≤ l.length := by
  have h1 := (List.takeWhile_prefix isD (l := l.drop n)).length_le
  simp at h1
  unfold digB; omega
theorem digB_all {l : List Nat} {n j : Nat} (h : j < digB l n - n) : isD (l.getD (n + j) 0) = true := (tw_mem l n j (by unfold digB at h; omega)).2
theorem numA_le {l : List Nat} : numA l ≤ l.length := by
  unfold numA
  have := (blB_le (l := l) (n := 0) (Nat.zero_le _)).2
  split
  · rename_i h
    unfold numN at h
    have := (sl1_mem (beq_iff_eq.mp h)).1
    unfold numF at *; omega
  · unfold numF; omega
theorem numE_le {l : List Nat} : numA l ≤ numE l ∧ numE l ≤ l.length := digB_le numA_le
theorem numV_nil {l : List Nat} (h : numE l = numA l) : numV l = 0 := by simp [numV, h, dv]
theorem numeric_ok (T : Tops W) {l : List Nat} (hp : PT l) : CallOf W 5 "numeric" [.str l] (.tup [.int (numC l), .int (numV l)]) := by
  have hl := hp.len
  have hA := numA_le (l := l)
  have hE := numE_le (l := l)
  have hF : numF l ≤ l.length := (blB_le (l := l) (n := 0) (Nat.zero_le _)).2
  refine CallOf.intro (T.defs 18 (by decide)) rfl ?n0 ?n1 ?n2 ?n3 rfl rfl rfl ?n4 ?b
  walk_at "my def"
  with_reducible refine' Ex.assignV (.int (numF l)) ?x4 ?n4 ?e4 ?q4 ?u4 ?r4 ?s4
  case s4 => intro _; exact rfl
  case x4 => decide +kernel
  case n4 => decide +kernel
  case e4 => repeat' tb_rel
  case q4 => rfl
  case u4 => walk_at "my upd"
  with_reducible refine' Ex.assignV (.bool (numN l)) ?x5 ?n5 ?e5 ?q5 ?u5 ?r5 ?s5
  case s5 => intro _; exact rfl
  case x5 => decide +kernel
  case n5 => decide +kernel
  case e5 => repeat' tb_rel
  case q5 => (rw [cut1 (by omega) rfl]; rfl)
  case u5 => walk_at "my upd"
  with_reducible refine' Ex.iteJ (numN l) ([("text", .str l), ("first", .int (numA l)), ("is_minus", .bool (numN l))]) ?t1 ?q1 (fun h => ?a1) (fun h => ?b1) ?r1
  case t1 => repeat' tb_rel
  case q1 => (rw [any_two, cut1 (by omega) rfl]; simp only [peq, sl1_ne hp (show okc 43 = false by decide), Bool.false_or]; rw [Bool.beq_comm]; rfl)
  case a1 => ((repeat' tb_rel); simp only [numA, h, if_true]; rfl)
  case b1 => ((repeat' tb_rel); simp only [numA, h]; rfl)
  with_reducible refine' Ex.assignV (.int (numE l)) ?x6 ?n6 ?e6 ?q6 ?u6 ?r6 ?s6
  case s6 => intro _; exact rfl
  case x6 => decide +kernel
  case n6 => decide +kernel
  case e6 => repeat' tb_rel
  case q6 => rfl
  case u6 => walk_at "my upd"
  with_reducible refine' Ex.assignV (.bool false) ?x7 ?n7 ?e7 ?q7 ?u7 ?r7 ?s7
  case s7 => intro _; exact rfl
  case x7 => decide +kernel
  case n7 => decide +kernel
  case e7 => repeat' tb_rel
  case q7 => (rw [cut1 (by omega) rfl, sl1_ne' hp (show okc 46 = false by decide)]; rfl)
  case u7 => walk_at "my upd"
  with_reducible refine' Ex.iteV (decide (numE l = numA l)) ?t11 ?q11 (fun h => ?a11) (fun h => ?b11)
  case t11 => repeat' tb_rel
  case q11 => (rw [Bool.eq_iff_iff]; simp; omega)
  all_goals dsimp only [List.cons_append, List.nil_append]
  · repeat' tb_rel
    simp only [decide_eq_true_eq] at h
    simp [numC, numV_nil h, h]
  · simp only [decide_eq_false_iff_not] at h
    with_reducible refine' Ex.assignV (.int (numE l)) ?x8 ?n8 ?e8 ?q8 ?u8 ?r8 ?s8
    case s8 => intro _; exact rfl
    case x8 => decide +kernel
    case n8 => decide +kernel
    case e8 => repeat' tb_rel
    case q8 => rfl
    case u8 => walk_at "my upd"
    with_reducible refine' Ex.iteJ (false) ([("text", .str l), ("first", .int (numA l)), ("is_minus", .bool (numN l)), ("behind", .int (numE l)), ("is_pointed", .bool false), ("far", .int (numE l))]) ?t2 ?q2 (fun h => ?a2) (fun h => ?b2) ?r2
    case t2 => repeat' tb_rel
    case q2 => rfl
    case a2 => (exact absurd h (by decide))
    case b2 => (exact Ex.nil)
    with_reducible refine' Ex.assignV (.int (numE l)) ?x9 ?n9 ?e9 ?q9 ?u9 ?r9 ?s9
    case s9 => intro _; exact rfl
    case x9 => decide +kernel
    case n9 => decide +kernel
    case e9 => repeat' tb_rel
    case q9 => rfl
    case u9 => walk_at "my upd"
    with_reducible refine' Ex.assignV (.none) ?x10 ?n10 ?e10 ?q10 ?u10 ?r10 ?s10
    case s10 => intro _; exact rfl
    case x10 => decide +kernel
    case n10 => decide +kernel
    case e10 => repeat' tb_rel
    case q10 => rfl
    case u10 => walk_at "my upd"
    have hne := h
    have hd := dv_small (l := l) (a := numA l) (n := numE l - numA l) (fun j hj => digB_all hj) (by omega)
    have ea : ((numA l : Nat) : Int).toNat = numA l := by omega
    have eb : ((numE l : Nat) : Int).toNat = numE l := by omega
    have ed : (((numE l : Nat) : Int) - ((numA l : Nat) : Int)).toNat = numE l - numA l := by omega
    with_reducible refine' Ex.iteJ (true) ([("text", .str l), ("first", .int (numA l)), ("is_minus", .bool (numN l)), ("behind", .int (numE l)), ("is_pointed", .bool false), ("far", .int (numE l)), ("value", .int (numV l))]) ?t3 ?q3 (fun h => ?a3) (fun h => ?b3) ?r3
    case t3 => repeat' tb_rel
    case q3 => (simp)
    case a3 => ((repeat' tb_rel); all_goals (try rw [ed]); all_goals (try rw [ea]); all_goals first | exact hd.1 | exact hd.2 | exact fun j hj => digB_all hj | omega | rfl)
    case b3 => (exact absurd h (by decide))
    with_reducible refine' Ex.iteV (decide (blB l (numE l) = l.length)) ?t12 ?q12 (fun h => ?a12) (fun h => ?b12)
    case t12 => repeat' tb_rel
    case q12 => (rw [eb, Bool.eq_iff_iff]; simp; omega)
    all_goals dsimp only [List.cons_append, List.nil_append]
    · simp only [decide_eq_true_eq] at h
      have e1 : numC l = 2 := by rw [numC, if_neg hne, if_pos h]
      rw [e1]
      repeat' tb_rel
    · simp only [decide_eq_false_iff_not] at h
      have e1 : numC l = 1 := by rw [numC, if_neg hne, if_neg h]
      rw [e1]
      repeat' tb_rel
local macro_rules | `(tactic| walk_at "my call") => `(tactic| refine' numeric_ok ‹_› ?_)
theorem number_of_ok (T : Tops W) {l : List Nat} (hp : PT l) : CallOf W 6 "number_of" [.str l] (.int (numV l)) := by
  refine CallOf.intro (T.defs 19 (by decide)) rfl ?n0 ?n1 ?n2 ?n3 rfl rfl rfl ?n4 ?b
  walk_at "my def"
  repeat' tb_rel
theorem sign_of_ok (T : Tops W) {a b : Int} : CallOf W 1 "sign_of" [.int a, .int b] (.int (sg a b)) := by
  refine CallOf.intro (T.defs 55 (by decide)) rfl ?n0 ?n1 ?n2 ?n3 rfl rfl rfl ?n4 ?b
  walk_at "my def"
  repeat' tb_rel
  all_goals (simp only [decide_eq_true_eq, decide_eq_false_iff_not] at *; simp [sg, *])
local macro_rules | `(tactic| walk_at "my call") => `(tactic| refine' sign_of_ok ‹_›)
theorem sign_of_b (T : Tops W) {a b : Bool} : CallOf W 1 "sign_of" [.bool a, .bool b] (.int (sg (bi a) (bi b))) := by
  refine CallOf.intro (T.defs 55 (by decide)) rfl ?n0 ?n1 ?n2 ?n3 rfl rfl rfl ?n4 ?b
  walk_at "my def"
  repeat' tb_rel
  all_goals (simp only [decide_eq_true_eq, decide_eq_false_iff_not] at *; simp [sg, *])
inductive V where
  | none
  | bool (b : Bool)
  | int (i : Int)
  | str (l : List Nat)
noncomputable def V.pv : V → PV
  | .none => .none
  | .bool b => .bool b
  | .int i => .int i
  | .str l => .str l
theorem V.flat (v : V) : flat v.pv = true := by cases v <;> rfl
noncomputable def kindP : PV → List Nat
  | .none => [110, 117, 108, 108]
  | .bool _ => [98, 111, 111, 108]
  | .int _ => [105, 110, 116]
  | _ => [115, 116, 114, 105, 110, 103]
theorem kind_ok (T : Tops W) {d : PV} (hf : flat d = true) : CallOf W 1 "kind" [d] (.str (kindP d)) := by
  refine CallOf.intro (T.defs 41 (by decide)) rfl ?n0 ?n1 ?n2 ?n3 rfl rfl rfl ?n4 ?b
  walk_at "my def"
  cases d with
  | none => (repeat' tb_rel); rfl
  | bool b => (repeat' tb_rel); rfl
  | int i => (repeat' tb_rel); rfl
  | str l => (repeat' tb_rel); rfl
  | tup _ => cases hf
  | lst _ => cases hf
  | adr _ => cases hf
local macro_rules | `(tactic| walk_at "my call") => `(tactic| first | refine' number_of_ok ‹_› ?_ | refine' sign_of_b ‹_› | refine' kind_ok ‹_› ?_)
local macro_rules | `(tactic| walk_at "my rest") => `(tactic| ((with_reducible show flat _ = true); with_reducible exact V.flat _))
theorem compare_texts_ok (T : Tops W) {l r : List Nat} : CallOf W 1 "compare_texts" [.str l, .str r] (.int (ct l r)) := by
  refine CallOf.intro (T.defs 43 (by decide)) rfl ?n0 ?n1 ?n2 ?n3 rfl rfl rfl ?n4 ?b
  walk_at "my def"
  repeat' tb_rel
  all_goals (simp only [decide_eq_true_eq, decide_eq_false_iff_not, beq_iff_eq, beq_eq_false_iff_ne] at *; simp [ct, *])
local macro_rules | `(tactic| walk_at "my call") => `(tactic| refine' compare_texts_ok ‹_›)
noncomputable def nums : List Int := [0, 1, 2, 10, -1, -10, 9, 99, 100, 9223372036854775807, -9223372036854775808]
noncomputable def intTxt (i : Int) : List Nat := (Str.ofString (toString i)).cps.toList
noncomputable def Dom : V → Prop
  | .int i => i ∈ nums
  | .str l => PT l
  | _ => True
theorem nums_log : ∀ i ∈ nums, i.natAbs.log2 < 1920 := by decide +kernel
theorem nums_len : ∀ i ∈ nums, (intTxt i).length ≤ 20 := by decide +kernel
theorem intTxt_is (i : Int) : Str.ofString (toString i) = ⟨(intTxt i).toArray⟩ := by
  unfold intTxt; rw [Array.toArray_toList]
theorem int_text_ok (T : Tops W) {i : Int} (h : i ∈ nums) : CallOf W 1 "int_text" [.int i] (.str (intTxt i)) := by
  refine CallOf.intro (T.defs 49 (by decide)) rfl ?n0 ?n1 ?n2 ?n3 rfl rfl rfl ?n4 ?b
  walk_at "my def"
  refine Ex.ret (Ev.strT T (by decide +kernel) (ds := [.int i]) ?_ (call_str_i (nums_log i h) (intTxt_is i) (Nat.le_trans (nums_len i h) (by decide))) ?_ ?_)
  all_goals repeat' tb_rel
local macro_rules | `(tactic| walk_at "my call") => `(tactic| refine' int_text_ok ‹_› ?_)
noncomputable def tobP : PV → Bool
  | .bool b => b
  | .int i => i != 0
  | .str l => !(l == [] || l == [48])
  | _ => false
theorem to_bool_ok (T : Tops W) {d : PV} (hf : flat d = true) : CallOf W 2 "to_bool" [d] (.bool (tobP d)) := by
  refine CallOf.intro (T.defs 48 (by decide)) rfl ?n0 ?n1 ?n2 ?n3 rfl rfl rfl ?n4 ?b
  walk_at "my def"
  with_reducible refine' Ex.assignV (.str (kindP d)) ?x1 ?n1 ?e1 ?q1 ?u1 ?r1 ?s1
  case s1 => intro _; exact rfl
  case x1 => decide +kernel
  case n1 => decide +kernel
  case e1 => repeat' tb_rel
  case q1 => rfl
  case u1 => walk_at "my upd"
  cases d with
  | none => (repeat' tb_rel); rfl
  | bool b => (repeat' tb_rel); cases b <;> rfl
  | int i => (repeat' tb_rel); rfl
  | str l => (repeat' tb_rel); simp only [tobP, List.any_cons, List.any_nil, peq, Bool.or_false, PV.bool.injEq]; rw [@Bool.beq_comm _ _ _ [] l, @Bool.beq_comm _ _ _ [48] l]
  | tup _ => cases hf
  | lst _ => cases hf
  | adr _ => cases hf
local macro_rules | `(tactic| walk_at "my call") => `(tactic| refine' to_bool_ok ‹_› ?_)
noncomputable def txt : V → List Nat
  | .none => []
  | .bool b => if b = true then [49] else []
  | .int i => intTxt i
  | .str l => l
noncomputable def num : V → Int
  | .none => 0
  | .bool b => bi b
  | .int i => i
  | .str l => numV l
theorem to_int_ok (T : Tops W) {v : V} (hv : Dom v) : CallOf W 7 "to_int" [.none, v.pv] (.int (num v)) := by
  refine CallOf.intro (T.defs 51 (by decide)) rfl ?n0 ?n1 ?n2 ?n3 rfl rfl rfl ?n4 ?b
  walk_at "my def"
  with_reducible refine' Ex.assignV (.str (kindP v.pv)) ?x2 ?n2 ?e2 ?q2 ?u2 ?r2 ?s2
  case s2 => intro _; exact rfl
  case x2 => decide +kernel
  case n2 => decide +kernel
  case e2 => repeat' tb_rel
  case q2 => rfl
  case u2 => walk_at "my upd"
  cases v <;> dsimp only [V.pv, kindP]
  all_goals repeat' tb_rel
  all_goals first | rfl | simp [num, bi, *]
local macro_rules | `(tactic| walk_at "my call") => `(tactic| refine' to_int_ok ‹_› ?_)
theorem to_text_ok (T : Tops W) {v : V} (hv : Dom v) : CallOf W 2 "to_text" [.none, v.pv] (.str (txt v)) := by
  refine CallOf.intro (T.defs 52 (by decide)) rfl ?n0 ?n1 ?n2 ?n3 rfl rfl rfl ?n4 ?b
  walk_at "my def"
  with_reducible refine' Ex.assignV (.str (kindP v.pv)) ?x3 ?n3 ?e3 ?q3 ?u3 ?r3 ?s3
  case s3 => intro _; exact rfl
  case x3 => decide +kernel
  case n3 => decide +kernel
  case e3 => repeat' tb_rel
  case q3 => rfl
  case u3 => walk_at "my upd"
  cases v <;> dsimp only [V.pv, kindP]
  all_goals repeat' tb_rel
  all_goals first | rfl | simp [txt, *]
local macro_rules | `(tactic| walk_at "my call") => `(tactic| refine' to_text_ok ‹_› ?_)
noncomputable def smartP (l r : List Nat) : Int := if numC l = 2 ∧ numC r = 2 then sg (numV l) (numV r) else ct l r
theorem smart_ok (T : Tops W) {l r : List Nat} (hl : PT l) (hr : PT r) : CallOf W 7 "smart" [.str l, .str r] (.int (smartP l r)) := by
  refine CallOf.intro (T.defs 56 (by decide)) rfl ?n0 ?n1 ?n2 ?n3 rfl rfl rfl ?n4 ?b
  walk_at "my def"
  repeat' tb_rel
  · rename_i h; simp only [Bool.and_true, Bool.and_eq_true, beq_iff_eq] at h; rw [smartP, if_pos h]
  · rename_i h; simp only [Bool.and_true, Bool.and_eq_false_iff, beq_eq_false_iff_ne] at h; rw [smartP, if_neg (by omega)]
local macro_rules | `(tactic| walk_at "my call") => `(tactic| refine' smart_ok ‹_› ?_ ?_)
noncomputable def iaP (i : Int) (r : List Nat) : Int := if numC r = 2 then sg i (numV r) else ct (intTxt i) r
theorem int_against_ok (T : Tops W) {i : Int} {r : List Nat} (hi : i ∈ nums) (hr : PT r) : CallOf W 7 "int_against" [.int i, .str r] (.int (iaP i r)) := by
  refine CallOf.intro (T.defs 57 (by decide)) rfl ?n0 ?n1 ?n2 ?n3 rfl rfl rfl ?n4 ?b
  walk_at "my def"
  repeat' tb_rel
  · rename_i h; simp only [beq_iff_eq] at h; rw [iaP, if_pos h]
  · rename_i h; simp only [beq_eq_false_iff_ne] at h; rw [iaP, if_neg h]
local macro_rules | `(tactic| walk_at "my call") => `(tactic| refine' int_against_ok ‹_› ?_ ?_)
theorem compare_scalars_i (T : Tops W) {i : Int} {r : List Nat} (hi : i ∈ nums) (hr : PT r) : CallOf W 8 "compare_scalars" [.int i, .str r, .str [105, 110, 116]] (.int (iaP i r)) := by
  refine CallOf.intro (T.defs 60 (by decide)) rfl ?n0 ?n1 ?n2 ?n3 rfl rfl rfl ?n4 ?b
  walk_at "my def"
  repeat' tb_rel
theorem compare_scalars_s (T : Tops W) {i : Int} {r : List Nat} (hi : i ∈ nums) (hr : PT r) : CallOf W 8 "compare_scalars" [.str r, .int i, .str [115, 116, 114, 105, 110, 103]] (.int (-iaP i r)) := by
  refine CallOf.intro (T.defs 60 (by decide)) rfl ?n0 ?n1 ?n2 ?n3 rfl rfl rfl ?n4 ?b
  walk_at "my def"
  repeat' tb_rel
local macro_rules | `(tactic| walk_at "my call") => `(tactic| refine' compare_scalars_i ‹_› ?_ ?_)
local macro_rules | `(tactic| walk_at "my call") => `(tactic| refine' compare_scalars_s ‹_› ?_ ?_)
theorem is_case_ok (T : Tops W) {d : PV} (hf : flat d = true) : CallOf W 1 "is_case" [d] (.bool false) := by
  refine CallOf.intro (T.defs 61 (by decide)) rfl ?n0 ?n1 ?n2 ?n3 rfl rfl rfl ?n4 ?b
  walk_at "my def"
  repeat' tb_rel
local macro_rules | `(tactic| walk_at "my call") => `(tactic| refine' is_case_ok ‹_› ?_)
noncomputable def cp : V → V → Int
  | .int i, .int j => sg i j
  | .str l, .str r => smartP l r
  | .none, .str r => ct [] r
  | .str l, .none => ct l []
  | .int i, .str r => iaP i r
  | .str l, .int j => -iaP j l
  | a, b => sg (bi (tobP a.pv)) (bi (tobP b.pv))
local macro_rules | `(tactic| walk_at "my rest") => `(tactic| ((with_reducible show Dom _); assumption))
theorem compare_plain_ok (T : Tops W) {v w : V} (hv : Dom v) (hw : Dom w) : CallOf W 9 "compare_plain" [.none, v.pv, w.pv, .str (kindP v.pv), .str (kindP w.pv)] (.int (cp v w)) := by
  refine CallOf.intro (T.defs 62 (by decide)) rfl ?n0 ?n1 ?n2 ?n3 rfl rfl rfl ?n4 ?b
  walk_at "my def"
  cases v <;> cases w <;> dsimp only [V.pv, kindP, cp]
  all_goals repeat' tb_rel
local macro_rules | `(tactic| walk_at "my call") => `(tactic| first | refine' compare_plain_ok ‹_› ?_ ?_)
theorem kind_no {d : PV} : (!([PV.str [97, 114, 114, 97, 121], .str [111, 98, 106, 101, 99, 116]].any fun e => peq e (.str (kindP d)))) = true := by cases d <;> rfl
theorem compare_ok (T : Tops W) {v w : V} (hv : Dom v) (hw : Dom w) : CallOf W 10 "compare" [.none, v.pv, w.pv] (.int (cp v w)) := by
  refine CallOf.intro (T.defs 67 (by decide)) rfl ?n0 ?n1 ?n2 ?n3 rfl rfl rfl ?n4 ?b
  walk_at "my def"
  with_reducible refine' Ex.pairV (.str (kindP v.pv)) (.str (kindP w.pv)) ?x1 ?n1 ?y1 ?o1 ?e1 ?q1 ?u1 ?v1 ?r1 ?s1 ?w1
  case s1 => intro _; exact rfl
  case w1 => (intro env he; cases env; cases he; exact rfl)
  case x1 => decide +kernel
  case y1 => decide +kernel
  case n1 => decide +kernel
  case o1 => decide +kernel
  case e1 => repeat' tb_rel
  case q1 => rfl
  case u1 => walk_at "my upd"
  case v1 => walk_at "my upd"
  with_reducible refine' Ex.iteV (true) ?t2 ?q2 (fun h => ?a2) (fun h => ?b2)
  case t2 => repeat' tb_rel
  case q2 => (rw [kind_no]; simp)
  all_goals dsimp only [List.cons_append, List.nil_append]
  · repeat' tb_rel
  · cases h
local macro_rules | `(tactic| walk_at "my call") => `(tactic| refine' compare_ok ‹_› ?_ ?_)
theorem octet_at_ok (T : Tops W) {l : List Nat} {i : Int} (h0 : 0 ≤ i) : CallOf W 1 "octet_at" [.str l, .int i] (.int (l.getD i.toNat 0 : Nat)) := by
  refine CallOf.intro (T.defs 71 (by decide)) rfl ?n0 ?n1 ?n2 ?n3 rfl rfl rfl ?n4 ?b
  walk_at "my def"
  repeat' tb_rel
  all_goals (rename_i h; simp only [decide_eq_false_iff_not] at h)
  have e : l.getD i.toNat 0 = 0 := by rw [List.getD_eq_getElem?_getD, List.getElem?_eq_none (by omega)]; rfl
  rw [e]; rfl
local macro_rules | `(tactic| walk_at "my call") => `(tactic| refine' octet_at_ok ‹_› ?_)
theorem which_ended_ok (T : Tops W) {l r : List Nat} {a b : Int} (h0 : 0 ≤ a) (h1 : 0 ≤ b) : CallOf W 2 "which_ended" [.str l, .int a, .str r, .int b] (.int (weP l.length a.toNat r.length b.toNat)) := by
  refine CallOf.intro (T.defs 72 (by decide)) rfl ?n0 ?n1 ?n2 ?n3 rfl rfl rfl ?n4 ?b
  walk_at "my def"
  repeat' tb_rel
  have key : ∀ (n : Nat) (x : Int), 0 ≤ x → sg (if 0 > (n : Int) - x then 0 else (n : Int) - x) 0 = (if x.toNat < n then 1 else 0) := fun n x hx => by
    unfold sg; split <;> split <;> split <;> first | omega | rfl | (split <;> omega) | skip
  rw [key _ _ h0, key _ _ h1]; rfl
local macro_rules | `(tactic| walk_at "my call") => `(tactic| refine' which_ended_ok ‹_› ?_ ?_)
theorem compare_runs_ok (T : Tops W) {l r : List Nat} (hl : 0 < l.length) (hr : 0 < r.length) : CallOf W 2 "compare_runs" [.str l, .str r] (.int (crP l r)) := by
  refine CallOf.intro (T.defs 69 (by decide)) rfl ?n0 ?n1 ?n2 ?n3 rfl rfl rfl ?n4 ?b
  walk_at "my def"
  repeat' tb_rel
  · rename_i h
    simp only [Bool.and_true, Bool.and_eq_true, bne_iff_ne, ne_eq, List.cons.injEq, and_true, Int.natCast_inj, Int.toNat_zero] at h
    rw [crP, if_pos h]
  · rename_i h
    rw [crP, if_neg]
    intro h'
    simp only [Bool.and_true, Bool.and_eq_false_iff, bne_eq_false_iff_eq, List.cons.injEq, and_true, Int.natCast_inj, Int.toNat_zero] at h
    omega
local macro_rules | `(tactic| walk_at "my call") => `(tactic| first | refine' compare_runs_ok ‹_› ?_ ?_)
noncomputable def nouB : List Nat → Nat
  | [] => 0
  | c :: t => if c = 48 ∧ isDig t 0 = true then nouB t + 1 else 0
theorem nouB_lt : ∀ (l : List Nat) (j : Nat), j < nouB l → sl1 l j = [48] ∧ isDig l (j + 1) = true
  | [], j, h => by simp [nouB] at h
  | c :: t, j, h => by
    unfold nouB at h
    split at h
    · rename_i hc
      cases j with
      | zero =>
        refine ⟨by simp [sl1, hc.1], ?_⟩
        have := hc.2
        simpa [isDig] using this
      | succ j =>
        have ih := nouB_lt t j (by omega)
        refine ⟨?_, ?_⟩
        · have := ih.1; simpa [sl1] using this
        · have := ih.2; simpa [isDig] using this
    · omega
theorem nouB_end : ∀ (l : List Nat), (sl1 l (nouB l) == [48] && (isDig l (nouB l + 1) && true)) = false
  | [] => rfl
  | c :: t => by
    unfold nouB
    split
    · have ih := nouB_end t
      simpa [sl1, isDig] using ih
    · rename_i hc
      by_cases h : c = 48
      · have h2 : isDig t 0 = false := by simpa [h] using hc
        have : isDig (c :: t) (0 + 1) = false := by simpa [isDig] using h2
        rw [this]; simp
      · have : (sl1 (c :: t) 0 == [48]) = false := by simp [sl1, h]
        rw [this]; rfl
theorem noughts_behind_ok (T : Tops W) {l : List Nat} : CallOf W 2 "noughts_behind" [.str l] (.int (nouB l)) := by
  refine CallOf.intro (T.defs 68 (by decide)) rfl ?n0 ?n1 ?n2 ?n3 rfl rfl rfl ?n4 ?b
  walk_at "my def"
  with_reducible refine' Ex.assignV (.int 0) ?x1 ?n1 ?e1 ?q1 ?u1 ?r1 ?s1
  case s1 => intro _; exact rfl
  case x1 => decide +kernel
  case n1 => decide +kernel
  case e1 => repeat' tb_rel
  case q1 => rfl
  case u1 => walk_at "my upd"
  refine Ex.while_next (n := nouB l) (ρ' := [("text", .str l), ("at", .int (nouB l))]) ?_ ?_
  · refine WhileL.steps' (nouB l) (fun j => [("text", .str l), ("at", .int (j : Nat))]) rfl rfl (fun j hj => ⟨?_, ?_⟩) ?_
    · have hj' := nouB_lt l j hj
      refine Ts.conv (b := (sl1 l j == [48] && (isDig l (j + 1) && true))) ?_ (by rw [hj'.1, hj'.2]; rfl)
      have e1 : (((j : Nat) : Int) + 1).toNat = j + 1 := by omega
      have e := cut1 (l := l) (a := (j : Nat)) (b := ((j : Nat) : Int) + 1) (by omega) rfl
      rw [Int.toNat_natCast] at e
      rw [← e1, ← e]
      repeat' tb_rel
    · repeat' tb_rel
      rfl
    · refine Ts.conv (b := (sl1 l (nouB l) == [48] && (isDig l (nouB l + 1) && true))) ?_ (nouB_end l)
      have e1 : (((nouB l : Nat) : Int) + 1).toNat = nouB l + 1 := by omega
      have e := cut1 (l := l) (a := (nouB l : Nat)) (b := ((nouB l : Nat) : Int) + 1) (by omega) rfl
      rw [Int.toNat_natCast] at e
      rw [← e1, ← e]
      repeat' tb_rel
  · repeat' tb_rel
local macro_rules | `(tactic| walk_at "my call") => `(tactic| refine' noughts_behind_ok ‹_›)
theorem raised_case_ok (T : Tops W) {l : List Nat} (hz : l.length ≤ 1000000) : CallOf W 1 "raised_case" [.str l] (.str (upP l)) := by
  refine CallOf.intro (T.defs 70 (by decide)) rfl ?n0 ?n1 ?n2 ?n3 rfl rfl rfl ?n4 ?b
  walk_at "my def"
  refine Ex.newlist (by decide +kernel) (by decide +kernel) (ρf := fun P => [("text", .str l), ("made", .adr P)]) (fun P => by walk_at "my upd") fun P => ?_
  refine ExF.cons (ρ' := [("text", .str l), ("made", .adr P)]) (es' := (upP l).map fun c => .str [c]) ?_ ?_
  · have e : (upP l).map (fun c => PV.str [c]) = (fun i => ((upP l).map fun c => PV.str [c]).take i) ((l.map fun x => PV.str [x]).length) := by
      dsimp only; rw [List.take_of_length_le (by simp [upP])]
    rw [e]
    refine ExM.forN (fun i => ((upP l).map fun c => PV.str [c]).take i) (Itr.str (l := l) ?_) (by decide +kernel) (by decide +kernel) (fun i d hd => ?_) (fun _ _ => rfl)
    · repeat' tb_rel
    · simp only [List.getElem?_map, Option.map_eq_some_iff] at hd
      obtain ⟨c, hc, rfl⟩ := hd
      refine ⟨[("text", .str l), ("made", .adr P), ("c", .str [c])], by walk_at "my upd", ?_⟩
      have e2 : (((upP l).map fun c => PV.str [c]).take (i + 1)) = ((upP l).map fun c => PV.str [c]).take i ++ [.str [if 97 ≤ c ∧ c ≤ 122 then c - 32 else c]] := by
        rw [List.take_add_one]
        simp [upP, hc]
      rw [e2]
      refine ExM.sub (ExM.append (by tb_start) ?_ (by have := (List.getElem?_eq_some_iff.mp hc).1; simp; omega) ?_ ?_ ?_) (by walk_at "my sub")
      all_goals repeat' tb_rel
      · rename_i h
        simp only [nat_lt1, Bool.and_eq_true, Bool.not_eq_true', decide_eq_false_iff_not] at h
        rw [if_pos (by omega)]; congr 2; omega
      · rename_i h
        simp only [nat_lt1, Bool.and_eq_false_iff, Bool.not_eq_false', decide_eq_true_eq] at h
        rw [if_neg (by omega)]
  · refine ExF.freeze (ρ' := [("text", .str l), ("made", .lst ((upP l).map fun c => .str [c]))]) (fun p hp => by
      simp only [List.mem_cons, List.not_mem_nil, or_false] at hp ⊢
      rcases hp with rfl | rfl
      · exact .inl (.inl rfl)
      · exact .inr ⟨rfl, .inr rfl⟩) (by simp [upP]; exact hz) ?_
    refine Ex.ret (Ev.mJoin (l := upP l) ?_ ?_ (by simp [upP]; exact hz) ?_ ?_ ?_)
    all_goals repeat' tb_rel
noncomputable def natO (l r : List Nat) (ρf : Nat × Nat → PEnv) (a b : Nat) : Out :=
  if (isDig l (blB l a) && isDig r (blB r b)) = true then
    if crP (cut l (blB l a) (digB l (blB l a))) (cut r (blB r b) (digB r (blB r b))) ≠ 0 ∨ digB l (blB l a) = l.length ∨ digB r (blB r b) = r.length then
      .ret (.int (if crP (cut l (blB l a) (digB l (blB l a))) (cut r (blB r b) (digB r (blB r b))) ≠ 0 then crP (cut l (blB l a) (digB l (blB l a))) (cut r (blB r b) (digB r (blB r b))) else weP l.length (digB l (blB l a)) r.length (digB r (blB r b))))
    else if sg (l.getD (digB l (blB l a)) 0 : Nat) (r.getD (digB r (blB r b)) 0 : Nat) ≠ 0 then .ret (.int (sg (l.getD (digB l (blB l a)) 0 : Nat) (r.getD (digB r (blB r b)) 0 : Nat)))
    else .next (ρf (digB l (blB l a) + 1, digB r (blB r b) + 1))
  else if sg (l.getD (blB l a) 0 : Nat) (r.getD (blB r b) 0 : Nat) ≠ 0 then .ret (.int (sg (l.getD (blB l a) 0 : Nat) (r.getD (blB r b) 0 : Nat)))
  else .next (ρf (blB l a + 1, blB r b + 1))
theorem nouB_ne {l : List Nat} (h : l ≠ []) : l.drop (nouB l) ≠ [] := by
  have : nouB l < l.length := by
    induction l with
    | nil => exact absurd rfl h
    | cons c t ih =>
      unfold nouB
      split
      · rename_i hc
        have : t ≠ [] := by rintro rfl; simp [isDig] at hc
        have := ih this; simp; omega
      · simp
  simp; omega
noncomputable def key (l : List Nat) : List (List Nat) := tok (l.drop (nouB l))
local macro_rules | `(tactic| walk_at "my call") => `(tactic| first | refine' raised_case_ok ‹_› ?_)
noncomputable def rc (nc : Bool) (l : List Nat) : List Nat := if nc = true then upP l else l
theorem cutpt {l : List Nat} {a b : Nat} (ha : a ≤ l.length) (hb : b ≤ l.length) : cut l (ptAt l.length 0 (some (a : Int))) (ptAt l.length l.length (some (b : Int))) = cut l a b := by
  unfold ptAt; dsimp only
  rw [show min ((a : Int).toNat) l.length = a by omega, show min ((b : Int).toNat) l.length = b by omega]
theorem natural_ok (T : Tops W) {l r : List Nat} {nc : Bool} (hl : l.length ≤ 1000000) (hr : r.length ≤ 1000000) : CallOf W 4 "natural" [.str l, .str r, .bool nc] (.int (cmpT (key (rc nc l)) (key (rc nc r)))) := by
  refine CallOf.intro (T.defs 73 (by decide)) rfl ?n0 ?n1 ?n2 ?n3 rfl rfl rfl ?n4 ?b
  walk_at "my def"
  with_reducible refine' Ex.iteV (l == [] || r == []) ?t11 ?q11 (fun h => ?a11) (fun h => ?b11)
  case t11 => repeat' tb_rel
  case q11 => (simp)
  all_goals dsimp only [List.cons_append, List.nil_append]
  · repeat' tb_rel
    simp only [Bool.or_eq_true, beq_iff_eq] at h
    have e0 : ∀ x : List Nat, x = [] → key (rc nc x) = [] := fun x hx => by subst hx; cases nc <;> rfl
    have e1 : ∀ x : List Nat, x ≠ [] → ∃ y ys, key (rc nc x) = y :: ys := fun x hx => by
      have h1 : rc nc x ≠ [] := by cases nc <;> simp [rc, upP, hx]
      have h2 : (rc nc x).drop (nouB (rc nc x)) ≠ [] := nouB_ne h1
      cases e : key (rc nc x) with
      | nil => exact absurd e (tok_ne h2)
      | cons y ys => exact ⟨y, ys, rfl⟩
    by_cases hx : l = [] <;> by_cases hy : r = []
    · rw [e0 l hx, e0 r hy, hx, hy]; rfl
    · obtain ⟨y, ys, e⟩ := e1 r hy
      rw [e0 l hx, e, cmpT_nl, hx]
      have := List.length_pos_iff.mpr hy
      unfold sg; rw [if_pos (by simp; omega)]
    · obtain ⟨y, ys, e⟩ := e1 l hx
      rw [e0 r hy, e, cmpT_ln, hy]
      have := List.length_pos_iff.mpr hx
      unfold sg; rw [if_neg (by simp), if_pos (by simp; omega)]
    · rcases h with h | h
      · exact absurd h hx
      · exact absurd h hy
  ·
    with_reducible refine' Ex.iteJ (nc) ([("a", .str (rc nc l)), ("b", .str (rc nc r)), ("is_nocase", .bool nc)]) ?t7 ?q7 (fun h => ?a7) (fun h => ?b7) ?r7
    case t7 => repeat' tb_rel
    case q7 => rfl
    case a7 => (subst h; (repeat' tb_rel); all_goals first | rfl | omega)
    case b7 => (subst h; exact Ex.nil)
    generalize rc nc l = l at *
    generalize rc nc r = r at *
    with_reducible refine' Ex.pairV (.int (nouB l)) (.int (nouB r)) ?x1 ?n1 ?y1 ?o1 ?e1 ?q1 ?u1 ?v1 ?r1 ?s1 ?w1
    case s1 => intro _; exact rfl
    case w1 => (intro env he; cases env; cases he; exact rfl)
    case x1 => decide +kernel
    case y1 => decide +kernel
    case n1 => decide +kernel
    case o1 => decide +kernel
    case e1 => repeat' tb_rel
    case q1 => rfl
    case u1 => walk_at "my upd"
    case v1 => walk_at "my upd"
    refine Ex.while_out (α := Nat × Nat) (fun p => cmpT (tok (l.drop p.1)) (tok (r.drop p.2)) = cmpT (key l) (key r)) (fun p => [("a", .str l), ("b", .str r), ("is_nocase", .bool nc), ("to", .int (p.2 : Nat)), ("at", .int (p.1 : Nat))]) (fun p => l.length - p.1) (fun p hp => ?_) (nouB l, nouB r) rfl
    obtain ⟨a, b⟩ := p
    dsimp only at hp ⊢
    by_cases hlt : a < l.length ∧ b < r.length
    · refine .inr ⟨?_, natO l r (fun p => [("a", .str l), ("b", .str r), ("is_nocase", .bool nc), ("to", .int (p.2 : Nat)), ("at", .int (p.1 : Nat))]) a b, ?_, ?_⟩
      · refine Ts.conv (b := (decide (((a : Nat) : Int) < (l.length : Nat)) && (decide (((b : Nat) : Int) < (r.length : Nat)) && true))) ?_ (by simp; omega)
        repeat' tb_rel
      · have hA := blB_le (l := l) (n := a) (by omega)
        have hB := blB_le (l := r) (n := b) (by omega)
        have hF := digB_le (l := l) (n := blB l a) (by omega)
        have hS := digB_le (l := r) (n := blB r b) (by omega)
        with_reducible refine' Ex.pairV (.int (blB l a)) (.int (blB r b)) ?x2 ?n2 ?y2 ?o2 ?e2 ?q2 ?u2 ?v2 ?r2 ?s2 ?w2
        case s2 => intro _; exact rfl
        case w2 => (intro env he; cases env; cases he; exact rfl)
        case x2 => decide +kernel
        case y2 => decide +kernel
        case n2 => decide +kernel
        case o2 => decide +kernel
        case e2 => repeat' tb_rel
        case q2 => rfl
        case u2 => walk_at "my upd"
        case v2 => walk_at "my upd"
        unfold natO
        with_reducible refine' Ex.iteV (isDig l (blB l a) && isDig r (blB r b)) ?t12 ?q12 (fun h => ?a12) (fun h => ?b12)
        case t12 => repeat' tb_rel
        case q12 => (simp)
        all_goals dsimp only [List.cons_append, List.nil_append]
        · rw [if_pos h]
          simp only [Bool.and_eq_true] at h
          obtain ⟨c1, t1, r1, _, _⟩ := run_head h.1
          obtain ⟨c2, t2, r2, _, _⟩ := run_head h.2
          have p1 := cutpt (l := l) (a := blB l a) (b := digB l (blB l a)) hA.2 hF.2
          have p2 := cutpt (l := r) (a := blB r b) (b := digB r (blB r b)) hB.2 hS.2
          with_reducible refine' Ex.pairV (.int (digB l (blB l a))) (.int (digB r (blB r b))) ?x3 ?n3 ?y3 ?o3 ?e3 ?q3 ?u3 ?v3 ?r3 ?s3 ?w3
          case s3 => intro _; exact rfl
          case w3 => (intro env he; cases env; cases he; exact rfl)
          case x3 => decide +kernel
          case y3 => decide +kernel
          case n3 => decide +kernel
          case o3 => decide +kernel
          case e3 => repeat' tb_rel
          case q3 => rfl
          case u3 => walk_at "my upd"
          case v3 => walk_at "my upd"
          with_reducible refine' Ex.assignV (.int (crP (cut l (blB l a) (digB l (blB l a))) (cut r (blB r b) (digB r (blB r b))))) ?x8 ?n8 ?e8 ?q8 ?u8 ?r8 ?s8
          case s8 => intro _; exact rfl
          case x8 => decide +kernel
          case n8 => decide +kernel
          case e8 => ((repeat' tb_rel); (rw [p1, r1]; simp); (rw [p2, r2]; simp))
          case q8 => (rw [p1, p2])
          case u8 => walk_at "my upd"
          with_reducible refine' Ex.iteV (decide (crP (cut l (blB l a) (digB l (blB l a))) (cut r (blB r b) (digB r (blB r b))) ≠ 0 ∨ digB l (blB l a) = l.length ∨ digB r (blB r b) = r.length)) ?t13 ?q13 (fun h => ?a13) (fun h => ?b13)
          case t13 => repeat' tb_rel
          case q13 => (rw [Bool.eq_iff_iff]; simp [Int.natCast_inj])
          all_goals dsimp only [List.cons_append, List.nil_append]
          · simp only [decide_eq_true_eq] at h
            rw [if_pos h]
            repeat' tb_rel
            all_goals (rename_i h; simp only [bne_iff_ne, ne_eq, bne_eq_false_iff_eq] at h; simp [h])
          · simp only [decide_eq_false_iff_not] at h
            rw [if_neg h]
            with_reducible refine' Ex.pairV (.int (digB l (blB l a))) (.int (digB r (blB r b))) ?x4 ?n4 ?y4 ?o4 ?e4 ?q4 ?u4 ?v4 ?r4 ?s4 ?w4
            case s4 => intro _; exact rfl
            case w4 => (intro env he; cases env; cases he; exact rfl)
            case x4 => decide +kernel
            case y4 => decide +kernel
            case n4 => decide +kernel
            case o4 => decide +kernel
            case e4 => repeat' tb_rel
            case q4 => rfl
            case u4 => walk_at "my upd"
            case v4 => walk_at "my upd"
            with_reducible refine' Ex.assignV (.int (sg (l.getD (digB l (blB l a)) 0 : Nat) (r.getD (digB r (blB r b)) 0 : Nat))) ?x9 ?n9 ?e9 ?q9 ?u9 ?r9 ?s9
            case s9 => intro _; exact rfl
            case x9 => decide +kernel
            case n9 => decide +kernel
            case e9 => repeat' tb_rel
            case q9 => rfl
            case u9 => walk_at "my upd"
            with_reducible refine' Ex.iteV (decide (sg (l.getD (digB l (blB l a)) 0 : Nat) (r.getD (digB r (blB r b)) 0 : Nat) ≠ 0)) ?t14 ?q14 (fun h => ?a14) (fun h => ?b14)
            case t14 => repeat' tb_rel
            case q14 => (rw [Bool.eq_iff_iff]; simp)
            all_goals dsimp only [List.cons_append, List.nil_append]
            · simp only [decide_eq_true_eq] at h
              rw [if_pos h]
              repeat' tb_rel
            · simp only [decide_eq_false_iff_not] at h
              rw [if_neg h]
              with_reducible refine' Ex.pairV (.int ((digB l (blB l a) + 1 : Nat))) (.int ((digB r (blB r b) + 1 : Nat))) ?x5 ?n5 ?y5 ?o5 ?e5 ?q5 ?u5 ?v5 ?r5 ?s5 ?w5
              case s5 => intro _; exact rfl
              case w5 => (intro env he; cases env; cases he; exact rfl)
              case x5 => decide +kernel
              case y5 => decide +kernel
              case n5 => decide +kernel
              case o5 => decide +kernel
              case e5 => repeat' tb_rel
              case q5 => rfl
              case u5 => walk_at "my upd"
              case v5 => walk_at "my upd"
              exact Ex.nil_sub (by walk_at "my sub")
        · rw [if_neg (by rw [h]; decide)]
          with_reducible refine' Ex.assignV (.int (sg (l.getD (blB l a) 0 : Nat) (r.getD (blB r b) 0 : Nat))) ?x10 ?n10 ?e10 ?q10 ?u10 ?r10 ?s10
          case s10 => intro _; exact rfl
          case x10 => decide +kernel
          case n10 => decide +kernel
          case e10 => repeat' tb_rel
          case q10 => rfl
          case u10 => walk_at "my upd"
          with_reducible refine' Ex.iteV (decide (sg (l.getD (blB l a) 0 : Nat) (r.getD (blB r b) 0 : Nat) ≠ 0)) ?t15 ?q15 (fun h => ?a15) (fun h => ?b15)
          case t15 => repeat' tb_rel
          case q15 => (rw [Bool.eq_iff_iff]; simp)
          all_goals dsimp only [List.cons_append, List.nil_append]
          · simp only [decide_eq_true_eq] at h
            rw [if_pos h]
            repeat' tb_rel
          · simp only [decide_eq_false_iff_not] at h
            rw [if_neg h]
            with_reducible refine' Ex.pairV (.int ((blB l a + 1 : Nat))) (.int ((blB r b + 1 : Nat))) ?x6 ?n6 ?y6 ?o6 ?e6 ?q6 ?u6 ?v6 ?r6 ?s6 ?w6
            case s6 => intro _; exact rfl
            case w6 => (intro env he; cases env; cases he; exact rfl)
            case x6 => decide +kernel
            case y6 => decide +kernel
            case n6 => decide +kernel
            case o6 => decide +kernel
            case e6 => repeat' tb_rel
            case q6 => rfl
            case u6 => walk_at "my upd"
            case v6 => walk_at "my upd"
            exact Ex.nil_sub (by walk_at "my sub")
      · have hA := blB_le (l := l) (n := a) (by omega)
        have hF := digB_le (l := l) (n := blB l a) (by omega)
        have hS := digB_le (l := r) (n := blB r b) (by have := blB_le (l := r) (n := b) (by omega); omega)
        rw [← hp]
        unfold natO
        by_cases hd : (isDig l (blB l a) && isDig r (blB r b)) = true
        · rw [if_pos hd]
          simp only [Bool.and_eq_true] at hd
          have hv := nat_dd hlt.1 hlt.2 hd.1 hd.2
          by_cases h1 : crP (cut l (blB l a) (digB l (blB l a))) (cut r (blB r b) (digB r (blB r b))) ≠ 0
          · rw [if_pos h1] at hv
            rw [if_pos (.inl h1), if_pos h1]
            exact .inl ⟨_, rfl, by rw [hv]⟩
          · rw [if_neg h1] at hv
            by_cases h2 : digB l (blB l a) = l.length ∨ digB r (blB r b) = r.length
            · rw [if_neg (by omega)] at hv
              rw [if_pos (.inr h2), if_neg h1]
              exact .inl ⟨_, rfl, by rw [hv]⟩
            · rw [if_pos (by omega)] at hv
              rw [if_neg (by rintro (q | q); exact h1 q; exact h2 q)]
              by_cases h3 : sg (l.getD (digB l (blB l a)) 0 : Nat) (r.getD (digB r (blB r b)) 0 : Nat) ≠ 0
              · rw [if_pos h3] at hv
                rw [if_pos h3]; exact .inl ⟨_, rfl, by rw [hv]⟩
              · rw [if_neg h3] at hv
                rw [if_neg h3]; exact .inr ⟨_, rfl, hv.symm, by dsimp only; omega⟩
        · have hv := nat_else hlt.1 hlt.2 (by simpa using hd)
          rw [if_neg hd]
          by_cases h3 : sg (l.getD (blB l a) 0 : Nat) (r.getD (blB r b) 0 : Nat) ≠ 0
          · rw [if_pos h3] at hv
            rw [if_pos h3]; exact .inl ⟨_, rfl, by rw [hv]⟩
          · rw [if_neg h3] at hv
            rw [if_neg h3]; exact .inr ⟨_, rfl, hv.symm, by dsimp only; omega⟩
    · refine .inl ⟨?_, ?_⟩
      · refine Ts.conv (b := (decide (((a : Nat) : Int) < (l.length : Nat)) && (decide (((b : Nat) : Int) < (r.length : Nat)) && true))) ?_ (by simp; omega)
        repeat' tb_rel
      · repeat' tb_rel
        rw [← hp, nat_end hlt]; rfl
local macro_rules | `(tactic| walk_at "my call") => `(tactic| first | refine' natural_ok ‹_› ?_ ?_)
theorem lower_ok (T : Tops W) {l : List Nat} (hz : l.length ≤ 1000000) : CallOf W 1 "lower" [.str l] (.str (lowP l)) := by
  refine CallOf.intro (T.defs 44 (by decide)) rfl ?n0 ?n1 ?n2 ?n3 rfl rfl rfl ?n4 ?b
  walk_at "my def"
  refine Ex.newlist (by decide +kernel) (by decide +kernel) (ρf := fun P => [("text", .str l), ("made", .adr P)]) (fun P => by walk_at "my upd") fun P => ?_
  refine ExF.cons (ρ' := [("text", .str l), ("made", .adr P)]) (es' := (lowP l).map fun c => .str [c]) ?_ ?_
  · have e : (lowP l).map (fun c => PV.str [c]) = (fun i => ((lowP l).map fun c => PV.str [c]).take i) ((l.map fun x => PV.str [x]).length) := by
      dsimp only; rw [List.take_of_length_le (by simp [lowP])]
    rw [e]
    refine ExM.forN (fun i => ((lowP l).map fun c => PV.str [c]).take i) (Itr.str (l := l) ?_) (by decide +kernel) (by decide +kernel) (fun i d hd => ?_) (fun _ _ => rfl)
    · repeat' tb_rel
    · simp only [List.getElem?_map, Option.map_eq_some_iff] at hd
      obtain ⟨c, hc, rfl⟩ := hd
      refine ⟨[("text", .str l), ("made", .adr P), ("sign", .str [c])], by walk_at "my upd", ?_⟩
      have e2 : (((lowP l).map fun c => PV.str [c]).take (i + 1)) = ((lowP l).map fun c => PV.str [c]).take i ++ [.str [if 65 ≤ c ∧ c ≤ 90 then c + 32 else c]] := by
        rw [List.take_add_one]
        simp [lowP, hc]
      rw [e2]
      refine ExM.sub (ExM.append (by tb_start) ?_ (by have := (List.getElem?_eq_some_iff.mp hc).1; simp; omega) ?_ ?_ ?_) (by walk_at "my sub")
      all_goals repeat' tb_rel
      · rename_i h
        simp only [nat_lt1, Bool.and_eq_true, Bool.not_eq_true', decide_eq_false_iff_not] at h
        rw [if_pos (by omega)]; first | rfl | (congr 2; omega)
      · rename_i h
        simp only [nat_lt1, Bool.and_eq_false_iff, Bool.not_eq_false', decide_eq_true_eq] at h
        rw [if_neg (by omega)]
  · refine ExF.freeze (ρ' := [("text", .str l), ("made", .lst ((lowP l).map fun c => .str [c]))]) (fun p hp => by
      simp only [List.mem_cons, List.not_mem_nil, or_false] at hp ⊢
      rcases hp with rfl | rfl
      · exact .inl (.inl rfl)
      · exact .inr ⟨rfl, .inr rfl⟩) (by simp [lowP]; exact hz) ?_
    refine Ex.ret (Ev.mJoin (l := lowP l) ?_ ?_ (by simp [lowP]; exact hz) ?_ ?_ ?_)
    all_goals repeat' tb_rel
local macro_rules | `(tactic| walk_at "my call") => `(tactic| refine' lower_ok ‹_› ?_)
noncomputable def natP (nc : Bool) (l r : List Nat) : Int := cmpT (key (rc nc l)) (key (rc nc r))
noncomputable def sc (f : Int) (v w : V) : Int :=
  if f = 1 then sg (num v) (num w) else if f = 2 then ct (txt v) (txt w) else if f = 10 then ct (lowP (txt v)) (lowP (txt w))
  else if f = 6 then natP false (txt v) (txt w) else if f = 14 then natP true (txt v) (txt w) else cp v w
noncomputable def far (v : V) : Bool := decide (9007199254740992 < num v) || decide (num v < -9007199254740992)
theorem txt_len {v : V} (h : Dom v) : (txt v).length ≤ 20 := by
  cases v with
  | none => simp [txt]
  | bool b => cases b <;> simp [txt]
  | int i => exact nums_len i h
  | str l => exact Nat.le_trans (PT.len h) (by decide)
theorem sort_compare_ok (T : Tops W) {v w : V} {f : Int} (hv : Dom v) (hw : Dom w) (hf : f ∈ ([0, 2, 6, 10, 14] : List Int)) : CallOf W 11 "sort_compare" [.none, v.pv, w.pv, .int f] (.int (sc f v w)) := by
  have h1 := txt_len hv
  have h2 := txt_len hw
  refine CallOf.intro (T.defs 74 (by decide)) rfl ?n0 ?n1 ?n2 ?n3 rfl rfl rfl ?n4 ?b
  walk_at "my def"
  simp only [List.mem_cons, List.not_mem_nil, or_false] at hf
  rcases hf with rfl | rfl | rfl | rfl | rfl
  all_goals repeat' tb_rel
  all_goals rfl
local macro_rules | `(tactic| walk_at "my call") => `(tactic| refine' sort_compare_ok ‹_› ?_ ?_ ?_)
theorem sort_compare_1 (T : Tops W) {v w : V} (hv : Dom v) (hw : Dom w) (fv : far v = false) (fw : far w = false) : CallOf W 11 "sort_compare" [.none, v.pv, w.pv, .int 1] (.int (sc 1 v w)) := by
  simp only [far, Bool.or_eq_false_iff, decide_eq_false_iff_not] at fv fw
  refine CallOf.intro (T.defs 74 (by decide)) rfl ?n0 ?n1 ?n2 ?n3 rfl rfl rfl ?n4 ?b
  walk_at "my def"
  with_reducible refine' Ex.iteV (true) ?t2 ?q2 (fun h => ?a2) (fun h => ?b2)
  case t2 => repeat' tb_rel
  case q2 => rfl
  all_goals dsimp only [List.cons_append, List.nil_append]
  ·
    with_reducible refine' Ex.pairV (.int (num v)) (.int (num w)) ?x1 ?n1 ?y1 ?o1 ?e1 ?q1 ?u1 ?v1 ?r1 ?s1 ?w1
    case s1 => intro _; exact rfl
    case w1 => (intro env he; cases env; cases he; exact rfl)
    case x1 => decide +kernel
    case y1 => decide +kernel
    case n1 => decide +kernel
    case o1 => decide +kernel
    case e1 => repeat' tb_rel
    case q1 => rfl
    case u1 => walk_at "my upd"
    case v1 => walk_at "my upd"
    with_reducible refine' Ex.iteV (false) ?t3 ?q3 (fun h => ?a3) (fun h => ?b3)
    case t3 => repeat' tb_rel
    case q3 => (rw [pow53]; simp only [Bool.or_false, Bool.or_eq_false_iff, decide_eq_false_iff_not]; constructor <;> split <;> omega)
    all_goals dsimp only [List.cons_append, List.nil_append]
    · cases h
    · (repeat' tb_rel); rfl
  · cases h
local macro_rules | `(tactic| walk_at "my call") => `(tactic| refine' sort_compare_1 ‹_› ?_ ?_ ?_ ?_)
theorem law_sign_i (T : Tops W) {a b : Int} : CallOf W 1 "_law_sign" [.int a, .int b] (.int (sg a b)) := by
  refine CallOf.intro (T.defs 82 (by decide)) rfl ?n0 ?n1 ?n2 ?n3 rfl rfl rfl ?n4 ?b
  walk_at "my def"
  repeat' tb_rel
  all_goals (simp only [decide_eq_true_eq, decide_eq_false_iff_not] at *; simp [sg, *])
theorem ct_def {a b : List Nat} : ct a b = if a < b then -1 else if b < a then 1 else 0 := by
  unfold ct
  by_cases h : a = b
  · subst h; simp [List.lt_irrefl]
  · rw [if_neg h]
    by_cases h1 : a < b
    · rw [if_pos h1, if_pos h1]
    · rw [if_neg h1, if_neg h1, if_pos]
      rcases trich a b with q | q | q
      · exact absurd q h1
      · exact absurd q h
      · exact q
theorem law_sign_s (T : Tops W) {a b : List Nat} : CallOf W 1 "_law_sign" [.str a, .str b] (.int (ct a b)) := by
  refine CallOf.intro (T.defs 82 (by decide)) rfl ?n0 ?n1 ?n2 ?n3 rfl rfl rfl ?n4 ?b
  walk_at "my def"
  rw [ct_def]
  repeat' tb_rel
  all_goals (simp only [decide_eq_true_eq, decide_eq_false_iff_not] at *; simp [*])
local macro_rules | `(tactic| walk_at "my call") => `(tactic| refine' law_sign_i ‹_›)
local macro_rules | `(tactic| walk_at "my call") => `(tactic| refine' law_sign_s ‹_›)
theorem law_text_ok (T : Tops W) {v : V} (hv : Dom v) : CallOf W 1 "_law_text" [v.pv] (.str (txt v)) := by
  refine CallOf.intro (T.defs 81 (by decide)) rfl ?n0 ?n1 ?n2 ?n3 rfl rfl rfl ?n4 ?b
  walk_at "my def"
  cases v with
  | none => (dsimp only [V.pv]); (repeat' tb_rel); rfl
  | bool b => (cases b <;> dsimp only [V.pv]); (all_goals repeat' tb_rel); (all_goals rfl)
  | int i =>
    dsimp only [V.pv]
    repeat' tb_rel
    all_goals first | exact call_str_i (nums_log i hv) (intTxt_is i) (Nat.le_trans (nums_len i hv) (by decide)) | rfl
  | str l => (dsimp only [V.pv]); (repeat' tb_rel); rfl
local macro_rules | `(tactic| walk_at "my call") => `(tactic| first | refine' law_text_ok ‹_› ?_)
theorem okc_cases {c : Nat} (h : okc c = true) : c = 48 ∨ c = 49 ∨ c = 50 ∨ c = 57 ∨ c = 97 ∨ c = 66 ∨ c = 45 ∨ c = 32 := by simpa [okc] using h
theorem okc_B {c : Nat} (h : okc c = true) : [32].contains c = isB c := by
  rcases okc_cases h with rfl | rfl | rfl | rfl | rfl | rfl | rfl | rfl <;> rfl
theorem okc_D {c : Nat} (h : okc c = true) : [48, 49, 50, 57].contains c = isD c := by
  rcases okc_cases h with rfl | rfl | rfl | rfl | rfl | rfl | rfl | rfl <;> rfl
theorem tw_congr {p q : Nat → Bool} : ∀ {l : List Nat}, (∀ c ∈ l, p c = q c) → l.takeWhile p = l.takeWhile q ∧ l.dropWhile p = l.dropWhile q
  | [], _ => ⟨rfl, rfl⟩
  | c :: t, h => by
    have ih := tw_congr (l := t) fun c hc => h c (.tail _ hc)
    simp only [List.takeWhile_cons, List.dropWhile_cons, h c (.head _), ih.1, ih.2, and_self]
theorem PT.drop {l : List Nat} (h : PT l) (n : Nat) : ∀ c ∈ l.drop n, okc c = true := fun c hc => h.all c (List.mem_of_mem_drop hc)
theorem lr_body {l : List Nat} (h : PT l) : l.dropWhile [32].contains = l.drop (numF l) := by
  rw [(tw_congr fun c hc => okc_B (h.all c hc)).2]
  unfold numF; rw [drop_blB]; rfl
theorem lr_rest {l : List Nat} (h : PT l) : (l.drop (numA l)).dropWhile [48, 49, 50, 57].contains = l.drop (numE l) := by
  rw [(tw_congr fun c hc => okc_D (h.drop _ c hc)).2]
  unfold numE; rw [drop_digB]
theorem cut0 {D : List Nat} : cut D (ptAt D.length 0 none) (ptAt D.length D.length (some 1)) = D.take 1 := by
  unfold cut ptAt; dsimp only
  rw [List.drop_zero]
  cases D <;> simp
theorem cut1' {D : List Nat} : cut D (ptAt D.length 0 (some 1)) (ptAt D.length D.length none) = D.drop 1 := by
  unfold cut ptAt; dsimp only
  rw [List.take_length]
  cases D <;> simp
theorem lr_neg {l : List Nat} : ((l.drop (numF l)).take 1 == [45]) = numN l := by
  unfold numN sl1
  cases e : l.drop (numF l) with
  | nil => obtain ⟨h1, _⟩ := drop_nil e; rw [if_neg (by omega)]; rfl
  | cons c t => obtain ⟨h1, h2, _⟩ := drop_cons e; rw [if_pos h1, h2]; rfl
theorem tw_all {p : Nat → Bool} : ∀ {l : List Nat}, (l.takeWhile p).length = l.length ↔ ∀ c ∈ l, p c = true
  | [] => by simp
  | c :: t => by
    have ih := tw_all (p := p) (l := t)
    simp only [List.takeWhile_cons]
    split
    · rename_i h; simp [ih, h]
    · rename_i h; simp [h]
theorem strip_nil {l : List Nat} : stripP [32] l = [] ↔ ∀ c ∈ l, [32].contains c = true := by
  unfold stripP
  generalize hp : ([32] : List Nat).contains = p
  have h1 := (List.takeWhile_prefix p (l := l)).length_le
  constructor
  · intro h
    rw [← tw_all]
    have h2 := (List.takeWhile_prefix p (l := (l.drop (l.takeWhile p).length).reverse)).length_le
    have h3 := congrArg List.length h
    simp only [List.length_drop, List.length_take, List.length_nil, List.length_reverse] at h2 h3
    by_cases hlt : (l.takeWhile p).length < l.length
    · exfalso
      have h4 : ((l.drop (l.takeWhile p).length).reverse.takeWhile p).length = (l.drop (l.takeWhile p).length).reverse.length := by simp only [List.length_reverse, List.length_drop]; omega
      rw [tw_all] at h4
      have h5 := tw_stop (p := p) l 0
      simp only [List.drop_zero, Nat.zero_add] at h5
      have h6 : l.getD (l.takeWhile p).length 0 ∈ (l.drop (l.takeWhile p).length).reverse := by
        have e : l.getD (l.takeWhile p).length 0 = l[(l.takeWhile p).length] := by simp [List.getD_eq_getElem?_getD, hlt]
        rw [List.mem_reverse, List.drop_eq_getElem_cons hlt, e]
        exact List.mem_cons_self
      rw [h4 _ h6] at h5
      simp [hlt] at h5
    · omega
  · intro h
    rw [← tw_all] at h
    rw [h]
    simp
theorem lr_end {l : List Nat} (hp : PT l) : (stripP [32] (l.drop (numE l)) == []) = decide (blB l (numE l) = l.length) := by
  rw [Bool.eq_iff_iff, beq_iff_eq, strip_nil, decide_eq_true_eq]
  have hE := (numE_le (l := l)).2
  have h := tw_all (p := isB) (l := l.drop (numE l))
  have hc : (∀ c ∈ l.drop (numE l), [32].contains c = true) ↔ ∀ c ∈ l.drop (numE l), isB c = true := by
    constructor
    · intro q c hc; rw [← okc_B (hp.drop _ c hc)]; exact q c hc
    · intro q c hc; rw [okc_B (hp.drop _ c hc)]; exact q c hc
  rw [hc, ← h]
  unfold blB
  simp only [List.length_drop]
  omega
theorem law_read_ok (T : Tops W) {l : List Nat} (hp : PT l) : CallOf W 1 "_law_read" [.str l] (.tup [.bool (numC l == 2), .int (numV l)]) := by
  have hl := hp.len
  have hA := numA_le (l := l)
  have hE := numE_le (l := l)
  have hF : numF l ≤ l.length := (blB_le (l := l) (n := 0) (Nat.zero_le _)).2
  refine CallOf.intro (T.defs 78 (by decide)) rfl ?n0 ?n1 ?n2 ?n3 rfl rfl rfl ?n4 ?b
  walk_at "my def"
  with_reducible refine' Ex.assignV (.str (l.drop (numF l))) ?x2 ?n2 ?e2 ?q2 ?u2 ?r2 ?s2
  case s2 => intro _; exact rfl
  case x2 => decide +kernel
  case n2 => decide +kernel
  case e2 => repeat' tb_rel
  case q2 => (rw [lr_body hp])
  case u2 => walk_at "my upd"
  with_reducible refine' Ex.assign (d := .str (l.drop (numA l))) ?x1 ?n1 ?e1 ?u1 ?r1 ?s1
  case s1 => intro _; exact rfl
  case x1 => decide +kernel
  case n1 => decide +kernel
  case e1 => ((repeat' tb_rel); all_goals (rename_i h; rw [cut0, lr_neg] at h; simp only [cut1', numA, h, if_true, Bool.false_eq_true, if_false, List.drop_drop, Nat.add_comm]))
  case u1 => walk_at "my upd"
  with_reducible refine' Ex.assignV (.int ((numE l - numA l : Nat))) ?x3 ?n3 ?e3 ?q3 ?u3 ?r3 ?s3
  case s3 => intro _; exact rfl
  case x3 => decide +kernel
  case n3 => decide +kernel
  case e3 => repeat' tb_rel
  case q3 => (rw [lr_rest hp]; simp only [List.length_drop]; congr 1; omega)
  case u3 => walk_at "my upd"
  with_reducible refine' Ex.assignV (.int 0) ?x4 ?n4 ?e4 ?q4 ?u4 ?r4 ?s4
  case s4 => intro _; exact rfl
  case x4 => decide +kernel
  case n4 => decide +kernel
  case e4 => repeat' tb_rel
  case q4 => rfl
  case u4 => walk_at "my upd"
  refine' Ex.for_next (ρ' := [("text", .str l), ("body", .str (l.drop (numF l))), ("digits", .str (l.drop (numA l))), ("size", .int ((numE l - numA l : Nat))), ("n", .int (dv l (numA l) (numE l - numA l)))]) (by decide +kernel) (by decide +kernel) (Itr.str (l := (l.drop (numA l)).take (numE l - numA l)) (Ev.conv ?i1 ?i2)) ?loop ?r (fun _ _ => rfl)
  case i1 => repeat' tb_rel
  case i2 => 
    unfold cut ptAt; dsimp only
    rw [List.drop_zero, show min ((((numE l - numA l : Nat) : Int)).toNat) (l.drop (numA l)).length = numE l - numA l by simp only [List.length_drop]; omega]
  case loop =>
    have elen : (((l.drop (numA l)).take (numE l - numA l)).map fun x => PV.str [x]).length = numE l - numA l := by simp; omega
    refine ForL.steps' (fun j => [("text", .str l), ("body", .str (l.drop (numF l))), ("digits", .str (l.drop (numA l))), ("size", .int ((numE l - numA l : Nat))), ("n", .int (dv l (numA l) j))]) rfl (by rw [elen]) (fun j d hj => ?_)
    simp only [List.getElem?_map, Option.map_eq_some_iff, List.getElem?_take, List.getElem?_drop] at hj
    obtain ⟨c, hc, rfl⟩ := hj
    split at hc
    · rename_i hlt
      have hc' : l.getD (numA l + j) 0 = c := by rw [List.getD_eq_getElem?_getD, hc]; rfl
      have hD : isD c = true := by rw [← hc']; exact digB_all (l := l) (n := numA l) (j := j) hlt
      have hv := dv_small (l := l) (a := numA l) (n := j) (fun q hq => digB_all (l := l) (n := numA l) (j := q) (by unfold numE at hlt; omega)) (by omega)
      refine' step_next ?hu ?hb ?hs
      case hu => walk_at "my upd"
      case hb =>
        with_reducible refine' Ex.assignV (.int (dv l (numA l) (j + 1))) ?x5 ?n5 ?e5 ?q5 ?u5 ?r5 ?s5
        case s5 => intro _; exact rfl
        case x5 => decide +kernel
        case n5 => decide +kernel
        case e5 => repeat' tb_rel
        case q5 => (rw [isD_iff] at hD; simp only [dv, hc']; congr 1; omega)
        case u5 => walk_at "my upd"
        exact Ex.nil
      case hs => walk_at "my sub"
    · cases hc
  case r =>
    refine' Ex.ret (Ev.tuple (ds := [.bool (numC l == 2), .int (numV l)]) (Evs.cons (Ev.conv ?_ ?_) (Evs.cons ?_ Evs.nil ?_) ?_) ?_)
    all_goals repeat' tb_rel
    · have e1 : cut (l.drop (numA l)) (ptAt (l.drop (numA l)).length 0 (some ((numE l - numA l : Nat) : Int))) (ptAt (l.drop (numA l)).length (l.drop (numA l)).length none) = l.drop (numE l) := by
        unfold cut ptAt; dsimp only
        rw [List.take_length, show min ((((numE l - numA l : Nat) : Int)).toNat) (l.drop (numA l)).length = numE l - numA l by simp only [List.length_drop]; omega, List.drop_drop]
        congr 1; omega
      rw [e1, lr_end hp, numC]
      congr 1
      by_cases h1 : numE l = numA l
      · rw [if_pos h1, h1]; simp
      · rw [if_neg h1]
        by_cases h2 : blB l (numE l) = l.length
        · rw [if_pos h2, decide_eq_true h2, decide_eq_true (by omega)]; rfl
        · rw [if_neg h2, decide_eq_false h2, Bool.and_false]; rfl
    all_goals (rename_i h; rw [cut0, lr_neg] at h; simp [numV, h])
local macro_rules | `(tactic| walk_at "my call") => `(tactic| refine' law_read_ok ‹_› ?_)
noncomputable def isNum : V → Bool
  | .int _ => true
  | .str l => numC l == 2
  | _ => false
theorem law_is_number_ok (T : Tops W) {v : V} (hv : Dom v) : CallOf W 2 "_law_is_number" [v.pv] (.bool (isNum v)) := by
  refine CallOf.intro (T.defs 79 (by decide)) rfl ?n0 ?n1 ?n2 ?n3 rfl rfl rfl ?n4 ?b
  walk_at "my def"
  cases v with
  | none => (dsimp only [V.pv]); (repeat' tb_rel); rfl
  | bool b => (dsimp only [V.pv]); (repeat' tb_rel); rfl
  | int i => (dsimp only [V.pv]); (repeat' tb_rel); rfl
  | str l => (dsimp only [V.pv]); (repeat' tb_rel); first | rfl | exact hv
local macro_rules | `(tactic| walk_at "my call") => `(tactic| refine' law_is_number_ok ‹_› ?_)
theorem law_number_ok (T : Tops W) {v : V} (hv : Dom v) : CallOf W 2 "_law_number" [v.pv] (.int (num v)) := by
  refine CallOf.intro (T.defs 80 (by decide)) rfl ?n0 ?n1 ?n2 ?n3 rfl rfl rfl ?n4 ?b
  walk_at "my def"
  cases v with
  | none => (dsimp only [V.pv]); (repeat' tb_rel); rfl
  | bool b => (dsimp only [V.pv]); (repeat' tb_rel); rfl
  | int i => (dsimp only [V.pv]); (repeat' tb_rel); rfl
  | str l => (dsimp only [V.pv]); (repeat' tb_rel); first | rfl | exact hv
local macro_rules | `(tactic| walk_at "my call") => `(tactic| refine' law_number_ok ‹_› ?_)
theorem law_is_far_ok (T : Tops W) {v : V} (hv : Dom v) : CallOf W 3 "_law_is_far" [v.pv] (.bool (far v)) := by
  refine CallOf.intro (T.defs 85 (by decide)) rfl ?n0 ?n1 ?n2 ?n3 rfl rfl rfl ?n4 ?b
  walk_at "my def"
  repeat' tb_rel
  rw [pow53, far]
  congr 1
  rw [Bool.eq_iff_iff]
  simp only [decide_eq_true_eq, Bool.or_eq_true]
  split <;> omega
local macro_rules | `(tactic| walk_at "my call") => `(tactic| refine' law_is_far_ok ‹_› ?_)
theorem compOk_nil {scope cs : Scope} {ρ : PEnv} (h1 : ∀ y ∈ scope.names, y.2 ≠ .free) (h2 : scope.kind = .function) (h3 : ∀ y ∈ scope.names, y.2 = .local → scope.names.lookup y.1 = some .local) : CompOk scope cs ρ [] :=
  { fv := fun y hy e => absurd e (h1 y hy), sub := fun p hp => (nomatch hp), kind := h2, names := h3 }
noncomputable def isTxt : V → Bool
  | .str l => !(numC l == 2)
  | _ => false
noncomputable def isNat : V → Bool
  | .int i => decide (0 ≤ i)
  | _ => false
noncomputable def due (f : Int) (v w : V) : Option Int :=
  if f = 1 ∨ (f = 0 ∧ isNum v = true ∧ isNum w = true) then some (sg (num v) (num w))
  else if f = 2 ∨ (f = 0 ∧ isTxt v = true ∧ isTxt w = true) then some (ct (txt v) (txt w))
  else if f = 10 then some (ct (lowP (txt v)) (lowP (txt w)))
  else if isNat v = true ∧ isNat w = true then some (sg (num v) (num w)) else none
noncomputable def optP : Option Int → PV
  | none => .none
  | some i => .int i
theorem fmv_range {vs : List V} (G : V → Option PV) : (List.range (vs.map V.pv).length).filterMap (fun i => (vs[i]?).bind G) = vs.filterMap G := by
  rw [List.length_map]
  induction vs with
  | nil => rfl
  | cons d ds ih =>
    rw [List.length_cons, List.range_succ_eq_map, List.filterMap_cons]
    simp only [List.filterMap_map, List.getElem?_cons_zero, Option.bind_some, List.filterMap_cons]
    have : (List.range ds.length).filterMap ((fun i => ((d :: ds)[i]?).bind G) ∘ Nat.succ) = ds.filterMap G := by rw [← ih]; rfl
    rw [this]
theorem fmv_all {vs : List V} (g : V → PV) : vs.filterMap (fun d => some (g d)) = vs.map g := by induction vs <;> simp_all
theorem fmv_fil {vs : List V} (p : V → Bool) : vs.filterMap (fun d => if p d = true then some d.pv else Option.none) = (vs.filter p).map V.pv := by
  induction vs with
  | nil => rfl
  | cons d ds ih =>
    simp only [List.filterMap_cons, List.filter_cons, ih]
    cases p d <;> rfl
theorem flat_map (vs : List V) : (vs.map V.pv).all flat = true := by
  induction vs with
  | nil => rfl
  | cons v vs ih => rw [List.map_cons, List.all_cons, ih, V.flat]; rfl
theorem compV {elt iter : Expr} {x : Str} {px pos : Pos} {ifs : List Expr} {scope : Scope} {ρi : PEnv} {vs : List V} (G : V → Option PV)
    (ho : CompOk scope cs ρ ρi) (hcell : ∀ y ∈ scope.names, y.2 ≠ .cell) (hx : scope.names.lookup x = some .local) (hno : NmOk x = true) (hz : vs.length ≤ 1000000) (hi : Itr W k cs ρ iter (vs.map V.pv))
    (hturn : ∀ v ∈ vs, Turn W k (relC scope cs) ((x, v.pv) :: ρi) ifs elt (G v)) (hs : ∀ env v, foldedSetIterable iter env v = pure v) : CompR W k cs ρ elt iter x px ifs scope pos (vs.filterMap G) := fun ipos use Q c own N m lm s₀ s ok hc hns at' he hfin =>
  comp_run (fun i => (vs[i]?).bind G) ho hcell hx hno (by rw [List.length_map]; exact hz) hi (fun i d hd => by
    rw [List.getElem?_map] at hd
    cases hv : vs[i]? with
    | none => rw [hv] at hd; cases hd
    | some v => rw [hv] at hd; cases hd; exact hturn v (List.mem_of_getElem? hv)) hs c own N m lm s₀ s ok hc hns at' he (by rw [fmv_range]; exact hfin)
theorem compFil {iter ct : Expr} {x : Str} {px pe pos : Pos} {scope : Scope} {ρi : PEnv} {vs : List V} (p : V → Bool)
    (ho : CompOk scope cs ρ ρi) (hcell : ∀ y ∈ scope.names, y.2 ≠ .cell) (hx : scope.names.lookup x = some .local) (hno : NmOk x = true) (hz : vs.length ≤ 1000000) (hi : Itr W k cs ρ iter (vs.map V.pv))
    (ht : ∀ v ∈ vs, Ts W k (relC scope cs) ((x, v.pv) :: ρi) ct (p v)) (hs : ∀ env v, foldedSetIterable iter env v = pure v) : CompR W k cs ρ (.Name x pe) iter x px [ct] scope pos ((vs.filter p).map V.pv) :=
  (compV (elt := .Name x pe) (ifs := [ct]) (fun d => if p d = true then some d.pv else Option.none) ho hcell hx hno hz hi (fun v hv => ⟨(ht v hv).conv (by cases p v <;> rfl), fun e he => by
    cases hp : p v with
    | true => rw [hp] at he; cases he; exact Ev.name (.head _)
    | false => rw [hp] at he; cases he⟩) hs).conv (fmv_fil p)
theorem compAll {elt iter : Expr} {x : Str} {px pos : Pos} {scope : Scope} {ρi : PEnv} {vs : List V} (g : V → PV)
    (ho : CompOk scope cs ρ ρi) (hcell : ∀ y ∈ scope.names, y.2 ≠ .cell) (hx : scope.names.lookup x = some .local) (hno : NmOk x = true) (hz : vs.length ≤ 1000000) (hi : Itr W k cs ρ iter (vs.map V.pv))
    (he : ∀ v ∈ vs, Ev W k (relC scope cs) ((x, v.pv) :: ρi) elt (g v)) (hs : ∀ env v, foldedSetIterable iter env v = pure v) : CompR W k cs ρ elt iter x px [] scope pos (vs.map g) :=
  (compV (elt := elt) (ifs := []) (fun d => some (g d)) ho hcell hx hno hz hi (fun v hv => ⟨_, rfl, he v hv⟩) hs).conv (fmv_all g)
theorem txt_ascii {v : V} (h : Dom v) : ∀ c ∈ txt v, c < 128 := by
  cases v with
  | none => simp [txt]
  | bool b => cases b <;> simp [txt]
  | int i =>
    have : ∀ i ∈ nums, ∀ c ∈ intTxt i, c < 128 := by decide +kernel
    exact this i h
  | str l => exact fun c hc => by rcases okc_cases (PT.all h c hc) with rfl | rfl | rfl | rfl | rfl | rfl | rfl | rfl <;> decide
theorem isTxt_eq (x : V) : (isStrV x.pv && !isNum x) = isTxt x := by cases x <;> rfl
theorem peqs_two {a b : Bool} : peqs [.bool a, .bool b] [.bool true, .bool true] = (a && b) := by cases a <;> cases b <;> rfl
theorem peqs_nil {ds : List PV} : peqs ds [] = ds.isEmpty := by cases ds <;> rfl
theorem law_due_ok (T : Tops W) {v w : V} {f : Int} (hv : Dom v) (hw : Dom w) (hf : f ∈ ([0, 1, 2, 6, 10, 14] : List Int)) : CallOf W 4 "_law_due" [.int f, v.pv, w.pv] (optP (due f v w)) := by
  refine CallOf.intro (T.defs 88 (by decide)) rfl ?n0 ?n1 ?n2 ?n3 rfl rfl rfl ?n4 ?b
  walk_at "my def"
  have hd : ∀ x ∈ [v, w], Dom x := fun x hx => by simp at hx; rcases hx with rfl | rfl <;> assumption
  with_reducible refine' Ex.assignV (.bool (isNum v && isNum w)) ?x1 ?n1 ?e1 ?q1 ?u1 ?r1 ?s1
  case s1 => intro _; exact rfl
  case x1 => decide +kernel
  case n1 => decide +kernel
  case e1 => repeat' tb_rel
  case q1 => rfl
  case u1 => walk_at "my upd"
  with_reducible refine' Ex.assignV (.bool (isTxt v && isTxt w)) ?x ?n ?e ?q ?u ?r ?s
  case s => intro _; exact rfl
  case x => decide +kernel
  case n => decide +kernel
  case u => walk_at "my upd"
  case e =>
    refine' Ev.cmp (ev_comp (compAll (vs := [v, w]) (fun v => .bool (isTxt v)) (compOk_nil (by decide +kernel) rfl (by decide +kernel)) (by decide +kernel) (by decide +kernel) (by decide +kernel) (by simp) (Itr.tup ?i) ?t (fun _ _ => rfl)) (by simp)) ?l (op_eq_lst (es := [.bool true, .bool true]) (by simp [flat]) rfl) rfl
    case i => (dsimp only [List.map]); (repeat' tb_rel)
    case l => repeat' tb_rel
    case t =>
      intro x hx
      have hx := hd x hx
      refine' Ev.conv (d := .bool (isStrV x.pv && !isNum x)) ?_ (congrArg PV.bool (isTxt_eq x))
      repeat' tb_rel
  case q => exact congrArg PV.bool peqs_two
  with_reducible refine' Ex.iteV ((f == 1 || (f == 0 && (isNum v && isNum w)))) ?t2 ?q2 (fun h => ?a2) (fun h => ?b2)
  case t2 => repeat' tb_rel
  case q2 => (simp)
  all_goals dsimp only [List.cons_append, List.nil_append]
  · refine' Ex.ret (Ev.conv (d := .int (sg (num v) (num w))) ?_ ?_)
    · repeat' tb_rel
    · rw [due, if_pos (by simpa using h)]; rfl
  have h1 := h; clear h
  with_reducible refine' Ex.iteV ((f == 2 || (f == 0 && (isTxt v && isTxt w)))) ?t3 ?q3 (fun h => ?a3) (fun h => ?b3)
  case t3 => repeat' tb_rel
  case q3 => (simp)
  all_goals dsimp only [List.cons_append, List.nil_append]
  · refine' Ex.ret (Ev.conv (d := .int (ct (txt v) (txt w))) ?_ ?_)
    · repeat' tb_rel
    · rw [due, if_neg (by simpa using h1), if_pos (by simpa using h)]; rfl
  have h2 := h; clear h
  with_reducible refine' Ex.iteV ((f == 10)) ?t4 ?q4 (fun h => ?a4) (fun h => ?b4)
  case t4 => repeat' tb_rel
  case q4 => rfl
  all_goals dsimp only [List.cons_append, List.nil_append]
  · refine' Ex.ret (Ev.conv (d := .int (ct (lowP (txt v)) (lowP (txt w)))) ?_ ?_)
    · (repeat' tb_rel); all_goals (first | exact txt_ascii hv | exact txt_ascii hw)
    · rw [due, if_neg (by simpa using h1), if_neg (by simpa using h2), if_pos (by simpa using h)]; rfl
  have h3 := h; clear h
  have nn : ∀ x, isNat x = true → isNum x = true := fun x => by cases x <;> simp [isNat, isNum]
  with_reducible refine' Ex.assignV (.bool (isNat v && isNat w)) ?x2 ?n2 ?e2 ?q2 ?u2 ?r2 ?s2
  case s2 => intro _; exact rfl
  case x2 => decide +kernel
  case n2 => decide +kernel
  case u2 => walk_at "my upd"
  case e2 =>
    refine' Ev.andG (Ev.name (by tb_start)) (AndGo.both fun h => Ev.bool_one (Ev.cmp (ev_comp (compFil (vs := [v, w]) (fun x => !isNat x) (compOk_nil (by decide +kernel) rfl (by decide +kernel)) (by decide +kernel) (by decide +kernel) (by decide +kernel) (by simp) (Itr.tup ?i2) ?t2 (fun _ _ => rfl)) ?z2) ?l2 (op_eq_lst (es := []) (flat_map _) rfl) rfl))
    case i2 => (dsimp only [List.map]); (repeat' tb_rel)
    case z2 => rw [List.length_map]; exact Nat.le_trans (List.length_filter_le _ _) (by simp)
    case l2 => repeat' tb_rel
    case t2 =>
      intro x hx
      have hn : isNum x = true := by
        simp only [Bool.and_eq_true] at h
        simp at hx; rcases hx with rfl | rfl
        · exact h.1
        · exact h.2
      cases x with
      | none => cases hn
      | bool b => cases hn
      | int i => (dsimp only [V.pv, isNat]); (refine' Ts.conv (b := decide (i < 0) || false) ?_ ?_); (repeat' tb_rel); (rw [Bool.or_false, Bool.eq_iff_iff]; simp)
      | str l => (dsimp only [V.pv, isNat]); (repeat' tb_rel)
  case q2 =>
    rw [peqs_nil]
    congr 1
    rw [Bool.eq_iff_iff]
    simp only [Bool.and_eq_true, List.isEmpty_iff, List.map_eq_nil_iff, List.filter_eq_nil_iff, List.mem_cons, List.not_mem_nil, or_false, forall_eq_or_imp, forall_eq, Bool.not_eq_true', Bool.not_eq_false]
    exact ⟨fun q => q.2, fun q => ⟨⟨nn v q.1, nn w q.2⟩, q⟩⟩
  rw [due, if_neg (by simpa using h1), if_neg (by simpa using h2), if_neg (by simpa using h3)]
  have e : ∀ x, isNat x = true → ∃ i, x = .int i := fun x => by cases x <;> simp [isNat]
  cases hq : (isNat v && isNat w) with
  | true =>
    simp only [Bool.and_eq_true] at hq
    obtain ⟨i, rfl⟩ := e v hq.1
    obtain ⟨j, rfl⟩ := e w hq.2
    rw [if_pos hq]
    dsimp only [V.pv, num, optP]
    repeat' tb_rel
  | false =>
    rw [if_neg (by rw [← Bool.and_eq_true, hq]; decide)]
    repeat' tb_rel
    rfl
local macro_rules | `(tactic| walk_at "my call") => `(tactic| refine' law_due_ok ‹_› ?_ ?_ ?_)
noncomputable def isNul : V → Bool
  | .none => true
  | _ => false
noncomputable def ring (three : List V) : Option Bool :=
  let ns := three.filter isNum; let ts := three.filter isTxt; let bs := three.filter isNul
  if ts.length + bs.length = 3 ∨ (ns.length + ts.length + bs.length < 3 ∧ ns = [] ∧ ts = []) then some false
  else if ns.length + ts.length < 3 then none
  else if ns.length ≠ 2 then some false
  else
    let x := txt (ns.getD 0 .none); let y := txt (ns.getD 1 .none); let t := txt (ts.getD 0 .none)
    some ((decide (x < t) && decide (t < y) || decide (y < t) && decide (t < x)) && sg (num (ns.getD 0 .none)) (num (ns.getD 1 .none)) != ct x y)
noncomputable def optB : Option Bool → PV
  | none => .none
  | some b => .bool b
theorem law_is_ring_ok (T : Tops W) {vs : List V} (hv : ∀ v ∈ vs, Dom v) (hl : vs.length = 3) : CallOf W 4 "_law_is_ring" [.lst (vs.map V.pv)] (optB (ring vs)) := by
  refine CallOf.intro (T.defs 83 (by decide)) rfl ?n0 ?n1 ?n2 ?n3 rfl rfl rfl ?n4 ?b
  walk_at "my def"
  have lf : ∀ p : V → Bool, (vs.filter p).length ≤ 3 := fun p => hl ▸ List.length_filter_le p vs
  refine' ex_comp (compFil (vs := vs) isNum (compOk_nil (by decide +kernel) rfl (by decide +kernel)) (by decide +kernel) (by decide +kernel) (by decide +kernel) (by omega) (Itr.list ?i) ?t (fun _ _ => rfl)) ?z (by decide +kernel) (by decide +kernel) ?u ?r (by intro env he; cases env; cases he; rfl)
  case i => repeat' tb_rel
  case t => (intro x hx; have hx := hv x hx); (repeat' tb_rel)
  case z => rw [List.length_map]; exact Nat.le_trans (lf _) (by decide)
  case u => walk_at "my upd"
  refine' ex_comp (compFil (vs := vs) isTxt (compOk_nil (by decide +kernel) rfl (by decide +kernel)) (by decide +kernel) (by decide +kernel) (by decide +kernel) (by omega) (Itr.list ?i2) ?t2 (fun _ _ => rfl)) ?z2 (by decide +kernel) (by decide +kernel) ?u2 ?r2 (by intro env he; cases env; cases he; rfl)
  case i2 => repeat' tb_rel
  case t2 =>
    intro x hx; have hx := hv x hx
    refine' Ts.conv (b := (isStrV x.pv && (!isNum x && true))) ?_ (by rw [Bool.and_true]; exact isTxt_eq x)
    repeat' tb_rel
  case z2 => rw [List.length_map]; exact Nat.le_trans (lf _) (by decide)
  case u2 => walk_at "my upd"
  refine' ex_comp (compFil (vs := vs) isNul (compOk_nil (by decide +kernel) rfl (by decide +kernel)) (by decide +kernel) (by decide +kernel) (by decide +kernel) (by omega) (Itr.list ?i3) ?t3 (fun _ _ => rfl)) ?z3 (by decide +kernel) (by decide +kernel) ?u3 ?r3 (by intro env he; cases env; cases he; rfl)
  case i3 => repeat' tb_rel
  case t3 =>
    intro x hx
    refine' Ts.conv (b := isNone x.pv) ?_ (by cases x <;> rfl)
    repeat' tb_rel
  case z3 => rw [List.length_map]; exact Nat.le_trans (lf _) (by decide)
  case u3 => walk_at "my upd"
  generalize hns : vs.filter isNum = ns
  generalize hts : vs.filter isTxt = ts
  generalize hbs : vs.filter isNul = bs
  have ln : ns.length ≤ 3 := hns ▸ lf _
  have lt : ts.length ≤ 3 := hts ▸ lf _
  have hr : ring vs = if ts.length + bs.length = 3 ∨ (ns.length + ts.length + bs.length < 3 ∧ ns = [] ∧ ts = []) then some false
      else if ns.length + ts.length < 3 then none
      else if ns.length ≠ 2 then some false
      else some ((decide (txt (ns.getD 0 .none) < txt (ts.getD 0 .none)) && decide (txt (ts.getD 0 .none) < txt (ns.getD 1 .none)) || decide (txt (ns.getD 1 .none) < txt (ts.getD 0 .none)) && decide (txt (ts.getD 0 .none) < txt (ns.getD 0 .none))) && sg (num (ns.getD 0 .none)) (num (ns.getD 1 .none)) != ct (txt (ns.getD 0 .none)) (txt (ns.getD 1 .none))) := by
    rw [← hns, ← hts, ← hbs]; rfl
  rw [hr]
  have e1 : ((ts.length : Int) + bs.length == 3) = decide (ts.length + bs.length = 3) := by rw [Bool.eq_iff_iff]; simp; omega
  have e2 : decide ((ns.length : Int) + ts.length + bs.length < 3) = decide (ns.length + ts.length + bs.length < 3) := by rw [Bool.eq_iff_iff]; simp; omega
  have e3 : (ns.map V.pv ++ ts.map V.pv).isEmpty = (ns ++ ts).isEmpty := by cases ns <;> cases ts <;> rfl
  have e4 : decide ((ns.length : Int) + ts.length < 3) = decide (ns.length + ts.length < 3) := by rw [Bool.eq_iff_iff]; simp; omega
  have e5 : ((ns.length : Int) != 2) = decide (ns.length ≠ 2) := by rw [Bool.eq_iff_iff]; simp; omega
  with_reducible refine' Ex.iteV ((decide (ts.length + bs.length = 3) || (decide (ns.length + ts.length + bs.length < 3) && (ns ++ ts).isEmpty))) ?t2 ?q2 (fun h => ?a2) (fun h => ?b2)
  case t2 => ((repeat' tb_rel); all_goals first | (simp; omega) | (rw [List.all_append, flat_map, flat_map]; rfl))
  case q2 => (rw [peqs_nil, e3]; simp only [List.length_map, Bool.and_true, Bool.or_false, e1, e2])
  all_goals dsimp only [List.cons_append, List.nil_append]
  · rw [if_pos (by simpa using h)]
    repeat' tb_rel
    all_goals rfl
  rw [if_neg (by simpa using h)]
  clear h
  with_reducible refine' Ex.iteV ((decide (ns.length + ts.length < 3))) ?t3 ?q3 (fun h => ?a3) (fun h => ?b3)
  case t3 => repeat' tb_rel
  case q3 => (simp only [List.length_map, e4])
  all_goals dsimp only [List.cons_append, List.nil_append]
  · rw [if_pos (by simpa using h)]
    repeat' tb_rel
    all_goals rfl
  have h4 := h; clear h
  rw [if_neg (by simpa using h4)]
  with_reducible refine' Ex.iteV ((decide (ns.length ≠ 2))) ?t4 ?q4 (fun h => ?a4) (fun h => ?b4)
  case t4 => repeat' tb_rel
  case q4 => (simp only [List.length_map, e5])
  all_goals dsimp only [List.cons_append, List.nil_append]
  · rw [if_pos (by simpa using h)]
    repeat' tb_rel
    all_goals rfl
  rw [if_neg (by simpa using h)]
  have hn2 : ns.length = 2 := by simpa using h
  clear h hr e1 e2 e3 e4 e5
  simp only [decide_eq_false_iff_not] at h4
  match ns, hn2 with
  | [a, b], _ =>
  match ts, (show 1 ≤ ts.length by simp at h4; omega) with
  | t :: ts', _ =>
  have ht : isTxt t = true := (List.mem_filter.mp (hts ▸ List.mem_cons_self : t ∈ vs.filter isTxt)).2
  have ha : Dom a := hv a (List.mem_filter.mp (hns ▸ (by simp) : a ∈ vs.filter isNum)).1
  have hb : Dom b := hv b (List.mem_filter.mp (hns ▸ (by simp) : b ∈ vs.filter isNum)).1
  match t, ht with
  | .str l, _ =>
  show Ex _ _ _ _ _ (.ret (.bool (((decide (txt a < l) && decide (l < txt b)) || (decide (txt b < l) && decide (l < txt a))) && (sg (num a) (num b) != ct (txt a) (txt b)))))
  refine' Ex.unpack2 (d1 := .str (txt a)) (d2 := .str (txt b)) (by decide +kernel) (by decide +kernel) (by decide +kernel) (by decide +kernel) (ev_comp (compAll (vs := [a, b]) (fun v => .str (txt v)) (compOk_nil (by decide +kernel) rfl (by decide +kernel)) (by decide +kernel) (by decide +kernel) (by decide +kernel) (by simp) (Itr.list ?i4) ?t4 (fun _ _ => rfl)) (by simp)) ?u4 ?u5 ?r4 (by intro env he; cases env; cases he; rfl) (by intro env he; cases env; cases he; rfl)
  case i4 => repeat' tb_rel
  case t4 => (intro x hx; have hx : Dom x := by (simp at hx; rcases hx with rfl | rfl <;> assumption)); (repeat' tb_rel)
  case u4 => walk_at "my upd"
  case u5 => walk_at "my upd"
  have es : (V.str l).pv = PV.str l := rfl
  simp only [List.map_cons, List.map_nil, es]
  with_reducible refine' Ex.assignV (.bool ((decide (txt a < l) && decide (l < txt b)) || (decide (txt b < l) && decide (l < txt a)))) ?x1 ?n1 ?e1 ?q1 ?u1 ?r1 ?s1
  case s1 => intro _; exact rfl
  case x1 => decide +kernel
  case n1 => decide +kernel
  case e1 => repeat' tb_rel
  case q1 => (simp)
  case u1 => walk_at "my upd"
  refine' Ex.ret (Ev.conv ?_ rfl)
  repeat' tb_rel
local macro_rules | `(tactic| walk_at "my call") => `(tactic| refine' law_is_ring_ok ‹_› ?_ ?_)
theorem told_row {f : V → PV} {vs : List V} {k : Nat} (h : k < vs.length) : (vs.map f)[((k : Int)).toNat]? = some (f (vs.getD k .none)) := by
  simp [List.getD_eq_getElem?_getD, h]
local macro_rules | `(tactic| walk_at "my rest") => `(tactic| ((with_reducible show @Eq (Option PV) _ _); exact told_row (by assumption)))
local macro_rules | `(tactic| walk_at "my rest") => `(tactic| ((with_reducible show @LE.le Int 0 (Nat.cast _)); exact Int.natCast_nonneg _))
noncomputable def toldP (s : V → V → Int) (vs : List V) : PV := .lst (vs.map fun a => .lst (vs.map fun b => .int (s a b)))
noncomputable def tri (s : V → V → Int) (x y z : V) : Bool := decide (s x y ≤ 0) && (decide (s y z ≤ 0) && decide (0 < s x z))
noncomputable def hasR (s : V → V → Int) (vs : List V) (ks : List Nat) : Bool :=
  ks.any fun k => ks.any fun j => ks.any fun i => tri s (vs.getD k .none) (vs.getD j .none) (vs.getD i .none)
theorem ForL.any {α : Type} {x : Str} {body : List Stmt} {r : PV} {g : α → PV} {p : α → Bool} : ∀ {as : List α}, (∀ a ∈ as, ∃ ρ1, Upd x (g a) ρ ρ1 ∧ Ex W k cs ρ1 body (if p a = true then .ret r else .next ρ)) →
    ForL W k cs x body (as.map g) ρ (if as.any p = true then .ret r else .next ρ)
  | [], _ => .nil
  | a :: as, h => by
    obtain ⟨ρ1, hu, hb⟩ := h a (.head _)
    have ih := ForL.any (as := as) fun b hb => h b (.tail _ hb)
    rw [List.any_cons]
    cases hp : p a with
    | true => rw [hp] at hb; exact .ret hu hb
    | false => rw [hp] at hb; rw [Bool.false_or]; exact .next hu hb ih
theorem ex_for_any {α : Type} {x : Str} {xp pos : Pos} {iter : Expr} {body rest : List Stmt} {r : PV} {out : Out} {as : List α} (g : α → PV) (p : α → Bool) (hx : cs.names.lookup x = some .local) (hno : NmOk x = true) (hi : Itr W k cs ρ iter (as.map g))
    (hb : ∀ a ∈ as, ∃ ρ1, Upd x (g a) ρ ρ1 ∧ Ex W k cs ρ1 body (if p a = true then .ret r else .next ρ))
    (ho : as.any p = true → out = .ret r) (hr : as.any p = false → Ex W k cs ρ rest out)
    (hs : ∀ env v, foldedSetIterable iter env v = pure v) : Ex W k cs ρ (.For (.Name x xp) iter body [] pos :: rest) out := by
  have h := ForL.any hb
  cases hp : as.any p with
  | true => rw [hp] at h; rw [ho hp]; exact Ex.for_ret hx hno hi h hs
  | false => rw [hp] at h; exact Ex.for_next hx hno hi h (hr hp) hs
theorem law_has_ring_ok (T : Tops W) {s : V → V → Int} {vs : List V} {ks : List Nat} (hk : ∀ k ∈ ks, k < vs.length) : CallOf W 1 "_law_has_ring" [toldP s vs, .lst (ks.map fun k : Nat => .int (k : Int))] (.bool (hasR s vs ks)) := by
  refine CallOf.intro (T.defs 84 (by decide)) rfl ?n0 ?n1 ?n2 ?n3 rfl rfl rfl ?n4 ?b
  walk_at "my def"
  refine' ex_for_any (r := .bool true) (as := ks) (fun k : Nat => .int (k : Int)) (fun k => ks.any fun j => ks.any fun i => tri s (vs.getD k .none) (vs.getD j .none) (vs.getD i .none)) (by decide +kernel) (by decide +kernel) (Itr.list ?i) (fun k hkm => ⟨[("told", toldP s vs), ("three", .lst (ks.map fun k : Nat => .int (k : Int))), ("k", .int (k : Int))], by walk_at "my upd", ?bd1⟩) ?o ?r (fun _ _ => rfl)
  case i => repeat' tb_rel
  case o => exact fun h => congrArg (fun b => Out.ret (PV.bool b)) h
  case r => (intro h; rw [hasR, h]; repeat' tb_rel)
  have hk1 := hk k hkm
  try dsimp only
  refine' ex_for_any (r := .bool true) (as := ks) (fun k : Nat => .int (k : Int)) (fun j => ks.any fun i => tri s (vs.getD k .none) (vs.getD j .none) (vs.getD i .none)) (by decide +kernel) (by decide +kernel) (Itr.list ?i2) (fun j hjm => ⟨[("told", toldP s vs), ("three", .lst (ks.map fun k : Nat => .int (k : Int))), ("k", .int (k : Int)), ("j", .int (j : Int))], by walk_at "my upd", ?bd2⟩) ?o2 ?r2 (fun _ _ => rfl)
  case i2 => repeat' tb_rel
  case o2 => exact fun h => if_pos h
  case r2 => (intro h; rw [h]; exact Ex.nil_sub (by walk_at "my sub"))
  have hj1 := hk j hjm
  try dsimp only
  refine' (ex_for_any (ρ := [("told", toldP s vs), ("three", .lst (ks.map fun k : Nat => .int (k : Int))), ("k", .int (k : Int)), ("j", .int (j : Int))]) (out := if (ks.any fun i => tri s (vs.getD k .none) (vs.getD j .none) (vs.getD i .none)) = true then .ret (.bool true) else .next _) (r := .bool true) (as := ks) (fun k : Nat => .int (k : Int)) (fun i => tri s (vs.getD k .none) (vs.getD j .none) (vs.getD i .none)) (by decide +kernel) (by decide +kernel) (Itr.list ?i3) (fun i him => ⟨[("told", toldP s vs), ("three", .lst (ks.map fun k : Nat => .int (k : Int))), ("k", .int (k : Int)), ("j", .int (j : Int)), ("i", .int (i : Int))], by walk_at "my upd", ?bd3⟩) ?o3 ?r3 (fun _ _ => rfl))
  case i3 => repeat' tb_rel
  case o3 => exact fun h => if_pos h
  case r3 => (intro h; rw [h]; exact Ex.nil_sub (by walk_at "my sub"))
  have hi1 := hk i him
  dsimp only [toldP]
  with_reducible refine' Ex.iteV (tri s (vs.getD k .none) (vs.getD j .none) (vs.getD i .none)) ?t1 ?q1 (fun h => ?a1) (fun h => ?b1)
  case t1 => repeat' tb_rel
  case q1 => (simp [tri])
  all_goals dsimp only [List.cons_append, List.nil_append]
  · rw [if_pos h]
    repeat' tb_rel
  · rw [if_neg (by rw [h]; decide)]
    exact Ex.nil_sub (by walk_at "my sub")
local macro_rules | `(tactic| walk_at "my call") => `(tactic| refine' law_has_ring_ok ‹_› ?_)
structure Fine (f : Int) (vs : List V) : Prop where
  anti : ∀ a ∈ vs, ∀ b ∈ vs, sc f a b = - sc f b a
  due : ∀ a ∈ vs, ∀ b ∈ vs, due f a b = none ∨ due f a b = some (sc f a b)
  ring : f = 0 → ∀ i j k, i < j → j < k → k < vs.length → ring [vs.getD k .none, vs.getD j .none, vs.getD i .none] = none ∨ ring [vs.getD k .none, vs.getD j .none, vs.getD i .none] = some (hasR (sc f) vs [k, j, i])
  none : f ≠ 0 → ∀ i j k, i < j → j < k → k < vs.length → hasR (sc f) vs [k, j, i] = false
theorem CallOf.introE {name : Str} {args : List Arg} {body : List Stmt} {scope : Scope} {a1 a2 a3 : _} {b1 b2 b3 : _} {ds : List PV} {d : PV} (hd : DefOf W (.FunctionDef name ⟨[], args, none, [], [], none, []⟩ body a1 a2 a3 scope b1 b2 b3))
    (hlen : args.length = ds.length) (hb : Bnd args ds.length) (hnd : (args.map (·.arg)).Nodup) (hkind : ((args.map (·.arg)).all fun y => scope.names.lookup y == some .local || scope.names.lookup y == some .cell) = true) (hno : ∀ x ∈ args.map (·.arg), NmOk x = true)
    (hco : scope.isCoroutine = false) (hgen : scope.isGenerator = false) (hk : scope.kind = .function) (hcnd : ((cellsFrom 0 scope.names []).map (·.1)).Nodup)
    (h : Ex W k scope ((args.map (·.arg)).zip ds) body (.ret d)) : CallOf W (k + 1) name ds d :=
  CallOf.introG hd hlen hb hnd hkind hno hco hgen hk hcnd fun c own cells N m s₀ s ok hc hL _ _ _ at' he => wpAny_mono (h c own (cells ++ N) m s₀ s ok hc hL at' he) (fun _ _ q => q.sub fun p hp => List.mem_append_right _ hp) fun _ _ x => x
theorem law_is_ring3 (T : Tops W) {a b c : V} (ha : Dom a) (hb : Dom b) (hc : Dom c) : CallOf W 4 "_law_is_ring" [.lst [a.pv, b.pv, c.pv]] (optB (ring [a, b, c])) :=
  law_is_ring_ok T (vs := [a, b, c]) (fun v hv => by simp at hv; rcases hv with rfl | rfl | rfl <;> assumption) rfl
theorem law_has_ring3 (T : Tops W) {s : V → V → Int} {vs : List V} {a b c : Nat} (ha : a < vs.length) (hb : b < vs.length) (hc : c < vs.length) : CallOf W 1 "_law_has_ring" [.lst (vs.map fun a => .lst (vs.map fun b => .int (s a b))), .lst [.int (a : Int), .int (b : Int), .int (c : Int)]] (.bool (hasR s vs [a, b, c])) :=
  law_has_ring_ok T (ks := [a, b, c]) (fun v hv => by simp at hv; rcases hv with rfl | rfl | rfl <;> assumption)
local macro_rules | `(tactic| walk_at "my call") => `(tactic| refine' law_is_ring3 ‹_› ?_ ?_ ?_)
local macro_rules | `(tactic| walk_at "my call") => `(tactic| refine' law_has_ring3 ‹_› ?_ ?_ ?_)
theorem ex_for_pass {α : Type} {x : Str} {xp pos : Pos} {iter : Expr} {body rest : List Stmt} {out : Out} {as : List α} (g : α → PV) (hx : cs.names.lookup x = some .local) (hno : NmOk x = true) (hi : Itr W k cs ρ iter (as.map g))
    (hb : ∀ a ∈ as, ∃ ρ1, Upd x (g a) ρ ρ1 ∧ Ex W k cs ρ1 body (.next ρ)) (hr : Ex W k cs ρ rest out)
    (hs : ∀ env v, foldedSetIterable iter env v = pure v) : Ex W k cs ρ (.For (.Name x xp) iter body [] pos :: rest) out :=
  ex_for_any (r := .none) g (fun _ => false) hx hno hi (fun a ha => by obtain ⟨ρ1, h1, h2⟩ := hb a ha; exact ⟨ρ1, h1, h2⟩) (fun h => by simp at h) (fun _ => hr) hs
theorem compVC {elt iter : Expr} {x : Str} {px pos : Pos} {scope : Scope} {ρi : PEnv} {vs : List V} (g : V → PV)
    (ho : CompOk scope cs ρ ρi) (hc1 : ∀ n acc, cellsFrom n scope.names acc = (x, n) :: acc) (hc2 : ∀ h, pushCells h scope.names = h.push { cls := .type "cell", data := .cell none })
    (hx : scope.names.lookup x = some .cell) (hno : NmOk x = true) (hz : vs.length ≤ 1000000) (hi : Itr W k cs ρ iter (vs.map V.pv))
    (he : ∀ v ∈ vs, Ev W k (relC scope cs) ((x, v.pv) :: ρi) elt (g v)) (hs : ∀ env v, foldedSetIterable iter env v = pure v) : CompR W k cs ρ elt iter x px [] scope pos (vs.map g) := fun ipos use Q c own N m lm s₀ s ok hc hns at' hev hfin =>
  comp_runC (fun i => (vs[i]?).bind fun v => some (g v)) ho hc1 hc2 hx hno (by rw [List.length_map]; exact hz) hi (fun i d hd => by
    rw [List.getElem?_map] at hd
    cases hv : vs[i]? with
    | none => rw [hv] at hd; cases hd
    | some v => rw [hv] at hd; cases hd; exact ⟨_, rfl, he v (List.mem_of_getElem? hv)⟩) hs c own N m lm s₀ s ok hc hns at' hev (by rw [fmv_range, fmv_all]; exact hfin)
theorem getD_mem {vs : List V} {k : Nat} (h : k < vs.length) : vs.getD k .none ∈ vs := by
  rw [List.getD_eq_getElem?_getD, List.getElem?_eq_getElem h]; exact List.getElem_mem _
theorem cok {scope cs : Scope} {ρ ρi : PEnv} (ns nsi : List Str) (hn : ρ.map (·.1) = ns) (hni : ρi.map (·.1) = nsi) (hsub : ∀ p ∈ ρi, p ∈ ρ)
    (h1 : ∀ y ∈ scope.names, y.2 = .free → y.1 ∈ ns ∧ (cs.names.lookup y.1 = some .cell ∨ cs.names.lookup y.1 = some .free))
    (h2 : ∀ x ∈ nsi, scope.names.lookup x = some .free ∧ (cs.names.lookup x = some .cell ∨ cs.names.lookup x = some .free)) (hk : scope.kind = .function) (h3 : ∀ y ∈ scope.names, y.2 = .local → scope.names.lookup y.1 = some .local) : CompOk scope cs ρ ρi :=
  { fv := fun y hy hf => by
      obtain ⟨hm, hk⟩ := h1 y hy hf
      rw [← hn] at hm
      obtain ⟨p, hp, e⟩ := List.mem_map.mp hm
      exact ⟨p.2, by rw [← e]; exact hp, hk⟩
    sub := fun p hp => ⟨hsub p hp, h2 p.1 (hni ▸ List.mem_map_of_mem hp)⟩
    kind := hk
    names := h3 }
theorem law_flag_right_ok (T : Tops W) {vs : List V} {f : Int} (hl : vs.length ≤ 5) (hv : ∀ v ∈ vs, Dom v) (hf : f ∈ ([0, 2, 6, 10, 14] : List Int) ∨ (f = 1 ∧ ∀ v ∈ vs, far v = false)) (H : Fine f vs) : CallOf W 12 "_law_flag_right" [.lst (vs.map V.pv), .int f] (.bool true) := by
  have hsc : ∀ a ∈ vs, ∀ b ∈ vs, CallOf W 11 "sort_compare" [.none, a.pv, b.pv, .int f] (.int (sc f a b)) := fun a ha b hb => by
    rcases hf with hf | ⟨rfl, hf⟩
    · exact sort_compare_ok T (hv a ha) (hv b hb) hf
    · exact sort_compare_1 T (hv a ha) (hv b hb) (hf a ha) (hf b hb)
  have hf' : f ∈ ([0, 1, 2, 6, 10, 14] : List Int) := by rcases hf with hf | ⟨rfl, hf⟩; exact (by decide : ∀ f ∈ ([0, 2, 6, 10, 14] : List Int), f ∈ ([0, 1, 2, 6, 10, 14] : List Int)) f hf; decide
  refine CallOf.introE (T.defs 89 (by decide)) rfl ?n0 ?n1 ?n3 ?n2 rfl rfl rfl ?n4 ?b
  walk_at "my def"
  refine' ex_comp (compVC (vs := vs) (ρi := [("values", .lst (vs.map V.pv)), ("flags", .int f)]) (fun a => .lst (vs.map fun b => .int (sc f a b))) ?ho (fun _ _ => rfl) (fun _ => rfl) (by decide +kernel) (by decide +kernel) (by omega) (Itr.list ?i) ?t (fun _ _ => rfl)) (by rw [List.length_map]; omega) (by decide +kernel) (by decide +kernel) ?u ?r (by intro env he; cases env; cases he; rfl)
  case i => repeat' tb_rel
  case u => walk_at "my upd"
  case ho => exact cok ["values", "flags"] ["values", "flags"] rfl rfl (by walk_at "my sub") (by decide +kernel) (by decide +kernel) rfl (by decide +kernel)
  case t =>
    intro v hvm
    refine' ev_comp (compAll (vs := vs) (ρi := [("a", v.pv), ("flags", .int f)]) (fun b => .int (sc f v b)) ?ho (by decide +kernel) (by decide +kernel) (by decide +kernel) (by omega) (Itr.list ?i) ?t (fun _ _ => rfl)) (by rw [List.length_map]; omega)
    case ho => exact cok ["a", "values", "flags"] ["a", "flags"] rfl rfl (by walk_at "my sub") (by decide +kernel) (by decide +kernel) rfl (by decide +kernel)
    case i => repeat' tb_rel
    case t =>
      intro b hbm
      refine' Ev.call (k' := 11) (by decide +kernel) ?_ (hsc v hvm b hbm) (by decide) (by decide +kernel) (fun _ => rfl) (fun _ => rfl)
      repeat' tb_rel
  refine' ex_enum (T.blt _ (by simp)) (by decide +kernel) (Ev.name (by tb_start)) (by decide +kernel) (by decide +kernel) (by decide +kernel) (by decide +kernel) (fun k d hd => ⟨[("values", .lst (vs.map V.pv)), ("flags", .int f), ("told", .lst (vs.map fun a => .lst (vs.map fun b => .int (sc f a b)))), ("k", .int (k : Int))], [("values", .lst (vs.map V.pv)), ("flags", .int f), ("told", .lst (vs.map fun a => .lst (vs.map fun b => .int (sc f a b)))), ("k", .int (k : Int)), ("a", (vs.getD k .none).pv)], [("values", .lst (vs.map V.pv)), ("flags", .int f), ("told", .lst (vs.map fun a => .lst (vs.map fun b => .int (sc f a b)))), ("k", .int (k : Int)), ("a", (vs.getD k .none).pv)], by walk_at "my upd", ?ua, ?bda, by walk_at "my sub"⟩) ?r2 (fun _ => rfl) (fun _ _ => rfl)
  case ua =>
    have hkl : k < vs.length := by have := (List.getElem?_eq_some_iff.mp hd).1; simpa using this
    have e : d = (vs.getD k .none).pv := by
      rw [List.getElem?_map, List.getElem?_eq_getElem hkl] at hd
      rw [List.getD_eq_getElem?_getD, List.getElem?_eq_getElem hkl]
      exact (Option.some.inj hd).symm
    rw [e]
    walk_at "my upd"
  case bda =>
    have hkl : k < vs.length := by have := (List.getElem?_eq_some_iff.mp hd).1; simpa using this
    clear hd
    refine' ex_enum (T.blt _ (by simp)) (by decide +kernel) (Ev.name (by tb_start)) (by decide +kernel) (by decide +kernel) (by decide +kernel) (by decide +kernel) (fun j d hd => ⟨[("values", .lst (vs.map V.pv)), ("flags", .int f), ("told", .lst (vs.map fun a => .lst (vs.map fun b => .int (sc f a b)))), ("k", .int (k : Int)), ("a", (vs.getD k .none).pv), ("j", .int (j : Int))], [("values", .lst (vs.map V.pv)), ("flags", .int f), ("told", .lst (vs.map fun a => .lst (vs.map fun b => .int (sc f a b)))), ("k", .int (k : Int)), ("a", (vs.getD k .none).pv), ("j", .int (j : Int)), ("b", (vs.getD j .none).pv)], [("values", .lst (vs.map V.pv)), ("flags", .int f), ("told", .lst (vs.map fun a => .lst (vs.map fun b => .int (sc f a b)))), ("k", .int (k : Int)), ("a", (vs.getD k .none).pv)], by walk_at "my upd", ?ub, ?bdb, by walk_at "my sub"⟩) (Ex.nil_sub (by walk_at "my sub")) (fun _ => rfl) (fun _ _ => rfl)
    case ub =>
      have hjl : j < vs.length := by have := (List.getElem?_eq_some_iff.mp hd).1; simpa using this
      have e : d = (vs.getD j .none).pv := by
        rw [List.getElem?_map, List.getElem?_eq_getElem hjl] at hd
        rw [List.getD_eq_getElem?_getD, List.getElem?_eq_getElem hjl]
        exact (Option.some.inj hd).symm
      rw [e]
      walk_at "my upd"
    case bdb =>
      have hjl : j < vs.length := by have := (List.getElem?_eq_some_iff.mp hd).1; simpa using this
      clear hd
      have mk := getD_mem hkl
      have mj := getD_mem hjl
      have dk := hv _ mk
      have dj := hv _ mj
      have a1 := H.anti _ mk _ mj
      have fl : flat (optP (due f (vs.getD k .none) (vs.getD j .none))) = true := by cases due f (vs.getD k .none) (vs.getD j .none) <;> rfl
      with_reducible refine' Ex.iteV (false) ?t2 ?q2 (fun h => ?a2) (fun h => ?b2)
      case t2 => repeat' tb_rel
      case q2 => (rw [Bool.or_eq_false_iff]; refine ⟨by rw [a1]; simp, ?_⟩; by_cases e : k = j; (subst e; have e0 : sc f (vs.getD k .none) (vs.getD k .none) = 0 := (by omega); rw [e0]; simp); (rw [show ((k : Int) == (j : Int)) = false by simp; omega]; rfl))
      all_goals dsimp only [List.cons_append, List.nil_append]
      · cases h
      clear h
      with_reducible refine' Ex.iteV (false) ?t3 ?q3 (fun h => ?a3) (fun h => ?b3)
      case t3 => ((repeat' tb_rel); all_goals exact fl)
      case q3 => (rcases H.due _ mk _ mj with e | e <;> rw [e] <;> simp [optP, peq])
      all_goals dsimp only [List.cons_append, List.nil_append]
      · cases h
      exact Ex.nil_sub (by walk_at "my sub")
  case r2 =>
  refine' ex_for_pass (as := List.range ((((vs.map V.pv).length : Nat) : Int)).toNat) (fun i : Nat => .int (i : Int)) (by decide +kernel) (by decide +kernel) (Itr.range1 (b := (((vs.map V.pv).length : Nat) : Int)) (T.blt _ (by simp)) (by decide +kernel) ?e1 ?h1 ?h2 (fun _ => rfl) (fun _ => rfl)) (fun k hk => ⟨[("values", .lst (vs.map V.pv)), ("flags", .int f), ("told", .lst (vs.map fun a => .lst (vs.map fun b => .int (sc f a b)))), ("k", .int (k : Int))], by walk_at "my upd", ?bk⟩) ?r3 (fun _ _ => rfl)
  case e1 => repeat' tb_rel
  case h1 => omega
  case h2 => simp; omega
  case r3 => (repeat' tb_rel)
  have hkl : k < vs.length := by have := List.mem_range.mp hk; simpa using this
  refine' (ex_for_pass (as := List.range (((k : Nat) : Int)).toNat) (fun i : Nat => .int (i : Int)) (by decide +kernel) (by decide +kernel) (Itr.range1 (b := ((k : Nat) : Int)) (T.blt _ (by simp)) (by decide +kernel) ?e2 (by omega) (by omega) (fun _ => rfl) (fun _ => rfl)) (fun j hj => ⟨[("values", .lst (vs.map V.pv)), ("flags", .int f), ("told", .lst (vs.map fun a => .lst (vs.map fun b => .int (sc f a b)))), ("k", .int (k : Int)), ("j", .int (j : Int))], by walk_at "my upd", ?bj⟩) (Ex.nil_sub (by walk_at "my sub")) (fun _ _ => rfl))
  case e2 => repeat' tb_rel
  have hjl : j < k := by have := List.mem_range.mp hj; simpa using this
  have hjl' : j < vs.length := Nat.lt_trans hjl hkl
  refine' (ex_for_pass (as := List.range (((j : Nat) : Int)).toNat) (fun i : Nat => .int (i : Int)) (by decide +kernel) (by decide +kernel) (Itr.range1 (b := ((j : Nat) : Int)) (T.blt _ (by simp)) (by decide +kernel) ?e3 (by omega) (by omega) (fun _ => rfl) (fun _ => rfl)) (fun i hi => ⟨[("values", .lst (vs.map V.pv)), ("flags", .int f), ("told", .lst (vs.map fun a => .lst (vs.map fun b => .int (sc f a b)))), ("k", .int (k : Int)), ("j", .int (j : Int)), ("i", .int (i : Int))], by walk_at "my upd", ?bi⟩) (Ex.nil_sub (by walk_at "my sub")) (fun _ _ => rfl))
  case e3 => repeat' tb_rel
  have hil : i < j := by have := List.mem_range.mp hi; simpa using this
  have hil' : i < vs.length := Nat.lt_trans hil hjl'
  have dk := hv _ (getD_mem hkl)
  have dj := hv _ (getD_mem hjl')
  have di := hv _ (getD_mem hil')
  with_reducible refine' Ex.assign (d := (if f == 0 then optB (ring [vs.getD k .none, vs.getD j .none, vs.getD i .none]) else .bool false)) ?x1 ?n1 ?e1 ?u1 ?r1 ?s1
  case s1 => intro _; exact rfl
  case x1 => decide +kernel
  case n1 => decide +kernel
  case e1 => ((repeat' tb_rel); all_goals (rename_i h; first | rw [if_pos h] | rw [if_neg (by rw [h]; decide)]))
  case u1 => walk_at "my upd"
  cases e0 : f == 0 with
  | true =>
    have hq := H.ring (by simpa using e0) i j k hil hjl hkl
    rw [if_pos rfl]
    rcases hq with e | e
    · rw [e]
      with_reducible refine' Ex.iteV (false) ?t4 ?q4 (fun h => ?a4) (fun h => ?b4)
      case t4 => repeat' tb_rel
      case q4 => rfl
      all_goals dsimp only [List.cons_append, List.nil_append]
      · cases h
      exact Ex.nil_sub (by walk_at "my sub")
    · rw [e]
      dsimp only [optB]
      with_reducible refine' Ex.iteV (false) ?t5 ?q5 (fun h => ?a5) (fun h => ?b5)
      case t5 => repeat' tb_rel
      case q5 => (simp)
      all_goals dsimp only [List.cons_append, List.nil_append]
      · cases h
      exact Ex.nil_sub (by walk_at "my sub")
  | false =>
    have hq := H.none (by simpa using e0) i j k hil hjl hkl
    rw [if_neg (by decide)]
    with_reducible refine' Ex.iteV (false) ?t6 ?q6 (fun h => ?a6) (fun h => ?b6)
    case t6 => repeat' tb_rel
    case q6 => (rw [hq]; rfl)
    all_goals dsimp only [List.cons_append, List.nil_append]
    · cases h
    exact Ex.nil_sub (by walk_at "my sub")
local macro_rules | `(tactic| walk_at "my call") => `(tactic| refine' law_flag_right_ok ‹_› ?_ ?_ ?_ ?_)
noncomputable def bodyOf (st : Stmt) : List Stmt := match st with
  | .FunctionDef _ _ body _ _ _ _ _ _ _ => body
  | _ => []
noncomputable def scopeOf (st : Stmt) : Scope := match st with
  | .FunctionDef _ _ _ _ _ _ scope _ _ _ => scope
  | _ => default
noncomputable def phpInit : Stmt := match sAt 2 with
  | .ClassDef _ _ _ body _ _ _ _ _ _ _ => body.getD 0 (.Pass default)
  | _ => .Pass default
noncomputable def DefFn (W : Wd) (f : Addr) (st : Stmt) : Prop := match st with
  | .FunctionDef _ params body _ _ _ scope _ _ _ => DefAt W f params body scope
  | _ => False
variable {W : Wd} {k : Nat} {cs : Scope} {ρ : PEnv} {C P f : Addr}
theorem initOk (H : LeftC W C P f) (hd : DefFn W f phpInit) : InitOk W k C f := by
  intro e t0 l v c own N m s₀ s ok at' hr ho vals R hR
  exact php_init H rfl rfl (by intro _ _ _ _ _ _ _ _ _ _ _ _; exact rfl) hd (by decide +kernel) (by decide +kernel) (by decide +kernel) rfl rfl rfl (by decide +kernel) (fun _ => ⟨_, rfl⟩) (fun _ => rfl) c own N m s₀ s ok at' hr ho hR
theorem sort_compare_far (T : Tops W) (H : LeftC W C P f) (hd : DefFn W f phpInit) {v w : V} (hv : Dom v) (hw : Dom w) (hf : (far v || far w) = true) :
    ∃ fa, nsIn W.K mainGlobals "sort_compare" = some (some (.ref fa)) ∧ keepIn W.K (.ref fa) = true ∧ CallR W 12 C (.ref fa) [.none, v.pv, w.pv, .int 1] := by
  refine CallR.intro (T.defs 74 (by decide)) rfl ?n0 ?n1 ?n2 ?n3 rfl rfl rfl ?n4 ?b
  walk_at "my def"
  refine' ExR.ite (Ts.conv ?t ?e) ?r
  case t => repeat' tb_rel
  case e => rfl
  dsimp only [List.cons_append, List.nil_append]
  refine' ExR.pair (d1 := .int (num v)) (d2 := .int (num w)) (by decide +kernel) (by decide +kernel) (by decide +kernel) (by decide +kernel) ?e2 (by walk_at "my upd") (by walk_at "my upd") ?r2 (fun _ => rfl) (by intro env he; cases env; cases he; rfl)
  case e2 => repeat' tb_rel
  refine' ExR.ite (Ts.conv ?t3 ?e3) ?r3
  case t3 => repeat' tb_rel
  case e3 =>
    rw [pow53]
    rw [← hf, far, far, Bool.or_false]
    congr 1 <;> (rw [Bool.eq_iff_iff]; simp only [decide_eq_true_eq, Bool.or_eq_true]; split <;> omega)
  dsimp only [List.cons_append, List.nil_append]
  refine' ExR.raise (k := 7) H (initOk H hd) (by decide +kernel) (l := "numbers compared as floats".toList.map Char.toNat) (Evs.cons (Ev.str ?s1 ?s2) Evs.nil (fun _ => rfl)) (fun _ => rfl)
  case s1 => decide +kernel
  case s2 => decide
theorem law_is_left_ok (T : Tops W) (H : LeftC W C P f) (hd : DefFn W f phpInit) {v w : V} (hv : Dom v) (hw : Dom w) :
    ∃ fa, nsIn W.K mainGlobals "_law_is_left" = some (some (.ref fa)) ∧ keepIn W.K (.ref fa) = true ∧ CallS W 13 (.ref fa) [v.pv, w.pv] (.bool (far v || far w)) := by
  refine CallS.intro (T.defs 86 (by decide)) rfl ?n0 ?n1 ?n2 ?n3 rfl rfl rfl ?n4 ?b
  walk_at "my def"
  cases hf : far v || far w with
  | true =>
    obtain ⟨fa, h1, h2, h3⟩ := sort_compare_far T H hd hv hw hf
    refine' ExS.try_catch H h1 h2 (by decide +kernel) (by decide +kernel) ?a h3 (by decide +kernel) (fun _ => rfl) (fun _ => rfl) (fun _ => rfl)
    repeat' tb_rel
  | false =>
    simp only [Bool.or_eq_false_iff] at hf
    refine' ExS.of_ex (Ex.try_ret (Ex.expr_plain (Ev.call (k' := 11) (by decide +kernel) ?a (sort_compare_1 T hv hw hf.1 hf.2) (by decide) (by decide +kernel) (fun _ => rfl) (fun _ => rfl)) rfl (Ex.ret ?r) (fun _ => rfl)))
    all_goals repeat' tb_rel
theorem law_far_right_ok (T : Tops W) (H : LeftC W C P f) (hd : DefFn W f phpInit) {vs : List V} (hv : ∀ v ∈ vs, Dom v) :
    ∃ fa, nsIn W.K mainGlobals "_law_far_right" = some (some (.ref fa)) ∧ keepIn W.K (.ref fa) = true ∧ CallS W 14 (.ref fa) [.lst (vs.map V.pv)] (.bool true) := by
  refine CallS.intro (T.defs 87 (by decide)) rfl ?n0 ?n1 ?n2 ?n3 rfl rfl rfl ?n4 ?b
  walk_at "my def"
  refine' ExS.for_pass (by decide +kernel) (by decide +kernel) (Itr.list (ds := vs.map V.pv) ?i) (fun d hd1 => ?b1) ?r1 (fun _ _ => rfl)
  case i => repeat' tb_rel
  case r1 => (refine' ExS.of_ex ?_); (repeat' tb_rel)
  obtain ⟨v, hvm, rfl⟩ := List.mem_map.mp hd1
  refine ⟨[("values", .lst (vs.map V.pv)), ("a", v.pv)], by walk_at "my upd", ?_⟩
  refine' ExS.for_pass (ρ := [("values", .lst (vs.map V.pv)), ("a", v.pv)]) (by decide +kernel) (by decide +kernel) (Itr.list (ds := vs.map V.pv) ?i2) (fun d hd2 => ?b2) ?r2 (fun _ _ => rfl)
  case i2 => repeat' tb_rel
  case r2 => exact ExS.of_ex (Ex.nil_sub (by walk_at "my sub"))
  obtain ⟨w, hwm, rfl⟩ := List.mem_map.mp hd2
  refine ⟨[("values", .lst (vs.map V.pv)), ("a", v.pv), ("b", w.pv)], by walk_at "my upd", ?_⟩
  have dv := hv v hvm
  have dw := hv w hwm
  obtain ⟨fa, h1, h2, h3⟩ := law_is_left_ok T H hd dv dw
  refine' ExS.if_false (TsS.cmp (d₂ := .bool (far v || far w)) (EvS.call (k' := 0) h1 h2 (by decide +kernel) ?a h3 (by decide +kernel) (fun _ => rfl) (fun _ => rfl)) ?e ?o rfl) ?z
  case a => repeat' tb_rel
  case e => (refine' Ev.conv (d := .bool (far v || far w)) ?_ rfl); (repeat' tb_rel)
  case o =>
    have : ((far v || far w) != (far v || far w)) = false := by simp
    exact this ▸ op_bne
  exact ExS.of_ex (Ex.nil_sub (by walk_at "my sub"))
variable {W : Wd} {k : Nat} {cs : Scope} {ρ : PEnv} {C P f : Addr}
theorem exIntroS {st : Stmt} {name : Str} {args : Arguments} {body : List Stmt} {scope : Scope} {a1 a2 a3 : _} {b1 b2 b3 : _} {out : Out} (e : st = .FunctionDef name args body a1 a2 a3 scope b1 b2 b3) (h : ExS W k scope ρ body out) : ExS W k (scopeOf st) ρ (bodyOf st) out := by
  subst e; exact h
theorem law_exS (T : Tops W) (HC : LeftC W C P f) (hd : DefFn W f phpInit) {vs : List V} (hl : vs.length ≤ 5) (hv : ∀ v ∈ vs, Dom v) (hvals : CallOf W 12 "_law_values" [.adr W.sc] (.lst (vs.map V.pv)))
    (H : ∀ f ∈ ([0, 2, 6, 10, 14] : List Int), Fine f vs) (H1 : Fine 1 (vs.filter fun v => !far v)) :
    ExS W 14 (scopeOf (sAt 90)) [("script", .adr W.sc)] (bodyOf (sAt 90)) (.ret (.bool true)) := by
  refine' exIntroS (st := sAt 90) rfl ?_
  refine' ExS.cons_ex (ρ' := [("script", .adr W.sc), ("values", .lst (vs.map V.pv))]) ?p1 (ExS.cons_ex (ρ' := [("script", .adr W.sc), ("values", .lst (vs.map V.pv))]) ?p2 ?p3)
  case p1 =>
    with_reducible refine' Ex.assign (d := .lst (vs.map V.pv)) ?x ?n ?e ?u ?r ?s
    case s => intro _; exact rfl
    case x => decide +kernel
    case n => decide +kernel
    case u => walk_at "my upd"
    case e =>
      refine' Ev.call (k' := 12) (by decide +kernel) ?_ hvals (by decide) (by decide +kernel) (fun _ => rfl) (fun _ => rfl)
      repeat' tb_rel
    exact Ex.nil
  case p2 =>
    have hd : ([0, 2, 6, 10, 14] : List Int).map PV.int = [.int 0, .int 2, .int 6, .int 10, .int 14] := rfl
    refine' ex_for_pass (as := ([0, 2, 6, 10, 14] : List Int)) PV.int (by decide +kernel) (by decide +kernel) (Itr.list ?i) (fun f hf => ⟨[("script", .adr W.sc), ("values", .lst (vs.map V.pv)), ("flags", .int f)], by walk_at "my upd", ?b⟩) Ex.nil (fun _ _ => rfl)
    case i => (rw [hd]); (repeat' tb_rel)
    case b =>
      with_reducible refine' Ex.iteV (false) ?t1 ?q1 (fun h => ?a1) (fun h => ?b1)
      case t1 => ((repeat' tb_rel); all_goals first | exact hl | exact hv | exact .inl hf | exact H f hf)
      case q1 => rfl
      all_goals dsimp only [List.cons_append, List.nil_append]
      · cases h
      exact Ex.nil_sub (by walk_at "my sub")
  obtain ⟨fa, h1, h2, h3⟩ := law_far_right_ok T HC hd hv
  refine' ExS.ret (EvS.and (EvS.call (k' := 0) h1 h2 (by decide +kernel) ?a h3 (by decide +kernel) (fun _ => rfl) (fun _ => rfl)) ?c2)
  case a => repeat' tb_rel
  refine' Ev.call (k' := 12) (ds := [.lst ((vs.filter fun v => !far v).map V.pv), .int 1]) (by decide +kernel) ?_ (law_flag_right_ok T ?d1 ?d2 (.inr ⟨rfl, ?d3⟩) H1) (by decide) (by decide +kernel) (fun _ => rfl) (fun _ => rfl)
  case d1 => exact Nat.le_trans (List.length_filter_le _ _) hl
  case d2 => exact fun v h => hv v (List.mem_filter.mp h).1
  case d3 => exact fun v h => by simpa using (List.mem_filter.mp h).2
  refine' Evs.cons (ev_comp (compFil (vs := vs) (fun v => !far v) (compOk_nil (by decide +kernel) rfl (by decide +kernel)) (by decide +kernel) (by decide +kernel) (by decide +kernel) (by omega) (Itr.list ?i) ?t (fun _ _ => rfl)) ?z) (Evs.cons ?e Evs.nil (fun _ => rfl)) (fun _ => rfl)
  case i => repeat' tb_rel
  case t => (intro x hx; have hx := hv x hx); (repeat' tb_rel)
  case z => rw [List.length_map]; exact Nat.le_trans (List.length_filter_le _ _) (by omega)
  case e => repeat' tb_rel
noncomputable def takeD (pn : List Int) (many : Int) : Int := Int.fmod (pn.getD 1 0 + pn.getD 0 0) many
noncomputable def takeP (pn : List Int) (many : Int) : List Int := Int.fdiv (pn.getD 0 0) many :: pn.drop 2
structure PenOk (pn : List Int) : Prop where
  ne : pn ≠ []
  len : pn.length ≤ 10
  lo : 0 ≤ pn.getD 0 0
  hi : pn.getD 0 0 < 1000000000000000
theorem PenOk.take {pn : List Int} (h : PenOk pn) {many : Int} (h1 : 0 < many) : PenOk (takeP pn many) := by
  obtain ⟨a, b, c, d⟩ := h
  refine ⟨by simp [takeP], by simp [takeP]; omega, ?_, ?_⟩
  · show 0 ≤ Int.fdiv (pn.getD 0 0) many
    exact Int.fdiv_nonneg c (Int.le_of_lt h1)
  · show Int.fdiv (pn.getD 0 0) many < _
    rw [Int.fdiv_eq_ediv_of_nonneg _ (Int.le_of_lt h1)]
    exact Int.lt_of_le_of_lt (Int.ediv_le_self _ c) d
theorem takeD_lo {pn : List Int} {many : Int} (h1 : 0 < many) : 0 ≤ takeD pn many := by
  unfold takeD
  rw [Int.fmod_eq_emod_of_nonneg _ (Int.le_of_lt h1)]
  exact Int.emod_nonneg _ (by omega)
theorem takeD_hi {pn : List Int} {many : Int} (h1 : 0 < many) : takeD pn many < many := by
  unfold takeD
  rw [Int.fmod_eq_emod_of_nonneg _ (Int.le_of_lt h1)]
  exact Int.emod_lt_of_pos _ h1
variable {W : Wd} {k : Nat} {cs : Scope} {ρ : PEnv} {P : Addr}
theorem law_take_ok (T : Tops W) {pn : List Int} {many : Int} (h : PenOk pn) (h1 : 0 < many) (h2 : many ≤ 100) : CallM W 1 "_law_take" P (pn.map .int) [.adr P, .int many] (.int (takeD pn many)) ((takeP pn many).map .int) := by
  obtain ⟨hne, hlen, hlo, hhi⟩ := h
  obtain ⟨p, r, rfl⟩ : ∃ p r, pn = p :: r := by
    cases pn with
    | nil => exact absurd rfl hne
    | cons p r => exact ⟨p, r, rfl⟩
  have hp0 : (p :: r).getD 0 0 = p := rfl
  rw [hp0] at hlo hhi
  refine CallM.intro (T.defs 76 (by decide)) rfl ?n0 ?n1 ?n2 ?n3 rfl rfl rfl ?n4 ?b
  walk_at "my def"
  refine ExP.cons (ExM.assign (d := .int ((p :: r).getD 1 0)) (ρ' := [("pen", .adr P), ("many", .int many), ("base", .int ((p :: r).getD 1 0))]) (es' := (p :: (p :: r).drop 2).map .int) ?x1 ?m1 ?e1 ?u1 ?s1) ?_
  case s1 => intro _; exact rfl
  case x1 => decide +kernel
  case m1 => decide +kernel
  case u1 => walk_at "my upd"
  case e1 =>
    refine EvM.ife_gt (i := ((p :: r).map PV.int).length) (j := 1) (es1 := (p :: r).map .int) (es2 := (p :: r).map .int) (EvM.len (T.blt _ (by simp)) (by decide +kernel) (by tb_start) (by simp at hlen ⊢; omega)) (EvM.of Ev.int) (fun hg => ?_) (fun hg => ?_)
    · cases r with
      | nil => simp at hg
      | cons b r =>
        refine EvM.pop1 (d := .int p) (d1 := .int b) (es := r.map .int) (by tb_start) (by simp at hlen ⊢; omega) ?_
        intro _; exact ⟨_, rfl⟩
    · cases r with
      | nil => exact EvM.of Ev.int
      | cons b r => simp at hg; omega
  refine ExP.cons (ExM.assign (d := .int (takeD (p :: r) many)) (ρ' := [("pen", .adr P), ("many", .int many), ("base", .int ((p :: r).getD 1 0)), ("drawn", .int (takeD (p :: r) many))]) (es' := (p :: (p :: r).drop 2).map .int) ?x2 ?m2 ?e2 ?u2 ?s2) ?_
  case s2 => intro _; exact rfl
  case x2 => decide +kernel
  case m2 => decide +kernel
  case u2 => walk_at "my upd"
  case e2 =>
    refine EvM.binop (d₁ := .int ((p :: r).getD 1 0 + p)) (d₂ := .int many) (EvM.binop (EvM.of (Ev.name (by tb_start))) (EvM.item0 (by tb_start) (by simp at hlen ⊢; omega) (fun _ _ => rfl)) op_add) (EvM.of (Ev.name (by tb_start))) (op_mod (by omega))
  refine ExP.cons (ExM.set0 (d0 := .int p) (d := .int (Int.fdiv p many)) (by tb_start) ?e3 ?s3) (ExP.ret (Ev.name (by tb_start)))
  case s3 => intro _; exact rfl
  refine EvM.binop (d₁ := .int p) (d₂ := .int many) (EvM.item0 (by tb_start) (by simp at hlen ⊢; omega) (fun _ _ => rfl)) (EvM.of (Ev.name (by tb_start))) (op_fdiv (by omega) ?_)
  exact PyProof.noPylong_small (by omega)
noncomputable def bases : List (List Int) := [[0, 2], [1, 2, 1, 0], [1, 2, 1, 4], [1, 1, 3], [2, 0]]
noncomputable def signs : List Nat := [48, 49, 50, 57, 97, 66, 45, 32]
noncomputable def pens (pn : List Int) : Nat → List Int
  | 0 => pn
  | i + 1 => takeP (pens pn i) 8
noncomputable def pen0 (ns : List Int) (j : Nat) : List Int := Int.fmod (pickI ns j 5).sum 1000000000000000 :: bases.getD j []
noncomputable def signAt (pn : List Int) (i : Nat) : Nat := signs.getD (takeD (pens pn i) 8).toNat 0
noncomputable def valOf (pn : List Int) : V :=
  if takeD pn 3 = 0 then .int (nums.getD (takeD (takeP pn 3) 11).toNat 0)
  else if takeD pn 3 = 1 then .str ((List.range (takeD (takeP pn 3) 6).toNat).map (signAt (takeP (takeP pn 3) 6)))
  else ([V.none, .bool false, .bool true] : List V).getD (takeD (takeP pn 3) 3).toNat .none
noncomputable def theVals (ns : List Int) : List V := (List.range 5).map fun j => valOf (pen0 ns j)
theorem getDm {α : Type} {l : List α} {i : Nat} {d : α} (h : i < l.length) : l.getD i d ∈ l := by
  simp [List.getD_eq_getElem?_getD, h]
theorem PenOk.pens {pn : List Int} (h : PenOk pn) (i : Nat) : PenOk (pens pn i) := by
  induction i with
  | zero => exact h
  | succ i ih => exact ih.take (by omega)
theorem take_nat {pn : List Int} {many : Int} {n : Nat} (e : many = n) (h : 0 < n) : (takeD pn many).toNat < n := by
  subst e
  have h1 := takeD_lo (pn := pn) (many := (n : Int)) (by omega)
  have h2 := takeD_hi (pn := pn) (many := (n : Int)) (by omega)
  omega
theorem PenOk.start (ns : List Int) (j : Nat) : PenOk (pen0 ns j) := by
  refine ⟨by simp [pen0], ?_, ?_, ?_⟩
  · show (bases.getD j []).length + 1 ≤ 10
    have : (bases.getD j []).length ≤ 4 := by
      by_cases h : j < 5
      · have : ∀ j < 5, (bases.getD j []).length ≤ 4 := by decide
        exact this j h
      · have : bases.getD j [] = [] := by rw [List.getD_eq_getElem?_getD, List.getElem?_eq_none (by simp [bases]; omega)]; rfl
        rw [this]; decide
    omega
  · show 0 ≤ Int.fmod _ _
    rw [Int.fmod_eq_emod_of_nonneg _ (by omega)]
    exact Int.emod_nonneg _ (by omega)
  · show Int.fmod _ _ < _
    rw [Int.fmod_eq_emod_of_nonneg _ (by omega)]
    exact Int.emod_lt_of_pos _ (by omega)
theorem valOf_dom (pn : List Int) : Dom (valOf pn) := by
  unfold valOf
  split
  · exact getDm (l := nums) (take_nat (n := 11) rfl (by omega))
  split
  · refine ⟨?_, fun c hc => ?_⟩
    · have := take_nat (pn := takeP pn 3) (many := 6) (n := 6) rfl (by omega)
      simp; omega
    · obtain ⟨i, _, rfl⟩ := List.mem_map.mp hc
      have hm : signAt (takeP (takeP pn 3) 6) i ∈ signs := getDm (l := signs) (take_nat (n := 8) rfl (by omega))
      revert hm
      generalize signAt _ _ = x
      intro hm
      have : ∀ x ∈ signs, okc x = true := by decide
      exact this x hm
  · have := take_nat (pn := takeP pn 3) (many := 3) (n := 3) rfl (by omega)
    revert this
    generalize (takeD (takeP pn 3) 3).toNat = j
    intro hj
    match j, hj with
    | 0, _ => trivial
    | 1, _ => trivial
    | 2, _ => trivial
theorem theVals_dom (ns : List Int) : ∀ v ∈ theVals ns, Dom v := fun v hv => by
  obtain ⟨j, _, rfl⟩ := List.mem_map.mp hv
  exact valOf_dom _
theorem theVals_len (ns : List Int) : (theVals ns).length ≤ 5 := by simp [theVals]
variable {W : Wd} {k : Nat} {cs : Scope} {ρ : PEnv} {P VA : Addr}
theorem exec_then {ρ' : PEnv} {a : Stmt} {b : List Stmt} (h : Ex W k cs ρ [a] (.next ρ')) {c : Cx} {own N : Led} {m : Str → Option Value} {s₀ s : Shared} {Q : Flow → Shared → Prop} (ok : c.Ok W k) (hc : c.env.scope = cs) (hL : c.env.locals = c.L) (at' : At c own N m s₀ s) (he : EnvRd c N m ρ)
    (hq : ∀ N' m' s', (∀ p ∈ N, p ∈ N') → At c own N' m' s₀ s' → EnvRd c N' m' ρ' → wpAny (model W.prog W.w) c.A (execs b c.env) Q noE s') : wpAny (model W.prog W.w) c.A (execs (a :: b) c.env) Q noE s := by
  rw [show a :: b = [a] ++ b from rfl, execs_append]
  refine wpAny_bind (wpAny_mono (h c own N m s₀ s ok hc hL at' he) (fun f s1 q => ?_) fun _ _ x => x)
  obtain ⟨rfl, N1, m1, sb1, at1, he1⟩ := q
  exact hq N1 m1 s1 sb1 at1 he1
theorem ExV.iteV {es : List PV} {t : Expr} {b o : List Stmt} {pos : Pos} (tb : Bool) {tb₀ : Bool} {d : PV} {ρ' : PEnv} (ht : Ts W k cs ρ t tb₀) (q : tb₀ = tb) (h1 : tb = true → ExV W k cs P VA ρ es b ρ' d) (h2 : tb = false → ExV W k cs P VA ρ es o ρ' d) : ExV W k cs P VA ρ es [.If t b o pos] ρ' d := by
  subst q; exact ExV.ite ht h1 h2
variable {W : Wd} {k : Nat} {cs : Scope} {ρ : PEnv} {P VA : Addr}
theorem exv_run {ρ' : PEnv} {es : List PV} {ss : List Stmt} {d : PV} (h : ExV W k cs P VA ρ es ss ρ' d) {c : Cx} {own N : Led} {m : Str → Option Value} {s₀ s : Shared} {ws : List PV} (ok : c.Ok W k) (hc : c.env.scope = cs) (hL : c.env.locals = c.L) (hw : ws.length ≤ 1000) (st : StV c P VA own N m s₀ es ws s) (he : EnvRd c N m ρ) :
    wpAny (model W.prog W.w) c.A (execs ss c.env) (fun f s' => f = .next ∧ ∃ N' m' es', (∀ p ∈ N, p ∈ N') ∧ StV c P VA own N' m' s₀ es' (ws ++ [d]) s' ∧ EnvRd c N' m' ρ') noE s := h c own N m s₀ s ws ok hc hL hw st he
theorem pow15 : (10 : Int) ^ (15 : Int).toNat = 1000000000000000 := by decide
theorem bases_pv : (bases.map fun b => PV.lst (b.map .int)) = [.lst [.int 0, .int 2], .lst [.int 1, .int 2, .int 1, .int 0], .lst [.int 1, .int 2, .int 1, .int 4], .lst [.int 1, .int 1, .int 3], .lst [.int 2, .int 0]] := by simp only [bases, List.map]
theorem map_at {α : Type} {l : List α} {f : α → PV} {i : Nat} {d : α} (h : i < l.length) : (l.map f)[i]? = some (f (l.getD i d)) := by
  simp [List.getD_eq_getElem?_getD, h]
theorem bases_at {i : Nat} {d : PV} (h : (bases.map fun b => PV.lst (b.map .int))[i]? = some d) : i < 5 ∧ d = .lst ((bases.getD i []).map .int) := by
  have hi : i < 5 := by
    have := (List.getElem?_eq_some_iff.mp h).1
    simpa [bases] using this
  refine ⟨hi, ?_⟩
  rw [List.getElem?_map] at h
  rw [List.getD_eq_getElem?_getD]
  cases e : bases[i]? with
  | none => rw [e] at h; cases h
  | some b => rw [e] at h; cases h; rfl
theorem law_values_ok (T : Tops W) (hI : IntsAre W.svs W.ns) (hz : W.ns.length ≤ 63) : CallOf W 12 "_law_values" [.adr W.sc] (.lst ((theVals W.ns).map V.pv)) := by
  refine' CallOf.introG (T.defs 77 (by decide)) rfl ?n0 ?n1 ?n3 ?n2 rfl rfl rfl ?n4 ?b
  walk_at "my def"
  intro c own cells N m s₀ s ok hc hL hcells hcn hdis at' he
  have hloc : ∀ x, c.env.kindOf x = c.env.scope.names.lookup x := fun _ => rfl
  refine wpAny_execs_cons (wpAny_Assign_Name (List_ (wpAny_pure ?_)) rfl)
  refine wpAny_newObj_type ?_ (Nat.zero_le _)
  have at1 := at'.pushOwn { cls := .type "list", data := .seq ([] : List Value).toArray }
  have fV := at'.fresh_own
  generalize s.heap.objs.size = VA at at1 fV ⊢
  have hxv : c.env.kindOf "values" = some .local := by rw [hloc, hc]; decide +kernel
  refine store_rule ok hL hxv at1 fun s2 at2 => ?_
  have he2 := he.upd (x := "values") (d := .adr VA) (ρ' := [("script", .adr W.sc), ("values", .adr VA)]) (by walk_at "my upd") (.adr VA) hxv (by decide +kernel)
  refine' exec_then (c := c) (W := W) (k := 11) (cs := _) (ρ' := [("script", .adr W.sc), ("values", .adr VA), ("numbers", .lst (nums.map .int))]) ?num ok hc hL at2 he2 fun N1 m1 s3 sb1 at3 he3 => ?_
  case num =>
    with_reducible refine' Ex.assignV ((.lst (nums.map .int))) ?x1 ?n1 ?e1 ?q1 ?u1 ?r1 ?s1
    case s1 => intro _; exact rfl
    case x1 => decide +kernel
    case n1 => decide +kernel
    case e1 => repeat' tb_rel
    case q1 => rfl
    case u1 => walk_at "my upd"
    exact Ex.nil
  obtain ⟨Ca, hCa1, hCa2⟩ : ∃ a, c.env.cells.lookup ("pen" : Str) = some a ∧ (("pen" : Str), a) ∈ c.env.cells := lookup_mem' (by rw [hcells]; exact cellsFrom_some _ _ [] (.inl (by decide +kernel)))
  obtain ⟨oA, hoA1, hoA2⟩ := hcn _ _ hCa2 (by decide +kernel)
  have hoN : (Ca, oA) ∈ N1 := sb1 _ (List.mem_append_left _ hoA1)
  have at4 := at3.take hoN
  have hVC : VA ≠ Ca := Ne.symm (at3.disj _ hoN (VA, _) (.head _))
  have hOC : ∀ q ∈ own, q.1 ≠ Ca := fun q hq => Ne.symm (at3.disj _ hoN q (.tail _ hq))
  have hlc : ∀ p ∈ ([("script", .adr W.sc), ("values", .adr VA), ("numbers", .lst (nums.map .int))] : PEnv), c.env.kindOf p.1 = some .local := fun p hp => by
    rw [hloc, hc]
    simp only [List.mem_cons, List.not_mem_nil, or_false] at hp
    rcases hp with rfl | rfl | rfl <;> dsimp only <;> decide +kernel
  have he4 := he3.cut (a := Ca) hlc fun p hp e => ⟨_, by rw [at3.one hoN hp e]; exact hoA2⟩
  have sbN : ∀ p ∈ N, p ∈ N1.filter (fun p => p.1 != Ca) := fun p hp => List.mem_filter.mpr ⟨sb1 _ (List.mem_append_right _ hp), bne_iff_ne.mpr (hdis p hp _ hoA1)⟩
  have at4' : At c ([(VA, lstO [] 0), (Ca, oA)] ++ own) (N1.filter fun p => p.1 != Ca) m1 s₀ s3 := at4.swap
  generalize N1.filter (fun p => p.1 != Ca) = N2 at at4' he4 sbN
  refine wpAny_execs_cons (wpAny_mono (For_enum (cs := _) (ds := bases.map fun b => PV.lst (b.map .int)) (T.blt _ (by simp)) ?en ?hi ?k1 ?k2 ?k3 ?k4
    (fun _ ρ' => ρ' = ([("script", .adr W.sc), ("values", .adr VA), ("numbers", .lst (nums.map .int))] : PEnv))
    (fun i priv => ∃ us un oA u, priv = [(VA, lstO us un), (Ca, oA)] ∧ oA.data = .cell u ∧ Rds [] us ((List.range i).map fun j => (valOf (pen0 W.ns j)).pv)) [VA, Ca] (fun i priv ⟨us, un, oA, u, e, _⟩ => by rw [e]; rfl) none (fun _ => rfl) (fun _ _ => rfl)
    c own N2 m1 s₀ s3 ok hc hL [(VA, lstO [] 0), (Ca, oA)] ⟨[], 0, oA, _, rfl, hoA2, .nil⟩ at4' he4 rfl (fun q hq => by simp [fV q hq, hOC q hq]) fun i d own' N' priv m' s' v t ρi hd hg at5 sb5 rd he5 hv hof => ?step) (fun f s1 q => ?after) fun _ _ x => x)
  case en => decide +kernel
  case k1 => decide +kernel
  case k2 => decide +kernel
  case k3 => decide +kernel
  case k4 => decide +kernel
  case hi => 
    rw [bases_pv]
    repeat' tb_rel
  case after =>
    rcases q with ⟨rfl, N3, m3, priv3, ρ3, sb3, ⟨us, un, oA3, u3, rfl, hu3, rus⟩, at6, he6, rfl⟩ | ⟨_, _, _, _, _, _, h, _⟩
    · have el : (List.range (bases.map fun b => PV.lst (b.map .int)).length).map (fun j => (valOf (pen0 W.ns j)).pv) = (theVals W.ns).map V.pv := by
        rw [show (bases.map fun b => PV.lst (b.map .int)).length = 5 from by rw [List.length_map]; rfl, theVals, List.map_map]; rfl
      rw [el] at rus
      refine wpAny_mono (ExF.freeze (W := W) (k := 11) (cs := _) (P := VA) (es := (theVals W.ns).map V.pv) (ρ' := [("values", .lst ((theVals W.ns).map V.pv))]) (fun p hp => ?_) (by rw [List.length_map]; have := theVals_len W.ns; omega) (Ex.ret (Ev.name (by tb_start))) c ((Ca, oA3) :: own) N3 m3 s₀ s1 ok hc hL ⟨us, un, at6, rus.up, fun q hq => ?_⟩ he6) (fun f s4 q => ?_) fun _ _ x => x
      · rw [List.mem_singleton.mp hp]; exact .inr ⟨rfl, by tb_start⟩
      · rcases List.mem_cons.mp hq with rfl | hq
        · exact Ne.symm hVC
        · exact fV q hq
      · obtain ⟨v, N4, m4, rfl, sb4, at8, r8⟩ := q
        exact ⟨v, N4, m4, rfl, fun p hp => sb4 p (sb3 p (sbN p hp)), at8.drop, r8⟩
    · cases h
  case step =>
    obtain ⟨us, un, oA', u, rfl, hu, rus⟩ := hg
    subst hv
    obtain ⟨hi5, rfl⟩ := bases_at hd
    have hpn := PenOk.start W.ns i
    have hkk : c.env.kindOf "k" = some .local := by rw [hloc, hc]; decide +kernel
    have hkb : c.env.kindOf "base" = some .local := by rw [hloc, hc]; decide +kernel
    have hkp : c.env.kindOf "pen" = some .cell := by rw [hloc, hc]; decide +kernel
    have he6 := (he5.upd (x := "k") (d := .int (i : Nat)) (ρ' := [("script", .adr W.sc), ("values", .adr VA), ("numbers", .lst (nums.map .int)), ("k", .int (i : Nat))]) (by walk_at "my upd") (.int _ t) hkk (by decide +kernel)).upd (x := "base") (d := .lst ((bases.getD i []).map .int)) (ρ' := [("script", .adr W.sc), ("values", .adr VA), ("numbers", .lst (nums.map .int)), ("k", .int (i : Nat)), ("base", .lst ((bases.getD i []).map .int))]) (by walk_at "my upd") rd hkb (by decide +kernel)
    have hblen : (bases.getD i []).length ≤ 10 := by have := hpn.len; simp only [pen0, List.length_cons] at this; omega
    refine wpAny_execs_cons (wpAny_Assign_Name (wpAny_mono (add_own (cs := _) (ds := [.int (Int.fmod (pickI W.ns i 5).sum 1000000000000000)]) (es := (bases.getD i []).map .int) ?l1 (Ev.name (by tb_start)) ?z1 c _ N' _ _ s₀ s' ok hc (nsOk_L hL) at5 he6) (fun w s7 ⟨P, N7, pvs, ew, sb7, at7, q7, hP⟩ => ?_) fun _ _ x => x) rfl)
    case z1 => simp only [List.length_append, List.length_cons, List.length_nil, List.length_map]; omega
    case l1 =>
      refine Ev.list (Evs.cons (Ev.conv (d := .int (Int.fmod (pickI W.ns i 5).sum ((10 : Int) ^ (15 : Int).toNat))) (Ev.binop (Ev.sumB T ?l2 (Evs.cons (Ev.slice_sc (by tb_start) (by tb_start) (by decide) hI (by omega) (fun _ _ => ⟨_, by with_unfolding_all rfl⟩)) Evs.nil (fun _ => rfl)) call_sum (fun _ => rfl) (fun _ => rfl)) (Ev.binop Ev.int Ev.int (op_pow (by decide) (by decide) (by decide))) (op_mod (by rw [pow15]; decide))) (by rw [pow15])) Evs.nil (fun _ => rfl)) (by simp)
      case l2 => decide +kernel
    subst ew
    have hVP : VA ≠ P := hP (VA, lstO us un) (.head _)
    have hCP : Ca ≠ P := hP (Ca, oA') (.tail _ (.head _))
    have at7' : At c ((Ca, oA') :: (P, lstO pvs 0) :: (VA, lstO us un) :: own') N7 _ s₀ s7 := at7.perm fun p hp => by
      simp only [List.mem_cons, List.cons_append, List.nil_append] at hp ⊢
      rcases hp with h | h | h | h <;> simp [h]
    have hofV : ∀ q ∈ own', q.1 ≠ VA := fun q hq e => hof q hq (by simp [e])
    have hofC : ∀ q ∈ own', q.1 ≠ Ca := fun q hq e => hof q hq (by simp [e])
    have hofP : ∀ q ∈ own', q.1 ≠ P := fun q hq => hP q (.tail _ (.tail _ hq))
    have hoC : ∀ q ∈ (P, lstO pvs 0) :: (VA, lstO us un) :: own', q.1 ≠ Ca := fun q hq => by
      rcases List.mem_cons.mp hq with rfl | hq
      · exact Ne.symm hCP
      · rcases List.mem_cons.mp hq with rfl | hq
        · exact hVC
        · exact hofC q hq
    refine wpAny_storeName_cell (c := Ca) (v₀ := u) ok.ek hkp hCa1 ⟨oA', (at7'.news _ (.head _)).1, hu⟩ fun h8 hv8 hs8 => ?_
    obtain ⟨oA2, hoA2', hdA2⟩ := hv8
    have at8 := at7'.next (tk := s7.toks) (fun b o hb e => hs8.extBut b o (fun q => hb (List.mem_singleton.mpr q)) e) hoA2' hoC
    have at9 := at8.give hoC
    have he9 : EnvRd c ((Ca, oA2) :: N7) _ [("script", .adr W.sc), ("values", .adr VA), ("numbers", .lst (nums.map .int)), ("k", .int (i : Nat)), ("base", .lst ((bases.getD i []).map .int)), ("pen", .adr P)] := fun p hp => by
      have hp' : p ∈ ([("script", .adr W.sc), ("values", .adr VA), ("numbers", .lst (nums.map .int)), ("k", .int (i : Nat)), ("base", .lst ((bases.getD i []).map .int))] : PEnv) ∨ p = (("pen" : Str), PV.adr P) := by
        simp only [List.mem_cons, List.not_mem_nil, or_false] at hp ⊢
        rcases hp with h | h | h | h | h | h <;> simp [h]
      rcases hp' with hp | rfl
      · exact (he6.mono fun p hp => .tail _ (sb7 p hp)) p hp
      · exact ⟨.ref P, .adr P, (by decide +kernel : NmOk ("pen" : Str) = true), .inr ⟨.inl hkp, Ca, oA2, hCa1, .head _, hdA2⟩⟩
    refine wpAny_mono (exv_run (k := 11) (cs := _) (P := P) (VA := VA) (ρ' := [("script", .adr W.sc), ("values", .adr VA), ("numbers", .lst (nums.map .int))]) (es := (pen0 W.ns i).map .int) (d := (valOf (pen0 W.ns i)).pv) ?tail ok hc hL (ws := (List.range i).map fun j => (valOf (pen0 W.ns j)).pv) (by rw [List.length_map, List.length_range]; omega) ⟨pvs, 0, us, un, at9, q7.mono fun p hp => .tail _ hp, rus, Ne.symm hVP, fun q hq => ⟨hofP q hq, hofV q hq⟩⟩ he9) (fun f s10 q => ?aft) fun _ _ x => x
    case aft =>
      obtain ⟨rfl, N10, m10, es10, sb10, ⟨pvs2, n2, us2, un2, at10, _, rus2, _, _⟩, he10⟩ := q
      have hm2 : (Ca, oA2) ∈ N10 := sb10 _ (.head _)
      refine .inl ⟨rfl, N10.filter fun p => p.1 != Ca, m10, [(VA, lstO us2 un2), (Ca, oA2)], _, fun p hp => ?_, ⟨us2, un2, oA2, _, rfl, hdA2, ?_⟩, ?_, he10.cut hlc fun p hp e => ⟨_, by rw [at10.one hm2 hp e]; exact hdA2⟩, rfl⟩
      · exact List.mem_filter.mpr ⟨sb10 _ (.tail _ (sb7 p hp)), bne_iff_ne.mpr (at5.disj p hp (Ca, oA') (.tail _ (.head _)))⟩
      · rw [List.range_succ, List.map_append]; exact rus2
      · exact (at10.drop.take hm2).swap
    case tail =>
      generalize pen0 W.ns i = pn at hpn ⊢
      generalize PV.lst ((bases.getD i []).map .int) = b
      have h1 := hpn.take (many := 3) (by omega)
      have h2 := h1.take (many := 6) (by omega)
      refine' ExV.assign (d0 := .int (takeD pn 3)) (es' := (takeP pn 3).map .int) (ρ1 := [("script", .adr W.sc), ("values", .adr VA), ("numbers", .lst (nums.map .int)), ("k", .int (i : Nat)), ("base", b), ("pen", .adr P), ("sort", .int (takeD pn 3))]) ?x_2 ?n_2 ?e_2 ?u_2 ?r_2 ?s_2
      case s_2 => intro _; exact rfl
      case x_2 => decide +kernel
      case n_2 => decide +kernel
      case u_2 => walk_at "my upd"
      case e_2 =>
        refine' EvM.call (k' := 1) (by decide +kernel) ?as_3 (law_take_ok T hpn (by omega) (by omega)) (by omega) (by decide +kernel) (fun _ => rfl) (fun _ => rfl)
        repeat' tb_rel
      refine' ExV.iteV (decide (takeD pn 3 = 0)) ?t1_4 ?q1_4 (fun h => ?a1_4) (fun h => ?b1_4)
      case t1_4 => repeat' tb_rel
      case q1_4 => rw [Bool.eq_iff_iff]; simp
      case a1_4 =>
        have h := of_decide_eq_true h
        refine' ExV.append (es' := (takeP (takeP pn 3) 11).map .int) ?m_5 (EvM.item_lst (ds := nums.map .int) (Ev.name ?m2_5) (EvM.call (k' := 1) (by decide +kernel) ?as_5 (law_take_ok T h1 (by omega) (by omega)) (by omega) (by decide +kernel) (fun _ => rfl) (fun _ => rfl)) (takeD_lo (by omega)) ?hi_5 (fun _ _ => rfl)) (V.flat _) ?sub_5 ?heq_5 (fun _ => rfl) ?hs_5
        case m_5 => tb_start
        case m2_5 => tb_start
        case as_5 => repeat' tb_rel
        case sub_5 => walk_at "my sub"
        case heq_5 => intro _; exact ⟨_, rfl⟩
        case hs_5 => intro _; exact rfl
        case hi_5 =>
          rw [valOf, if_pos h]
          exact map_at (l := nums) (take_nat (n := 11) rfl (by omega))
      have h := of_decide_eq_false h
      refine' ExV.iteV (decide (takeD pn 3 = 1)) ?t2_6 ?q2_6 (fun g => ?a2_6) (fun g => ?b2_6)
      case t2_6 => repeat' tb_rel
      case q2_6 => rw [Bool.eq_iff_iff]; simp
      case b2_6 =>
        have g := of_decide_eq_false g
        refine' ExV.append (es' := (takeP (takeP pn 3) 3).map .int) ?m_7 (EvM.item_lst (ds := ([V.none, .bool false, .bool true] : List V).map V.pv) ?l_7 (EvM.call (k' := 1) (by decide +kernel) ?as_7 (law_take_ok T h1 (by omega) (by omega)) (by omega) (by decide +kernel) (fun _ => rfl) (fun _ => rfl)) (takeD_lo (by omega)) ?hi_7 (fun _ _ => rfl)) (V.flat _) ?sub_7 ?heq_7 (fun _ => rfl) ?hs_7
        case m_7 => tb_start
        case l_7 => (dsimp only [List.map, V.pv]); (repeat' tb_rel)
        case as_7 => repeat' tb_rel
        case sub_7 => walk_at "my sub"
        case heq_7 => intro _; exact ⟨_, rfl⟩
        case hs_7 => intro _; exact rfl
        case hi_7 =>
          rw [valOf, if_neg h, if_neg g]
          exact map_at (l := ([V.none, .bool false, .bool true] : List V)) (take_nat (n := 3) rfl (by omega))
      have g := of_decide_eq_true g
      have hv : (valOf pn).pv = .str ((List.range (takeD (takeP pn 3) 6).toNat).map (signAt (takeP (takeP pn 3) 6))) := by rw [valOf, if_neg h, if_pos g]; rfl
      have hm := take_nat (pn := takeP pn 3) (many := 6) (n := 6) rfl (by omega)
      have hm0 := takeD_lo (pn := takeP pn 3) (many := 6) (by omega)
      rw [hv]
      refine' ExV.append (es' := (pens (takeP (takeP pn 3) 6) (takeD (takeP pn 3) 6).toNat).map .int) ?m_8 (EvM.join ?o_8 (EvM.conv (EvM.comp (ρi := [("pen", .adr P)]) (ds := (List.range (takeD (takeP pn 3) 6).toNat).map fun i => .int (i : Nat)) (fun i => .str [signAt (takeP (takeP pn 3) 6) i]) (pens (takeP (takeP pn 3) 6)) ?ho_8 ?hc_8 ?hx_8 ?hno_8 ?hz_8 ?hi_8 ?ht_8 (fun _ _ => rfl)) ?q3_8 ?q4_8) ?hl_8 ?he2_8 (fun _ => rfl)) rfl ?sub_8 ?heq_8 (fun _ => rfl) ?hs_8
      case m_8 => tb_start
      case o_8 => repeat' tb_rel
      case ho_8 => exact cok ["script", "values", "numbers", "k", "base", "pen", "sort"] ["pen"] rfl rfl (by walk_at "my sub") (by decide +kernel) (by decide +kernel) rfl (by decide +kernel)
      case hc_8 => decide +kernel
      case hx_8 => decide +kernel
      case hno_8 => decide +kernel
      case hz_8 => rw [List.length_map, List.length_range]; omega
      case hl_8 => rw [List.length_map, List.length_range]; omega
      case q3_8 => rw [List.length_map, List.length_range, List.map_map]; rfl
      case q4_8 => rw [List.length_map, List.length_range]
      case sub_8 => walk_at "my sub"
      case heq_8 => intro _; exact ⟨_, rfl⟩
      case he2_8 => intro _; exact ⟨_, rfl⟩
      case hs_8 => intro _; exact rfl
      case hi_8 =>
        refine' ItrM.range1 (T.blt _ (by simp)) (by decide +kernel) (EvM.call (k' := 1) (by decide +kernel) ?as_9 (law_take_ok T h1 (by omega) (by omega)) (by omega) (by decide +kernel) (fun _ => rfl) (fun _ => rfl)) (by omega) (by omega) (fun _ => rfl) (fun _ => rfl)
        repeat' tb_rel
      case ht_8 =>
        intro j d hd
        refine' EvM.item_str (l := signs) ?o2_10 (EvM.call (k' := 1) (by decide +kernel) ?as_10 (law_take_ok T (h2.pens j) (by omega) (by omega)) (by omega) (by decide +kernel) (fun _ => rfl) (fun _ => rfl)) (takeD_lo (by omega)) ?hi2_10 (fun _ _ => rfl)
        case o2_10 => (unfold signs); (repeat' tb_rel)
        case as_10 => repeat' tb_rel
        case hi2_10 => exact takeD_hi (many := 8) (by omega)
end Mine
end
section
open PySem
set_option maxRecDepth 10000
set_option autoImplicit false
namespace Mine
structure Lin {α : Type} (s : α → α → Int) : Prop where
  anti : ∀ x y, s x y = - s y x
  trans : ∀ x y z, s x y ≤ 0 → s y z ≤ 0 → s x z ≤ 0
theorem lin_sg {α : Type} (g : α → Int) : Lin fun x y => sg (g x) (g y) :=
  ⟨fun x y => by unfold sg; split <;> split <;> (try split) <;> omega, fun x y z h1 h2 => by
    unfold sg at *
    split at h1 <;> split at h2 <;> (try split at h1) <;> (try split at h2) <;> (try split) <;> (try split) <;> omega⟩
theorem ct_le {x y : List Nat} : ct x y ≤ 0 ↔ ¬ y < x := by
  unfold ct
  by_cases h : x = y
  · subst h; simp [List.lt_irrefl]
  · rw [if_neg h]
    by_cases h1 : x < y
    · rw [if_pos h1]; simp; exact fun h2 => List.lt_asymm h1 h2
    · rw [if_neg h1]; simp
      rcases trich x y with q | q | q
      · exact absurd q h1
      · exact absurd q h
      · exact q
theorem lin_ct {α : Type} (g : α → List Nat) : Lin fun x y => ct (g x) (g y) :=
  ⟨fun x y => by
    unfold ct
    by_cases h : g x = g y
    · rw [if_pos h, if_pos h.symm]; rfl
    · rw [if_neg h, if_neg (Ne.symm h)]
      rcases trich (g x) (g y) with q | q | q
      · rw [if_pos q, if_neg (List.lt_asymm q)]
      · exact absurd q h
      · (rw [if_neg (List.lt_asymm q), if_pos q]; rfl), fun x y z h1 h2 => by
    try dsimp only at *
    rw [ct_le] at *
    exact fun h => by
      rcases trich (g y) (g x) with q | q | q
      · exact h1 q
      · exact h2 (q ▸ h)
      · exact h2 (List.lt_trans h q)⟩
theorem cmpT_le {x y : List (List Nat)} : cmpT x y ≤ 0 ↔ ¬ y < x := by
  unfold cmpT
  by_cases h : x = y
  · subst h; simp [irrL]
  · rw [if_neg h]
    by_cases h1 : x < y
    · rw [if_pos h1]; simp; exact fun h2 => List.lt_asymm h1 h2
    · rw [if_neg h1]; simp
      rcases trichL x y with q | q | q
      · exact absurd q h1
      · exact absurd q h
      · exact q
theorem lin_cmpT {α : Type} (g : α → List (List Nat)) : Lin fun x y => cmpT (g x) (g y) :=
  ⟨fun x y => by
    unfold cmpT
    by_cases h : g x = g y
    · rw [if_pos h, if_pos h.symm]; rfl
    · rw [if_neg h, if_neg (Ne.symm h)]
      rcases trichL (g x) (g y) with q | q | q
      · rw [if_pos q, if_neg (List.lt_asymm q)]
      · exact absurd q h
      · (rw [if_neg (List.lt_asymm q), if_pos q]; rfl), fun x y z h1 h2 => by
    try dsimp only at *
    rw [cmpT_le] at *
    exact fun h => by
      rcases trichL (g y) (g x) with q | q | q
      · exact h1 q
      · exact h2 (q ▸ h)
      · exact h2 (List.lt_trans h q)⟩
theorem lin_sc {f : Int} (hf : f ∈ ([1, 2, 6, 10, 14] : List Int)) : Lin (sc f) := by
  simp only [List.mem_cons, List.not_mem_nil, or_false] at hf
  rcases hf with rfl | rfl | rfl | rfl | rfl
  · exact lin_sg num
  · exact lin_ct txt
  · exact lin_cmpT fun v => key (rc false (txt v))
  · exact lin_ct fun v => lowP (txt v)
  · exact lin_cmpT fun v => key (rc true (txt v))
theorem no_tri {s : V → V → Int} (h : Lin s) (x y z : V) : tri s x y z = false := by
  unfold tri
  cases h1 : decide (s x y ≤ 0)
  · rfl
  cases h2 : decide (s y z ≤ 0)
  · rfl
  have := h.trans x y z (of_decide_eq_true h1) (of_decide_eq_true h2)
  simp; omega
theorem no_ring {s : V → V → Int} (h : Lin s) (vs : List V) (ks : List Nat) : hasR s vs ks = false := by
  unfold hasR
  simp [no_tri h]
end Mine
end
section
open PySem
set_option maxRecDepth 10000
set_option autoImplicit false
namespace Mine
theorem sg_anti (a b : Int) : sg a b = - sg b a := (lin_sg (fun x : Int => x)).anti a b
theorem ct_anti (a b : List Nat) : ct a b = - ct b a := (lin_ct (fun x : List Nat => x)).anti a b
theorem smart_anti (l r : List Nat) : smartP l r = - smartP r l := by
  unfold smartP
  by_cases h : numC l = 2 ∧ numC r = 2
  · rw [if_pos h, if_pos h.symm]; exact sg_anti _ _
  · rw [if_neg h, if_neg fun q => h q.symm]; exact ct_anti _ _
theorem cp_anti (v w : V) : cp v w = - cp w v := by
  cases v <;> cases w <;> simp only [cp] <;> first | exact sg_anti _ _ | exact ct_anti _ _ | exact smart_anti _ _ | exact (Int.neg_neg _).symm | rfl
theorem sc_anti {f : Int} (hf : f ∈ ([0, 1, 2, 6, 10, 14] : List Int)) (v w : V) : sc f v w = - sc f w v := by
  simp only [List.mem_cons, List.not_mem_nil, or_false] at hf
  rcases hf with rfl | hf
  · exact cp_anti v w
  · exact (lin_sc (by simp only [List.mem_cons, List.not_mem_nil, or_false]; exact hf)).anti v w
theorem nat_nums : ∀ nc : Bool, ∀ i ∈ nums, ∀ j ∈ nums, 0 ≤ i → 0 ≤ j → natP nc (intTxt i) (intTxt j) = sg i j := by decide +kernel
theorem due_ok {f : Int} (hf : f ∈ ([0, 1, 2, 6, 10, 14] : List Int)) {v w : V} (hv : Dom v) (hw : Dom w) : due f v w = none ∨ due f v w = some (sc f v w) := by
  have nn : ∀ x, isNat x = true → ∃ i, x = .int i ∧ 0 ≤ i := fun x => by cases x <;> simp [isNat]
  simp only [List.mem_cons, List.not_mem_nil, or_false] at hf
  rcases hf with rfl | rfl | rfl | rfl | rfl | rfl
  · unfold due
    by_cases h1 : isNum v = true ∧ isNum w = true
    · rw [if_pos (by simp [h1])]
      right
      congr 1
      cases v <;> cases w <;> simp [isNum, sc, cp, num, smartP, iaP] at h1 ⊢ <;> (try simp [h1]) <;> (try exact sg_anti _ _)
    · rw [if_neg (by simpa using h1)]
      by_cases h2 : isTxt v = true ∧ isTxt w = true
      · rw [if_pos (by simp [h2])]
        right
        congr 1
        cases v <;> cases w <;> simp [isTxt, sc, cp, txt, smartP] at h2 ⊢ <;> (try simp [h2])
      · rw [if_neg (by simpa using h2), if_neg (by decide), if_neg]
        · left; rfl
        · rintro ⟨a, b⟩
          obtain ⟨i, rfl, _⟩ := nn v a
          obtain ⟨j, rfl, _⟩ := nn w b
          exact h1 ⟨rfl, rfl⟩
  · right; rfl
  · right; rfl
  · unfold due
    rw [if_neg (by simp), if_neg (by simp), if_neg (by decide)]
    split
    · rename_i h
      right
      obtain ⟨i, rfl, hi⟩ := nn v h.1
      obtain ⟨j, rfl, hj⟩ := nn w h.2
      exact congrArg some (nat_nums false i hv j hw hi hj).symm
    · left; rfl
  · right; rfl
  · unfold due
    rw [if_neg (by simp), if_neg (by simp), if_neg (by decide)]
    split
    · rename_i h
      right
      obtain ⟨i, rfl, hi⟩ := nn v h.1
      obtain ⟨j, rfl, hj⟩ := nn w h.2
      exact congrArg some (nat_nums true i hv j hw hi hj).symm
    · left; rfl
end Mine
end
section
open PySem
set_option maxRecDepth 10000
set_option autoImplicit false
namespace Mine
noncomputable def tb (u v w : Int) : Nat → Nat → Int
  | 0, 1 => u
  | 0, 2 => v
  | 1, 0 => -u
  | 1, 2 => w
  | 2, 0 => -v
  | 2, 1 => -w
  | _, _ => 0
noncomputable def h3 (u v w : Int) : Bool := [0, 1, 2].any fun a => [0, 1, 2].any fun b => [0, 1, 2].any fun c => decide (tb u v w a b ≤ 0) && (decide (tb u v w b c ≤ 0) && decide (0 < tb u v w a c))
noncomputable def H3 (s : V → V → Int) (x y z : V) : Bool := [x, y, z].any fun a => [x, y, z].any fun b => [x, y, z].any fun c => tri s a b c
theorem H3_eq {s : V → V → Int} (h : ∀ a b, s a b = - s b a) (x y z : V) : H3 s x y z = h3 (s x y) (s x z) (s y z) := by
  have d : ∀ a, s a a = 0 := fun a => by have := h a a; omega
  simp only [H3, h3, tri, List.any_cons, List.any_nil, tb, d, h y x, h z x, h z y]
theorem H3_lin {s t : V → V → Int} (l : Lin t) (x y z : V) (hs : ∀ a ∈ [x, y, z], ∀ b ∈ [x, y, z], s a b = t a b) : H3 s x y z = false := by
  unfold H3
  simp only [List.any_eq_false]
  intro a ha hc
  simp only [List.any_eq_true] at hc
  obtain ⟨b, hb, c, hc', q⟩ := hc
  have : tri s a b c = tri t a b c := by simp only [tri, hs a ha b hb, hs b hb c hc', hs a ha c hc']
  rw [this, no_tri l] at q
  cases q
theorem hasR_H3 {s : V → V → Int} {vs : List V} {k j i : Nat} : hasR s vs [k, j, i] = H3 s (vs.getD k .none) (vs.getD j .none) (vs.getD i .none) := by
  simp only [hasR, H3, List.any_cons, List.any_nil]
theorem sg_mem (a b : Int) : sg a b ∈ ([-1, 0, 1] : List Int) := by unfold sg; split <;> (try split) <;> simp
theorem ring_fin : ∀ σ ∈ ([-1, 0, 1] : List Int), ∀ p ∈ ([-1, 1] : List Int), ∀ q ∈ ([-1, 1] : List Int),
    h3 σ p q = ((p == -1 && q == 1 && σ != -1) || (q == -1 && p == 1 && σ != 1)) ∧ h3 p σ (-q) = ((p == -1 && q == 1 && σ != -1) || (q == -1 && p == 1 && σ != 1)) ∧
    h3 (-p) (-q) σ = ((p == -1 && q == 1 && σ != -1) || (q == -1 && p == 1 && σ != 1)) := by decide +kernel
theorem num_txt {a t : V} (ha : Dom a) (hn : isNum a = true) (ht : isTxt t = true) : txt a ≠ txt t := by
  have hi : ∀ i ∈ nums, numC (intTxt i) = 2 := by decide +kernel
  cases t <;> simp [isTxt] at ht
  rename_i r
  cases a <;> simp [isNum] at hn
  · rename_i i
    intro e
    exact ht (by rw [← show intTxt i = r from e]; exact hi i ha)
  · rename_i l
    intro e
    exact ht (by rw [← show l = r from e]; exact hn)
theorem cp_nt {a t : V} (hn : isNum a = true) (ht : isTxt t = true) : cp a t = ct (txt a) (txt t) := by
  cases t <;> simp [isTxt] at ht
  cases a <;> simp [isNum] at hn <;> simp [cp, iaP, smartP, txt, ht]
theorem cp_nn {a b : V} (ha : isNum a = true) (hb : isNum b = true) : cp a b = sg (num a) (num b) := by
  cases a <;> cases b <;> simp [isNum] at ha hb <;> simp [cp, iaP, smartP, num, ha, hb]
  exact (sg_anti _ _).symm
theorem cp_tt {a b : V} (ha : isTxt a = true ∨ isNul a = true) (hb : isTxt b = true ∨ isNul b = true) : cp a b = ct (txt a) (txt b) := by
  cases a <;> cases b <;> simp [isTxt, isNul] at ha hb <;> simp [cp, smartP, txt, ha, hb, ct_self, tobP, V.pv, bi, sg]
end Mine
end
section
open PySem
set_option maxRecDepth 10000
set_option autoImplicit false
namespace Mine
theorem kinds (v : V) : (isNum v = true ∧ isTxt v = false ∧ isNul v = false) ∨ (isNum v = false ∧ isTxt v = true ∧ isNul v = false) ∨ (isNum v = false ∧ isTxt v = false ∧ isNul v = true) ∨ (isNum v = false ∧ isTxt v = false ∧ isNul v = false ∧ ∃ b, v = .bool b) := by
  cases v <;> simp [isNum, isTxt, isNul]
  rename_i l
  by_cases h : numC l = 2 <;> simp [h]
theorem cp_tn {a t : V} (hn : isNum a = true) (ht : isTxt t = true) : cp t a = ct (txt t) (txt a) := by
  rw [cp_anti, cp_nt hn ht, ct_anti (txt t)]
theorem cp_self (a : V) : cp a a = 0 := by have := cp_anti a a; omega
theorem lin_t : Lin fun a b => ct (txt a) (txt b) := lin_ct txt
theorem lin_n : Lin fun a b => sg (num a) (num b) := lin_sg num
theorem lin_b : Lin fun a b => sg (bi (tobP (V.pv a))) (bi (tobP (V.pv b))) := lin_sg fun a => bi (tobP (V.pv a))
theorem cp_bb {a b : V} (ha : isNul a = true ∨ ∃ c, a = .bool c) (hb : isNul b = true ∨ ∃ c, b = .bool c) : cp a b = sg (bi (tobP (V.pv a))) (bi (tobP (V.pv b))) := by
  cases a <;> cases b <;> simp [isNul] at ha hb <;> simp [cp]
theorem ct_pm {a b : List Nat} (h : a ≠ b) : ct a b ∈ ([-1, 1] : List Int) := by
  unfold ct; rw [if_neg h]; split <;> simp
theorem ct_m1 {a b : List Nat} : ct a b = -1 ↔ a < b := by
  rw [ct_def]; split
  · simp [*]
  · rename_i h; split <;> simp [h]
theorem ct_p1 {a b : List Nat} : ct a b = 1 ↔ b < a := by
  rw [ct_anti, ← ct_m1]; omega
theorem two_one {a b t : V} (da : Dom a) (db : Dom b) (ha : isNum a = true) (hb : isNum b = true) (ht : isTxt t = true) :
    ((decide (txt a < txt t) && decide (txt t < txt b) || decide (txt b < txt t) && decide (txt t < txt a)) && sg (num a) (num b) != ct (txt a) (txt b)) =
      ((ct (txt a) (txt t) == -1 && ct (txt b) (txt t) == 1 && sg (num a) (num b) != -1) || (ct (txt b) (txt t) == -1 && ct (txt a) (txt t) == 1 && sg (num a) (num b) != 1)) := by
  have h1 : (ct (txt a) (txt t) == -1) = decide (txt a < txt t) := by rw [Bool.eq_iff_iff, beq_iff_eq, decide_eq_true_eq, ct_m1]
  have h2 : (ct (txt b) (txt t) == -1) = decide (txt b < txt t) := by rw [Bool.eq_iff_iff, beq_iff_eq, decide_eq_true_eq, ct_m1]
  have h3 : (ct (txt a) (txt t) == 1) = decide (txt t < txt a) := by rw [Bool.eq_iff_iff, beq_iff_eq, decide_eq_true_eq, ct_p1]
  have h4 : (ct (txt b) (txt t) == 1) = decide (txt t < txt b) := by rw [Bool.eq_iff_iff, beq_iff_eq, decide_eq_true_eq, ct_p1]
  rw [h1, h2, h3, h4]
  by_cases p : txt a < txt t
  · have np : ¬ txt t < txt a := List.lt_asymm p
    by_cases q : txt t < txt b
    · have nq : ¬ txt b < txt t := List.lt_asymm q
      have e : ct (txt a) (txt b) = -1 := ct_m1.mpr (List.lt_trans p q)
      simp [p, q, np, nq, e]
    · simp [p, q, np]
  · by_cases q : txt b < txt t
    · by_cases r : txt t < txt a
      · have nq : ¬ txt t < txt b := List.lt_asymm q
        have e : ct (txt a) (txt b) = 1 := ct_p1.mpr (List.lt_trans q r)
        simp [p, q, r, nq, e]
      · simp [p, q, r]
    · simp [p, q]
end Mine
end
section
open PySem
set_option maxRecDepth 10000
set_option maxHeartbeats 2000000
set_option autoImplicit false
namespace Mine
theorem all3 {P : V → Prop} {x y z : V} (hx : P x) (hy : P y) (hz : P z) : ∀ v ∈ [x, y, z], P v := fun v hv => by
  simp only [List.mem_cons, List.not_mem_nil, or_false] at hv
  rcases hv with rfl | rfl | rfl <;> assumption
theorem H_t {x y z : V} (hx : isTxt x = true ∨ isNul x = true) (hy : isTxt y = true ∨ isNul y = true) (hz : isTxt z = true ∨ isNul z = true) : H3 cp x y z = false :=
  have h := all3 (P := fun v => isTxt v = true ∨ isNul v = true) hx hy hz
  H3_lin lin_t _ _ _ fun a ha b hb => cp_tt (h a ha) (h b hb)
theorem H_n {x y z : V} (hx : isNum x = true) (hy : isNum y = true) (hz : isNum z = true) : H3 cp x y z = false :=
  have h := all3 (P := fun v => isNum v = true) hx hy hz
  H3_lin lin_n _ _ _ fun a ha b hb => cp_nn (h a ha) (h b hb)
theorem H_b {x y z : V} (hx : isNul x = true ∨ ∃ c, x = .bool c) (hy : isNul y = true ∨ ∃ c, y = .bool c) (hz : isNul z = true ∨ ∃ c, z = .bool c) : H3 cp x y z = false :=
  have h := all3 (P := fun v => isNul v = true ∨ ∃ c, v = .bool c) hx hy hz
  H3_lin lin_b _ _ _ fun a ha b hb => cp_bb (h a ha) (h b hb)
theorem H_1 {x y z n : V} (hn : isNum n = true) (h : ∀ v ∈ [x, y, z], v = n ∨ isTxt v = true) : H3 cp x y z = false :=
  H3_lin lin_t _ _ _ fun a ha b hb => by
    rcases h a ha with rfl | h1 <;> rcases h b hb with rfl | h2
    · rw [cp_self, ct_self]
    · exact cp_nt hn h2
    · exact cp_tn hn h1
    · exact cp_tt (.inl h1) (.inl h2)
theorem form_3 {a b t : V} (da : Dom a) (db : Dom b) (ha : isNum a = true) (hb : isNum b = true) (ht : isTxt t = true) :
    ((decide (txt a < txt t) && decide (txt t < txt b) || decide (txt b < txt t) && decide (txt t < txt a)) && sg (num a) (num b) != ct (txt a) (txt b)) = H3 cp a b t ∧
    ((decide (txt a < txt t) && decide (txt t < txt b) || decide (txt b < txt t) && decide (txt t < txt a)) && sg (num a) (num b) != ct (txt a) (txt b)) = H3 cp a t b ∧
    ((decide (txt a < txt t) && decide (txt t < txt b) || decide (txt b < txt t) && decide (txt t < txt a)) && sg (num a) (num b) != ct (txt a) (txt b)) = H3 cp t a b := by
  have h := ring_fin (sg (num a) (num b)) (sg_mem _ _) (ct (txt a) (txt t)) (ct_pm (num_txt da ha ht)) (ct (txt b) (txt t)) (ct_pm (num_txt db hb ht))
  have e1 : cp t a = - ct (txt a) (txt t) := by rw [cp_tn ha ht, ct_anti]
  have e2 : cp t b = - ct (txt b) (txt t) := by rw [cp_tn hb ht, ct_anti]
  rw [two_one da db ha hb ht, H3_eq cp_anti, H3_eq cp_anti, H3_eq cp_anti, cp_nn ha hb, cp_nt ha ht, cp_nt hb ht, e1, e2]
  exact ⟨h.1.symm, h.2.1.symm, h.2.2.symm⟩
noncomputable def sel (p : V → Bool) (x : V) : List V := if p x = true then [x] else []
structure Kd (x : V) (n t b : List V) (i j k : Nat) : Prop where
  n' : sel isNum x = n
  t' : sel isTxt x = t
  b' : sel isNul x = b
  ni : n.length = i
  tj : t.length = j
  bk : b.length = k
noncomputable def ringG (ns ts bs : List V) : Option Bool :=
  if ts.length + bs.length = 3 ∨ (ns.length + ts.length + bs.length < 3 ∧ ns = [] ∧ ts = []) then some false
  else if ns.length + ts.length < 3 then none
  else if ns.length ≠ 2 then some false
  else
    let x := txt (ns.getD 0 .none); let y := txt (ns.getD 1 .none); let t := txt (ts.getD 0 .none)
    some ((decide (x < t) && decide (t < y) || decide (y < t) && decide (t < x)) && sg (num (ns.getD 0 .none)) (num (ns.getD 1 .none)) != ct x y)
theorem sel3 (p : V → Bool) (x y z : V) : [x, y, z].filter p = sel p x ++ (sel p y ++ sel p z) := by
  simp only [List.filter_cons, List.filter_nil, sel]
  cases p x <;> cases p y <;> cases p z <;> rfl
structure R3 (x y z : V) (ns ts bs : List V) (i j k : Nat) : Prop where
  e : ring [x, y, z] = ringG ns ts bs
  ni : ns.length = i
  tj : ts.length = j
  bk : bs.length = k
theorem ring_kd {x y z : V} {nx tx bx ny ty b_y nz tz bz : List V} {i1 j1 k1 i2 j2 k2 i3 j3 k3 : Nat} (hx : Kd x nx tx bx i1 j1 k1) (hy : Kd y ny ty b_y i2 j2 k2) (hz : Kd z nz tz bz i3 j3 k3) : R3 x y z (nx ++ (ny ++ nz)) (tx ++ (ty ++ tz)) (bx ++ (b_y ++ bz)) (i1 + (i2 + i3)) (j1 + (j2 + j3)) (k1 + (k2 + k3)) := by
  have e : ring [x, y, z] = ringG ([x, y, z].filter isNum) ([x, y, z].filter isTxt) ([x, y, z].filter isNul) := rfl
  refine ⟨?_, ?_, ?_, ?_⟩
  · rw [e, sel3, sel3, sel3, hx.n', hx.t', hx.b', hy.n', hy.t', hy.b', hz.n', hz.t', hz.b']
  · rw [List.length_append, List.length_append, hx.ni, hy.ni, hz.ni]
  · rw [List.length_append, List.length_append, hx.tj, hy.tj, hz.tj]
  · rw [List.length_append, List.length_append, hx.bk, hy.bk, hz.bk]
theorem kinds' (x : V) : (isNum x = true ∧ Kd x [x] [] [] 1 0 0) ∨ (isTxt x = true ∧ Kd x [] [x] [] 0 1 0) ∨ (isNul x = true ∧ Kd x [] [] [x] 0 0 1) ∨ ((∃ c, x = .bool c) ∧ Kd x [] [] [] 0 0 0) := by
  rcases kinds x with ⟨x1, x2, x3⟩ | ⟨x1, x2, x3⟩ | ⟨x1, x2, x3⟩ | ⟨x1, x2, x3, bx⟩
  · exact .inl ⟨x1, by simp [sel, x1], by simp [sel, x2], by simp [sel, x3], rfl, rfl, rfl⟩
  · exact .inr (.inl ⟨x2, by simp [sel, x1], by simp [sel, x2], by simp [sel, x3], rfl, rfl, rfl⟩)
  · exact .inr (.inr (.inl ⟨x3, by simp [sel, x1], by simp [sel, x2], by simp [sel, x3], rfl, rfl, rfl⟩))
  · exact .inr (.inr (.inr ⟨bx, by simp [sel, x1], by simp [sel, x2], by simp [sel, x3], rfl, rfl, rfl⟩))
section
variable {x y z : V} {ns ts bs : List V} {i j k : Nat} {h : Bool}
theorem R3.c (r : R3 x y z ns ts bs i j k) : (ts.length + bs.length = 3 ∨ (ns.length + ts.length + bs.length < 3 ∧ ns = [] ∧ ts = [])) ↔ (j + k = 3 ∨ (i + j + k < 3 ∧ i = 0 ∧ j = 0)) := by
  rw [← r.ni, ← r.tj, ← r.bk, List.length_eq_zero_iff, List.length_eq_zero_iff]
theorem rg_none (r : R3 x y z ns ts bs i j k) (h1 : ¬ (j + k = 3 ∨ (i + j + k < 3 ∧ i = 0 ∧ j = 0))) (h2 : i + j < 3) : ring [x, y, z] = none ∨ ring [x, y, z] = some h :=
  .inl (r.e.trans ((if_neg (fun q => h1 (r.c.mp q))).trans (if_pos (by rw [r.ni, r.tj]; exact h2))))
theorem rg_no (r : R3 x y z ns ts bs i j k) (h1 : j + k = 3 ∨ (i + j + k < 3 ∧ i = 0 ∧ j = 0)) (e : h = false) : ring [x, y, z] = none ∨ ring [x, y, z] = some h :=
  .inr (r.e.trans ((if_pos (r.c.mpr h1)).trans (congrArg some e.symm)))
theorem rg_one (r : R3 x y z ns ts bs i j k) (h1 : ¬ (j + k = 3 ∨ (i + j + k < 3 ∧ i = 0 ∧ j = 0))) (h2 : ¬ i + j < 3) (h3 : i ≠ 2) (e : h = false) : ring [x, y, z] = none ∨ ring [x, y, z] = some h :=
  .inr (r.e.trans ((if_neg (fun q => h1 (r.c.mp q))).trans ((if_neg (by rw [r.ni, r.tj]; exact h2)).trans ((if_pos (by rw [r.ni]; exact h3)).trans (congrArg some e.symm)))))
theorem rg_two {a b t : V} (r : R3 x y z [a, b] [t] [] i j k) (e : ((decide (txt a < txt t) && decide (txt t < txt b) || decide (txt b < txt t) && decide (txt t < txt a)) && sg (num a) (num b) != ct (txt a) (txt b)) = h) : ring [x, y, z] = none ∨ ring [x, y, z] = some h :=
  .inr (r.e.trans ((if_neg (by simp)).trans ((if_neg (by simp)).trans ((if_neg (by simp)).trans (congrArg some e)))))
end
theorem ring_ok {x y z : V} (dx : Dom x) (dy : Dom y) (dz : Dom z) : ring [x, y, z] = none ∨ ring [x, y, z] = some (H3 cp x y z) := by
  rcases kinds' x with ⟨x1, kx⟩ | ⟨x1, kx⟩ | ⟨x1, kx⟩ | ⟨x1, kx⟩ <;> rcases kinds' y with ⟨y1, ky⟩ | ⟨y1, ky⟩ | ⟨y1, ky⟩ | ⟨y1, ky⟩ <;> rcases kinds' z with ⟨z1, kz⟩ | ⟨z1, kz⟩ | ⟨z1, kz⟩ | ⟨z1, kz⟩ <;>
    first
    | exact rg_none (ring_kd kx ky kz) (by decide) (by decide)
    | (refine rg_no (ring_kd kx ky kz) (by decide) ?_; first
        | exact H_t (by first | exact .inl ‹_› | exact .inr ‹_›) (by first | exact .inl ‹_› | exact .inr ‹_›) (by first | exact .inl ‹_› | exact .inr ‹_›)
        | exact H_b (by first | exact .inl ‹_› | exact .inr ‹_›) (by first | exact .inl ‹_› | exact .inr ‹_›) (by first | exact .inl ‹_› | exact .inr ‹_›))
    | (refine rg_one (ring_kd kx ky kz) (by decide) (by decide) (by decide) ?_; first
        | exact H_n ‹_› ‹_› ‹_›
        | exact H_1 x1 (all3 (.inl rfl) (.inr ‹_›) (.inr ‹_›))
        | exact H_1 y1 (all3 (.inr ‹_›) (.inl rfl) (.inr ‹_›))
        | exact H_1 z1 (all3 (.inr ‹_›) (.inr ‹_›) (.inl rfl)))
    | exact rg_two (ring_kd kx ky kz) (form_3 dx dy x1 y1 z1).1
    | exact rg_two (ring_kd kx ky kz) (form_3 dx dz x1 z1 y1).2.1
    | exact rg_two (ring_kd kx ky kz) (form_3 dy dz y1 z1 x1).2.2
end Mine
end
section
open PySem
set_option maxRecDepth 10000
set_option autoImplicit false
namespace Mine
theorem sc_zero : sc 0 = cp := by funext v w; rfl
theorem fine_ok {f : Int} (hf : f ∈ ([0, 1, 2, 6, 10, 14] : List Int)) {vs : List V} (hv : ∀ v ∈ vs, Dom v) : Fine f vs where
  anti := fun a _ b _ => sc_anti hf a b
  due := fun a ha b hb => due_ok hf (hv a ha) (hv b hb)
  ring := fun e i j k hi hj hk => by
    subst e
    rw [hasR_H3, sc_zero]
    exact ring_ok (hv _ (getD_mem hk)) (hv _ (getD_mem (Nat.lt_trans hj hk))) (hv _ (getD_mem (Nat.lt_trans hi (Nat.lt_trans hj hk))))
  none := fun e i j k _ _ _ => no_ring (lin_sc (by
    simp only [List.mem_cons, List.not_mem_nil, or_false] at hf ⊢
    rcases hf with h | h
    · exact absurd h e
    · exact h)) _ _
theorem plain_ok (vs : List V) (_ : vs.length ≤ 5) (hv : ∀ v ∈ vs, Dom v) : (∀ f ∈ ([0, 2, 6, 10, 14] : List Int), Fine f vs) ∧ Fine 1 (vs.filter fun v => !far v) :=
  ⟨fun f hf => fine_ok ((by decide : ∀ f ∈ ([0, 2, 6, 10, 14] : List Int), f ∈ ([0, 1, 2, 6, 10, 14] : List Int)) f hf) hv, fine_ok (by simp) fun v h => hv v (List.mem_filter.mp h).1⟩
end Mine
end
section
open PySem PySem.W PySem.Calls PySem.Spec PyProof.Rows
set_option maxRecDepth 100000
set_option maxHeartbeats 8000000
namespace Mine
noncomputable def nameOf (st : Stmt) : Str := match st with
  | .FunctionDef n _ _ _ _ _ _ _ _ _ => n
  | _ => default
noncomputable def argsOf (st : Stmt) : List Arg := match st with
  | .FunctionDef _ ⟨_, args, _, _, _, _, _⟩ _ _ _ _ _ _ _ _ => args
  | _ => []
noncomputable def DefB (W : Wd) (name : Str) (args : List Arg) (body : List Stmt) (scope : Scope) : Prop := ∃ f, nsIn W.K mainGlobals name = some (some (.ref f)) ∧ keepIn W.K (.ref f) = true ∧
  ∃ (oc : Value) (od : Option Addr) (osl : Array (Option Value)) (nm qual : Str) (kV doc pm cdv ct : Value) (an : Option Addr),
    W.K.lookup f = some ⟨oc, od, .func (fnOf nm qual ⟨[], args, none, [], [], none, []⟩ body scope .none kV doc pm an cdv ct), osl⟩ ∧ codeIn W.K cdv qual = true
theorem defOf_of {W : Wd} {f : Addr} {oc : Value} {od : Option Addr} {osl : Array (Option Value)} {nm qual : Str} {kV doc pm cdv ct : Value} {an : Option Addr} (st : Stmt) (h : DefOf W st = DefB W (nameOf st) (argsOf st) (bodyOf st) (scopeOf st)) (h1 : nsIn W.K mainGlobals (nameOf st) = some (some (.ref f))) (h2 : keepIn W.K (.ref f) = true)
    (h3 : W.K.lookup f = some ⟨oc, od, .func (fnOf nm qual ⟨[], argsOf st, none, [], [], none, []⟩ (bodyOf st) (scopeOf st) .none kV doc pm an cdv ct), osl⟩) (h4 : codeIn W.K cdv qual = true) : DefOf W st :=
  h ▸ ⟨f, h1, h2, oc, od, osl, nm, qual, kV, doc, pm, cdv, ct, an, h3, h4⟩
theorem j_run {K : Frag} {prog : Program} {w : World} {p : Program} {loose : List Str} {mean : ExcName → Option Value} {mg mb : Str → Option Value} {s₁ : Shared} {a : Addr} {vs : List Value} {ns : List Int} {qual : Str} {cd : Value} {fa : Addr} {h₁ : Heap} {tk : Nat} {m : Str → Option Value}
    (T : Tops ⟨prog, w, K, p, loose, mean, mg, mb, a, vs, ns⟩) (HL : ∃ C P f, LeftC ⟨prog, w, K, p, loose, mean, mg, mb, a, vs, ns⟩ C P f ∧ DefFn ⟨prog, w, K, p, loose, mean, mg, mb, a, vs, ns⟩ f phpInit)
    (KX : K.In s₁.heap) (TT : Top p loose mean mg mb s₁.heap) (K0 : Below callerA s₁.heap [] s₁.heap) (F : Fr s₁.heap s₁.heap.objs.size h₁ m) (hm : m "script" = some (.ref a)) (N0 : News s₁.heap s₁.heap.objs.size h₁ []) (hL : s₁.heap.IsList a vs.toArray) (hI : IntsAre vs ns) (hc : ns.length ≤ 63) :
    wpAny (model prog w) (callerA.deeper (envOf qual (scopeOf (sAt 90)) s₁.heap.objs.size fa cd)) (execs (bodyOf (sAt 90)) (envOf qual (scopeOf (sAt 90)) s₁.heap.objs.size fa cd))
      (fun f s' => f = .ret (.bool true) ∧ (∃ h tk, s' = { s₁ with heap := h, toks := tk }) ∧ ∃ m, Fr s₁.heap s₁.heap.objs.size s'.heap m) (fun _ _ => False) { s₁ with heap := h₁, toks := tk } := by
  obtain ⟨C, P, f, HC, hd⟩ := HL
  have hl := theVals_len ns
  have hv := theVals_dom ns
  have hvals := law_values_ok T hI hc
  obtain ⟨H, H1⟩ := plain_ok (theVals ns) hl hv
  let env := envOf qual (scopeOf (sAt 90)) s₁.heap.objs.size fa cd
  let c : Cx := { dp := (callerA.deeper env).depth, un := (callerA.deeper env).units, gd := (callerA.deeper env).guards, fenv := env, outer := [], A₀ := callerA, base := s₁.heap, h₀ := s₁.heap, L := s₁.heap.objs.size, env := env }
  have hk : (scopeOf (sAt 90)).kind = .function := by kernel_rfl
  have ok : c.Ok ⟨prog, w, K, p, loose, mean, mg, mb, a, vs, ns⟩ 14 := ⟨K0, KX, TT, rfl, hk, hk, rfl, rfl, by show callerA.depth + 1 + 14 < recursionLimit; decide +kernel, by show callerA.units + 3 + 8 * 14 + 8 < cLine; decide +kernel, hL⟩
  have okS : OkS ⟨prog, w, K, p, loose, mean, mg, mb, a, vs, ns⟩ c 14 := ⟨ok, KX, TT, ktsDicts_nil, rfl, rfl, qual, _, fa, cd, rfl, hk⟩
  have at1 : At c [] [] m s₁ { s₁ with heap := h₁, toks := tk } := ⟨⟨h₁, tk, rfl⟩, F, N0, fun p hp => nomatch hp⟩
  have env1 : EnvRd c [] m [("script", .adr a)] := fun p hp => by
    rw [List.mem_singleton.mp hp]
    exact ⟨.ref a, .adr a, (by decide +kernel : NmOk ("script" : Str) = true), .inl ⟨by kernel_rfl, hm⟩⟩
  refine wpAny_mono (law_exS T HC hd hl hv hvals H H1 c [] [] m s₁ _ okS rfl rfl at1 env1) (fun fl s' q => ?_) fun _ _ x => x
  obtain ⟨g, Tn, okg, v, N', m', rfl, _, at2, r⟩ := q
  cases r
  refine ⟨rfl, at2.same, m', at2.fr.ns, fun b o e => at2.fr.keep b o (Tn.other b o e (by simp [Cx.frs, c])), Nat.le_refl _⟩
end Mine
end
section
open PySem PySem.W PySem.Calls PySem.Spec PyProof.Rows
set_option maxRecDepth 100000
set_option maxHeartbeats 8000000
theorem Mine.top.tw10005945817407372193 : True := trivial
theorem Mine.top.tw10006222313960134694 : True := trivial
theorem Mine.top.tw10008474027749305400 : True := trivial
theorem Mine.top.tw10017263926548143515 : True := trivial
theorem Mine.top.tw10079171474624433434 : True := trivial
theorem Mine.top.tw1016984595167383106 : True := trivial
theorem Mine.top.tw10187264123177260123 : True := trivial
theorem Mine.top.tw10187724287525710026 : True := trivial
theorem Mine.top.tw10194810499950245846 : True := trivial
theorem Mine.top.tw10195997230039290492 : True := trivial
theorem Mine.top.tw10296497611174029103 : True := trivial
theorem Mine.top.tw10351904256014021328 : True := trivial
theorem Mine.top.tw10399464001100048223 : True := trivial
theorem Mine.top.tw1040915598704419856 : True := trivial
theorem Mine.top.tw10414433010598505635 : True := trivial
theorem Mine.top.tw104434173382791472 : True := trivial
theorem Mine.top.tw10448899703829047738 : True := trivial
theorem Mine.top.tw10467260515200827399 : True := trivial
theorem Mine.top.tw105208000716104510 : True := trivial
theorem Mine.top.tw10562855833978642645 : True := trivial
theorem Mine.top.tw10567129059001840431 : True := trivial
theorem Mine.top.tw10574840078274726829 : True := trivial
theorem Mine.top.tw10579768621468169598 : True := trivial
theorem Mine.top.tw10600208413532335698 : True := trivial
theorem Mine.top.tw10617020205504526918 : True := trivial
theorem Mine.top.tw10648311167861321448 : True := trivial
theorem Mine.top.tw10657950659306570408 : True := trivial
theorem Mine.top.tw1068965626710143233 : True := trivial
theorem Mine.top.tw10694878333477680388 : True := trivial
theorem Mine.top.tw10751250942693970866 : True := trivial
theorem Mine.top.tw10773188271377071773 : True := trivial
theorem Mine.top.tw10774637447528242797 : True := trivial
theorem Mine.top.tw10783980745131425670 : True := trivial
theorem Mine.top.tw10797620697341660853 : True := trivial
theorem Mine.top.tw10801874191123338550 : True := trivial
theorem Mine.top.tw10864713392326063847 : True := trivial
theorem Mine.top.tw1088946173253831356 : True := trivial
theorem Mine.top.tw10915162052029792233 : True := trivial
theorem Mine.top.tw10936122117785486979 : True := trivial
theorem Mine.top.tw10987319290404115282 : True := trivial
theorem Mine.top.tw10996937224433265937 : True := trivial
theorem Mine.top.tw11053662475850362967 : True := trivial
theorem Mine.top.tw1108800333578037850 : True := trivial
theorem Mine.top.tw11116745826364501430 : True := trivial
theorem Mine.top.tw1112988674713690477 : True := trivial
theorem Mine.top.tw11141966352661209427 : True := trivial
theorem Mine.top.tw11159431927160009238 : True := trivial
theorem Mine.top.tw11173010173815179391 : True := trivial
theorem Mine.top.tw11189890337720088615 : True := trivial
theorem Mine.top.tw11199532085631943738 : True := trivial
theorem Mine.top.tw11199710921928265848 : True := trivial
theorem Mine.top.tw11203750815551599093 : True := trivial
theorem Mine.top.tw1123975283337734383 : True := trivial
theorem Mine.top.tw11240886729373846589 : True := trivial
theorem Mine.top.tw1124271682379634556 : True := trivial
theorem Mine.top.tw11334203419191126389 : True := trivial
theorem Mine.top.tw11334350811105764591 : True := trivial
theorem Mine.top.tw11334415319851112604 : True := trivial
theorem Mine.top.tw11383000496634168614 : True := trivial
theorem Mine.top.tw11423202765487971197 : True := trivial
theorem Mine.top.tw1142415686869020238 : True := trivial
theorem Mine.top.tw11430207588045935325 : True := trivial
theorem Mine.top.tw11457754044182789617 : True := trivial
theorem Mine.top.tw11459358961799972967 : True := trivial
theorem Mine.top.tw11466170419677230873 : True := trivial
theorem Mine.top.tw1147548669246485465 : True := trivial
theorem Mine.top.tw1149218181149386328 : True := trivial
theorem Mine.top.tw11520865232209809239 : True := trivial
theorem Mine.top.tw11542710104232473196 : True := trivial
theorem Mine.top.tw11546936639936008217 : True := trivial
theorem Mine.top.tw11613256710310857696 : True := trivial
theorem Mine.top.tw11760055953109336660 : True := trivial
theorem Mine.top.tw11845233108574324481 : True := trivial
theorem Mine.top.tw11858546649754279707 : True := trivial
theorem Mine.top.tw11922380849998532372 : True := trivial
theorem Mine.top.tw1195175773429642966 : True := trivial
theorem Mine.top.tw11960245374511038805 : True := trivial
theorem Mine.top.tw11982747722937265360 : True := trivial
theorem Mine.top.tw11994683656316670133 : True := trivial
theorem Mine.top.tw12012865196380796599 : True := trivial
theorem Mine.top.tw12080426169559351053 : True := trivial
theorem Mine.top.tw1209819496270969543 : True := trivial
theorem Mine.top.tw12105128591322288922 : True := trivial
theorem Mine.top.tw12117888159696746259 : True := trivial
theorem Mine.top.tw12209182163369298222 : True := trivial
theorem Mine.top.tw12256363837256957063 : True := trivial
theorem Mine.top.tw12317137736924338119 : True := trivial
theorem Mine.top.tw12376051458212225564 : True := trivial
theorem Mine.top.tw12385144161495827662 : True := trivial
theorem Mine.top.tw12392516345856041104 : True := trivial
theorem Mine.top.tw12415523145999629524 : True := trivial
theorem Mine.top.tw12427389293880184781 : True := trivial
theorem Mine.top.tw1245559373397905713 : True := trivial
theorem Mine.top.tw12483720753089274532 : True := trivial
theorem Mine.top.tw12535971307161669396 : True := trivial
theorem Mine.top.tw12540527436937284434 : True := trivial
theorem Mine.top.tw12545222027267286695 : True := trivial
theorem Mine.top.tw12622177474791663080 : True := trivial
theorem Mine.top.tw12638030207367898728 : True := trivial
theorem Mine.top.tw12643491718579748851 : True := trivial
theorem Mine.top.tw12718909917080609646 : True := trivial
theorem Mine.top.tw1275901062530889299 : True := trivial
theorem Mine.top.tw12764151676501842404 : True := trivial
theorem Mine.top.tw12819366960792805191 : True := trivial
theorem Mine.top.tw12904532413392791838 : True := trivial
theorem Mine.top.tw1294077662247117797 : True := trivial
theorem Mine.top.tw12958502747184954254 : True := trivial
theorem Mine.top.tw13001836021917841797 : True := trivial
theorem Mine.top.tw13068111086705522682 : True := trivial
theorem Mine.top.tw13090165191389475591 : True := trivial
theorem Mine.top.tw13091174067606910046 : True := trivial
theorem Mine.top.tw13120753694373217308 : True := trivial
theorem Mine.top.tw13134186033006778460 : True := trivial
theorem Mine.top.tw13160728816969591200 : True := trivial
theorem Mine.top.tw13177472732611162249 : True := trivial
theorem Mine.top.tw13187519465064655849 : True := trivial
theorem Mine.top.tw1321871150748368714 : True := trivial
theorem Mine.top.tw13223034962123697568 : True := trivial
theorem Mine.top.tw13261893007816960818 : True := trivial
theorem Mine.top.tw13264354339760550358 : True := trivial
theorem Mine.top.tw13290321428070320777 : True := trivial
theorem Mine.top.tw13303987763403120937 : True := trivial
theorem Mine.top.tw13305523845174962083 : True := trivial
theorem Mine.top.tw13307591127769906961 : True := trivial
theorem Mine.top.tw13318506193475082254 : True := trivial
theorem Mine.top.tw13326734554550294991 : True := trivial
theorem Mine.top.tw13345470168829271861 : True := trivial
theorem Mine.top.tw13359135706311490777 : True := trivial
theorem Mine.top.tw13369591340354186047 : True := trivial
theorem Mine.top.tw13370185576492129568 : True := trivial
theorem Mine.top.tw13385244156195431271 : True := trivial
theorem Mine.top.tw13420762306968818387 : True := trivial
theorem Mine.top.tw13432635357386499347 : True := trivial
theorem Mine.top.tw13501252493785611398 : True := trivial
theorem Mine.top.tw13549259019975226677 : True := trivial
theorem Mine.top.tw13578796956288294943 : True := trivial
theorem Mine.top.tw13706816188851595723 : True := trivial
theorem Mine.top.tw13710211086531791108 : True := trivial
theorem Mine.top.tw13713866747541496747 : True := trivial
theorem Mine.top.tw13799840507378627052 : True := trivial
theorem Mine.top.tw13802547742096326172 : True := trivial
theorem Mine.top.tw13822267516522204269 : True := trivial
theorem Mine.top.tw13864677062968915208 : True := trivial
theorem Mine.top.tw13889309363888878346 : True := trivial
theorem Mine.top.tw13896958669275611876 : True := trivial
theorem Mine.top.tw13899568491130100285 : True := trivial
theorem Mine.top.tw13928562000808390012 : True := trivial
theorem Mine.top.tw1394568958698188020 : True := trivial
theorem Mine.top.tw13968125046926948103 : True := trivial
theorem Mine.top.tw13975414291046593716 : True := trivial
theorem Mine.top.tw13985988839938425345 : True := trivial
theorem Mine.top.tw13987285891283452908 : True := trivial
theorem Mine.top.tw13994475860397038760 : True := trivial
theorem Mine.top.tw1400011881503588481 : True := trivial
theorem Mine.top.tw14071197739269178328 : True := trivial
theorem Mine.top.tw14142502885225118848 : True := trivial
theorem Mine.top.tw14145802354927516647 : True := trivial
theorem Mine.top.tw14168018189251442112 : True := trivial
theorem Mine.top.tw14263998999751124003 : True := trivial
theorem Mine.top.tw14282377253939248939 : True := trivial
theorem Mine.top.tw14317375437502057738 : True := trivial
theorem Mine.top.tw14349089067433371257 : True := trivial
theorem Mine.top.tw14371913498598963198 : True := trivial
theorem Mine.top.tw14390669486469195807 : True := trivial
theorem Mine.top.tw14399976873020721970 : True := trivial
theorem Mine.top.tw14402358008270493973 : True := trivial
theorem Mine.top.tw14450715343900746980 : True := trivial
theorem Mine.top.tw14453841093610474573 : True := trivial
theorem Mine.top.tw14466935161476858967 : True := trivial
theorem Mine.top.tw14526540143163920134 : True := trivial
theorem Mine.top.tw14537839394382259888 : True := trivial
theorem Mine.top.tw14608685727046917156 : True := trivial
theorem Mine.top.tw14615657086365298920 : True := trivial
theorem Mine.top.tw14632489290957082403 : True := trivial
theorem Mine.top.tw14657780768301432306 : True := trivial
theorem Mine.top.tw14671331368771545958 : True := trivial
theorem Mine.top.tw146815374380898660 : True := trivial
theorem Mine.top.tw14697636140705633519 : True := trivial
theorem Mine.top.tw14724332232928298890 : True := trivial
theorem Mine.top.tw14747140909534839006 : True := trivial
theorem Mine.top.tw14752567680772086068 : True := trivial
theorem Mine.top.tw14771320824794740959 : True := trivial
theorem Mine.top.tw14789260269991461300 : True := trivial
theorem Mine.top.tw14796646475526232899 : True := trivial
theorem Mine.top.tw14823308797102314842 : True := trivial
theorem Mine.top.tw14826035006057030972 : True := trivial
theorem Mine.top.tw1483126911874232274 : True := trivial
theorem Mine.top.tw1486479319815781832 : True := trivial
theorem Mine.top.tw14901070454687303710 : True := trivial
theorem Mine.top.tw14917401599646851644 : True := trivial
theorem Mine.top.tw14983691940233647259 : True := trivial
theorem Mine.top.tw15058813355848621054 : True := trivial
theorem Mine.top.tw15092371282622821202 : True := trivial
theorem Mine.top.tw15095372191486117680 : True := trivial
theorem Mine.top.tw15125931889511115149 : True := trivial
theorem Mine.top.tw1516213087968936877 : True := trivial
theorem Mine.top.tw15169761463676818070 : True := trivial
theorem Mine.top.tw15177526630643400193 : True := trivial
theorem Mine.top.tw15198513454224444475 : True := trivial
theorem Mine.top.tw15212760480394562756 : True := trivial
theorem Mine.top.tw1522322319653140107 : True := trivial
theorem Mine.top.tw15240379268576122478 : True := trivial
theorem Mine.top.tw15245507539482535896 : True := trivial
theorem Mine.top.tw15254643099363442306 : True := trivial
theorem Mine.top.tw15286249088069653756 : True := trivial
theorem Mine.top.tw15299407806266782574 : True := trivial
theorem Mine.top.tw15349318334595610263 : True := trivial
theorem Mine.top.tw15361541807878343388 : True := trivial
theorem Mine.top.tw15362295582089109014 : True := trivial
theorem Mine.top.tw15503665604740900718 : True := trivial
theorem Mine.top.tw15525995667512963556 : True := trivial
theorem Mine.top.tw15542334942015070624 : True := trivial
theorem Mine.top.tw15569959144833144457 : True := trivial
theorem Mine.top.tw15638586536077026902 : True := trivial
theorem Mine.top.tw15646934709686841381 : True := trivial
theorem Mine.top.tw15740088241188596515 : True := trivial
theorem Mine.top.tw15744752440731449612 : True := trivial
theorem Mine.top.tw15786856763048480637 : True := trivial
theorem Mine.top.tw1584292188352093569 : True := trivial
theorem Mine.top.tw1585457916280141200 : True := trivial
theorem Mine.top.tw15860264024139754761 : True := trivial
theorem Mine.top.tw15878805988109762761 : True := trivial
theorem Mine.top.tw15910696728931680470 : True := trivial
theorem Mine.top.tw15911569825323301435 : True := trivial
theorem Mine.top.tw15976228082101565994 : True := trivial
theorem Mine.top.tw16004416686337608138 : True := trivial
theorem Mine.top.tw1601500998369573665 : True := trivial
theorem Mine.top.tw16034636559557993077 : True := trivial
theorem Mine.top.tw16044733080236030384 : True := trivial
theorem Mine.top.tw16054190913257422852 : True := trivial
theorem Mine.top.tw16058212318047004132 : True := trivial
theorem Mine.top.tw16068562728529669930 : True := trivial
theorem Mine.top.tw16104615914030681952 : True := trivial
theorem Mine.top.tw16123964013534891561 : True := trivial
theorem Mine.top.tw16155163154822807229 : True := trivial
theorem Mine.top.tw1617357707322924660 : True := trivial
theorem Mine.top.tw16174758807025615021 : True := trivial
theorem Mine.top.tw16204670001084760307 : True := trivial
theorem Mine.top.tw16352630495959832749 : True := trivial
theorem Mine.top.tw1638113669730673903 : True := trivial
theorem Mine.top.tw16415559393655328363 : True := trivial
theorem Mine.top.tw16420938139371093754 : True := trivial
theorem Mine.top.tw16439428074185983240 : True := trivial
theorem Mine.top.tw16453443671601555132 : True := trivial
theorem Mine.top.tw16541100652227675460 : True := trivial
theorem Mine.top.tw16550210197400561554 : True := trivial
theorem Mine.top.tw16580785732701462914 : True := trivial
theorem Mine.top.tw16597617366809209970 : True := trivial
theorem Mine.top.tw16713831800681072344 : True := trivial
theorem Mine.top.tw16719718919923625709 : True := trivial
theorem Mine.top.tw16734371015571099844 : True := trivial
theorem Mine.top.tw16736118626332596326 : True := trivial
theorem Mine.top.tw16759092144687519636 : True := trivial
theorem Mine.top.tw16795567611416646642 : True := trivial
theorem Mine.top.tw16800595933775061595 : True := trivial
theorem Mine.top.tw16866024460163772082 : True := trivial
theorem Mine.top.tw16878204669230926818 : True := trivial
theorem Mine.top.tw16885616592811714743 : True := trivial
theorem Mine.top.tw16900427199656544559 : True := trivial
theorem Mine.top.tw1697544655201012999 : True := trivial
theorem Mine.top.tw17022078359063049780 : True := trivial
theorem Mine.top.tw17030962893124633753 : True := trivial
theorem Mine.top.tw17046948494117081484 : True := trivial
theorem Mine.top.tw17050326753033342646 : True := trivial
theorem Mine.top.tw1706793611546318481 : True := trivial
theorem Mine.top.tw17085176360113175178 : True := trivial
theorem Mine.top.tw17089494485692210459 : True := trivial
theorem Mine.top.tw17103177528636943170 : True := trivial
theorem Mine.top.tw17103585973383926153 : True := trivial
theorem Mine.top.tw17176029603704830031 : True := trivial
theorem Mine.top.tw17219337458794519322 : True := trivial
theorem Mine.top.tw1732150942055357024 : True := trivial
theorem Mine.top.tw17342085116792181814 : True := trivial
theorem Mine.top.tw17346259052997144950 : True := trivial
theorem Mine.top.tw17355269125676882429 : True := trivial
theorem Mine.top.tw1736530178072539846 : True := trivial
theorem Mine.top.tw17408102787539135390 : True := trivial
theorem Mine.top.tw17469865338272021226 : True := trivial
theorem Mine.top.tw17470836177267949868 : True := trivial
theorem Mine.top.tw17474498911051797155 : True := trivial
theorem Mine.top.tw17492772389151264855 : True := trivial
theorem Mine.top.tw17510129488543315350 : True := trivial
theorem Mine.top.tw17542608870123051758 : True := trivial
theorem Mine.top.tw1754339480302792767 : True := trivial
theorem Mine.top.tw17545328352263074274 : True := trivial
theorem Mine.top.tw17555251805378815213 : True := trivial
theorem Mine.top.tw17565814175750979855 : True := trivial
theorem Mine.top.tw17582957951858275007 : True := trivial
theorem Mine.top.tw17594962761535629368 : True := trivial
theorem Mine.top.tw17620759639134147866 : True := trivial
theorem Mine.top.tw17699833187948243897 : True := trivial
theorem Mine.top.tw17781115878593249900 : True := trivial
theorem Mine.top.tw17788931634197215145 : True := trivial
theorem Mine.top.tw17810072253543177317 : True := trivial
theorem Mine.top.tw17828378304095215089 : True := trivial
theorem Mine.top.tw17886615442053742456 : True := trivial
theorem Mine.top.tw17953984050398360512 : True := trivial
theorem Mine.top.tw17981982808018919739 : True := trivial
theorem Mine.top.tw18008055252877512497 : True := trivial
theorem Mine.top.tw1803303928475200142 : True := trivial
theorem Mine.top.tw18034075008235765660 : True := trivial
theorem Mine.top.tw18064794426631996164 : True := trivial
theorem Mine.top.tw18085771088847121727 : True := trivial
theorem Mine.top.tw18086089286151905521 : True := trivial
theorem Mine.top.tw1814787853859245837 : True := trivial
theorem Mine.top.tw18164388396756303480 : True := trivial
theorem Mine.top.tw18177719399980262173 : True := trivial
theorem Mine.top.tw18185382058313985135 : True := trivial
theorem Mine.top.tw18186074749648716422 : True := trivial
theorem Mine.top.tw18206542973934582827 : True := trivial
theorem Mine.top.tw18237780215024852062 : True := trivial
theorem Mine.top.tw18245740138792012028 : True := trivial
theorem Mine.top.tw18271591837696325433 : True := trivial
theorem Mine.top.tw18371284783138465269 : True := trivial
theorem Mine.top.tw18374746225686918389 : True := trivial
theorem Mine.top.tw18393568696543742050 : True := trivial
theorem Mine.top.tw1843344800811705456 : True := trivial
theorem Mine.top.tw1869187583165140508 : True := trivial
theorem Mine.top.tw1886144042066472794 : True := trivial
theorem Mine.top.tw196536941598035525 : True := trivial
theorem Mine.top.tw1971433849790844608 : True := trivial
theorem Mine.top.tw1988063486488863061 : True := trivial
theorem Mine.top.tw2007660962349395123 : True := trivial
theorem Mine.top.tw2103985501979894447 : True := trivial
theorem Mine.top.tw2126296398998916975 : True := trivial
theorem Mine.top.tw2145171640123136144 : True := trivial
theorem Mine.top.tw2220570432770164149 : True := trivial
theorem Mine.top.tw2267912224990424062 : True := trivial
theorem Mine.top.tw2312856594315299383 : True := trivial
theorem Mine.top.tw2365566498512967660 : True := trivial
theorem Mine.top.tw2369445192022557226 : True := trivial
theorem Mine.top.tw2377541652452675900 : True := trivial
theorem Mine.top.tw2405475915293451298 : True := trivial
theorem Mine.top.tw243287103678006315 : True := trivial
theorem Mine.top.tw2446451932059125521 : True := trivial
theorem Mine.top.tw2464713573024523455 : True := trivial
theorem Mine.top.tw2506305409684761478 : True := trivial
theorem Mine.top.tw2514443458684651071 : True := trivial
theorem Mine.top.tw2544169868661182894 : True := trivial
theorem Mine.top.tw2555065506035805374 : True := trivial
theorem Mine.top.tw2581206410525282061 : True := trivial
theorem Mine.top.tw2596539476470345881 : True := trivial
theorem Mine.top.tw2601905985415302144 : True := trivial
theorem Mine.top.tw2617181576586992344 : True := trivial
theorem Mine.top.tw2617719716777270872 : True := trivial
theorem Mine.top.tw2665807947273092163 : True := trivial
theorem Mine.top.tw2683898200743741643 : True := trivial
theorem Mine.top.tw2686433634493928565 : True := trivial
theorem Mine.top.tw2722852734226103192 : True := trivial
theorem Mine.top.tw2727672472851901052 : True := trivial
theorem Mine.top.tw2731995056826638727 : True := trivial
theorem Mine.top.tw2732273902793177162 : True := trivial
theorem Mine.top.tw2741389259953327712 : True := trivial
theorem Mine.top.tw2758071753971750899 : True := trivial
theorem Mine.top.tw2770239361232196585 : True := trivial
theorem Mine.top.tw2770563814800254177 : True := trivial
theorem Mine.top.tw2809488002615124206 : True := trivial
theorem Mine.top.tw2812155379371279736 : True := trivial
theorem Mine.top.tw2822501910515967889 : True := trivial
theorem Mine.top.tw2834572992086024273 : True := trivial
theorem Mine.top.tw2835187731363253809 : True := trivial
theorem Mine.top.tw2847958352784047137 : True := trivial
theorem Mine.top.tw2878843996050045342 : True := trivial
theorem Mine.top.tw2907113945770861938 : True := trivial
theorem Mine.top.tw2924597203103170677 : True := trivial
theorem Mine.top.tw2926424126403749041 : True := trivial
theorem Mine.top.tw2972514686349903234 : True := trivial
theorem Mine.top.tw297971269722091814 : True := trivial
theorem Mine.top.tw2985252069258134486 : True := trivial
theorem Mine.top.tw2988451766255067171 : True := trivial
theorem Mine.top.tw3002795768020413707 : True := trivial
theorem Mine.top.tw3120133295221510679 : True := trivial
theorem Mine.top.tw3195968871104189447 : True := trivial
theorem Mine.top.tw3217022616335106338 : True := trivial
theorem Mine.top.tw3261557481417251176 : True := trivial
theorem Mine.top.tw3331421620988305804 : True := trivial
theorem Mine.top.tw3337584539547039419 : True := trivial
theorem Mine.top.tw3378803678994701225 : True := trivial
theorem Mine.top.tw339143206060000330 : True := trivial
theorem Mine.top.tw3422688185749166683 : True := trivial
theorem Mine.top.tw3474246075231452896 : True := trivial
theorem Mine.top.tw3479634599624807885 : True := trivial
theorem Mine.top.tw3484022092364678248 : True := trivial
theorem Mine.top.tw3486219094355674750 : True := trivial
theorem Mine.top.tw350670483859837877 : True := trivial
theorem Mine.top.tw352232786441526191 : True := trivial
theorem Mine.top.tw3561193834555079511 : True := trivial
theorem Mine.top.tw3584897518013459382 : True := trivial
theorem Mine.top.tw3664424711883983056 : True := trivial
theorem Mine.top.tw3669314199184481253 : True := trivial
theorem Mine.top.tw3696473221133414273 : True := trivial
theorem Mine.top.tw370947364307004932 : True := trivial
theorem Mine.top.tw3712731000106771831 : True := trivial
theorem Mine.top.tw3730354652608582461 : True := trivial
theorem Mine.top.tw3739144386018749749 : True := trivial
theorem Mine.top.tw3767615275625035234 : True := trivial
theorem Mine.top.tw3776753064480771068 : True := trivial
theorem Mine.top.tw381845443943030031 : True := trivial
theorem Mine.top.tw3820434133910038737 : True := trivial
theorem Mine.top.tw3855276242980373810 : True := trivial
theorem Mine.top.tw3871027444623705763 : True := trivial
theorem Mine.top.tw3874152929960365753 : True := trivial
theorem Mine.top.tw3909029901177050473 : True := trivial
theorem Mine.top.tw390997316461189296 : True := trivial
theorem Mine.top.tw3969286963782609292 : True := trivial
theorem Mine.top.tw3995942328266245912 : True := trivial
theorem Mine.top.tw4010397242664982755 : True := trivial
theorem Mine.top.tw401921906979044612 : True := trivial
theorem Mine.top.tw4058662728301269685 : True := trivial
theorem Mine.top.tw4076138812419527698 : True := trivial
theorem Mine.top.tw411662067469150650 : True := trivial
theorem Mine.top.tw4134505453457115739 : True := trivial
theorem Mine.top.tw4159251561096739476 : True := trivial
theorem Mine.top.tw4166218997396506358 : True := trivial
theorem Mine.top.tw4177254973167742082 : True := trivial
theorem Mine.top.tw4186445540838780016 : True := trivial
theorem Mine.top.tw4205137553216949640 : True := trivial
theorem Mine.top.tw4213018616267185653 : True := trivial
theorem Mine.top.tw4233920242663672121 : True := trivial
theorem Mine.top.tw427269002284569659 : True := trivial
theorem Mine.top.tw427420600052151026 : True := trivial
theorem Mine.top.tw4299629679881509495 : True := trivial
theorem Mine.top.tw4321519831107876412 : True := trivial
theorem Mine.top.tw4331257952254489624 : True := trivial
theorem Mine.top.tw4347014868162816628 : True := trivial
theorem Mine.top.tw4468942710605802240 : True := trivial
theorem Mine.top.tw4498253355057717688 : True := trivial
theorem Mine.top.tw4526881389914513428 : True := trivial
theorem Mine.top.tw453181688931711583 : True := trivial
theorem Mine.top.tw4547018644641229820 : True := trivial
theorem Mine.top.tw4551080515912023512 : True := trivial
theorem Mine.top.tw4555866861457887817 : True := trivial
theorem Mine.top.tw4571971715460732019 : True := trivial
theorem Mine.top.tw4597200072644226624 : True := trivial
theorem Mine.top.tw4655869559712951663 : True := trivial
theorem Mine.top.tw4656485037274611717 : True := trivial
theorem Mine.top.tw4671429814451907529 : True := trivial
theorem Mine.top.tw4695670854781333657 : True := trivial
theorem Mine.top.tw4699463449715708850 : True := trivial
theorem Mine.top.tw47109162367338493 : True := trivial
theorem Mine.top.tw4713442408853163898 : True := trivial
theorem Mine.top.tw4773702212245658779 : True := trivial
theorem Mine.top.tw4784893810139332661 : True := trivial
theorem Mine.top.tw4796303294375832693 : True := trivial
theorem Mine.top.tw4807692442873511580 : True := trivial
theorem Mine.top.tw4828031223510198475 : True := trivial
theorem Mine.top.tw4835499133494076262 : True := trivial
theorem Mine.top.tw4840481374290595910 : True := trivial
theorem Mine.top.tw4859757453598101857 : True := trivial
theorem Mine.top.tw4899455088041399469 : True := trivial
theorem Mine.top.tw4916261283513009128 : True := trivial
theorem Mine.top.tw4940147422707163885 : True := trivial
theorem Mine.top.tw4951766788466123468 : True := trivial
theorem Mine.top.tw501154541418245514 : True := trivial
theorem Mine.top.tw5058314954733539658 : True := trivial
theorem Mine.top.tw5088376156974544275 : True := trivial
theorem Mine.top.tw5105846836358774362 : True := trivial
theorem Mine.top.tw5155950481276406077 : True := trivial
theorem Mine.top.tw517144808224063464 : True := trivial
theorem Mine.top.tw5176459694589498394 : True := trivial
theorem Mine.top.tw5225153198818245361 : True := trivial
theorem Mine.top.tw5225916559131626549 : True := trivial
theorem Mine.top.tw5240762971458559404 : True := trivial
theorem Mine.top.tw5245862010334584759 : True := trivial
theorem Mine.top.tw5278709424875269971 : True := trivial
theorem Mine.top.tw5286028615141859032 : True := trivial
theorem Mine.top.tw5303079699428457377 : True := trivial
theorem Mine.top.tw53344730913325255 : True := trivial
theorem Mine.top.tw5339200472997735827 : True := trivial
theorem Mine.top.tw5398424786039705171 : True := trivial
theorem Mine.top.tw5458244493445947930 : True := trivial
theorem Mine.top.tw5476889619067714990 : True := trivial
theorem Mine.top.tw5507162329139097715 : True := trivial
theorem Mine.top.tw5523086135645875356 : True := trivial
theorem Mine.top.tw5552270689369575618 : True := trivial
theorem Mine.top.tw5581607755468803823 : True := trivial
theorem Mine.top.tw5596365628329696591 : True := trivial
theorem Mine.top.tw5597187220613765494 : True := trivial
theorem Mine.top.tw5609151216138764652 : True := trivial
theorem Mine.top.tw5648408011753718230 : True := trivial
theorem Mine.top.tw5667650583090716360 : True := trivial
theorem Mine.top.tw5702910450625016506 : True := trivial
theorem Mine.top.tw5728218623943512802 : True := trivial
theorem Mine.top.tw575894324575664597 : True := trivial
theorem Mine.top.tw5766051744304087583 : True := trivial
theorem Mine.top.tw5839659824258004927 : True := trivial
theorem Mine.top.tw5860347150701562758 : True := trivial
theorem Mine.top.tw5868845118606482295 : True := trivial
theorem Mine.top.tw5889316905344633881 : True := trivial
theorem Mine.top.tw5938664839603501006 : True := trivial
theorem Mine.top.tw594810645892935528 : True := trivial
theorem Mine.top.tw5969682004907312646 : True := trivial
theorem Mine.top.tw5983031951866500094 : True := trivial
theorem Mine.top.tw602653604445443664 : True := trivial
theorem Mine.top.tw6042063481754889096 : True := trivial
theorem Mine.top.tw6124053682588569230 : True := trivial
theorem Mine.top.tw6176384092110617959 : True := trivial
theorem Mine.top.tw6187478851450931391 : True := trivial
theorem Mine.top.tw6189502492464219833 : True := trivial
theorem Mine.top.tw6196800358849779857 : True := trivial
theorem Mine.top.tw620129878449983639 : True := trivial
theorem Mine.top.tw6203543418390704334 : True := trivial
theorem Mine.top.tw6240723676877644813 : True := trivial
theorem Mine.top.tw6265701101103706036 : True := trivial
theorem Mine.top.tw6286779285267259847 : True := trivial
theorem Mine.top.tw6333448901615975916 : True := trivial
theorem Mine.top.tw6381231289166406305 : True := trivial
theorem Mine.top.tw6383614241601562808 : True := trivial
theorem Mine.top.tw640038096231849403 : True := trivial
theorem Mine.top.tw6430265229019958763 : True := trivial
theorem Mine.top.tw6431110157172167083 : True := trivial
theorem Mine.top.tw6438537300738474071 : True := trivial
theorem Mine.top.tw6487610083215253720 : True := trivial
theorem Mine.top.tw6491118196486620199 : True := trivial
theorem Mine.top.tw6495677840255480795 : True := trivial
theorem Mine.top.tw649594095290182367 : True := trivial
theorem Mine.top.tw6503730183909636620 : True := trivial
theorem Mine.top.tw6505410396798821541 : True := trivial
theorem Mine.top.tw6520327441239513222 : True := trivial
theorem Mine.top.tw661290744650703789 : True := trivial
theorem Mine.top.tw6624316729101989866 : True := trivial
theorem Mine.top.tw6662652255960138227 : True := trivial
theorem Mine.top.tw6664487174759623829 : True := trivial
theorem Mine.top.tw6674990990233134667 : True := trivial
theorem Mine.top.tw668136137496459709 : True := trivial
theorem Mine.top.tw6694047246710070196 : True := trivial
theorem Mine.top.tw6749217079512962374 : True := trivial
theorem Mine.top.tw6786057226368545225 : True := trivial
theorem Mine.top.tw681777741448182936 : True := trivial
theorem Mine.top.tw6825471577546526143 : True := trivial
theorem Mine.top.tw6859976401760118174 : True := trivial
theorem Mine.top.tw6885214360128481674 : True := trivial
theorem Mine.top.tw6893477703608230032 : True := trivial
theorem Mine.top.tw6898770573198911631 : True := trivial
theorem Mine.top.tw6906291655842520137 : True := trivial
theorem Mine.top.tw6908635100366463001 : True := trivial
theorem Mine.top.tw6973401727384321114 : True := trivial
theorem Mine.top.tw7008692893051332821 : True := trivial
theorem Mine.top.tw7033079012710635876 : True := trivial
theorem Mine.top.tw705360758644809490 : True := trivial
theorem Mine.top.tw7059692629156357883 : True := trivial
theorem Mine.top.tw708234853630380328 : True := trivial
theorem Mine.top.tw7092665756404751892 : True := trivial
theorem Mine.top.tw7160873610591055699 : True := trivial
theorem Mine.top.tw7198060816514059695 : True := trivial
theorem Mine.top.tw7204493036743257322 : True := trivial
theorem Mine.top.tw7204998973626084599 : True := trivial
theorem Mine.top.tw7213333562754528385 : True := trivial
theorem Mine.top.tw72247145696351765 : True := trivial
theorem Mine.top.tw7250933059871147345 : True := trivial
theorem Mine.top.tw7273676953221729872 : True := trivial
theorem Mine.top.tw728428047077509346 : True := trivial
theorem Mine.top.tw7297446738713254254 : True := trivial
theorem Mine.top.tw7313339093194340965 : True := trivial
theorem Mine.top.tw7325726471975496349 : True := trivial
theorem Mine.top.tw7381879191629600215 : True := trivial
theorem Mine.top.tw7386116660499605909 : True := trivial
theorem Mine.top.tw7414872774492366064 : True := trivial
theorem Mine.top.tw7444641836354208208 : True := trivial
theorem Mine.top.tw7458633546980236471 : True := trivial
theorem Mine.top.tw7527032243904285869 : True := trivial
theorem Mine.top.tw7587601194962177611 : True := trivial
theorem Mine.top.tw7600245330811189008 : True := trivial
theorem Mine.top.tw76412952228603488 : True := trivial
theorem Mine.top.tw7657828476027519975 : True := trivial
theorem Mine.top.tw7671549972530922468 : True := trivial
theorem Mine.top.tw7673058066778466091 : True := trivial
theorem Mine.top.tw7681529838311687354 : True := trivial
theorem Mine.top.tw7715697345341360870 : True := trivial
theorem Mine.top.tw7717162694582976202 : True := trivial
theorem Mine.top.tw7743179893348639699 : True := trivial
theorem Mine.top.tw775762912060472103 : True := trivial
theorem Mine.top.tw7830913209206220567 : True := trivial
theorem Mine.top.tw7845129631348957993 : True := trivial
theorem Mine.top.tw7855079511596107753 : True := trivial
theorem Mine.top.tw788273225186049534 : True := trivial
theorem Mine.top.tw7913636548009798097 : True := trivial
theorem Mine.top.tw795583310449317561 : True := trivial
theorem Mine.top.tw7990429038631628895 : True := trivial
theorem Mine.top.tw8039609811713739683 : True := trivial
theorem Mine.top.tw8054331753737935190 : True := trivial
theorem Mine.top.tw8107780213005350392 : True := trivial
theorem Mine.top.tw8139039716903228087 : True := trivial
theorem Mine.top.tw814325599930780420 : True := trivial
theorem Mine.top.tw8143265674769528471 : True := trivial
theorem Mine.top.tw8146399340996573465 : True := trivial
theorem Mine.top.tw81815255157605957 : True := trivial
theorem Mine.top.tw8184561461823581802 : True := trivial
theorem Mine.top.tw8212240652046128837 : True := trivial
theorem Mine.top.tw8237333600419904120 : True := trivial
theorem Mine.top.tw8265191368974092141 : True := trivial
theorem Mine.top.tw8265311939077410998 : True := trivial
theorem Mine.top.tw8281120267493503204 : True := trivial
theorem Mine.top.tw8297286125493194097 : True := trivial
theorem Mine.top.tw8311017846404947139 : True := trivial
theorem Mine.top.tw8321918168302905379 : True := trivial
theorem Mine.top.tw8327351992414209593 : True := trivial
theorem Mine.top.tw83393220934416808 : True := trivial
theorem Mine.top.tw8345894832289464959 : True := trivial
theorem Mine.top.tw8363718466572441477 : True := trivial
theorem Mine.top.tw8369368087495890639 : True := trivial
theorem Mine.top.tw8410488445778877200 : True := trivial
theorem Mine.top.tw84136930442132756 : True := trivial
theorem Mine.top.tw8420165910927482534 : True := trivial
theorem Mine.top.tw8435561252592420358 : True := trivial
theorem Mine.top.tw8507776931139520737 : True := trivial
theorem Mine.top.tw8523463495250067690 : True := trivial
theorem Mine.top.tw8531415777343470585 : True := trivial
theorem Mine.top.tw8538268897159353584 : True := trivial
theorem Mine.top.tw8560541052185303311 : True := trivial
theorem Mine.top.tw860223938195835975 : True := trivial
theorem Mine.top.tw8622502720953521162 : True := trivial
theorem Mine.top.tw8637452081102412489 : True := trivial
theorem Mine.top.tw8640399195822439974 : True := trivial
theorem Mine.top.tw8645369167282567922 : True := trivial
theorem Mine.top.tw864819663365544661 : True := trivial
theorem Mine.top.tw8657480035899644758 : True := trivial
theorem Mine.top.tw8679839319945467846 : True := trivial
theorem Mine.top.tw8693662901424576113 : True := trivial
theorem Mine.top.tw8694864300669457046 : True := trivial
theorem Mine.top.tw8729362747519067210 : True := trivial
theorem Mine.top.tw8735323631387419056 : True := trivial
theorem Mine.top.tw877433047237710547 : True := trivial
theorem Mine.top.tw8810280945414196856 : True := trivial
theorem Mine.top.tw8813761850579938390 : True := trivial
theorem Mine.top.tw8823455108540655025 : True := trivial
theorem Mine.top.tw8874702517807110003 : True := trivial
theorem Mine.top.tw887695700811335699 : True := trivial
theorem Mine.top.tw8892184565913893157 : True := trivial
theorem Mine.top.tw8968299171318014206 : True := trivial
theorem Mine.top.tw8973803690348224638 : True := trivial
theorem Mine.top.tw8999917154711486175 : True := trivial
theorem Mine.top.tw9059672392935016618 : True := trivial
theorem Mine.top.tw9059832203979395877 : True := trivial
theorem Mine.top.tw9063741608606530840 : True := trivial
theorem Mine.top.tw908825868028484722 : True := trivial
theorem Mine.top.tw9108098604805947806 : True := trivial
theorem Mine.top.tw9152664641465651067 : True := trivial
theorem Mine.top.tw9165953624949470791 : True := trivial
theorem Mine.top.tw9166809390415177425 : True := trivial
theorem Mine.top.tw9178861053002065721 : True := trivial
theorem Mine.top.tw9195894827357321740 : True := trivial
theorem Mine.top.tw9227057690007400460 : True := trivial
theorem Mine.top.tw9227541089923242437 : True := trivial
theorem Mine.top.tw9229161468869434483 : True := trivial
theorem Mine.top.tw9233715247699887402 : True := trivial
theorem Mine.top.tw9259421805112917234 : True := trivial
theorem Mine.top.tw9272544492142499777 : True := trivial
theorem Mine.top.tw9305691244287143441 : True := trivial
theorem Mine.top.tw9361663168868926718 : True := trivial
theorem Mine.top.tw9366391650621772374 : True := trivial
theorem Mine.top.tw9378254376102152143 : True := trivial
theorem Mine.top.tw9382581127745807760 : True := trivial
theorem Mine.top.tw9442318146202087700 : True := trivial
theorem Mine.top.tw9503340733035011235 : True := trivial
theorem Mine.top.tw953821971998124167 : True := trivial
theorem Mine.top.tw956089473029861405 : True := trivial
theorem Mine.top.tw956942650209027819 : True := trivial
theorem Mine.top.tw9589608677651300831 : True := trivial
theorem Mine.top.tw9590735534726013551 : True := trivial
theorem Mine.top.tw9601329371697537090 : True := trivial
theorem Mine.top.tw9614876229902214918 : True := trivial
theorem Mine.top.tw9631074621892390191 : True := trivial
theorem Mine.top.tw9666326922614434849 : True := trivial
theorem Mine.top.tw9673933992889287130 : True := trivial
theorem Mine.top.tw9743097575036673082 : True := trivial
theorem Mine.top.tw9759319705405543751 : True := trivial
theorem Mine.top.tw9800703332001039478 : True := trivial
theorem Mine.top.tw9843949296442739443 : True := trivial
theorem Mine.top.tw9851269098105209369 : True := trivial
theorem Mine.top.tw987869383939708018 : True := trivial
theorem Mine.top.tw9919435345466941130 : True := trivial
theorem Mine.top.tw9951221954081769418 : True := trivial
theorem Mine.top.tw9953747333497923681 : True := trivial
theorem Mine.top.tw9961057766049560675 : True := trivial
theorem Mine.top.tw9962302188120564619 : True := trivial
namespace Mine
set_option Elab.async true in
theorem top : PySem.Challenge.rw_pq0831_01.Holds := by
  w_on
  o_law
  k_head
  case hw => w_witness2
  k_go0
  rename_i ns hs0 hlay0 hLa hra hl2 w4 w3 a vs w0 hL ra w1 r0 hI hr hc1 hc2 K0 hD h1 F N0
  rename Frag.In _ _ => KX
  rename Top _ _ _ _ _ _ => TT
  rename World => w
  rename _ = #[] => hg
  refine wpAny_mono (j_run ?tops ?left KX TT K0 F rfl N0 hL hI (by omega)) (fun f s' q => ?aft) fun _ _ x => ?exc
  case exc => exact x.elim
  case aft =>
    obtain ⟨rfl, ⟨h, tk, rfl⟩, m, F2⟩ := q
    exact goodW_bool F2 hg (fun _ => rfl) (by first | rfl | kernel_rfl | (simp [PySem.Challenge.rw_pq0831_01]; done)) rfl
  case tops =>
    refine ⟨?p1, ?p2, ?p3, ?p4⟩
    case p1 =>
      intro x hx
      repeat' (first | (rcases List.mem_cons.mp hx with rfl | hx) | (cases hx; done))
      all_goals exact defOf_of _ rfl rfl rfl rfl rfl
    case p2 =>
      intro x hx
      repeat' (first | (rcases List.mem_cons.mp hx with rfl | hx) | (cases hx; done))
      all_goals rfl
    case p3 =>
      refine ⟨_, rfl, fun t ht => ?_⟩
      repeat' (first | (rcases List.mem_cons.mp ht with rfl | ht) | (cases ht; done))
      all_goals rfl
    case p4 =>
      intro t ht
      repeat' (first | (rcases List.mem_cons.mp ht with rfl | ht) | (cases ht; done))
      all_goals exact ⟨by kernel_rfl, by kernel_rfl, by kernel_rfl⟩
  case left =>
    refine ⟨_, _, _, ⟨rfl, ⟨_, _, _, _, _, _, _, _, _, _, _, _, _, _, rfl⟩, rfl, rfl, rfl, rfl, rfl, rfl, rfl, rfl, rfl⟩, ?_⟩
    exact ⟨_, _, _, _, _, _, _, _, _, _, _, rfl, rfl⟩
end Mine
end
theorem PySem.Challenge.cw_pq0831_01_holds : PySem.Challenge.rw_pq0831_01.Holds :=
  Mine.top
