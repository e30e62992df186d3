/- The plain laws of the lexer and of tokens, gathered. -/
import Derived.Test.YtefeelcjokdchaaDoorZK
import Derived.Test.YtefeelcjokdchaaDoorZT
import Derived.Lib.ParseIntBCases
set_option linter.unusedSimpArgs false
set_option linter.unusedVariables false
/- Plain lemmas: loops as inductions, numbers that don't wrap, places in lists. -/
set_option linter.unusedSectionVars false
namespace Go.Cn

abbrev noG : Glob := ⟨fun _ => True, fun _ _ _ _ => trivial⟩
/-- A loop that goes down comes to what it keeps. -/
theorem iter_ind {σ ω : Type} {f : σ → Option (σ ⊕ ω)} (I : σ → Prop) (Q : ω → Prop) (m : σ → Nat)
    (h : ∀ s, I s → (∃ s', f s = some (.inl s') ∧ I s' ∧ m s' < m s) ∨ (∃ o, f s = some (.inr o) ∧ Q o)) : ∀ s, I s → ∃ o, iter f s = some o ∧ Q o := by
  have key : ∀ n s, m s ≤ n → I s → ∃ o, iter f s = some o ∧ Q o := by
    intro n
    induction n with
    | zero =>
      intro s hm hs
      rcases h s hs with ⟨s', _, _, h3⟩ | ⟨o, h1, h2⟩
      · omega
      · exact ⟨o, @iter_done noG _ _ _ _ _ h1, h2⟩
    | succ n ih =>
      intro s hm hs
      rcases h s hs with ⟨s', h1, h2, h3⟩ | ⟨o, h1, h2⟩
      · obtain ⟨o, h4, h5⟩ := ih s' (by omega) h2
        exact ⟨o, by rw [@iter_next noG _ _ _ _ _ h1]; exact h4, h5⟩
      · exact ⟨o, @iter_done noG _ _ _ _ _ h1, h2⟩
  exact fun s hs => key (m s) s (Nat.le_refl _) hs

theorem w64_id {n : Int} (h1 : -9223372036854775808 ≤ n) (h2 : n ≤ 9223372036854775807) : w64 n = n := by
  unfold w64 IntKind.wrap
  have e1 : (2 : Int) ^ (IntKind.i64.bits) = 18446744073709551616 := rfl
  have e2 : (2 : Int) ^ (IntKind.i64.bits - 1) = 9223372036854775808 := rfl
  have e3 : IntKind.i64.signed = true := rfl
  simp only [e1, e2, e3, Bool.true_and, decide_eq_true_eq]
  split <;> omega

theorem idxS_nat {l : List UInt8} {i : Nat} (h : i < l.length) : idxS l i = some (l[i].toNat : Int) := by
  unfold idxS
  simp [h]
theorem idx_nat {α : Type} {l : List α} {i : Nat} (h : i < l.length) : idx l i = some l[i] := by
  unfold idx
  simp [h]
theorem sub_nat {l : List UInt8} {i j : Nat} (h : i ≤ j) (h2 : j ≤ l.length) : sub l i j = some ((l.take j).drop i) := by
  unfold sub
  simp [h, h2]
end Go.Cn

/- The lexer in plain Lean: letters, digits, runs. -/
set_option linter.unusedSectionVars false
namespace Go.Proofs.YtefeelcjokdchaaDoor
open Go Go.Cn

def isLetter (c : Nat) : Bool := (97 ≤ c && c ≤ 122) || (65 ≤ c && c ≤ 90) || c == 95
def isDigit (c : Nat) : Bool := 48 ≤ c && c ≤ 57
def isWord (c : Nat) : Bool := isLetter c || isDigit c

theorem all_bytes {p : Nat → Prop} (h : ∀ n : Fin 256, p n.1) (c : UInt8) : p c.toNat := h ⟨c.toNat, c.toNat_lt⟩

theorem lex_letter_eq (c : UInt8) : lex_letter c.toNat = some (isLetter c.toNat) := by
  have key : ∀ n : Fin 256, lex_letter n.1 = some (isLetter n.1) := by decide +kernel
  exact all_bytes (p := fun n => lex_letter n = some (isLetter n)) key c
theorem lex_digit_eq (c : UInt8) : lex_digit c.toNat = some (isDigit c.toNat) := by
  have key : ∀ n : Fin 256, lex_digit n.1 = some (isDigit n.1) := by decide +kernel
  exact all_bytes (p := fun n => lex_digit n = some (isDigit n)) key c
theorem ref03_letter_eq (c : UInt8) : ref03_letter c.toNat = some (isLetter c.toNat) := by
  have key : ∀ n : Fin 256, ref03_letter n.1 = some (isLetter n.1) := by decide +kernel
  exact all_bytes (p := fun n => ref03_letter n = some (isLetter n)) key c
theorem ref03_digit_eq (c : UInt8) : ref03_digit c.toNat = some (isDigit c.toNat) := by
  have key : ∀ n : Fin 256, ref03_digit n.1 = some (isDigit n.1) := by decide +kernel
  exact all_bytes (p := fun n => ref03_digit n = some (isDigit n)) key c
theorem lex_Name_1_eq (c : UInt8) : lex_Name_1 c.toNat = some (isWord c.toNat) := by
  have key : ∀ n : Fin 256, lex_Name_1 n.1 = some (isWord n.1) := by decide +kernel
  exact all_bytes (p := fun n => lex_Name_1 n = some (isWord n)) key c
theorem lex_token_1_eq (c : UInt8) : lex_token_1 c.toNat = some (isWord c.toNat) := by
  have key : ∀ n : Fin 256, lex_token_1 n.1 = some (isWord n.1) := by decide +kernel
  exact all_bytes (p := fun n => lex_token_1 n = some (isWord n)) key c

/-- How many from the first one on are so. -/
def runL (p : Nat → Bool) : List UInt8 → Nat
  | [] => 0
  | c :: l => if p c.toNat then runL p l + 1 else 0
theorem runL_le (p : Nat → Bool) : ∀ l, runL p l ≤ l.length
  | [] => Nat.le_refl _
  | c :: l => by
    have := runL_le p l
    simp only [runL, List.length_cons]
    split <;> omega

theorem lex_run_eq {s : List UInt8} {f : Int → Option Bool} {p : Nat → Bool} (hf : ∀ c : UInt8, f c.toNat = some (p c.toNat)) (hs : s.length < 4611686018427387904) : lex_run s f = some (runL p s : Int) := by
  have key := iter_ind (f := fun i => lex_run_l2 s f i) (fun i => ∃ k : Nat, i = k ∧ k ≤ s.length ∧ runL p s = k + runL p (s.drop k)) (fun z => (match z with | .next _ => lex_run_k1 s | .done r => some r) = some (runL p s : Int)) (fun i => s.length - i.toNat)
    (by
      rintro i ⟨k, rfl, hk, hr⟩
      unfold lex_run_l2
      rcases Nat.lt_or_ge k s.length with hlt | hge
      · rw [if_pos (by simpa using hlt), idxS_nat hlt]
        simp only [Option.bind_some, hf]
        have hd : s.drop k = s[k] :: s.drop (k + 1) := by simp
        rw [hd] at hr
        simp only [runL] at hr
        cases hp : p s[k].toNat with
        | true =>
          left
          rw [hp] at hr
          simp only [if_true] at hr
          refine ⟨((k + 1 : Nat) : Int), by simp [w64_id, show -9223372036854775808 ≤ (k : Int) + 1 by omega, show (k : Int) + 1 ≤ 9223372036854775807 by omega], ⟨k + 1, rfl, hlt, by omega⟩, by simp; omega⟩
        | false =>
          right
          rw [hp] at hr
          refine ⟨.done k, by simp, ?_⟩
          simp at hr
          simp [hr]
      · have : k = s.length := by omega
        subst this
        right
        refine ⟨.next (), by simp, ?_⟩
        have h0 : s.drop s.length = [] := by simp
        rw [h0] at hr
        simp only [runL] at hr
        simp [lex_run_k1, hr])
  obtain ⟨z, h1, h2⟩ := key 0 ⟨0, rfl, Nat.zero_le _, by simp⟩
  unfold lex_run
  rw [h1]
  exact h2
end Go.Proofs.YtefeelcjokdchaaDoor

/- The lexer in plain Lean: prefixes, kept names, marks. -/
set_option linter.unusedSectionVars false
namespace Go.Proofs.YtefeelcjokdchaaDoor
open Go Go.Cn

theorem sub_all {l : List UInt8} {i j : Int} (h1 : 0 ≤ i) (h2 : i ≤ j) (h3 : j ≤ l.length) : sub l i j = some ((l.take j.toNat).drop i.toNat) := by
  unfold sub
  rw [if_pos ⟨h1, h2, h3⟩]
theorem sub_from {l : List UInt8} {i : Nat} (h : i ≤ l.length) : sub l i l.length = some (l.drop i) := by
  rw [sub_all (by omega) (by omega) (by omega)]
  simp
theorem take_beq_prefix {a b : List UInt8} (h : b.length ≤ a.length) : (a.take b.length == b) = b.isPrefixOf a := by
  rw [Bool.eq_iff_iff, beq_iff_eq, List.isPrefixOf_iff_prefix]
  constructor
  · intro h'; rw [← h']; exact List.take_prefix _ _
  · rintro ⟨t, rfl⟩; simp
theorem hasPrefix_eq (a b : List UInt8) : strings_HasPrefix a b = some (b.isPrefixOf a) := by
  unfold strings_HasPrefix internal_stringslite_HasPrefix
  rcases Nat.lt_or_ge a.length b.length with h | h
  · rw [if_neg (by simp; omega)]
    simp only [internal_stringslite_HasPrefix_j1, Option.bind_some, Option.some.injEq]
    symm
    rw [Bool.eq_false_iff]
    intro h'
    have := (List.isPrefixOf_iff_prefix.1 h').length_le
    omega
  · rw [if_pos (by simp; omega), sub_all (by omega) (by omega) (by omega)]
    simp [internal_stringslite_HasPrefix_j1, take_beq_prefix h]

theorem slices_Index_eq {L : List (List UInt8)} {x : List UInt8} (hs : L.length < 4611686018427387904) : ∃ r : Int, slices_Index_string_string L x = some r ∧ decide (r ≥ 0) = L.contains x := by
  have key := iter_ind (f := fun i => slices_Index_string_string_l2 L x i) (fun i => ∃ k : Nat, i = k ∧ k ≤ L.length ∧ L.contains x = (L.drop k).contains x) (fun z => ∃ r : Int, (match z with | .next _ => slices_Index_string_string_k1 | .done r => some r) = some r ∧ decide (r ≥ 0) = L.contains x) (fun i => L.length - i.toNat)
    (by
      rintro i ⟨k, rfl, hk, hr⟩
      unfold slices_Index_string_string_l2
      rcases Nat.lt_or_ge k L.length with hlt | hge
      · rw [if_pos (by simpa using hlt), idx_nat hlt]
        simp only [Option.bind_some]
        have hd : L.drop k = L[k] :: L.drop (k + 1) := by simp
        rw [hd, List.contains_cons] at hr
        cases hp : x == L[k] with
        | true =>
          right
          refine ⟨.done k, by simp, k, rfl, ?_⟩
          rw [hr, hp]
          simp
        | false =>
          left
          rw [hp, Bool.false_or] at hr
          exact ⟨((k + 1 : Nat) : Int), by simp [w64_id, show -9223372036854775808 ≤ (k : Int) + 1 by omega, show (k : Int) + 1 ≤ 9223372036854775807 by omega], ⟨k + 1, rfl, hlt, hr⟩, by simp; omega⟩
      · have : k = L.length := by omega
        subst this
        right
        refine ⟨.next (), by simp, -1, rfl, ?_⟩
        rw [hr]
        simp)
  obtain ⟨z, h1, r, h2, h3⟩ := key 0 ⟨0, rfl, Nat.zero_le _, by simp⟩
  refine ⟨r, ?_, h3⟩
  unfold slices_Index_string_string
  rw [h1]
  exact h2
theorem slices_Contains_eq {L : List (List UInt8)} {x : List UInt8} (hs : L.length < 4611686018427387904) : slices_Contains_string_string L x = some (L.contains x) := by
  obtain ⟨r, h1, h2⟩ := slices_Index_eq (x := x) hs
  unfold slices_Contains_string_string
  rw [h1, Option.bind_some, h2]
theorem lex_Kept_eq (x : List UInt8) : lex_Kept x = some (kept.contains x) := by
  unfold lex_Kept
  rw [slices_Contains_eq (by decide)]
  rfl

theorem ref03_Kept_l2_eq (x : List UInt8) (i : Int) : ref03_Kept_l2 x i = (if (decide (i < (kept.length : Int))) = true then (idx kept i).bind fun x5 => (if (x5 == x) = true then some (.inr (.done true)) else some (.inl (w64 (i + 1)))) else some (.inr (.next ()))) := rfl
theorem ref03_Kept_eq (x : List UInt8) : ref03_Kept x = some (kept.contains x) := by
  have key := iter_ind (f := fun i => ref03_Kept_l2 x i) (fun i => ∃ k : Nat, i = k ∧ k ≤ kept.length ∧ kept.contains x = (kept.drop k).contains x) (fun z => (match z with | .next _ => ref03_Kept_k1 | .done r => some r) = some (kept.contains x)) (fun i => kept.length - i.toNat)
    (by
      rintro i ⟨k, rfl, hk, hr⟩
      have hl : kept.length = 16 := rfl
      rw [ref03_Kept_l2_eq]
      rcases Nat.lt_or_ge k kept.length with hlt | hge
      · rw [if_pos (by simpa using hlt), idx_nat hlt]
        simp only [Option.bind_some]
        have hd : kept.drop k = kept[k] :: kept.drop (k + 1) := by simp
        rw [hd, List.contains_cons] at hr
        cases hp : kept[k] == x with
        | true =>
          right
          refine ⟨.done true, by simp, ?_⟩
          have : x == kept[k] := by rw [beq_iff_eq] at hp ⊢; exact hp.symm
          rw [hr, this]
          simp
        | false =>
          left
          have : (x == kept[k]) = false := by rw [beq_eq_false_iff_ne] at hp ⊢; exact fun h => hp h.symm
          rw [this, Bool.false_or] at hr
          exact ⟨((k + 1 : Nat) : Int), by simp [w64_id, show -9223372036854775808 ≤ (k : Int) + 1 by omega, show (k : Int) + 1 ≤ 9223372036854775807 by omega], ⟨k + 1, rfl, hlt, hr⟩, by simp; omega⟩
      · have : k = kept.length := by omega
        subst this
        right
        refine ⟨.next (), by simp, ?_⟩
        rw [hr]
        simp [ref03_Kept_k1])
  obtain ⟨z, h1, h2⟩ := key 0 ⟨0, rfl, Nat.zero_le _, by simp⟩
  unfold ref03_Kept
  rw [h1]
  exact h2
end Go.Proofs.YtefeelcjokdchaaDoor

/- The lexer in plain Lean: names; rows of tokens held against each other; their texts. -/
set_option linter.unusedSectionVars false
namespace Go.Proofs.YtefeelcjokdchaaDoor
open Go Go.Cn

def nameL : List UInt8 → Bool
  | [] => false
  | c :: l => decide (l.length + 1 ≤ 20) && isLetter c.toNat && (runL isWord (c :: l) == l.length + 1) && !kept.contains (c :: l)

theorem lex_Name_eq (s : List UInt8) : lex_Name s = some (nameL s) := by
  cases s with
  | nil => rfl
  | cons c l =>
    unfold lex_Name lex_Name_j1
    have h0 : idxS (c :: l) 0 = some (c.toNat : Int) := rfl
    rw [if_pos (by simp), h0]
    simp only [Option.bind_some, lex_letter_eq, nameL]
    by_cases hl : l.length + 1 ≤ 20
    · rw [if_pos (by simp; omega), lex_run_eq lex_Name_1_eq (by simp; omega)]
      simp only [hl, decide_true, Bool.true_and, Option.bind_some, lex_Kept_eq]
      cases isLetter c.toNat with
      | false => simp
      | true =>
        simp only [if_true, Bool.true_and]
        by_cases hr : runL isWord (c :: l) = l.length + 1
        · rw [if_pos (by simp [hr])]; simp [hr]
        · rw [if_neg (by simp; omega)]; simp [hr]
    · rw [if_neg (by simp; omega)]
      simp [hl]

theorem ref03_Name_loop (s : List UInt8) (hs : s.length ≤ 20) : ∃ z, iter (fun i => ref03_Name_l2 s i) 0 = some z ∧ (match z with | .next _ => runL isWord s = s.length | .done b => b = false ∧ runL isWord s < s.length) := by
  refine iter_ind (f := fun i => ref03_Name_l2 s i) (fun i => ∃ k : Nat, i = k ∧ k ≤ s.length ∧ runL isWord s = k + runL isWord (s.drop k)) (fun z => match z with | .next _ => runL isWord s = s.length | .done b => b = false ∧ runL isWord s < s.length) (fun i => s.length - i.toNat) ?_ 0 ⟨0, rfl, Nat.zero_le _, by simp⟩
  rintro i ⟨k, rfl, hk, hr⟩
  unfold ref03_Name_l2 ref03_Name_j3
  rcases Nat.lt_or_ge k s.length with hlt | hge
  · rw [if_pos (by simpa using hlt), idxS_nat hlt]
    simp only [Option.bind_some, ref03_letter_eq, ref03_digit_eq]
    have hd : s.drop k = s[k] :: s.drop (k + 1) := by simp
    rw [hd] at hr
    simp only [runL] at hr
    have hw : w64 ((k : Int) + 1) = ((k + 1 : Nat) : Int) := by rw [w64_id (by omega) (by omega)]; rfl
    rw [hw]
    cases h1 : isLetter s[k].toNat with
    | true =>
      left
      rw [show isWord s[k].toNat = true by simp [isWord, h1]] at hr
      simp only [if_true] at hr
      exact ⟨((k + 1 : Nat) : Int), by simp, ⟨k + 1, rfl, hlt, by omega⟩, by simp; omega⟩
    | false =>
      cases h2 : isDigit s[k].toNat with
      | true =>
        left
        rw [show isWord s[k].toNat = true by simp [isWord, h2]] at hr
        simp only [if_true] at hr
        exact ⟨((k + 1 : Nat) : Int), by simp, ⟨k + 1, rfl, hlt, by omega⟩, by simp; omega⟩
      | false =>
        right
        rw [show isWord s[k].toNat = false by simp [isWord, h1, h2]] at hr
        simp at hr
        exact ⟨.done false, by simp, rfl, by omega⟩
  · have : k = s.length := by omega
    subst this
    right
    have h0 : s.drop s.length = [] := by simp
    rw [h0] at hr
    exact ⟨.next (), by simp, by simpa [runL] using hr⟩

theorem ref03_Name_eq (s : List UInt8) : ref03_Name s = some (nameL s) := by
  cases s with
  | nil => rfl
  | cons c l =>
    unfold ref03_Name ref03_Name_j4
    have h0 : idxS (c :: l) 0 = some (c.toNat : Int) := rfl
    rw [if_neg (by simp; omega)]
    by_cases hl : l.length + 1 ≤ 20
    · rw [if_neg (by simp; omega), h0]
      simp only [Option.bind_some, ref03_letter_eq, nameL, hl, decide_true, Bool.true_and]
      cases isLetter c.toNat with
      | false => simp
      | true =>
        simp only [Bool.not_true, Bool.false_eq_true, if_false, Bool.true_and]
        obtain ⟨z, h1, h2⟩ := ref03_Name_loop (c :: l) (by simpa using hl)
        rw [h1]
        cases z with
        | next u =>
          have h2 : runL isWord (c :: l) = l.length + 1 := h2
          simp [ref03_Name_k1, ref03_Kept_eq, h2]
        | done b =>
          obtain ⟨rfl, h3⟩ := h2
          have h3 : runL isWord (c :: l) < l.length + 1 := h3
          have h4 : ¬ runL isWord (c :: l) = l.length + 1 := by omega
          simp [h4]
    · rw [if_pos (by simp; omega)]
      simp [nameL, hl]

/-- The text of tokens. -/
def unlexL : List ApiToken → List UInt8
  | [] => []
  | t :: l => t.Lead ++ t.Text ++ unlexL l
def sizeL : List ApiToken → Nat
  | [] => 0
  | t :: l => t.Lead.length + t.Text.length + sizeL l
theorem unlexL_length : ∀ l, (unlexL l).length = sizeL l
  | [] => rfl
  | t :: l => by simp [unlexL, sizeL, unlexL_length l]; omega

theorem lex_Unlex_eq (l : List ApiToken) (h : sizeL l ≤ 140737488355328) (hl : l.length < 4611686018427387904) : lex_Unlex l = some (unlexL l) := by
  obtain ⟨o, h1, h2⟩ := iter_ind (f := fun s : Int × List UInt8 => lex_Unlex_l2 l s.1 s.2) (fun s => ∃ k : Nat, s.1 = k ∧ k ≤ l.length ∧ unlexL l = s.2 ++ unlexL (l.drop k)) (fun o => o = unlexL l) (fun s => l.length - s.1.toNat)
    (by
      rintro ⟨i, b⟩ ⟨k, hi, hk, hr⟩
      simp only at hi hr
      subst hi
      unfold lex_Unlex_l2
      rcases Nat.lt_or_ge k l.length with hlt | hge
      · rw [if_pos (by simpa using hlt), idx_nat hlt]
        have hd : l.drop k = l[k] :: l.drop (k + 1) := by simp
        rw [hd] at hr
        simp only [unlexL] at hr
        have hlen := congrArg List.length hr
        rw [unlexL_length] at hlen
        simp only [List.length_append] at hlen
        simp only [Option.bind_some, bcat]
        rw [if_pos (by omega)]
        simp only [Option.bind_some]
        rw [if_pos (by simp only [List.length_append]; omega)]
        left
        refine ⟨(((k + 1 : Nat) : Int), b ++ l[k].Lead ++ l[k].Text), ?_, ⟨k + 1, rfl, hlt, ?_⟩, ?_⟩
        · simp only [Option.bind_some]
          rw [w64_id (by omega) (by omega)]
          rfl
        · rw [hr]; simp
        · simp; omega
      · have : k = l.length := by omega
        subst this
        right
        refine ⟨b, by simp, ?_⟩
        have h0 : l.drop l.length = [] := by simp
        rw [h0] at hr
        simpa [unlexL] using hr.symm) (0, []) ⟨0, rfl, Nat.zero_le _, by simp⟩
  unfold lex_Unlex
  rw [h1, h2]
  rfl
theorem ref03_Unlex_eq (l : List ApiToken) (h : sizeL l ≤ 140737488355328) (hl : l.length < 4611686018427387904) : ref03_Unlex l = some (unlexL l) := by
  obtain ⟨o, h1, h2⟩ := iter_ind (f := fun s : List UInt8 × Int => ref03_Unlex_l2 l s.1 s.2) (fun s => ∃ k : Nat, s.2 = k ∧ k ≤ l.length ∧ unlexL l = s.1 ++ unlexL (l.drop k)) (fun o => o = unlexL l) (fun s => l.length - s.2.toNat)
    (by
      rintro ⟨b, i⟩ ⟨k, hi, hk, hr⟩
      simp only at hi hr
      subst hi
      unfold ref03_Unlex_l2
      rcases Nat.lt_or_ge k l.length with hlt | hge
      · rw [if_pos (by simpa using hlt), idx_nat hlt]
        have hd : l.drop k = l[k] :: l.drop (k + 1) := by simp
        rw [hd] at hr
        simp only [unlexL] at hr
        have hlen := congrArg List.length hr
        rw [unlexL_length] at hlen
        simp only [List.length_append] at hlen
        simp only [Option.bind_some, cat]
        rw [if_pos (by omega)]
        simp only [Option.bind_some]
        rw [if_pos (by simp only [List.length_append]; omega)]
        left
        refine ⟨(b ++ l[k].Lead ++ l[k].Text, ((k + 1 : Nat) : Int)), ?_, ⟨k + 1, rfl, hlt, ?_⟩, ?_⟩
        · simp only [Option.bind_some]
          rw [w64_id (by omega) (by omega)]
          rfl
        · rw [hr]; simp
        · simp; omega
      · have : k = l.length := by omega
        subst this
        right
        refine ⟨b, by simp, ?_⟩
        have h0 : l.drop l.length = [] := by simp
        rw [h0] at hr
        simpa [unlexL] using hr.symm) ([], 0) ⟨0, rfl, Nat.zero_le _, by simp⟩
  unfold ref03_Unlex
  rw [h1, h2]
  rfl
end Go.Proofs.YtefeelcjokdchaaDoor

/- The lexer in plain Lean: rows of tokens held against each other; marks. -/
set_option linter.unusedSectionVars false
namespace Go.Proofs.YtefeelcjokdchaaDoor
open Go Go.Cn

theorem ref03_Same_eq (a b : List ApiToken) (hl : a.length < 4611686018427387904) : ref03_Same a b = some (decide (a = b)) := by
  unfold ref03_Same
  by_cases hab : a.length = b.length
  · rw [if_neg (by simp; omega)]
    obtain ⟨z, h1, h2⟩ := iter_ind (f := fun s => ref03_Same_l2 a b s) (fun i => ∃ k : Nat, i = k ∧ k ≤ a.length ∧ (a = b ↔ a.drop k = b.drop k)) (fun z => match z with | .next _ => a = b | .done r => r = false ∧ a ≠ b) (fun i => a.length - i.toNat)
      (by
        rintro i ⟨k, rfl, hk, hr⟩
        unfold ref03_Same_l2 ref03_Same_j3
        rcases Nat.lt_or_ge k a.length with hlt | hge
        · have hlt2 : k < b.length := by omega
          rw [if_pos (by simpa using hlt), idx_nat hlt, idx_nat hlt2]
          simp only [Option.bind_some]
          have hd : a.drop k = a[k] :: a.drop (k + 1) := by simp
          have hd2 : b.drop k = b[k] :: b.drop (k + 1) := by simp
          rw [hd, hd2, List.cons.injEq] at hr
          by_cases he : a[k] = b[k]
          · left
            rw [if_neg (by simp [he])]
            refine ⟨((k + 1 : Nat) : Int), by rw [w64_id (by omega) (by omega)]; rfl, ⟨k + 1, rfl, hlt, ?_⟩, by simp; omega⟩
            rw [hr]
            simp [he]
          · right
            rw [if_pos (by simp [he])]
            exact ⟨.done false, rfl, rfl, fun h => he (hr.1 h).1⟩
        · have : k = a.length := by omega
          subst this
          right
          refine ⟨.next (), by simp, ?_⟩
          rw [hr, List.drop_eq_nil_of_le (Nat.le_refl _), List.drop_eq_nil_of_le (by omega)]) 0 ⟨0, rfl, Nat.zero_le _, by simp⟩
    rw [h1]
    cases z with
    | next u =>
      have h2 : a = b := h2
      simp [ref03_Same_k1, h2]
    | done r =>
      obtain ⟨rfl, h2⟩ := h2
      simp [h2]
  · rw [if_pos (by simp; omega)]
    have : a ≠ b := fun h => hab (by rw [h])
    simp [this]

def twos : List (List UInt8) := [[61, 61], [33, 61], [60, 61], [62, 61], [38, 38], [124, 124]]
def ones : List UInt8 := [43, 45, 42, 47, 37, 60, 62, 61, 33, 40, 41, 123, 125, 59, 44, 46]
def markL (s : List UInt8) : Nat := if twos.any (fun t => t.isPrefixOf s) then 2 else if (match s with | [] => false | c :: _ => ones.contains c) then 1 else 0

theorem indexByte_mem (c : UInt8) : ∀ l : List UInt8, 0 ≤ Lib.indexByte l c ↔ c ∈ l
  | [] => by simp [Lib.indexByte]
  | b :: l => by
    have ih := indexByte_mem c l
    have hge := Lib.indexByte_ge l c
    have e : Lib.indexByte (b :: l) c = if b == c then 0 else if Lib.indexByte l c == -1 then -1 else Lib.indexByte l c + 1 := rfl
    rw [e, List.mem_cons]
    by_cases h : b = c
    · subst h; simp
    · have h1 : (b == c) = false := by simpa using h
      rw [h1, if_neg (by simp)]
      by_cases h3 : Lib.indexByte l c = -1
      · rw [if_pos (by simpa using h3)]
        have : c ∉ l := fun hm => by have := ih.2 hm; omega
        simp only [this, or_false]
        exact ⟨fun hh => absurd hh (by decide), fun h' => absurd h'.symm h⟩
      · rw [if_neg (by simpa using h3)]
        have : c ∈ l := ih.1 (by omega)
        simp [this]
        omega
theorem indexByte_contains (l : List UInt8) (c : UInt8) : decide (Lib.indexByte l c ≥ 0) = l.contains c := by
  rw [Bool.eq_iff_iff, decide_eq_true_eq, List.contains_iff_mem]
  exact indexByte_mem c l

theorem lex_mark_l2_eq (s : List UInt8) (i : Int) : lex_mark_l2 s i = (if (decide (i < (twos.length : Int))) = true then (idx twos i).bind fun x5 => (strings_HasPrefix s x5).bind fun x6 => (if x6 = true then some (.inr (.done 2)) else some (.inl (w64 (i + 1)))) else some (.inr (.next ()))) := rfl
theorem lex_mark_eq (c : UInt8) (l : List UInt8) : lex_mark (c :: l) = some (markL (c :: l) : Int) := by
  obtain ⟨z, h1, h2⟩ := iter_ind (f := fun i => lex_mark_l2 (c :: l) i) (fun i => ∃ k : Nat, i = k ∧ k ≤ twos.length ∧ twos.any (fun t => t.isPrefixOf (c :: l)) = (twos.drop k).any (fun t => t.isPrefixOf (c :: l))) (fun z => match z with | .next _ => twos.any (fun t => t.isPrefixOf (c :: l)) = false | .done r => r = 2 ∧ twos.any (fun t => t.isPrefixOf (c :: l)) = true) (fun i => twos.length - i.toNat)
    (by
      rintro i ⟨k, rfl, hk, hr⟩
      have hl : twos.length = 6 := rfl
      rw [lex_mark_l2_eq]
      rcases Nat.lt_or_ge k twos.length with hlt | hge
      · rw [if_pos (by simpa using hlt), idx_nat hlt]
        simp only [Option.bind_some, hasPrefix_eq]
        have hd : twos.drop k = twos[k] :: twos.drop (k + 1) := by simp
        rw [hd, List.any_cons] at hr
        cases hp : twos[k].isPrefixOf (c :: l) with
        | true =>
          right
          exact ⟨.done 2, by simp, rfl, by rw [hr, hp]; rfl⟩
        | false =>
          left
          rw [hp, Bool.false_or] at hr
          exact ⟨((k + 1 : Nat) : Int), by rw [w64_id (by omega) (by omega)]; simp, ⟨k + 1, rfl, hlt, hr⟩, by simp; omega⟩
      · have : k = twos.length := by omega
        subst this
        right
        exact ⟨.next (), by simp, by rw [hr]; simp⟩) 0 ⟨0, rfl, Nat.zero_le _, by simp⟩
  unfold lex_mark
  rw [h1]
  cases z with
  | next u =>
    have h2 : twos.any (fun t => t.isPrefixOf (c :: l)) = false := h2
    have h0 : idxS (c :: l) 0 = some (c.toNat : Int) := rfl
    have h3 := indexByte_contains ones c
    simp only [Option.bind_some, lex_mark_k1, h0, strings_IndexByte]
    have h4 : ((c.toNat : Int)).toNat.toUInt8 = c := by simp
    rw [h4]
    change (if decide (Lib.indexByte ones c ≥ 0) = true then some 1 else some 0) = _
    rw [h3]
    simp only [markL, h2, Bool.false_eq_true, if_false]
    by_cases hc : ones.contains c = true
    · rw [if_pos hc, if_pos hc]; rfl
    · rw [if_neg hc, if_neg hc]; rfl
  | done r =>
    obtain ⟨rfl, h2⟩ := h2
    simp [markL, h2]
end Go.Proofs.YtefeelcjokdchaaDoor

/- The lexer in plain Lean: the document's marks. -/
set_option linter.unusedSectionVars false
namespace Go.Proofs.YtefeelcjokdchaaDoor
open Go Go.Cn

theorem ref03_mark_l5_eq (s : List UInt8) (a i : Int) : ref03_mark_l5 s a i = (if (decide (i < (twos.length : Int))) = true then (if decide (w64 (a + 2) ≤ (s.length : Int)) = true then (sub s a (w64 (a + 2))).bind fun x8 => (idx twos i).bind fun x9 => (if (x8 == x9) = true then some (.inr (.done 2)) else some (.inl (w64 (i + 1)))) else some (.inr (.next ()))) else (if false = true then (sub s a (w64 (a + 2))).bind fun x8 => (idx twos i).bind fun x9 => (if (x8 == x9) = true then some (.inr (.done 2)) else some (.inl (w64 (i + 1)))) else some (.inr (.next ())))) := rfl
theorem ref03_mark_l2_eq (s : List UInt8) (a i : Int) : ref03_mark_l2 s a i = (if (decide (i < (ones.length : Int))) = true then (idxS s a).bind fun x14 => (idxS ones i).bind fun x15 => (if (x14 == x15) = true then some (.inr (.done 1)) else some (.inl (w64 (i + 1)))) else some (.inr (.next ()))) := rfl

theorem two_len : ∀ t ∈ twos, t.length = 2 := by decide
theorem slice_two {s t : List UInt8} {k : Nat} (hk : k + 2 ≤ s.length) (ht : t.length = 2) : ((s.take (k + 2)).drop k == t) = t.isPrefixOf (s.drop k) := by
  rw [← take_beq_prefix (by simp; omega), ht, List.drop_take]
  simp

theorem ref03_mark_two (s : List UInt8) (k : Nat) (hs : s.length < 4611686018427387904) (hk : k < s.length) : ∃ z, iter (fun i => ref03_mark_l5 s k i) 0 = some z ∧ (match z with | .next _ => twos.any (fun t => t.isPrefixOf (s.drop k)) = false | .done r => r = 2 ∧ twos.any (fun t => t.isPrefixOf (s.drop k)) = true) := by
  have h2 : w64 ((k : Int) + 2) = ((k + 2 : Nat) : Int) := by rw [w64_id (by omega) (by omega)]; rfl
  refine iter_ind (f := fun i => ref03_mark_l5 s k i) (fun i => ∃ j : Nat, i = j ∧ j ≤ twos.length ∧ twos.any (fun t => t.isPrefixOf (s.drop k)) = (twos.drop j).any (fun t => t.isPrefixOf (s.drop k))) (fun z => match z with | .next _ => twos.any (fun t => t.isPrefixOf (s.drop k)) = false | .done r => r = 2 ∧ twos.any (fun t => t.isPrefixOf (s.drop k)) = true) (fun i => twos.length - i.toNat) ?_ 0 ⟨0, rfl, Nat.zero_le _, by simp⟩
  rintro i ⟨j, rfl, hj, hr⟩
  have hl : twos.length = 6 := rfl
  rw [ref03_mark_l5_eq, h2]
  rcases Nat.lt_or_ge j twos.length with hlt | hge
  · rw [if_pos (by simpa using hlt)]
    by_cases hk2 : k + 2 ≤ s.length
    · rw [if_pos (by simp; omega), sub_all (by omega) (by omega) (by omega), idx_nat hlt]
      simp only [Option.bind_some, Int.toNat_natCast]
      rw [slice_two hk2 (two_len _ (List.getElem_mem hlt))]
      have hd : twos.drop j = twos[j] :: twos.drop (j + 1) := by simp
      rw [hd, List.any_cons] at hr
      cases hp : twos[j].isPrefixOf (s.drop k) with
      | true =>
        right
        exact ⟨.done 2, by simp, rfl, by rw [hr, hp]; rfl⟩
      | false =>
        left
        rw [hp, Bool.false_or] at hr
        exact ⟨((j + 1 : Nat) : Int), by rw [w64_id (by omega) (by omega)]; simp, ⟨j + 1, rfl, hlt, hr⟩, by simp; omega⟩
    · rw [if_neg (by simp; omega)]
      right
      refine ⟨.next (), rfl, ?_⟩
      show twos.any (fun t => t.isPrefixOf (s.drop k)) = false
      rw [List.any_eq_false]
      intro t ht hp
      have := (List.isPrefixOf_iff_prefix.1 hp).length_le
      rw [two_len t ht, List.length_drop] at this
      omega
  · have : j = twos.length := by omega
    subst this
    right
    exact ⟨.next (), by simp, by rw [hr]; simp⟩

theorem ref03_mark_one (s : List UInt8) (k : Nat) (hk : k < s.length) : ∃ z, iter (fun i => ref03_mark_l2 s k i) 0 = some z ∧ (match z with | .next _ => ones.contains s[k] = false | .done r => r = 1 ∧ ones.contains s[k] = true) := by
  refine iter_ind (f := fun i => ref03_mark_l2 s k i) (fun i => ∃ j : Nat, i = j ∧ j ≤ ones.length ∧ ones.contains s[k] = (ones.drop j).contains s[k]) (fun z => match z with | .next _ => ones.contains s[k] = false | .done r => r = 1 ∧ ones.contains s[k] = true) (fun i => ones.length - i.toNat) ?_ 0 ⟨0, rfl, Nat.zero_le _, by simp⟩
  rintro i ⟨j, rfl, hj, hr⟩
  have hl : ones.length = 16 := rfl
  rw [ref03_mark_l2_eq]
  rcases Nat.lt_or_ge j ones.length with hlt | hge
  · rw [if_pos (by simpa using hlt), idxS_nat hk, idxS_nat hlt]
    simp only [Option.bind_some]
    have hd : ones.drop j = ones[j] :: ones.drop (j + 1) := by simp
    rw [hd, List.contains_cons] at hr
    by_cases he : s[k] = ones[j]
    · right
      refine ⟨.done 1, by rw [if_pos (by simp [he])], rfl, ?_⟩
      rw [hr, he]; simp
    · left
      have h1 : (s[k] == ones[j]) = false := by simpa using he
      rw [h1, Bool.false_or] at hr
      have h2 : ¬ ((s[k].toNat : Int) == (ones[j].toNat : Int)) = true := by
        rw [beq_iff_eq]
        intro h
        exact he (UInt8.toNat_inj.1 (by omega))
      exact ⟨((j + 1 : Nat) : Int), by rw [if_neg h2, w64_id (by omega) (by omega)]; rfl, ⟨j + 1, rfl, hlt, hr⟩, by simp; omega⟩
  · have : j = ones.length := by omega
    subst this
    right
    exact ⟨.next (), by simp, by rw [hr]; simp⟩

theorem ref03_mark_eq (s : List UInt8) (k : Nat) (hs : s.length < 4611686018427387904) (hk : k < s.length) : ref03_mark s k = some (markL (s.drop k) : Int) := by
  obtain ⟨z, h1, h2⟩ := ref03_mark_two s k hs hk
  have hd : s.drop k = s[k] :: s.drop (k + 1) := by simp
  unfold ref03_mark
  rw [h1]
  cases z with
  | next u =>
    have h2 : twos.any (fun t => t.isPrefixOf (s.drop k)) = false := h2
    obtain ⟨y, h3, h4⟩ := ref03_mark_one s k hk
    simp only [Option.bind_some, ref03_mark_k4, h3]
    unfold markL
    rw [h2, if_neg (by simp), hd]
    cases y with
    | next u =>
      have h4 : ones.contains s[k] = false := h4
      simp only [h4]
      rfl
    | done r =>
      obtain ⟨rfl, h4⟩ := h4
      simp only [h4]
      rfl
  | done r =>
    obtain ⟨rfl, h2⟩ := h2
    simp [markL, h2]
end Go.Proofs.YtefeelcjokdchaaDoor

/- The lexer in plain Lean: numbers. -/
set_option linter.unusedSectionVars false
namespace Go.Proofs.YtefeelcjokdchaaDoor
open Go Go.Cn

def digL (a : Nat) (c : UInt8) : Nat := 10 * a + (c.toNat - 48)
def valL (a : Nat) (l : List UInt8) : Nat := l.foldl digL a
theorem valL_cons (a : Nat) (c : UInt8) (l : List UInt8) : valL a (c :: l) = valL (10 * a + (c.toNat - 48)) l := by unfold valL; rw [List.foldl_cons, digL]
theorem valL_ge (l : List UInt8) : ∀ a : Nat, a ≤ valL a l := by
  induction l with
  | nil => intro a; unfold valL; rw [List.foldl_nil]; exact Nat.le_refl a
  | cons c l ih =>
    intro a
    rw [valL_cons]
    have := ih (10 * a + (c.toNat - 48))
    generalize valL (10 * a + (c.toNat - 48)) l = v at this ⊢
    omega
theorem parseUintM_eq {M : Nat} (hM : M = 18446744073709551615) : ∀ (l : List UInt8) (a : Nat), (∀ c ∈ l, isDigit c.toNat = true) → a ≤ M → (valL a l ≤ M → Lib.parseUintM M a l = .ok (valL a l)) ∧ (¬ valL a l ≤ M → Lib.parseUintM M a l = .range)
  | [], a, _, ha => by
    have : valL a [] = a := by unfold valL; rw [List.foldl_nil]
    rw [this]
    exact ⟨fun _ => by unfold Lib.parseUintM; rfl, fun h => absurd ha h⟩
  | c :: l, a, h, ha => by
    have hc := h c List.mem_cons_self
    simp only [isDigit, Bool.and_eq_true, decide_eq_true_eq] at hc
    have hv := valL_ge l (10 * a + (c.toNat - 48))
    have e : a * 10 + (c.toNat - 48) = 10 * a + (c.toNat - 48) := by omega
    rw [valL_cons]
    unfold Lib.parseUintM
    rw [if_pos hc, e]
    by_cases h1 : 1844674407370955162 ≤ a
    · rw [if_pos h1]
      exact ⟨fun h' => by omega, fun _ => rfl⟩
    · rw [if_neg h1]
      by_cases h2 : M < 10 * a + (c.toNat - 48)
      · rw [if_pos h2]
        exact ⟨fun h' => by omega, fun _ => rfl⟩
      · rw [if_neg h2]
        exact parseUintM_eq hM l _ (fun c hc => h c (List.mem_cons_of_mem _ hc)) (by omega)

theorem parseInt_eq (c : UInt8) (l : List UInt8) (h : ∀ d ∈ c :: l, isDigit d.toNat = true) (hl : (c :: l).length ≤ 281474976710656) : ∃ x e, strconv_ParseInt (c :: l) 10 64 = some (x, e) ∧ (e || decide (x > 2147483647)) = decide (valL 0 (c :: l) > 2147483647) := by
  have hc := h c List.mem_cons_self
  simp only [isDigit, Bool.and_eq_true, decide_eq_true_eq] at hc
  have h45 : ¬ c.toNat = 45 := by omega
  have h43 : ¬ (c.toNat = 43 ∨ c.toNat = 45) := by omega
  have e : (2 : Nat) ^ 64 - 1 = 18446744073709551615 := by decide
  have hpu : Lib.parseUintB 64 (c :: l) = Lib.parseUintM (2 ^ 64 - 1) 0 (c :: l) := by
    unfold Lib.parseUintB
    rw [if_neg (by simp)]
  obtain ⟨hp1, hp2⟩ := parseUintM_eq e (c :: l) 0 h (Nat.zero_le _)
  generalize hv : valL 0 (c :: l) = v at hp1 hp2 ⊢
  have e2 : (2 : Nat) ^ (64 - 1) = 9223372036854775808 := by decide
  unfold strconv_ParseInt
  rw [if_pos ⟨rfl, rfl, hl⟩]
  have hplain := Lib.parseIntB_plain 64 c l (by omega) h45
  rw [hpu, e2] at hplain
  have hI : (v < 9223372036854775808 → Lib.parseIntB 64 (c :: l) = .ok (v : Int)) ∧ (¬ v < 9223372036854775808 → Lib.parseIntB 64 (c :: l) = .range) := by
    rw [hplain]
    constructor
    · intro h2
      rw [hp1 (by omega)]
      show (if 9223372036854775808 ≤ v then Lib.NumEnd.range else Lib.NumEnd.ok (v : Int)) = _
      rw [if_neg (by omega)]
    · intro h2
      by_cases h1 : v ≤ 2 ^ 64 - 1
      · rw [hp1 h1]
        show (if 9223372036854775808 ≤ v then Lib.NumEnd.range else Lib.NumEnd.ok (v : Int)) = _
        rw [if_pos (by omega)]
      · rw [hp2 h1]
        rfl
  by_cases h2 : v < 9223372036854775808
  · rw [hI.1 h2]
    refine ⟨_, _, rfl, ?_⟩
    simp only [Bool.false_or, decide_eq_decide]
    omega
  · rw [hI.2 h2]
    refine ⟨_, _, rfl, ?_⟩
    simp only [Bool.true_or]
    symm
    rw [decide_eq_true_eq]
    omega
end Go.Proofs.YtefeelcjokdchaaDoor

/- The lexer in plain Lean: the document's numbers. -/
set_option linter.unusedSectionVars false
namespace Go.Proofs.YtefeelcjokdchaaDoor
open Go Go.Cn

theorem wrap_u8 {n : Int} (h1 : 0 ≤ n) (h2 : n < 256) : IntKind.wrap .u8 n = n := by
  unfold IntKind.wrap
  have e1 : (2 : Int) ^ (IntKind.u8.bits) = 256 := rfl
  have e3 : IntKind.u8.signed = false := rfl
  simp only [e1, e3, Bool.false_and, Bool.false_eq_true, if_false]
  omega

theorem ref03_great_eq (l : List UInt8) (h : ∀ c ∈ l, isDigit c.toNat = true) : ref03_great l = some (decide (l.length > 10) || decide (valL 0 l > 2147483647)) := by
  unfold ref03_great
  by_cases hl : l.length > 10
  · rw [if_pos (by simp; omega)]
    simp [hl]
  · rw [if_neg (by simp; omega)]
    have hp : ∀ k, k ≤ 10 → (10 : Nat) ^ k ≤ 10000000000 := fun k hk => by
      have := Nat.pow_le_pow_right (n := 10) (by decide) hk
      simpa using this
    obtain ⟨o, h1, h2⟩ := iter_ind (f := fun s : Int × Int => ref03_great_l2 l s.1 s.2) (fun s => ∃ k m : Nat, s.2 = k ∧ s.1 = m ∧ k ≤ l.length ∧ m < 10 ^ k ∧ valL 0 l = valL m (l.drop k)) (fun o => o = (valL 0 l : Int)) (fun s => l.length - s.2.toNat)
      (by
        rintro ⟨n, i⟩ ⟨k, m, hi, hn, hk, hm, hr⟩
        simp only at hi hn
        subst hi hn
        unfold ref03_great_l2
        rcases Nat.lt_or_ge k l.length with hlt | hge
        · rw [if_pos (by simpa using hlt), idxS_nat hlt]
          have hd : l.drop k = l[k] :: l.drop (k + 1) := by simp
          rw [hd, valL_cons] at hr
          have hc := h l[k] (List.getElem_mem hlt)
          simp only [isDigit, Bool.and_eq_true, decide_eq_true_eq] at hc
          have hb := hp k (by omega)
          have hpow : (10 : Nat) ^ (k + 1) = 10 * 10 ^ k := by rw [Nat.pow_succ, Nat.mul_comm]
          left
          refine ⟨(((10 * m + (l[k].toNat - 48) : Nat) : Int), ((k + 1 : Nat) : Int)), ?_, ⟨k + 1, 10 * m + (l[k].toNat - 48), rfl, rfl, hlt, by rw [hpow]; omega, hr⟩, by simp; omega⟩
          simp only [Option.bind_some]
          rw [wrap_u8 (by omega) (by omega), w64_id (n := 10 * (m : Int)) (by omega) (by omega), w64_id (n := (l[k].toNat : Int) - 48) (by omega) (by omega), w64_id (by omega) (by omega), w64_id (n := (k : Int) + 1) (by omega) (by omega)]
          congr 3
          omega
        · have : k = l.length := by omega
          subst this
          right
          refine ⟨m, by simp, ?_⟩
          rw [List.drop_eq_nil_of_le (Nat.le_refl _)] at hr
          rw [hr]
          rfl) (0, 0) ⟨0, 0, rfl, rfl, Nat.zero_le _, by decide, by simp⟩
    rw [h1, h2]
    simp only [Option.bind_some, ref03_great_k1, hl, decide_false, Bool.false_or, Option.some.injEq, decide_eq_decide]
    omega
end Go.Proofs.YtefeelcjokdchaaDoor

/- The lexer in plain Lean: what stands between tokens. -/
set_option linter.unusedSectionVars false
namespace Go.Proofs.YtefeelcjokdchaaDoor
open Go Go.Cn

def isSpace (c : Nat) : Bool := c == 32 || c == 9 || c == 13 || c == 10
/-- Where the end of a note begins. -/
def endNote : List UInt8 → Option Nat
  | [] => none
  | c :: l => if [42, 47].isPrefixOf (c :: l) then some 0 else (endNote l).map (· + 1)
/-- How many bytes stand ahead of a token, and whether the last note ends. -/
def gapL : Nat → List UInt8 → Nat × Bool
  | 0, _ => (0, true)
  | f + 1, s =>
    if [47, 47].isPrefixOf s then
      let k := runL (fun c => c != 10) s
      let r := gapL f (s.drop k)
      (k + r.1, r.2)
    else if [47, 42].isPrefixOf s then
      match endNote (s.drop 2) with
      | none => (0, false)
      | some k => let r := gapL f (s.drop (k + 4)); (k + 4 + r.1, r.2)
    else match s with
      | [] => (0, true)
      | c :: l => if isSpace c.toNat then let r := gapL f l; (1 + r.1, r.2) else (0, true)

theorem index_endNote : ∀ s : List UInt8, Lib.index s [42, 47] = (match endNote s with | none => -1 | some k => (k : Int))
  | [] => rfl
  | c :: l => by
    have ih := index_endNote l
    unfold Lib.index endNote
    by_cases h : [42, 47].isPrefixOf (c :: l) = true
    · rw [if_pos h, if_pos h]; rfl
    · rw [if_neg h, if_neg h, ih]
      cases endNote l with
      | none => rfl
      | some k =>
        have : ¬ (((k : Int) == -1) = true) := by rw [beq_iff_eq]; omega
        simp only [this, Option.map_some]
        simp
theorem endNote_le : ∀ (s : List UInt8) (k : Nat), endNote s = some k → k + 2 ≤ s.length
  | [], k, h => by cases h
  | c :: l, k, h => by
    unfold endNote at h
    by_cases hp : [42, 47].isPrefixOf (c :: l) = true
    · rw [if_pos hp] at h
      have := (List.isPrefixOf_iff_prefix.1 hp).length_le
      cases h
      simpa using this
    · rw [if_neg hp] at h
      cases he : endNote l with
      | none => rw [he] at h; cases h
      | some j =>
        rw [he] at h
        cases h
        have := endNote_le l j he
        simp only [List.length_cons]
        omega
end Go.Proofs.YtefeelcjokdchaaDoor

/- The lexer in plain Lean: lex.between comes to the model. -/
set_option linter.unusedSectionVars false
namespace Go.Proofs.YtefeelcjokdchaaDoor
open Go Go.Cn

theorem lex_between_1_eq (c : UInt8) : lex_between_1 c.toNat = some (c.toNat != 10) := by
  unfold lex_between_1
  congr 1
  rw [Bool.eq_iff_iff]
  simp only [bne_iff_ne, ne_eq]
  omega

theorem gapL_succ (f : Nat) (t : List UInt8) : gapL (f + 1) t = (if [47, 47].isPrefixOf t then
      (runL (fun c => c != 10) t + (gapL f (t.drop (runL (fun c => c != 10) t))).1, (gapL f (t.drop (runL (fun c => c != 10) t))).2)
    else if [47, 42].isPrefixOf t then
      match endNote (t.drop 2) with
      | none => (0, false)
      | some k => (k + 4 + (gapL f (t.drop (k + 4))).1, (gapL f (t.drop (k + 4))).2)
    else match t with
      | [] => (0, true)
      | c :: l => if isSpace c.toNat then (1 + (gapL f l).1, (gapL f l).2) else (0, true)) := rfl

theorem lex_between_eq (s : List UInt8) (hs : s.length < 4294967281) : lex_between s = some (((gapL s.length s).1 : Int), (gapL s.length s).2) := by
  obtain ⟨z, h1, h2⟩ := iter_ind (f := fun n => lex_between_l3 s n) (fun n => ∃ k f : Nat, n = k ∧ k ≤ s.length ∧ s.length - k ≤ f ∧ gapL s.length s = (k + (gapL f (s.drop k)).1, (gapL f (s.drop k)).2)) (fun z => (match z with | .next n => (n, true) | .done r => r) = (((gapL s.length s).1 : Int), (gapL s.length s).2)) (fun n => s.length - n.toNat)
    (by
      rintro n ⟨k, f, rfl, hk, hf, hr⟩
      unfold lex_between_l3 lex_between_j4
      rcases Nat.lt_or_ge k s.length with hlt | hge
      · rw [if_pos (by simpa using hlt), sub_from hk]
        simp only [Option.bind_some, hasPrefix_eq]
        obtain ⟨f, rfl⟩ : ∃ f', f = f' + 1 := ⟨f - 1, by omega⟩
        have hdl : (s.drop k).length = s.length - k := by simp
        rw [gapL_succ] at hr
        by_cases hp1 : [47, 47].isPrefixOf (s.drop k) = true
        · rw [if_pos hp1] at hr
          simp only [hp1, if_true]
          rw [lex_run_eq (p := fun c => c != 10) lex_between_1_eq (by omega)]
          have hle := runL_le (fun c => c != 10) (s.drop k)
          have hpos : 0 < runL (fun c => c != 10) (s.drop k) := by
            cases hd : s.drop k with
            | nil => rw [hd] at hp1; cases hp1
            | cons c l =>
              rw [hd] at hp1
              have : c = 47 := by
                have := hp1
                simp [List.isPrefixOf] at this
                exact this.1.symm
              subst this
              simp [runL]
          generalize runL (fun c => c != 10) (s.drop k) = r at hr hle hpos ⊢
          left
          rw [List.drop_drop] at hr
          refine ⟨((k + r : Nat) : Int), ?_, ⟨k + r, f, rfl, by omega, by omega, ?_⟩, by simp; omega⟩
          · simp only [Option.bind_some]
            rw [w64_id (by omega) (by omega)]
            rfl
          · rw [hr, Nat.add_assoc]
        · rw [if_neg hp1] at hr
          simp only [hp1, Bool.false_eq_true, if_false]
          by_cases hp2 : [47, 42].isPrefixOf (s.drop k) = true
          · rw [if_pos hp2] at hr
            simp only [hp2, if_true]
            have h2 : 2 ≤ (s.drop k).length := (List.isPrefixOf_iff_prefix.1 hp2).length_le
            have hsub : sub (s.drop k) 2 ((s.drop k).length : Int) = some ((s.drop k).drop 2) := sub_from (i := 2) h2
            rw [hsub]
            simp only [Option.bind_some, strings_Index]
            rw [if_pos (by simp; omega), index_endNote]
            cases he : endNote ((s.drop k).drop 2) with
            | none =>
              rw [he] at hr
              right
              refine ⟨.done (k, false), by simp, ?_⟩
              rw [hr]
              simp
            | some j =>
              rw [he] at hr
              have hj := endNote_le _ _ he
              rw [List.length_drop, List.length_drop] at hj
              left
              simp only [Option.bind_some]
              rw [if_neg (by simp)]
              simp only [List.drop_drop] at hr
              refine ⟨((k + (j + 4) : Nat) : Int), ?_, ⟨k + (j + 4), f, rfl, by omega, by omega, ?_⟩, by simp; omega⟩
              · rw [w64_id (n := 2 + (j : Int)) (by omega) (by omega), w64_id (n := 2 + (j : Int) + 2) (by omega) (by omega), w64_id (by omega) (by omega)]
                congr 2
                omega
              · rw [hr]
                congr 1
                omega
          · rw [if_neg hp2] at hr
            simp only [hp2, Bool.false_eq_true, if_false]
            have hd : s.drop k = s[k] :: s.drop (k + 1) := by simp
            have h0 : idxS (s.drop k) 0 = some (s[k].toNat : Int) := by rw [hd]; rfl
            rw [h0]
            rw [hd] at hr
            simp only [Option.bind_some]
            have key : (if ((s[k].toNat : Int) == 32) = true then (some (.inl (w64 ((k : Int) + 1))) : Option (Int ⊕ Flow Int (Int × Bool))) else if ((s[k].toNat : Int) == 9) = true then some (.inl (w64 ((k : Int) + 1))) else if ((s[k].toNat : Int) == 13) = true then some (.inl (w64 ((k : Int) + 1))) else if ((s[k].toNat : Int) == 10) = true then some (.inl (w64 ((k : Int) + 1))) else some (.inr (.next (k : Int)))) = if isSpace s[k].toNat = true then some (.inl (w64 ((k : Int) + 1))) else some (.inr (.next (k : Int))) := by
              unfold isSpace
              have e1 : ((s[k].toNat : Int) == 32) = (s[k].toNat == 32) := by rw [Bool.eq_iff_iff, beq_iff_eq, beq_iff_eq]; omega
              have e2 : ((s[k].toNat : Int) == 9) = (s[k].toNat == 9) := by rw [Bool.eq_iff_iff, beq_iff_eq, beq_iff_eq]; omega
              have e3 : ((s[k].toNat : Int) == 13) = (s[k].toNat == 13) := by rw [Bool.eq_iff_iff, beq_iff_eq, beq_iff_eq]; omega
              have e4 : ((s[k].toNat : Int) == 10) = (s[k].toNat == 10) := by rw [Bool.eq_iff_iff, beq_iff_eq, beq_iff_eq]; omega
              rw [e1, e2, e3, e4]
              cases (s[k].toNat == 32) <;> cases (s[k].toNat == 9) <;> cases (s[k].toNat == 13) <;> cases (s[k].toNat == 10) <;> rfl
            rw [key]
            by_cases hsp : isSpace s[k].toNat = true
            · left
              simp only [hsp, if_true] at hr ⊢
              refine ⟨((k + 1 : Nat) : Int), by rw [w64_id (by omega) (by omega)]; rfl, ⟨k + 1, f, rfl, by omega, by omega, ?_⟩, by simp; omega⟩
              rw [hr, Nat.add_assoc]
            · right
              simp only [hsp, Bool.false_eq_true, if_false] at hr ⊢
              exact ⟨.next k, rfl, by rw [hr]; simp⟩
      · have : k = s.length := by omega
        subst this
        right
        refine ⟨.next s.length, by simp, ?_⟩
        have h0 : s.drop s.length = [] := by simp
        rw [h0] at hr
        have : gapL f [] = (0, true) := by cases f <;> rfl
        rw [this] at hr
        rw [hr]
        rfl) 0 ⟨0, s.length, rfl, Nat.zero_le _, by omega, by simp⟩
  unfold lex_between
  rw [h1]
  cases z with
  | next n => simp only [Option.bind_some, lex_between_k2, lex_between_j1]; exact congrArg some h2
  | done r => simp only [Option.bind_some]; exact congrArg some h2
end Go.Proofs.YtefeelcjokdchaaDoor

/- The lexer in plain Lean: the document's between. -/
set_option linter.unusedSectionVars false
namespace Go.Proofs.YtefeelcjokdchaaDoor
open Go Go.Cn

theorem ref03_line (s : List UInt8) (k : Nat) (hs : s.length < 4611686018427387904) (hk : k ≤ s.length) : iter (fun i => ref03_between_l4 s i) k = some ((k + runL (fun c => c != 10) (s.drop k) : Nat) : Int) := by
  obtain ⟨o, h1, h2⟩ := iter_ind (f := fun i => ref03_between_l4 s i) (fun i => ∃ j : Nat, i = j ∧ j ≤ s.length ∧ k + runL (fun c => c != 10) (s.drop k) = j + runL (fun c => c != 10) (s.drop j)) (fun o => o = ((k + runL (fun c => c != 10) (s.drop k) : Nat) : Int)) (fun i => s.length - i.toNat)
    (by
      rintro i ⟨j, rfl, hj, hr⟩
      unfold ref03_between_l4 ref03_between_j5
      rcases Nat.lt_or_ge j s.length with hlt | hge
      · rw [if_pos (by simpa using hlt), idxS_nat hlt]
        simp only [Option.bind_some]
        have hd : s.drop j = s[j] :: s.drop (j + 1) := by simp
        rw [hd] at hr
        simp only [runL] at hr
        by_cases hc : s[j].toNat = 10
        · right
          refine ⟨j, by simp [hc], ?_⟩
          rw [hr]
          simp [hc]
        · left
          have h1 : (s[j].toNat != 10) = true := by simpa using hc
          rw [if_pos h1] at hr
          refine ⟨((j + 1 : Nat) : Int), ?_, ⟨j + 1, rfl, hlt, by omega⟩, by simp; omega⟩
          rw [if_pos (by rw [bne_iff_ne]; omega), w64_id (by omega) (by omega)]
          rfl
      · have : j = s.length := by omega
        subst this
        right
        refine ⟨s.length, by simp, ?_⟩
        rw [hr, List.drop_eq_nil_of_le (Nat.le_refl _)]
        rfl) k ⟨k, rfl, hk, rfl⟩
  rw [h1, h2]

theorem endNote_cons (c : UInt8) (l : List UInt8) : endNote (c :: l) = if [42, 47].isPrefixOf (c :: l) then some 0 else (endNote l).map (· + 1) := rfl
theorem ref03_star (s : List UInt8) (m : Nat) (hs : s.length < 4611686018427387904) (hm : m ≤ s.length) : ∃ p : Nat, iter (fun i => ref03_between_l7 s i) m = some (p : Int) ∧ p ≤ s.length ∧ (match endNote (s.drop m) with | some j => p = m + j ∧ p + 1 < s.length | none => s.length ≤ p + 1) := by
  obtain ⟨o, h1, p, h2, h3, h4⟩ := iter_ind (f := fun i => ref03_between_l7 s i) (fun i => ∃ j : Nat, i = j ∧ j ≤ s.length ∧ m ≤ j ∧ endNote (s.drop m) = (endNote (s.drop j)).map (· + (j - m))) (fun o => ∃ p : Nat, o = p ∧ p ≤ s.length ∧ (match endNote (s.drop m) with | some j => p = m + j ∧ p + 1 < s.length | none => s.length ≤ p + 1)) (fun i => s.length - i.toNat)
    (by
      rintro i ⟨j, rfl, hj, hmj, hr⟩
      unfold ref03_between_l7 ref03_between_j8
      have hw : w64 ((j : Int) + 1) = ((j + 1 : Nat) : Int) := by rw [w64_id (by omega) (by omega)]; rfl
      rw [hw]
      rcases Nat.lt_or_ge (j + 1) s.length with hlt | hge
      · rw [if_pos (by simp; omega), idxS_nat (show j < s.length by omega), idxS_nat hlt]
        simp only [Option.bind_some]
        have hd : s.drop j = s[j] :: s[j + 1] :: s.drop (j + 2) := by
          rw [List.drop_eq_getElem_cons (by omega), List.drop_eq_getElem_cons (by omega)]
        have hd1 : s.drop (j + 1) = s[j + 1] :: s.drop (j + 2) := by rw [List.drop_eq_getElem_cons (by omega)]
        have hp : [42, 47].isPrefixOf (s.drop j) = (s[j] == 42 && s[j + 1] == 47) := by
          rw [hd]
          show ((42 : UInt8) == s[j] && ((47 : UInt8) == s[j + 1] && true)) = _
          rw [Bool.and_true, Bool.beq_comm (a := (42 : UInt8)), Bool.beq_comm (a := (47 : UInt8))]
        have hi1 : ((s[j].toNat : Int) != 42) = !(s[j] == 42) := by
          rw [Bool.eq_iff_iff, bne_iff_ne, Bool.not_eq_true', beq_eq_false_iff_ne, ne_eq, ne_eq, ← UInt8.toNat_inj]
          show ¬ _ ↔ ¬ s[j].toNat = 42
          omega
        have hi2 : ((s[j + 1].toNat : Int) != 47) = !(s[j + 1] == 47) := by
          rw [Bool.eq_iff_iff, bne_iff_ne, Bool.not_eq_true', beq_eq_false_iff_ne, ne_eq, ne_eq, ← UInt8.toNat_inj]
          show ¬ _ ↔ ¬ s[j + 1].toNat = 47
          omega
        rw [hi1, hi2]
        have hcons : endNote (s.drop j) = if (s[j] == 42 && s[j + 1] == 47) = true then some 0 else (endNote (s.drop (j + 1))).map (· + 1) := by
          rw [hd, endNote_cons, ← hd, hp, hd1]
        by_cases hstop : (s[j] == 42 && s[j + 1] == 47) = true
        · right
          rw [hcons, if_pos hstop] at hr
          simp only [Bool.and_eq_true] at hstop
          refine ⟨j, by simp [hstop.1, hstop.2], j, rfl, hj, ?_⟩
          rw [hr]
          simp only [Option.map_some]
          omega
        · left
          rw [hcons, if_neg hstop, Option.map_map] at hr
          refine ⟨((j + 1 : Nat) : Int), ?_, ⟨j + 1, rfl, by omega, by omega, ?_⟩, by simp; omega⟩
          · cases h1 : s[j] == 42 with
            | false => simp
            | true =>
              cases h2 : s[j + 1] == 47 with
              | false => simp
              | true => rw [h1, h2] at hstop; exact absurd rfl hstop
          · rw [hr]
            congr 1
            funext q
            simp only [Function.comp_def]
            omega
      · rw [if_neg (by simp; omega)]
        right
        refine ⟨j, by simp, j, rfl, hj, ?_⟩
        have : endNote (s.drop j) = none := by
          cases he : endNote (s.drop j) with
          | none => rfl
          | some q => have := endNote_le _ _ he; rw [List.length_drop] at this; omega
        rw [hr, this]
        exact hge) m ⟨m, rfl, hm, Nat.le_refl _, by cases endNote (s.drop m) <;> simp⟩
  exact ⟨p, by rw [h1, h2], h3, h4⟩
end Go.Proofs.YtefeelcjokdchaaDoor

/- The lexer's model: what stands between tokens, as a relation; tokens; whole texts. No program in sight. -/
set_option linter.unusedSectionVars false
namespace Go.Proofs.YtefeelcjokdchaaDoor
open Go Go.Cn

def nl : Nat → Bool := fun c => c != 10
/-- How much stands between tokens at a text's head, and whether the last note ends. -/
inductive GapR : List UInt8 → Nat → Bool → Prop
  | line (s k b) : [47, 47].isPrefixOf s = true → GapR (s.drop (runL nl s)) k b → GapR s (runL nl s + k) b
  | note (s j k b) : [47, 42].isPrefixOf s = true → endNote (s.drop 2) = some j → GapR (s.drop (j + 4)) k b → GapR s (j + 4 + k) b
  | left (s) : [47, 42].isPrefixOf s = true → endNote (s.drop 2) = none → GapR s 0 false
  | nil : GapR [] 0 true
  | space (c l k b) : isSpace c.toNat = true → GapR l k b → GapR (c :: l) (1 + k) b
  | stop (c l) : isSpace c.toNat = false → [47, 47].isPrefixOf (c :: l) = false → [47, 42].isPrefixOf (c :: l) = false → GapR (c :: l) 0 true

theorem pre2 {a b : UInt8} {s : List UInt8} : [a, b].isPrefixOf s = true ↔ ∃ l, s = a :: b :: l := by
  rw [List.isPrefixOf_iff_prefix]
  constructor
  · rintro ⟨t, rfl⟩; exact ⟨t, rfl⟩
  · rintro ⟨l, rfl⟩; exact ⟨l, rfl⟩
theorem pre2_false {a b : UInt8} {s : List UInt8} : [a, b].isPrefixOf s = false ↔ ∀ l, s ≠ a :: b :: l := by
  rw [Bool.eq_false_iff, ne_eq, pre2]
  exact ⟨fun h l e => h ⟨l, e⟩, fun h ⟨l, e⟩ => h l e⟩
theorem runL_nl_pos {s : List UInt8} (h : [47, 47].isPrefixOf s = true) : 0 < runL nl s := by
  obtain ⟨l, rfl⟩ := pre2.1 h
  simp [runL, nl]

theorem gap_rel : ∀ (f : Nat) (s : List UInt8), s.length ≤ f → GapR s (gapL f s).1 (gapL f s).2
  | 0, s, h => by
    obtain rfl : s = [] := List.eq_nil_of_length_eq_zero (by omega)
    exact .nil
  | f + 1, s, h => by
    rw [gapL_succ]
    by_cases h1 : [47, 47].isPrefixOf s = true
    · have hp := runL_nl_pos h1
      have hl : 2 ≤ s.length := (List.isPrefixOf_iff_prefix.1 h1).length_le
      rw [if_pos h1]
      exact .line s _ _ h1 (gap_rel f _ (by rw [List.length_drop]; unfold nl at hp ⊢; omega))
    · rw [if_neg h1]
      by_cases h2 : [47, 42].isPrefixOf s = true
      · rw [if_pos h2]
        cases he : endNote (s.drop 2) with
        | none => exact .left s h2 he
        | some j =>
          have hl : 2 ≤ s.length := (List.isPrefixOf_iff_prefix.1 h2).length_le
          exact .note s j _ _ h2 he (gap_rel f _ (by rw [List.length_drop]; omega))
      · rw [if_neg h2]
        match s, h with
        | [], _ => exact .nil
        | c :: l, h =>
          by_cases hs : isSpace c.toNat = true
          · simp only [hs, if_true]
            exact .space c l _ _ hs (gap_rel f l (by simpa using h))
          · simp only [hs, if_false, Bool.false_eq_true]
            exact .stop c l (eq_false_of_ne_true hs) (eq_false_of_ne_true h1) (eq_false_of_ne_true h2)
theorem space_not {c : UInt8} (h : isSpace c.toNat = true) : c ≠ 47 := by
  rintro rfl
  revert h
  decide
theorem rel_gap {s : List UInt8} {k : Nat} {b : Bool} (h : GapR s k b) : ∀ f, s.length ≤ f → gapL f s = (k, b) := by
  induction h with
  | line s k b h1 _ ih =>
    intro f hf
    have hp := runL_nl_pos h1
    have hl : 2 ≤ s.length := (List.isPrefixOf_iff_prefix.1 h1).length_le
    obtain ⟨f, rfl⟩ : ∃ f', f = f' + 1 := ⟨f - 1, by omega⟩
    have := ih f (by rw [List.length_drop]; omega)
    rw [gapL_succ, if_pos h1]
    unfold nl at this ⊢
    rw [this]
  | note s j k b h1 he _ ih =>
    intro f hf
    obtain ⟨l, rfl⟩ := pre2.1 h1
    obtain ⟨f, rfl⟩ : ∃ f', f = f' + 1 := ⟨f - 1, by simp at hf; omega⟩
    have := ih f (by simp at hf ⊢; omega)
    rw [gapL_succ, if_neg (by simp), if_pos h1, he]
    show (j + 4 + _, _) = _
    rw [this]
  | left s h1 he =>
    intro f hf
    obtain ⟨l, rfl⟩ := pre2.1 h1
    obtain ⟨f, rfl⟩ : ∃ f', f = f' + 1 := ⟨f - 1, by simp at hf; omega⟩
    rw [gapL_succ, if_neg (by simp), if_pos h1, he]
  | nil => intro f _; cases f <;> rfl
  | space c l k b hs _ ih =>
    intro f hf
    obtain ⟨f, rfl⟩ : ∃ f', f = f' + 1 := ⟨f - 1, by simp at hf; omega⟩
    have := ih f (by simpa using hf)
    have h1 := space_not hs
    have h1' : ¬ (47 : UInt8) = c := fun h => h1 h.symm
    rw [gapL_succ, if_neg (by simp [h1']), if_neg (by simp [h1'])]
    simp only [hs, if_true, this]
  | stop c l hs h1 h2 =>
    intro f hf
    obtain ⟨f, rfl⟩ : ∃ f', f = f' + 1 := ⟨f - 1, by simp at hf; omega⟩
    rw [gapL_succ, if_neg (by rw [h1]; simp), if_neg (by rw [h2]; simp)]
    simp only [hs, Bool.false_eq_true, if_false]
theorem gapR_le {s : List UInt8} {k : Nat} {b : Bool} (h : GapR s k b) : k ≤ s.length := by
  induction h with
  | line s k b h1 _ ih => have := runL_le nl s; rw [List.length_drop] at ih; omega
  | note s j k b h1 he _ ih => have := endNote_le _ _ he; rw [List.length_drop] at ih this; omega
  | left s _ _ => omega
  | nil => simp
  | space c l k b _ _ ih => simp; omega
  | stop => simp

theorem runL_take (p : Nat → Bool) : ∀ (s : List UInt8) (m : Nat), runL p (s.take m) = min m (runL p s)
  | [], m => by simp [runL]
  | c :: l, 0 => by simp [runL]
  | c :: l, m + 1 => by
    simp only [List.take_succ_cons, runL]
    split
    · rw [runL_take p l m]; omega
    · omega
theorem runL_append (p : Nat → Bool) : ∀ (s t : List UInt8), runL p s < s.length → runL p (s ++ t) = runL p s
  | [], t, h => by simp at h
  | c :: l, t, h => by
    simp only [List.cons_append, runL] at h ⊢
    split
    · rename_i hc
      rw [if_pos hc] at h
      rw [runL_append p l t (by simpa using h)]
    · rfl
theorem pre2_take {a b : UInt8} {s : List UInt8} {m : Nat} (hm : 2 ≤ m) (h : [a, b].isPrefixOf s = true) : [a, b].isPrefixOf (s.take m) = true := by
  obtain ⟨l, rfl⟩ := pre2.1 h
  obtain ⟨m, rfl⟩ : ∃ m', m = m' + 2 := ⟨m - 2, by omega⟩
  exact pre2.2 ⟨l.take m, rfl⟩
theorem pre_take_false {p s : List UInt8} {m : Nat} (h : p.isPrefixOf s = false) : p.isPrefixOf (s.take m) = false := by
  rw [Bool.eq_false_iff] at h ⊢
  exact fun h' => h (List.isPrefixOf_iff_prefix.2 ((List.isPrefixOf_iff_prefix.1 h').trans (List.take_prefix _ _)))
theorem endNote_take : ∀ (s : List UInt8) (j m : Nat), endNote s = some j → j + 2 ≤ m → endNote (s.take m) = some j
  | [], j, m, h, _ => by cases h
  | c :: l, j, m, h, hm => by
    obtain ⟨m, rfl⟩ : ∃ m', m = m' + 1 := ⟨m - 1, by omega⟩
    rw [endNote_cons] at h
    rw [List.take_succ_cons, endNote_cons]
    by_cases hp : [42, 47].isPrefixOf (c :: l) = true
    · rw [if_pos hp] at h
      have := pre2_take (m := m + 1) (by omega) hp
      rw [List.take_succ_cons] at this
      rw [if_pos this]
      exact h
    · rw [if_neg hp] at h
      have := pre_take_false (m := m + 1) (eq_false_of_ne_true hp)
      rw [List.take_succ_cons] at this
      rw [if_neg (by rw [this]; simp)]
      cases he : endNote l with
      | none => rw [he] at h; cases h
      | some q =>
        rw [he] at h
        obtain rfl : q + 1 = j := Option.some.inj h
        rw [endNote_take l q m he (by omega)]
        rfl
theorem endNote_append : ∀ (s t : List UInt8) (j : Nat), endNote s = some j → endNote (s ++ t) = some j
  | [], t, j, h => by cases h
  | c :: l, t, j, h => by
    have := endNote_le _ _ h
    rw [endNote_cons] at h
    rw [List.cons_append, endNote_cons]
    have hp : [42, 47].isPrefixOf (c :: (l ++ t)) = [42, 47].isPrefixOf (c :: l) := by
      match l, this with
      | d :: l, _ => simp [List.isPrefixOf]
    rw [hp]
    by_cases h1 : [42, 47].isPrefixOf (c :: l) = true
    · rw [if_pos h1] at h ⊢; exact h
    · rw [if_neg h1] at h ⊢
      cases he : endNote l with
      | none => rw [he] at h; cases h
      | some q =>
        rw [he] at h
        rw [endNote_append l t q he]
        exact h

/-- What stands between tokens, in a text that is cut behind it. -/
theorem gapR_take {s : List UInt8} {k : Nat} {b : Bool} (h : GapR s k b) : ∀ m, k ≤ m → (b = true ∨ m = k) → GapR (s.take m) k true := by
  induction h with
  | line s k b h1 _ ih =>
    intro m hm hb
    have hr := runL_nl_pos h1
    have hle := runL_le nl s
    have h2 : 2 ≤ runL nl s := by
      obtain ⟨l, rfl⟩ := pre2.1 h1
      simp [runL, nl]
    have := GapR.line (s.take m) k true (pre2_take (by omega) h1) (by
      rw [runL_take, Nat.min_eq_right (by omega), List.drop_take]
      exact ih _ (by omega) (hb.imp id fun h => by omega))
    rw [runL_take, Nat.min_eq_right (by omega)] at this
    exact this
  | note s j k b h1 he _ ih =>
    intro m hm hb
    have he2 := endNote_take _ _ (m - 2) he (by omega)
    rw [← List.drop_take] at he2
    exact .note (s.take m) j k true (pre2_take (by omega) h1) he2 (by
      rw [List.drop_take]
      exact ih _ (by omega) (hb.imp id fun h => by omega))
  | left s h1 he =>
    intro m hm hb
    obtain rfl : m = 0 := by rcases hb with h | h; cases h; exact h
    exact .nil
  | nil => intro m _ _; rw [List.take_nil]; exact .nil
  | space c l k b hs _ ih =>
    intro m hm hb
    obtain ⟨m, rfl⟩ : ∃ m', m = m' + 1 := ⟨m - 1, by omega⟩
    rw [List.take_succ_cons]
    exact .space c _ k true hs (ih m (by omega) (hb.imp id fun h => by omega))
  | stop c l hs h1 h2 =>
    intro m hm hb
    match m with
    | 0 => exact .nil
    | m + 1 =>
      have h3 := pre_take_false (m := m + 1) h1
      have h4 := pre_take_false (m := m + 1) h2
      rw [List.take_succ_cons] at h3 h4 ⊢
      exact .stop c _ hs h3 h4
/-- What stands between tokens stays so whatever comes behind the next token. -/
theorem gapR_append {s : List UInt8} {k : Nat} {b : Bool} (h : GapR s k b) (t : List UInt8) : b = true → k < s.length → (∀ c l, s.drop k = c :: l → c = 47 → l ≠ []) → GapR (s ++ t) k true := by
  induction h with
  | line s k b h1 hk ih =>
    intro hb hm hc
    have hle := gapR_le hk
    rw [List.length_drop] at hle
    have hr := runL_nl_pos h1
    have h2 : runL nl (s ++ t) = runL nl s := runL_append _ _ _ (by omega)
    have := GapR.line (s ++ t) k true (by obtain ⟨l, rfl⟩ := pre2.1 h1; exact pre2.2 ⟨l ++ t, rfl⟩) (by
      rw [h2, List.drop_append_of_le_length (by omega)]
      exact ih hb (by rw [List.length_drop]; omega) (by rw [List.drop_drop]; exact hc))
    rw [h2] at this
    exact this
  | note s j k b h1 he hk ih =>
    intro hb hm hc
    have hle := endNote_le _ _ he
    rw [List.length_drop] at hle
    have h2 : 2 ≤ s.length := (List.isPrefixOf_iff_prefix.1 h1).length_le
    exact .note (s ++ t) j k true (by obtain ⟨l, rfl⟩ := pre2.1 h1; exact pre2.2 ⟨l ++ t, rfl⟩) (by rw [List.drop_append_of_le_length h2]; exact endNote_append _ _ _ he) (by
      rw [List.drop_append_of_le_length (by omega)]
      exact ih hb (by rw [List.length_drop]; omega) (by rw [List.drop_drop]; exact hc))
  | left s h1 he => intro hb; cases hb
  | nil => intro _ hm; simp at hm
  | space c l k b hs hk ih =>
    intro hb hm hc
    exact .space c _ k true hs (ih hb (by simp at hm; omega) (by rw [Nat.add_comm, List.drop_succ_cons] at hc; exact hc))
  | stop c l hs h1 h2 =>
    intro _ _ hc
    have key : ∀ b : UInt8, [47, b].isPrefixOf (c :: l) = false → [47, b].isPrefixOf (c :: (l ++ t)) = false := by
      intro b h
      rw [pre2_false] at h ⊢
      intro q hq
      injection hq with e1 e2
      cases l with
      | nil => exact hc c [] rfl e1 rfl
      | cons d l =>
        rw [List.cons_append] at e2
        injection e2 with e3 e4
        exact h l (by rw [e1, e3])
    exact .stop c _ hs (key _ h1) (key _ h2)
/-- Behind the gap stands a token's first byte. -/
theorem gapR_next {s : List UInt8} {k : Nat} (h : GapR s k true) (hk : k < s.length) : ∃ c l, s.drop k = c :: l ∧ isSpace c.toNat = false ∧ [47, 47].isPrefixOf (c :: l) = false ∧ [47, 42].isPrefixOf (c :: l) = false := by
  have key : ∀ s k b, GapR s k b → b = true → k < s.length → ∃ c l, s.drop k = c :: l ∧ isSpace c.toNat = false ∧ [47, 47].isPrefixOf (c :: l) = false ∧ [47, 42].isPrefixOf (c :: l) = false := by
    intro s k b h
    induction h with
    | line s k b h1 hk ih =>
      intro hb hm
      have := ih hb (by rw [List.length_drop]; omega)
      rwa [List.drop_drop] at this
    | note s j k b h1 he hk ih =>
      intro hb hm
      have := ih hb (by rw [List.length_drop]; omega)
      rwa [List.drop_drop] at this
    | left s h1 he => intro hb; cases hb
    | nil => intro _ hm; simp at hm
    | space c l k b hs hk ih =>
      intro hb hm
      have := ih hb (by simp at hm; omega)
      rwa [Nat.add_comm, List.drop_succ_cons]
    | stop c l hs h1 h2 => intro _ _; exact ⟨c, l, rfl, hs, h1, h2⟩
  exact key s k true h rfl hk
end Go.Proofs.YtefeelcjokdchaaDoor

/- The lexer in plain Lean: the document's between comes to the same model. -/
set_option linter.unusedSectionVars false
namespace Go.Proofs.YtefeelcjokdchaaDoor
open Go Go.Cn

theorem itN {σ ω : Type} {f : σ → Option (σ ⊕ ω)} {s s' : σ} (h : f s = some (.inl s')) : iter f s = iter f s' := @iter_next noG _ _ _ _ _ h
theorem itD {σ ω : Type} {f : σ → Option (σ ⊕ ω)} {s : σ} {o : ω} (h : f s = some (.inr o)) : iter f s = some o := @iter_done noG _ _ _ _ _ h
theorem drop_cons {α : Type} {s l : List α} {k : Nat} {c : α} (h : s.drop k = c :: l) : k < s.length ∧ s[k]? = some c ∧ s.drop (k + 1) = l := by
  have h1 : k < s.length := by
    have := congrArg List.length h
    simp at this
    omega
  refine ⟨h1, ?_, ?_⟩
  · have : (s.drop k)[0]? = some c := by rw [h]; rfl
    rwa [List.getElem?_drop, Nat.add_zero] at this
  · rw [← List.drop_drop, h]
    rfl
theorem idxS_drop {s l : List UInt8} {k : Nat} {c : UInt8} (h : s.drop k = c :: l) : idxS s k = some (c.toNat : Int) := by
  obtain ⟨h1, h2, _⟩ := drop_cons h
  rw [idxS_nat h1]
  rw [List.getElem?_eq_getElem h1] at h2
  rw [Option.some.inj h2]
theorem idx_drop {α : Type} {s l : List α} {k : Nat} {c : α} (h : s.drop k = c :: l) : idx s k = some c := by
  obtain ⟨h1, h2, _⟩ := drop_cons h
  rw [idx_nat h1]
  rw [List.getElem?_eq_getElem h1] at h2
  rw [Option.some.inj h2]
theorem w64_add {a b : Nat} (h : a + b ≤ 9223372036854775807) : w64 ((a : Int) + (b : Int)) = ((a + b : Nat) : Int) := by rw [w64_id (by omega) (by omega)]; rfl
theorem w64_one {a : Nat} (h : a + 1 ≤ 9223372036854775807) : w64 ((a : Int) + 1) = ((a + 1 : Nat) : Int) := w64_add (b := 1) h
theorem byte_ne {c : UInt8} {n : Nat} (hn : n < 256) (h : c ≠ n.toUInt8) : ¬ (c.toNat : Int) = n := by
  intro h'
  apply h
  apply UInt8.toNat_inj.1
  rw [Nat.toUInt8, UInt8.toNat_ofNat', Nat.mod_eq_of_lt hn]
  omega

theorem ref03_between_loop (s : List UInt8) (hs : s.length < 4611686018427387904) {t : List UInt8} {n : Nat} {b : Bool} (h : GapR t n b) : ∀ k : Nat, k ≤ s.length → s.drop k = t → ∃ z, iter (fun i => ref03_between_l2 s i) (k : Int) = some z ∧ (match z with | .next n => (n, true) | .done r => r) = (((k + n : Nat) : Int), b) := by
  induction h with
  | line t n b h1 _ ih =>
    intro k hk hd
    obtain ⟨l, rfl⟩ := pre2.1 h1
    obtain ⟨hk1, _, hd1⟩ := drop_cons hd
    obtain ⟨hk2, _, _⟩ := drop_cons hd1
    have hl := ref03_line s k hs hk
    rw [hd] at hl
    have hr := runL_le nl (47 :: 47 :: l)
    rw [← hd, List.length_drop, hd] at hr
    have : ref03_between_l2 s k = some (.inl ((k + runL nl (47 :: 47 :: l) : Nat) : Int)) := by
      unfold ref03_between_l2
      rw [if_pos (by simpa using hk1), idxS_drop hd]
      simp only [Option.bind_some, ref03_between_j10, w64_one (show k + 1 ≤ 9223372036854775807 by omega), idxS_drop hd1]
      rw [if_neg (by decide), if_neg (by decide), if_neg (by decide), if_neg (by decide), if_neg (by simp; omega), if_neg (by decide), if_neg (by decide)]
      simp only [ref03_between_j9, w64_one (show k + 1 ≤ 9223372036854775807 by omega), idxS_drop hd1, Option.bind_some, Bool.false_eq_true, if_false]
      rw [if_pos (by decide), hl]
      rfl
    obtain ⟨z, hz, hq⟩ := ih (k + runL nl (47 :: 47 :: l)) (by omega) (by rw [← List.drop_drop, hd])
    exact ⟨z, by rw [itN this]; exact hz, by rw [hq, Nat.add_assoc]⟩
  | note t j n b h1 he _ ih =>
    intro k hk hd
    obtain ⟨l, rfl⟩ := pre2.1 h1
    obtain ⟨hk1, _, hd1⟩ := drop_cons hd
    obtain ⟨hk2, _, hd2⟩ := drop_cons hd1
    obtain ⟨p, hp1, hp2, hp3⟩ := ref03_star s (k + 2) hs (by omega)
    have he' : endNote (s.drop (k + 2)) = some j := by rw [hd2]; exact he
    rw [he'] at hp3
    obtain ⟨rfl, hp4⟩ := hp3
    have : ref03_between_l2 s k = some (.inl ((k + (j + 4) : Nat) : Int)) := by
      unfold ref03_between_l2
      rw [if_pos (by simpa using hk1), idxS_drop hd]
      simp only [Option.bind_some, ref03_between_j10, w64_one (show k + 1 ≤ 9223372036854775807 by omega), idxS_drop hd1]
      rw [if_neg (by decide), if_neg (by decide), if_neg (by decide), if_neg (by decide), if_neg (by simp; omega), if_neg (by decide), if_pos (by decide)]
      simp only [ref03_between_j9, w64_one (show k + 1 ≤ 9223372036854775807 by omega), idxS_drop hd1, Option.bind_some, Bool.false_eq_true, if_false]
      rw [if_neg (by decide), if_neg (by decide)]
      have hw : w64 ((k : Int) + 2) = ((k + 2 : Nat) : Int) := w64_add (b := 2) (by omega)
      rw [hw, hp1]
      simp only [Option.bind_some, ref03_between_k6]
      rw [w64_one (by omega), if_neg (by simp; omega)]
      have hw : w64 (((k + 2 + j : Nat) : Int) + 2) = ((k + 2 + j + 2 : Nat) : Int) := w64_add (b := 2) (by omega)
      rw [hw, show k + 2 + j + 2 = k + (j + 4) by omega]
    obtain ⟨z, hz, hq⟩ := ih (k + (j + 4)) (by omega) (by rw [← List.drop_drop, hd])
    exact ⟨z, by rw [itN this]; exact hz, by rw [hq, Nat.add_assoc]⟩
  | left t h1 he =>
    intro k hk hd
    obtain ⟨l, rfl⟩ := pre2.1 h1
    obtain ⟨hk1, _, hd1⟩ := drop_cons hd
    obtain ⟨hk2, _, hd2⟩ := drop_cons hd1
    obtain ⟨p, hp1, hp2, hp3⟩ := ref03_star s (k + 2) hs (by omega)
    have he' : endNote (s.drop (k + 2)) = none := by rw [hd2]; exact he
    rw [he'] at hp3
    have hp3 : s.length ≤ p + 1 := hp3
    have : ref03_between_l2 s k = some (.inr (.done ((k : Int), false))) := by
      unfold ref03_between_l2
      rw [if_pos (by simpa using hk1), idxS_drop hd]
      simp only [Option.bind_some, ref03_between_j10, w64_one (show k + 1 ≤ 9223372036854775807 by omega), idxS_drop hd1]
      rw [if_neg (by decide), if_neg (by decide), if_neg (by decide), if_neg (by decide), if_neg (by simp; omega), if_neg (by decide), if_pos (by decide)]
      simp only [ref03_between_j9, w64_one (show k + 1 ≤ 9223372036854775807 by omega), idxS_drop hd1, Option.bind_some, Bool.false_eq_true, if_false]
      rw [if_neg (by decide), if_neg (by decide)]
      have hw : w64 ((k : Int) + 2) = ((k + 2 : Nat) : Int) := w64_add (b := 2) (by omega)
      rw [hw, hp1]
      simp only [Option.bind_some, ref03_between_k6]
      rw [w64_one (by omega), if_pos (by simp; omega)]
    exact ⟨_, itD this, rfl⟩
  | nil =>
    intro k hk hd
    have : s.length ≤ k := List.drop_eq_nil_iff.1 hd
    exact ⟨.next k, itD (by unfold ref03_between_l2; rw [if_neg (by simp; omega)]), rfl⟩
  | space c l n b hc _ ih =>
    intro k hk hd
    obtain ⟨hk1, _, hd1⟩ := drop_cons hd
    have : ref03_between_l2 s k = some (.inl ((k + 1 : Nat) : Int)) := by
      unfold ref03_between_l2
      rw [if_pos (by simpa using hk1), idxS_drop hd]
      simp only [Option.bind_some, ref03_between_j10, w64_one (show k + 1 ≤ 9223372036854775807 by omega)]
      simp only [isSpace, Bool.or_eq_true, beq_iff_eq] at hc
      rcases hc with ((hc | hc) | hc) | hc <;> rw [hc] <;> rfl
    obtain ⟨z, hz, hq⟩ := ih (k + 1) (by omega) hd1
    exact ⟨z, by rw [itN this]; exact hz, by rw [hq, Nat.add_assoc]⟩
  | stop c l hc h1 h2 =>
    intro k hk hd
    obtain ⟨hk1, _, hd1⟩ := drop_cons hd
    have : ref03_between_l2 s k = some (.inr (.done ((k : Int), true))) := by
      unfold ref03_between_l2
      rw [if_pos (by simpa using hk1), idxS_drop hd]
      simp only [isSpace, Bool.or_eq_false_iff, beq_eq_false_iff_ne, ne_eq] at hc
      obtain ⟨⟨⟨e1, e2⟩, e3⟩, e4⟩ := hc
      have b1 : ¬ ((c.toNat : Int) == 32) = true := by rw [beq_iff_eq]; omega
      have b2 : ¬ ((c.toNat : Int) == 9) = true := by rw [beq_iff_eq]; omega
      have b3 : ((c.toNat : Int) == 13) = false := by rw [beq_eq_false_iff_ne]; omega
      have b4 : ¬ ((c.toNat : Int) == 10) = true := by rw [beq_iff_eq]; omega
      simp only [Option.bind_some]
      rw [if_neg b1, if_neg b2, if_neg b4, b3]
      simp only [ref03_between_j10, w64_one (show k + 1 ≤ 9223372036854775807 by omega), Bool.false_eq_true, if_false]
      match l, hd, hd1 with
      | [], hd, hd1 =>
        have : s.length ≤ k + 1 := List.drop_eq_nil_iff.1 hd1
        rw [if_pos (by simp; omega)]
        rfl
      | d :: l, hd, hd1 =>
        obtain ⟨hk2, _, _⟩ := drop_cons hd1
        rw [if_neg (by simp; omega)]
        by_cases e : c = 47
        · subst e
          rw [pre2_false] at h1 h2
          have n1 : d ≠ 47 := fun h => h1 l (by rw [h])
          have n2 : d ≠ 42 := fun h => h2 l (by rw [h])
          rw [if_neg (by decide), idxS_drop hd1]
          simp only [Option.bind_some]
          have m1 := byte_ne (n := 47) (by decide) n1
          have m2 := byte_ne (n := 42) (by decide) n2
          rw [if_pos (by rw [bne_iff_ne]; exact m1), show ((d.toNat : Int) != 42) = true by rw [bne_iff_ne]; exact m2]
          rfl
        · have m := byte_ne (n := 47) (by decide) e
          rw [if_pos (by rw [bne_iff_ne]; exact m)]
          rfl
    exact ⟨_, itD this, rfl⟩

theorem ref03_between_eq (s : List UInt8) (a : Nat) (hs : s.length < 4611686018427387904) (ha : a ≤ s.length) {n : Nat} {b : Bool} (h : GapR (s.drop a) n b) : ref03_between s a = some (((a + n : Nat) : Int), b) := by
  obtain ⟨z, h1, h2⟩ := ref03_between_loop s hs h a ha rfl
  unfold ref03_between
  rw [h1]
  cases z with
  | next n => simp only [Option.bind_some, ref03_between_k1]; exact congrArg some h2
  | done r => simp only [Option.bind_some]; exact congrArg some h2
end Go.Proofs.YtefeelcjokdchaaDoor

/- The lexer's model: one token; whole texts. No program in sight. -/
set_option linter.unusedSectionVars false
namespace Go.Proofs.YtefeelcjokdchaaDoor
open Go Go.Cn

/-- The token at a text's head: its kind, its length, or an error. -/
def tokL : List UInt8 → Nat × Nat × Nat
  | [] => (0, 0, 30)
  | c :: l =>
    if isDigit c.toNat then
      if decide (valL 0 ((c :: l).take (runL isDigit (c :: l))) > 2147483647) || (decide (runL isDigit (c :: l) > 1) && c == 48) then (0, 0, 31) else (2, runL isDigit (c :: l), 0)
    else if isLetter c.toNat then
      if runL isWord (c :: l) > 20 then (0, 0, 2) else if kept.contains ((c :: l).take (runL isWord (c :: l))) then (3, runL isWord (c :: l), 0) else (1, runL isWord (c :: l), 0)
    else if markL (c :: l) = 0 then (0, 0, 30) else (4, markL (c :: l), 0)

theorem tokL_cons (c : UInt8) (l : List UInt8) : tokL (c :: l) =
    if isDigit c.toNat then
      if decide (valL 0 ((c :: l).take (runL isDigit (c :: l))) > 2147483647) || (decide (runL isDigit (c :: l) > 1) && c == 48) then (0, 0, 31) else (2, runL isDigit (c :: l), 0)
    else if isLetter c.toNat then
      if runL isWord (c :: l) > 20 then (0, 0, 2) else if kept.contains ((c :: l).take (runL isWord (c :: l))) then (3, runL isWord (c :: l), 0) else (1, runL isWord (c :: l), 0)
    else if markL (c :: l) = 0 then (0, 0, 30) else (4, markL (c :: l), 0) := rfl
theorem markL_le (s : List UInt8) : markL s ≤ s.length := by
  unfold markL
  by_cases h : twos.any (fun t => t.isPrefixOf s) = true
  · rw [if_pos h]
    obtain ⟨t, ht, hp⟩ := List.any_eq_true.1 h
    have := (List.isPrefixOf_iff_prefix.1 hp).length_le
    rw [two_len t ht] at this
    exact this
  · rw [if_neg h]
    cases s with
    | nil => simp
    | cons c l => simp only [List.length_cons]; split <;> omega
theorem tokL_len {s : List UInt8} {k n : Nat} (h : tokL s = (k, n, 0)) : 0 < n ∧ n ≤ s.length ∧ k ≠ 0 ∧ k ≠ 5 := by
  cases s with
  | nil => cases h
  | cons c l =>
    rw [tokL_cons] at h
    split at h
    · rename_i hd
      split at h
      · cases h
      · cases h
        exact ⟨by simp [runL, hd], runL_le _ _, by decide, by decide⟩
    · split at h
      · rename_i hl
        split at h
        · cases h
        · have hw : 0 < runL isWord (c :: l) := by simp [runL, isWord, hl]
          split at h <;> (cases h; exact ⟨hw, runL_le _ _, by decide, by decide⟩)
      · split at h
        · cases h
        · cases h
          exact ⟨by omega, markL_le _, by decide, by decide⟩
theorem tokL_err {s : List UInt8} (h : (tokL s).2.2 ≠ 0) : (tokL s).1 = 0 ∧ (tokL s).2.1 = 0 := by
  revert h
  cases s with
  | nil => exact fun _ => ⟨rfl, rfl⟩
  | cons c l =>
    rw [tokL_cons]
    split
    · split
      · exact fun _ => ⟨rfl, rfl⟩
      · exact fun h => absurd rfl h
    · split
      · split
        · exact fun _ => ⟨rfl, rfl⟩
        · split <;> exact fun h => absurd rfl h
      · split
        · exact fun _ => ⟨rfl, rfl⟩
        · exact fun h => absurd rfl h

/-- A text's tokens, or where it has none, and why. -/
def lexL : Nat → Nat → List UInt8 → List ApiToken × Nat × Nat
  | 0, _, _ => ([], 0, 0)
  | f + 1, a, s =>
    if (gapL s.length s).2 = false then ([], a + (gapL s.length s).1, 32)
    else if (gapL s.length s).1 = s.length then ([⟨5, [], ((a + s.length : Nat) : Int), s⟩], 0, 0)
    else if (tokL (s.drop (gapL s.length s).1)).2.2 ≠ 0 then ([], a + (gapL s.length s).1, (tokL (s.drop (gapL s.length s).1)).2.2)
    else
      let k := (gapL s.length s).1
      let t := tokL (s.drop k)
      let r := lexL f (a + k + t.2.1) (s.drop (k + t.2.1))
      if r.2.2 ≠ 0 then r else (⟨t.1, (s.drop k).take t.2.1, ((a + k : Nat) : Int), s.take k⟩ :: r.1, 0, 0)

/-- What a text's tokens are, as a relation. -/
inductive LexR : Nat → List UInt8 → List ApiToken → Nat → Nat → Prop
  | note (a s k) : GapR s k false → LexR a s [] (a + k) 32
  | fin (a s) : GapR s s.length true → LexR a s [⟨5, [], ((a + s.length : Nat) : Int), s⟩] 0 0
  | bad (a s k e) : GapR s k true → k < s.length → tokL (s.drop k) = (0, 0, e) → e ≠ 0 → LexR a s [] (a + k) e
  | tok (a s k d n l) : GapR s k true → k < s.length → tokL (s.drop k) = (d, n, 0) → LexR (a + k + n) (s.drop (k + n)) l 0 0 → LexR a s (⟨d, (s.drop k).take n, ((a + k : Nat) : Int), s.take k⟩ :: l) 0 0
  | later (a s k d n p e) : GapR s k true → k < s.length → tokL (s.drop k) = (d, n, 0) → LexR (a + k + n) (s.drop (k + n)) [] p e → e ≠ 0 → LexR a s [] p e

theorem lexL_rel : ∀ (f a : Nat) (s : List UInt8), s.length < f → LexR a s (lexL f a s).1 (lexL f a s).2.1 (lexL f a s).2.2
  | 0, a, s, h => by omega
  | f + 1, a, s, h => by
    have hg := gap_rel s.length s (Nat.le_refl _)
    unfold lexL
    cases h0 : gapL s.length s with
    | mk k b =>
    rw [h0] at hg
    simp only at hg ⊢
    cases b with
    | false => exact .note a s k hg
    | true =>
      have hk := gapR_le hg
      simp only [Bool.true_eq_false, if_false]
      by_cases h1 : k = s.length
      · rw [if_pos h1]
        subst h1
        exact .fin a s hg
      · rw [if_neg h1]
        cases ht : tokL (s.drop k) with
        | mk d r =>
        obtain ⟨n, e⟩ := r
        simp only
        by_cases he : e = 0
        · subst he
          simp only [ne_eq, not_true_eq_false, if_false]
          obtain ⟨hn, hn2, _, _⟩ := tokL_len ht
          have ih := lexL_rel f (a + k + n) (s.drop (k + n)) (by rw [List.length_drop]; omega)
          generalize lexL f (a + k + n) (s.drop (k + n)) = r at ih ⊢
          obtain ⟨l, p, e⟩ := r
          simp only at ih ⊢
          by_cases he : e = 0
          · subst he
            simp only [not_true_eq_false, if_false]
            obtain rfl : p = 0 := by cases ih <;> first | rfl | contradiction
            exact .tok a s k d n l hg (by omega) ht ih
          · simp only [he, not_false_eq_true, if_true]
            obtain rfl : l = [] := by cases ih <;> first | rfl | contradiction
            exact .later a s k d n p e hg (by omega) ht ih he
        · rw [if_pos he]
          have := tokL_err (s := s.drop k) (by rw [ht]; exact he)
          rw [ht] at this
          obtain ⟨rfl, rfl⟩ : d = 0 ∧ n = 0 := this
          exact .bad a s k e hg (by omega) ht he

theorem rel_lexL {a : Nat} {s : List UInt8} {l : List ApiToken} {p e : Nat} (h : LexR a s l p e) : ∀ f, s.length < f → lexL f a s = (l, p, e) := by
  induction h with
  | note a s k hg =>
    intro f hf
    obtain ⟨f, rfl⟩ : ∃ f', f = f' + 1 := ⟨f - 1, by omega⟩
    unfold lexL
    rw [rel_gap hg _ (Nat.le_refl _), if_pos rfl]
  | fin a s hg =>
    intro f hf
    obtain ⟨f, rfl⟩ : ∃ f', f = f' + 1 := ⟨f - 1, by omega⟩
    unfold lexL
    rw [rel_gap hg _ (Nat.le_refl _), if_neg (by simp), if_pos rfl]
  | bad a s k e hg hk ht he =>
    intro f hf
    obtain ⟨f, rfl⟩ : ∃ f', f = f' + 1 := ⟨f - 1, by omega⟩
    unfold lexL
    rw [rel_gap hg _ (Nat.le_refl _), if_neg (by simp), if_neg (by simp only; omega)]
    simp only [ht]
    rw [if_pos he]
  | tok a s k d n l hg hk ht _ ih =>
    intro f hf
    obtain ⟨f, rfl⟩ : ∃ f', f = f' + 1 := ⟨f - 1, by omega⟩
    obtain ⟨hn, hn2, _, _⟩ := tokL_len ht
    have ih := ih f (by rw [List.length_drop]; omega)
    unfold lexL
    rw [rel_gap hg _ (Nat.le_refl _), if_neg (by simp), if_neg (by simp only; omega)]
    simp only [ht, ih, ne_eq, not_true_eq_false, if_false]
  | later a s k d n p e hg hk ht _ he ih =>
    intro f hf
    obtain ⟨f, rfl⟩ : ∃ f', f = f' + 1 := ⟨f - 1, by omega⟩
    obtain ⟨hn, hn2, _, _⟩ := tokL_len ht
    have ih := ih f (by rw [List.length_drop]; omega)
    unfold lexL
    rw [rel_gap hg _ (Nat.le_refl _), if_neg (by simp), if_neg (by simp only; omega)]
    simp only [ht, ih, ne_eq, not_true_eq_false, if_false, he, not_false_eq_true, if_true]

/-- A whole text's tokens. -/
def lexM (s : List UInt8) : List ApiToken × Nat × Nat := lexL (s.length + 1) 0 s
theorem lexM_rel (s : List UInt8) : LexR 0 s (lexM s).1 (lexM s).2.1 (lexM s).2.2 := lexL_rel _ _ _ (Nat.lt_succ_self _)
theorem rel_lexM {s : List UInt8} {l : List ApiToken} {p e : Nat} (h : LexR 0 s l p e) : lexM s = (l, p, e) := rel_lexL h _ (Nat.lt_succ_self _)
end Go.Proofs.YtefeelcjokdchaaDoor

/- The lexer in plain Lean: both tokens come to the model. -/
set_option linter.unusedSectionVars false
namespace Go.Proofs.YtefeelcjokdchaaDoor
open Go Go.Cn

theorem runL_all (p : Nat → Bool) : ∀ s : List UInt8, ∀ c ∈ s.take (runL p s), p c.toNat = true
  | [], c, h => by simp [runL] at h
  | d :: l, c, h => by
    simp only [runL] at h
    split at h
    · rename_i hd
      rw [List.take_succ_cons, List.mem_cons] at h
      rcases h with rfl | h
      · exact hd
      · exact runL_all p l c h
    · simp at h
def tokI (s : List UInt8) : Int × Int × Int := (((tokL s).1 : Int), ((tokL s).2.1 : Int), ((tokL s).2.2 : Int))

theorem lex_token_eq (c : UInt8) (l : List UInt8) (hs : (c :: l).length < 281474976710656) : lex_token (c :: l) = some (tokI (c :: l)) := by
  have h0 : idxS (c :: l) 0 = some (c.toNat : Int) := rfl
  unfold lex_token
  simp only [h0, Option.bind_some, lex_digit_eq, lex_letter_eq]
  unfold tokI
  rw [tokL_cons]
  cases hd : isDigit c.toNat with
  | true =>
    simp only [if_true]
    have hle := runL_le isDigit (c :: l)
    have hpos : 0 < runL isDigit (c :: l) := by simp [runL, hd]
    rw [lex_run_eq lex_digit_eq (by omega)]
    simp only [Option.bind_some]
    have hall := runL_all isDigit (c :: l)
    generalize runL isDigit (c :: l) = n at hle hpos hall ⊢
    rw [sub_all (by omega) (by omega) (by omega)]
    simp only [Option.bind_some, Int.toNat_natCast, Int.toNat_zero, List.drop_zero]
    have htk : (c :: l).take n = c :: l.take (n - 1) := by
      obtain ⟨n, rfl⟩ : ∃ n', n = n' + 1 := ⟨n - 1, by omega⟩
      rfl
    rw [htk] at hall ⊢
    obtain ⟨x, e, h1, h2⟩ := parseInt_eq c (l.take (n - 1)) hall (by rw [← htk, List.length_take]; omega)
    rw [h1]
    simp only [Option.bind_some, lex_token_j1]
    rw [← h2]
    cases e with
    | true => simp
    | false =>
      have hn : decide ((n : Int) > 1) = decide (n > 1) := by rw [decide_eq_decide]; omega
      have hc : ((c.toNat : Int) == 48) = (c == 48) := by
        rw [Bool.eq_iff_iff, beq_iff_eq, beq_iff_eq, ← UInt8.toNat_inj]
        show _ ↔ c.toNat = 48
        omega
      rw [hn, hc]
      cases decide (x > 2147483647) with
      | true => simp
      | false =>
        cases decide (n > 1) with
        | false => simp
        | true =>
          cases c == 48 with
          | true => simp
          | false => simp
  | false =>
    simp only [Bool.false_eq_true, if_false]
    cases hl : isLetter c.toNat with
    | true =>
      simp only [if_true]
      have hle := runL_le isWord (c :: l)
      rw [lex_run_eq lex_token_1_eq (by omega)]
      simp only [Option.bind_some]
      generalize runL isWord (c :: l) = n at hle ⊢
      by_cases h20 : n > 20
      · rw [if_pos (by simp; omega), if_pos h20]; rfl
      · rw [if_neg (by simp; omega), if_neg h20, sub_all (by omega) (by omega) (by omega)]
        simp only [Option.bind_some, Int.toNat_natCast, Int.toNat_zero, List.drop_zero, lex_Kept_eq]
        by_cases hk : kept.contains ((c :: l).take n) = true
        · rw [if_pos hk, if_pos hk]; rfl
        · rw [if_neg hk, if_neg hk]; rfl
    | false =>
      simp only [Bool.false_eq_true, if_false, lex_mark_eq, Option.bind_some]
      by_cases hm : markL (c :: l) = 0
      · rw [hm]; rfl
      · rw [if_neg (by rw [beq_iff_eq]; omega), if_neg hm]; rfl

theorem valL_pow : ∀ (l : List UInt8) (a : Nat), a * 10 ^ l.length ≤ valL a l
  | [], a => by simp [valL]
  | c :: l, a => by
    rw [valL_cons]
    have h1 := valL_pow l (10 * a + (c.toNat - 48))
    have h2 : a * 10 ^ (l.length + 1) ≤ (10 * a + (c.toNat - 48)) * 10 ^ l.length := by
      rw [Nat.pow_succ, Nat.mul_comm (10 ^ l.length) 10, ← Nat.mul_assoc, Nat.mul_comm a 10]
      exact Nat.mul_le_mul_right _ (Nat.le_add_right _ _)
    exact Nat.le_trans h2 h1
theorem great_long {c : UInt8} {l : List UInt8} (hd : isDigit c.toNat = true) (h : (c :: l).length > 10) (h0 : c ≠ 48) : valL 0 (c :: l) > 2147483647 := by
  rw [valL_cons]
  simp only [isDigit, Bool.and_eq_true, decide_eq_true_eq] at hd
  have hne : c.toNat ≠ 48 := fun h => h0 (UInt8.toNat_inj.1 h)
  have h1 := valL_pow l (10 * 0 + (c.toNat - 48))
  have h2 : 10 ^ 10 ≤ 10 ^ l.length := Nat.pow_le_pow_right (by decide) (by simp at h; omega)
  have h3 : 1 * 10 ^ l.length ≤ (10 * 0 + (c.toNat - 48)) * 10 ^ l.length := Nat.mul_le_mul_right _ (by omega)
  omega

theorem ref03_token_digits (s : List UInt8) (a : Nat) (hs : s.length < 4611686018427387904) (ha : a ≤ s.length) : iter (fun i => ref03_token_l3 a s i) 0 = some (runL isDigit (s.drop a) : Int) := by
  obtain ⟨o, h1, h2⟩ := iter_ind (f := fun i => ref03_token_l3 a s i) (fun i => ∃ k : Nat, i = k ∧ a + k ≤ s.length ∧ runL isDigit (s.drop a) = k + runL isDigit (s.drop (a + k))) (fun o => o = (runL isDigit (s.drop a) : Int)) (fun i => s.length - i.toNat)
    (by
      rintro i ⟨k, rfl, hk, hr⟩
      unfold ref03_token_l3 ref03_token_j4
      rw [w64_add (by omega)]
      rcases Nat.lt_or_ge (a + k) s.length with hlt | hge
      · rw [if_pos (by simp; omega), idxS_nat hlt]
        simp only [Option.bind_some, ref03_digit_eq]
        rw [List.drop_eq_getElem_cons hlt] at hr
        simp only [runL] at hr
        cases hp : isDigit s[a + k].toNat with
        | true =>
          left
          rw [hp] at hr
          exact ⟨((k + 1 : Nat) : Int), by rw [w64_one (by omega)]; rfl, ⟨k + 1, rfl, by omega, by rw [hr, if_pos rfl, ← Nat.add_assoc a k 1]; omega⟩, by simp; omega⟩
        | false =>
          right
          rw [hp] at hr
          exact ⟨k, rfl, by rw [hr]; simp⟩
      · rw [if_neg (by simp; omega)]
        right
        refine ⟨k, rfl, ?_⟩
        rw [hr, List.drop_eq_nil_of_le (by omega)]
        rfl) 0 ⟨0, rfl, by omega, by simp⟩
  rw [h1, h2]
theorem ref03_token_words (s : List UInt8) (a : Nat) (hs : s.length < 4611686018427387904) (ha : a ≤ s.length) : iter (fun i => ref03_token_l6 a s i) 0 = some (runL isWord (s.drop a) : Int) := by
  obtain ⟨o, h1, h2⟩ := iter_ind (f := fun i => ref03_token_l6 a s i) (fun i => ∃ k : Nat, i = k ∧ a + k ≤ s.length ∧ runL isWord (s.drop a) = k + runL isWord (s.drop (a + k))) (fun o => o = (runL isWord (s.drop a) : Int)) (fun i => s.length - i.toNat)
    (by
      rintro i ⟨k, rfl, hk, hr⟩
      unfold ref03_token_l6 ref03_token_j7
      rw [w64_add (by omega)]
      rcases Nat.lt_or_ge (a + k) s.length with hlt | hge
      · rw [if_pos (by simp; omega), idxS_nat hlt]
        simp only [Option.bind_some, ref03_digit_eq, ref03_letter_eq]
        rw [List.drop_eq_getElem_cons hlt] at hr
        simp only [runL] at hr
        have key : (if isLetter s[a + k].toNat = true then (if True then some (.inl (w64 ((k : Int) + 1))) else some (.inr (k : Int))) else if isDigit s[a + k].toNat = true then some (.inl (w64 ((k : Int) + 1))) else some (.inr (k : Int)) : Option (Int ⊕ Int)) = if isWord s[a + k].toNat = true then some (.inl (w64 ((k : Int) + 1))) else some (.inr (k : Int)) := by
          unfold isWord
          cases isLetter s[a + k].toNat <;> cases isDigit s[a + k].toNat <;> simp
        rw [key]
        cases hp : isWord s[a + k].toNat with
        | true =>
          left
          rw [hp] at hr
          exact ⟨((k + 1 : Nat) : Int), by rw [w64_one (by omega)]; rfl, ⟨k + 1, rfl, by omega, by rw [hr, if_pos rfl, ← Nat.add_assoc a k 1]; omega⟩, by simp; omega⟩
        | false =>
          right
          rw [hp] at hr
          exact ⟨k, rfl, by rw [hr]; simp⟩
      · rw [if_neg (by simp; omega)]
        right
        refine ⟨k, rfl, ?_⟩
        rw [hr, List.drop_eq_nil_of_le (by omega)]
        rfl) 0 ⟨0, rfl, by omega, by simp⟩
  rw [h1, h2]
theorem sub_drop {s : List UInt8} {a n : Nat} (h : a + n ≤ s.length) : sub s a ((a + n : Nat) : Int) = some ((s.drop a).take n) := by
  rw [sub_all (by omega) (by omega) (by omega), Int.toNat_natCast, Int.toNat_natCast, List.drop_take]
  congr 2
  omega

theorem ref03_token_eq (s : List UInt8) (a : Nat) (c : UInt8) (l : List UInt8) (hs : s.length < 4611686018427387904) (hd : s.drop a = c :: l) : ref03_token s a = some (tokI (c :: l)) := by
  obtain ⟨ha, _, _⟩ := drop_cons hd
  have hlen : (c :: l).length = s.length - a := by rw [← hd, List.length_drop]
  unfold ref03_token
  rw [idxS_drop hd]
  simp only [Option.bind_some, ref03_digit_eq, ref03_letter_eq]
  unfold tokI
  rw [tokL_cons]
  cases hdg : isDigit c.toNat with
  | true =>
    simp only [if_true]
    rw [ref03_token_digits s a hs (by omega), hd]
    have hle := runL_le isDigit (c :: l)
    have hpos : 0 < runL isDigit (c :: l) := by simp [runL, hdg]
    have hall := runL_all isDigit (c :: l)
    generalize runL isDigit (c :: l) = n at hle hpos hall ⊢
    simp only [Option.bind_some, ref03_token_k2, w64_add (show a + n ≤ 9223372036854775807 by omega)]
    rw [sub_drop (by omega), hd]
    simp only [Option.bind_some]
    rw [ref03_great_eq _ hall]
    simp only [Option.bind_some, ref03_token_j1, idxS_drop hd]
    have htl : ((c :: l).take n).length = n := by rw [List.length_take]; omega
    have htk : (c :: l).take n = c :: l.take (n - 1) := by
      obtain ⟨n, rfl⟩ : ∃ n', n = n' + 1 := ⟨n - 1, by omega⟩
      rfl
    have hn : decide ((n : Int) > 1) = decide (n > 1) := by rw [decide_eq_decide]; omega
    have hc : ((c.toNat : Int) == 48) = (c == 48) := by
      rw [Bool.eq_iff_iff, beq_iff_eq, beq_iff_eq, ← UInt8.toNat_inj]
      show _ ↔ c.toNat = 48
      omega
    rw [hn, hc, htl]
    have hlong : decide (n > 10) = true → (c == 48) = false → decide (valL 0 ((c :: l).take n) > 2147483647) = true := by
      intro h1 h2
      rw [decide_eq_true_eq] at h1 ⊢
      rw [htk] at htl ⊢
      exact great_long hdg (by rw [htl]; exact h1) (by simpa using h2)
    have hn1 : decide (n > 10) = true → decide (n > 1) = true := by simp only [decide_eq_true_eq]; omega
    revert hlong hn1
    cases decide (n > 10) <;> cases c == 48 <;> cases decide (valL 0 ((c :: l).take n) > 2147483647) <;> cases decide (n > 1) <;> simp
  | false =>
    simp only [Bool.false_eq_true, if_false]
    cases hl : isLetter c.toNat with
    | true =>
      simp only [if_true]
      rw [ref03_token_words s a hs (by omega), hd]
      have hle := runL_le isWord (c :: l)
      generalize runL isWord (c :: l) = n at hle ⊢
      simp only [Option.bind_some, ref03_token_k5, w64_add (show a + n ≤ 9223372036854775807 by omega)]
      by_cases h20 : n > 20
      · rw [if_pos (by simp; omega), if_pos h20]; rfl
      · rw [if_neg (by simp; omega), if_neg h20, sub_drop (by omega), hd]
        simp only [Option.bind_some, ref03_Kept_eq]
        by_cases hk : kept.contains ((c :: l).take n) = true
        · rw [if_pos hk, if_pos hk]; rfl
        · rw [if_neg hk, if_neg hk]; rfl
    | false =>
      simp only [Bool.false_eq_true, if_false]
      rw [ref03_mark_eq s a hs ha, hd]
      simp only [Option.bind_some]
      by_cases hm : markL (c :: l) = 0
      · rw [hm]; rfl
      · rw [if_neg (by rw [beq_iff_eq]; omega), if_neg hm]; rfl
end Go.Proofs.YtefeelcjokdchaaDoor

/- The lexer's model: tokens put together are the text; texts that are cut, or go on; texts with one space between. No program in sight. -/
set_option linter.unusedSectionVars false
namespace Go.Proofs.YtefeelcjokdchaaDoor
open Go Go.Cn

/-- Each token stands where it is told to, and the last one is the end. -/
def backL : Nat → List UInt8 → List ApiToken → Prop
  | _, _, [] => False
  | a, s, t :: l => t.At = ((a + t.Lead.length : Nat) : Int) ∧ ∃ s', s = t.Lead ++ t.Text ++ s' ∧
    ((l = [] ∧ t.Kind = 5 ∧ t.Text = [] ∧ s' = []) ∨ (l ≠ [] ∧ t.Kind ≠ 5 ∧ t.Text ≠ [] ∧ backL (a + t.Lead.length + t.Text.length) s' l))
theorem lexR_back {a : Nat} {s : List UInt8} {l : List ApiToken} {p e : Nat} (h : LexR a s l p e) : e = 0 → p = 0 ∧ l ≠ [] ∧ backL a s l := by
  induction h with
  | note a s k hg => intro h; cases h
  | fin a s hg => exact fun _ => ⟨rfl, by simp, rfl, [], by simp, .inl ⟨rfl, rfl, rfl, rfl⟩⟩
  | bad a s k e hg hk ht he => exact fun h => absurd h he
  | tok a s k d n l hg hk ht _ ih =>
    intro _
    obtain ⟨_, hl, hb⟩ := ih rfl
    obtain ⟨hn, hn2, h0, h5⟩ := tokL_len ht
    rw [List.length_drop] at hn2
    refine ⟨rfl, by simp, ?_, s.drop (k + n), ?_, .inr ⟨hl, ?_, ?_, ?_⟩⟩
    · simp only [List.length_take]; rw [Nat.min_eq_left (by omega)]
    · rw [← List.drop_drop, List.append_assoc, List.take_append_drop, List.take_append_drop]
    · simp only; omega
    · intro h
      have := congrArg List.length h
      simp only [List.length_take, List.length_drop, List.length_nil] at this
      omega
    · simp only [List.length_take, List.length_drop]
      rw [Nat.min_eq_left (by omega), Nat.min_eq_left (by omega)]
      exact hb
  | later a s k d n p e hg hk ht _ he ih => exact fun h => absurd h he
theorem backL_unlex : ∀ (l : List ApiToken) (a : Nat) (s : List UInt8), backL a s l → unlexL l = s
  | [], _, _, h => h.elim
  | t :: l, a, s, ⟨_, s', hs, h⟩ => by
    rcases h with ⟨rfl, _, ht, rfl⟩ | ⟨_, _, _, h⟩
    · rw [hs]; simp [unlexL]
    · rw [hs]; simp only [unlexL]; rw [backL_unlex l _ _ h]
theorem lexR_err {a : Nat} {s : List UInt8} {l : List ApiToken} {p e : Nat} (h : LexR a s l p e) : e ≠ 0 → l = [] ∧ a ≤ p ∧ p ≤ a + s.length := by
  induction h with
  | note a s k hg => intro _; have := gapR_le hg; exact ⟨rfl, by omega, by omega⟩
  | fin a s hg => exact fun h => absurd rfl h
  | bad a s k e hg hk ht he => exact fun _ => ⟨rfl, by omega, by omega⟩
  | tok a s k d n l hg hk ht _ ih => exact fun h => absurd rfl h
  | later a s k d n p e hg hk ht _ he ih =>
    intro _
    obtain ⟨_, h1, h2⟩ := ih he
    obtain ⟨hn, hn2, h0, h5⟩ := tokL_len ht
    rw [List.length_drop] at h2 hn2
    exact ⟨rfl, by omega, by omega⟩

/-- A mark's length is told by its first two bytes. -/
theorem markL_cons (c : UInt8) (l : List UInt8) : markL (c :: l) = if twos.any (fun t => t.isPrefixOf (c :: l)) then 2 else if ones.contains c then 1 else 0 := rfl
theorem twos_eq (s : List UInt8) (h : 2 ≤ s.length) (t : List UInt8) : twos.any (fun x => x.isPrefixOf (s.take 2 ++ t)) = twos.any (fun x => x.isPrefixOf s) := by
  match s, h with
  | a :: b :: l, _ => simp [twos, List.isPrefixOf]
theorem twos_one (c d : UInt8) (l : List UInt8) : twos.any (fun x => x.isPrefixOf (c :: d :: l)) = twos.any (fun x => x.isPrefixOf [c, d]) := by simp [twos, List.isPrefixOf]
theorem twos_short (c : UInt8) : twos.any (fun x => x.isPrefixOf [c]) = false := by simp [twos, List.isPrefixOf]
theorem twos_space (c d : UInt8) (l : List UInt8) (hd : isSpace d.toNat = true) : twos.any (fun x => x.isPrefixOf (c :: d :: l)) = false := by
  rw [Bool.eq_false_iff]
  intro h
  simp only [twos, List.any_cons, List.isPrefixOf, List.any_nil, Bool.and_true, Bool.or_false, Bool.or_eq_true, Bool.and_eq_true, beq_iff_eq] at h
  rcases h with ⟨_, h⟩ | ⟨_, h⟩ | ⟨_, h⟩ | ⟨_, h⟩ | ⟨_, h⟩ | ⟨_, h⟩ <;> (subst h; revert hd; decide)

/-- A token, in a text that is cut behind it. -/
theorem tokL_take {s : List UInt8} {k n m : Nat} (h : tokL s = (k, n, 0)) (hm : n ≤ m) : tokL (s.take m) = (k, n, 0) := by
  obtain ⟨hn, hn2, _, _⟩ := tokL_len h
  obtain ⟨m, rfl⟩ : ∃ m', m = m' + 1 := ⟨m - 1, by omega⟩
  cases s with
  | nil => cases h
  | cons c l =>
    rw [List.take_succ_cons]
    rw [tokL_cons] at h ⊢
    have hr : ∀ p, runL p (c :: l) ≤ m + 1 → runL p (c :: l.take m) = runL p (c :: l) := fun p hp => by
      have := runL_take p (c :: l) (m + 1)
      rw [List.take_succ_cons] at this
      rw [this, Nat.min_eq_right hp]
    have ht : ∀ j, j ≤ m + 1 → (c :: l.take m).take j = (c :: l).take j := fun j hj => by
      have : (c :: l.take m) = (c :: l).take (m + 1) := rfl
      rw [this, List.take_take, Nat.min_eq_left hj]
    split at h
    · rename_i hd
      rw [if_pos hd]
      split at h
      · cases h
      · rename_i h1
        cases h
        rw [hr _ hm, ht _ hm, if_neg h1]
    · rename_i hd
      rw [if_neg hd]
      split at h
      · rename_i hl
        rw [if_pos hl]
        split at h
        · cases h
        · rename_i h1
          split at h
          · rename_i h2; cases h; rw [hr _ hm, ht _ hm, if_neg h1, if_pos h2]
          · rename_i h2; cases h; rw [hr _ hm, ht _ hm, if_neg h1, if_neg h2]
      · rename_i hl
        rw [if_neg hl]
        split at h
        · cases h
        · rename_i h1
          cases h
          have : markL (c :: l.take m) = markL (c :: l) := by
            match l, m with
            | [], m => rw [List.take_nil]
            | d :: l, 0 =>
              have h2 : markL (c :: d :: l) ≤ 1 := by simpa using hm
              simp only [List.take_zero, markL_cons, twos_short, Bool.false_eq_true, if_false] at h2 ⊢
              by_cases h3 : twos.any (fun x => x.isPrefixOf (c :: d :: l)) = true
              · rw [if_pos h3] at h2; omega
              · rw [if_neg h3]
            | d :: l, m + 1 =>
              rw [List.take_succ_cons, markL_cons, markL_cons, twos_one, twos_one c d l]
          rw [this, if_neg h1]
/-- A token stays so where more stands behind it than it has, whatever comes then. -/
theorem tokL_append {s : List UInt8} {k n : Nat} (h : tokL s = (k, n, 0)) (hn : n < s.length) (t : List UInt8) : tokL (s ++ t) = (k, n, 0) := by
  cases s with
  | nil => cases h
  | cons c l =>
    rw [List.cons_append]
    rw [tokL_cons] at h ⊢
    have hr : ∀ p, runL p (c :: l) < (c :: l).length → runL p (c :: (l ++ t)) = runL p (c :: l) := fun p hp => by
      have := runL_append p (c :: l) t hp
      rwa [List.cons_append] at this
    have ht : ∀ j, j < (c :: l).length → (c :: (l ++ t)).take j = (c :: l).take j := fun j hj => by
      have : (c :: (l ++ t)) = (c :: l) ++ t := rfl
      rw [this, List.take_append_of_le_length (by omega)]
    split at h
    · rename_i hd
      rw [if_pos hd]
      split at h
      · cases h
      · rename_i h1
        cases h
        rw [hr _ hn, ht _ hn, if_neg h1]
    · rename_i hd
      rw [if_neg hd]
      split at h
      · rename_i hl
        rw [if_pos hl]
        split at h
        · cases h
        · rename_i h1
          split at h
          · rename_i h2; cases h; rw [hr _ hn, ht _ hn, if_neg h1, if_pos h2]
          · rename_i h2; cases h; rw [hr _ hn, ht _ hn, if_neg h1, if_neg h2]
      · rename_i hl
        rw [if_neg hl]
        split at h
        · cases h
        · rename_i h1
          cases h
          have : markL (c :: (l ++ t)) = markL (c :: l) := by
            match l, hn with
            | [], hn =>
              simp only [List.length_cons, List.length_nil] at hn
              omega
            | d :: l, _ => rw [List.cons_append, markL_cons, markL_cons, twos_one, twos_one c d l]
          rw [this, if_neg h1]
theorem word_space {d : UInt8} (h : isSpace d.toNat = true) : isWord d.toNat = false ∧ isDigit d.toNat = false := by
  have key : ∀ n : Fin 256, isSpace n.1 = true → isWord n.1 = false ∧ isDigit n.1 = false := by decide +kernel
  exact key ⟨d.toNat, d.toNat_lt⟩ h
/-- A token is one wherever something stands behind it that is no part of any. -/
theorem tokL_space {s : List UInt8} {k n : Nat} (h : tokL s = (k, n, 0)) (d : UInt8) (hd : isSpace d.toNat = true) (t : List UInt8) : tokL (s.take n ++ d :: t) = (k, n, 0) := by
  obtain ⟨hn, hn2, _, _⟩ := tokL_len h
  have h1 := tokL_take h (Nat.le_refl n)
  have hl : (s.take n).length = n := by rw [List.length_take]; omega
  generalize s.take n = u at h1 hl
  obtain ⟨hw, hg⟩ := word_space hd
  cases u with
  | nil => cases h1
  | cons c l =>
    rw [List.cons_append]
    rw [tokL_cons] at h1 ⊢
    have hr : ∀ p, p d.toNat = false → ∀ q, runL p (q ++ d :: t) = runL p q := fun p hp q => by
      induction q with
      | nil => simp [runL, hp]
      | cons c q ih => simp only [List.cons_append, runL, ih]
    have ht : ∀ j, j ≤ (c :: l).length → (c :: (l ++ d :: t)).take j = (c :: l).take j := fun j hj => by
      have : (c :: (l ++ d :: t)) = (c :: l) ++ d :: t := rfl
      rw [this, List.take_append_of_le_length hj]
    have hr1 := hr isDigit hg (c :: l)
    have hr2 := hr isWord hw (c :: l)
    rw [List.cons_append] at hr1 hr2
    rw [hr1, hr2, ht _ (runL_le _ _), ht _ (runL_le _ _)]
    have : markL (c :: (l ++ d :: t)) = if twos.any (fun t => t.isPrefixOf (c :: l)) ∨ l ≠ [] then markL (c :: l) else markL (c :: l) := by
      rw [ite_self]
      match l with
      | [] => rw [List.nil_append, markL_cons, markL_cons, twos_space c d t hd, twos_short]
      | e :: l => rw [List.cons_append, markL_cons, markL_cons, twos_one, twos_one c e l]
    rw [ite_self] at this
    rw [this]
    exact h1
/-- A text that is cut where it has no token has the tokens ahead of that. -/
theorem lexR_cut {a : Nat} {s : List UInt8} {l : List ApiToken} {p e : Nat} (h : LexR a s l p e) : e ≠ 0 → ∃ l', LexR a (s.take (p - a)) l' 0 0 ∧ l' ≠ [] := by
  induction h with
  | note a s k hg =>
    intro _
    have := gapR_take hg k (Nat.le_refl _) (.inr rfl)
    have hl : (s.take k).length = k := by have := gapR_le hg; rw [List.length_take]; omega
    rw [show a + k - a = k by omega]
    exact ⟨_, .fin a (s.take k) (by rw [hl]; exact this), by simp⟩
  | fin a s hg => exact fun h => absurd rfl h
  | bad a s k e hg hk ht he =>
    intro _
    have := gapR_take hg k (Nat.le_refl _) (.inr rfl)
    have hl : (s.take k).length = k := by have := gapR_le hg; rw [List.length_take]; omega
    rw [show a + k - a = k by omega]
    exact ⟨_, .fin a (s.take k) (by rw [hl]; exact this), by simp⟩
  | tok a s k d n l hg hk ht _ ih => exact fun h => absurd rfl h
  | later a s k d n p e hg hk ht hr he ih =>
    intro _
    obtain ⟨l', h1, h2⟩ := ih he
    obtain ⟨_, hp, hp2⟩ := lexR_err hr he
    obtain ⟨hn, hn2, h0, h5⟩ := tokL_len ht
    rw [List.length_drop] at hn2 hp2
    have hg2 := gapR_take hg (p - a) (by omega) (.inl rfl)
    have ht2 := tokL_take (m := p - a - k) ht (by omega)
    rw [← List.drop_take] at ht2
    rw [show p - (a + k + n) = p - a - (k + n) by omega, ← List.drop_take] at h1
    exact ⟨_, .tok a (s.take (p - a)) k d n l' hg2 (by rw [List.length_take]; omega) ht2 h1, by simp⟩
theorem tokL_bad {c : UInt8} {l : List UInt8} : tokL (c :: l) = (0, 0, 30) ↔ isDigit c.toNat = false ∧ isLetter c.toNat = false ∧ markL (c :: l) = 0 := by
  rw [tokL_cons]
  cases isDigit c.toNat with
  | true =>
    simp only [if_true]
    split <;> simp
  | false =>
    cases isLetter c.toNat with
    | true =>
      simp only [if_true, Bool.false_eq_true, if_false]
      split
      · simp
      · split <;> simp
    | false =>
      simp only [Bool.false_eq_true, if_false]
      by_cases h : markL (c :: l) = 0
      · simp [h]
      · simp [h]
theorem markL_zero {c : UInt8} {l : List UInt8} (h : markL (c :: l) = 0) (h1 : c ≠ 38) (h2 : c ≠ 124) (l' : List UInt8) : markL (c :: l') = 0 ∧ c ≠ 47 := by
  rw [markL_cons] at h
  have h3 : ones.contains c = false := by
    by_cases h3 : ones.contains c = true
    · rw [h3] at h; split at h <;> simp at h
    · simpa using h3
  have h4 : twos.any (fun x => x.isPrefixOf (c :: l')) = false := by
    rw [Bool.eq_false_iff]
    intro h
    simp only [twos, List.any_cons, List.isPrefixOf, List.any_nil, Bool.or_false, Bool.or_eq_true, Bool.and_eq_true, beq_iff_eq] at h
    rcases h with ⟨h, _⟩ | ⟨h, _⟩ | ⟨h, _⟩ | ⟨h, _⟩ | ⟨h, _⟩ | ⟨h, _⟩ <;> subst h <;> first | exact absurd rfl h1 | exact absurd rfl h2 | (revert h3; decide)
  refine ⟨by rw [markL_cons, h4, h3]; rfl, ?_⟩
  rintro rfl
  revert h3
  decide
/-- Where a byte begins nothing, it does whatever comes behind the text. -/
theorem lexR_on {a : Nat} {s : List UInt8} {l : List ApiToken} {p e : Nat} (h : LexR a s l p e) (t : List UInt8) : e = 30 → (∀ c q, s.drop (p - a) = c :: q → c ≠ 38 ∧ c ≠ 124) → p < a + s.length ∧ LexR a (s ++ t) [] p 30 := by
  induction h with
  | note a s k hg => intro h; cases h
  | fin a s hg => intro h; cases h
  | bad a s k e hg hk ht he =>
    rintro rfl hc
    rw [show a + k - a = k by omega] at hc
    refine ⟨by omega, ?_⟩
    cases hd : s.drop k with
    | nil => have := congrArg List.length hd; simp at this; omega
    | cons c q =>
      obtain ⟨h1, h2⟩ := hc c q hd
      rw [hd] at ht
      obtain ⟨h3, h4, h5⟩ := tokL_bad.1 ht
      obtain ⟨h6, h7⟩ := markL_zero h5 h1 h2 (q ++ t)
      refine .bad a (s ++ t) k 30 (gapR_append hg t rfl hk ?_) (by rw [List.length_append]; omega) ?_ (by decide)
      · intro c' l' he hc'
        rw [hd] at he
        injection he with e1 e2
        subst e1
        exact absurd hc' h7
      · rw [List.drop_append_of_le_length (by omega), hd, List.cons_append]
        exact tokL_bad.2 ⟨h3, h4, h6⟩
  | tok a s k d n l hg hk ht _ ih => intro h; cases h
  | later a s k d n p e hg hk ht hr he ih =>
    rintro rfl hc
    obtain ⟨_, hp, hp2⟩ := lexR_err hr he
    obtain ⟨hn, hn2, h0, h5⟩ := tokL_len ht
    rw [List.length_drop] at hn2 hp2
    obtain ⟨h1, h2⟩ := ih rfl (by rw [List.drop_drop, show k + n + (p - (a + k + n)) = p - a by omega]; exact hc)
    rw [List.length_drop] at h1
    refine ⟨by omega, .later a (s ++ t) k d n p 30 (gapR_append hg t rfl hk ?_) (by rw [List.length_append]; omega) ?_ ?_ (by decide)⟩
    · intro c q hd _ hq
      subst hq
      have := congrArg List.length hd
      simp at this
      omega
    · rw [List.drop_append_of_le_length (by omega)]
      exact tokL_append ht (by rw [List.length_drop]; omega) t
    · rw [List.drop_append_of_le_length (by omega)]
      exact h2
end Go.Proofs.YtefeelcjokdchaaDoor

/- The lexer's model: tokens with one space between are the same tokens. No program in sight. -/
set_option linter.unusedSectionVars false
namespace Go.Proofs.YtefeelcjokdchaaDoor
open Go Go.Cn

def spacedL : List ApiToken → List UInt8
  | [] => []
  | t :: l => 32 :: (t.Text ++ spacedL l)
def sameL : List ApiToken → List ApiToken → Prop
  | [], [] => True
  | t :: l, u :: m => u.Kind = t.Kind ∧ u.Text = t.Text ∧ u.Lead = [32] ∧ sameL l m
  | _, _ => False
theorem lexR_spaced {a : Nat} {s : List UInt8} {l : List ApiToken} {p e : Nat} (h : LexR a s l p e) : e = 0 → l ≠ [] ∧ ∀ b, ∃ m, LexR b (spacedL l) m 0 0 ∧ sameL l m := by
  induction h with
  | note a s k hg => intro h; cases h
  | fin a s hg =>
    refine fun _ => ⟨by simp, fun b => ⟨_, .fin b [32] (.space 32 [] 0 true (by decide) .nil), rfl, rfl, rfl, trivial⟩⟩
  | bad a s k e hg hk ht he => exact fun h => absurd h he
  | tok a s k d n l hg hk ht _ ih =>
    refine fun _ => ⟨by simp, fun b => ?_⟩
    obtain ⟨hl, ih⟩ := ih rfl
    obtain ⟨m, h1, h2⟩ := ih (b + 1 + n)
    obtain ⟨hn, hn2, h0, h5⟩ := tokL_len ht
    obtain ⟨c, q, hd, hs, hp1, hp2⟩ := gapR_next hg hk
    obtain ⟨r, hr⟩ : ∃ r, spacedL l = 32 :: r := by
      cases l with
      | nil => exact absurd rfl hl
      | cons t l => exact ⟨_, rfl⟩
    have ht2 := tokL_space ht 32 (by decide) r
    rw [← hr] at ht2
    have hlen : ((s.drop k).take n).length = n := by rw [List.length_take]; omega
    have hg2 : GapR (spacedL (⟨d, (s.drop k).take n, ((a + k : Nat) : Int), s.take k⟩ :: l)) 1 true := by
      refine .space 32 _ 0 true (by decide) ?_
      rw [hd, hr]
      obtain ⟨n, rfl⟩ : ∃ n', n = n' + 1 := ⟨n - 1, by omega⟩
      rw [List.take_succ_cons, List.cons_append]
      have key : ∀ x : UInt8, x ≠ 32 → [47, x].isPrefixOf (c :: q) = false → [47, x].isPrefixOf (c :: (q.take n ++ 32 :: r)) = false := by
        intro x hx h
        rw [pre2_false] at h ⊢
        intro y hy
        injection hy with e1 e2
        match n, q with
        | 0, q =>
          rw [List.take_zero, List.nil_append] at e2
          injection e2 with e3 e4
          exact hx e3.symm
        | n + 1, [] =>
          rw [List.take_nil, List.nil_append] at e2
          injection e2 with e3 e4
          exact hx e3.symm
        | n + 1, z :: q =>
          rw [List.take_succ_cons, List.cons_append] at e2
          injection e2 with e3 e4
          exact h q (by rw [e1, e3])
      exact .stop c _ hs (key 47 (by decide) hp1) (key 42 (by decide) hp2)
    have h3 := LexR.tok b (spacedL (⟨d, (s.drop k).take n, ((a + k : Nat) : Int), s.take k⟩ :: l)) 1 d n m hg2 (by simp only [spacedL, List.length_cons, List.length_append]; omega) ht2 (by
      have e : (spacedL (⟨d, (s.drop k).take n, ((a + k : Nat) : Int), s.take k⟩ :: l)).drop (1 + n) = spacedL l := by
        simp only [spacedL]
        rw [Nat.add_comm, List.drop_succ_cons, List.drop_append_of_le_length (by omega), List.drop_eq_nil_of_le (by omega), List.nil_append]
      rw [e]
      exact h1)
    refine ⟨_, h3, rfl, ?_, rfl, h2⟩
    show ((s.drop k).take n ++ spacedL l).take n = (s.drop k).take n
    rw [List.take_append_of_le_length (by omega), List.take_of_length_le (by omega)]
  | later a s k d n p e hg hk ht hr he ih => exact fun h => absurd h he
end Go.Proofs.YtefeelcjokdchaaDoor

/- The lexer in plain Lean: both lexers come to the model. -/
set_option linter.unusedSectionVars false
namespace Go.Proofs.YtefeelcjokdchaaDoor
open Go Go.Cn

def lexI (s : List UInt8) : List ApiToken × Int × Int := ((lexM s).1, ((lexM s).2.1 : Int), ((lexM s).2.2 : Int))
theorem app_one {l : List ApiToken} {t : ApiToken} (h : l.length ≤ 1048576) : app 48 l [t] = some (l ++ [t]) := by
  unfold app
  rw [if_pos ⟨by simp only [List.length_cons, List.length_nil]; omega, by simp only [List.length_cons, List.length_nil]; omega⟩]
theorem lex_between_rel {s : List UInt8} {k : Nat} {b : Bool} (h : GapR s k b) (hs : s.length ≤ 1048576) : lex_between s = some ((k : Int), b) := by
  rw [lex_between_eq s (by omega), rel_gap h _ (Nat.le_refl _)]
theorem drop_some {α : Type} {s : List α} {k : Nat} (h : k < s.length) : ∃ c l, s.drop k = c :: l := ⟨_, _, List.drop_eq_getElem_cons h⟩

theorem lex_Lex_1_eq (d k n a : Nat) (out : List ApiToken) (x : List UInt8) (hx : x.length ≤ 1048576) (h : a + k + n ≤ x.length) (ho : out.length ≤ a) : lex_Lex_1 (d : Int) (k : Int) (n : Int) out x (a : Int) = some (out ++ [⟨d, ((x.drop a).drop k).take n, ((a + k : Nat) : Int), (x.drop a).take k⟩], x, ((a + k + n : Nat) : Int)) := by
  unfold lex_Lex_1
  rw [w64_add (by omega), w64_add (by omega), sub_drop (s := x) (by omega), sub_drop (s := x) (by omega)]
  simp only [Option.bind_some]
  rw [app_one (by omega)]
  simp only [Option.bind_some, lex_Lex_1_j1]
  rw [w64_add (by omega), w64_add (by omega), List.drop_drop, Nat.add_assoc]

theorem lex_Lex_loop (x : List UInt8) (hx : x.length ≤ 1048576) {a : Nat} {s : List UInt8} {l : List ApiToken} {p e : Nat} (h : LexR a s l p e) : ∀ out : List ApiToken, a ≤ x.length → s = x.drop a → out.length ≤ a → iter (fun s => lex_Lex_l1 s.1 s.2.1 s.2.2) (x, (a : Int), out) = some (if e = 0 then out ++ l else [], (p : Int), (e : Int)) := by
  have start : ∀ a : Nat, a ≤ x.length → sub x a (x.length : Int) = some (x.drop a) := fun a h => sub_from h
  induction h with
  | note a s k hg =>
    rintro out ha rfl ho
    have hle := gapR_le hg
    rw [List.length_drop] at hle
    refine itD ?_
    show lex_Lex_l1 x a out = _
    unfold lex_Lex_l1
    rw [start a ha]
    simp only [Option.bind_some, lex_between_rel hg (by rw [List.length_drop]; omega)]
    rw [if_pos (by simp)]
    unfold lex_Lex_j2
    rw [w64_add (by omega)]
    rfl
  | fin a s hg =>
    rintro out ha rfl ho
    refine itD ?_
    show lex_Lex_l1 x a out = _
    unfold lex_Lex_l1
    rw [start a ha]
    simp only [Option.bind_some, lex_between_rel hg (by rw [List.length_drop]; omega)]
    have hl : a + (x.drop a).length = x.length := by rw [List.length_drop]; omega
    rw [if_neg (by simp), w64_add (by omega), hl, if_pos (by simp)]
    have := lex_Lex_1_eq 5 (x.drop a).length 0 a out x hx (by omega) ho
    have e5 : ((5 : Nat) : Int) = 5 := rfl
    have e0 : ((0 : Nat) : Int) = 0 := rfl
    rw [e5, e0] at this
    rw [this]
    simp only [Option.bind_some, hl]
    rw [List.take_of_length_le (Nat.le_refl _), List.take_zero]
    rfl
  | bad a s k e hg hk ht he =>
    rintro out ha rfl ho
    have hk2 : a + k < x.length := by rw [List.length_drop] at hk; omega
    refine itD ?_
    show lex_Lex_l1 x a out = _
    unfold lex_Lex_l1
    rw [start a ha]
    simp only [Option.bind_some, lex_between_rel hg (by rw [List.length_drop]; omega)]
    rw [if_neg (by simp), w64_add (by omega), if_neg (by rw [beq_iff_eq]; omega), start (a + k) (by omega)]
    rw [List.drop_drop] at ht
    obtain ⟨c, l, hd⟩ := drop_some hk2
    have hlen := congrArg List.length hd
    rw [List.length_drop] at hlen
    rw [hd] at ht ⊢
    simp only [Option.bind_some, lex_token_eq c l (by omega), tokI, ht]
    rw [if_pos (by rw [bne_iff_ne]; omega), if_neg he]
    unfold lex_Lex_j3
    rw [w64_add (by omega)]
  | tok a s k d n l hg hk ht _ ih =>
    rintro out ha rfl ho
    have hk2 : a + k < x.length := by rw [List.length_drop] at hk; omega
    obtain ⟨hn, hn2, _, _⟩ := tokL_len ht
    rw [List.length_drop, List.length_drop] at hn2
    have := ih (out ++ [⟨d, ((x.drop a).drop k).take n, ((a + k : Nat) : Int), (x.drop a).take k⟩]) (by omega) (by rw [List.drop_drop, Nat.add_assoc]) (by rw [List.length_append, List.length_cons, List.length_nil]; omega)
    rw [itN (s' := (x, ((a + k + n : Nat) : Int), out ++ [⟨d, ((x.drop a).drop k).take n, ((a + k : Nat) : Int), (x.drop a).take k⟩]))]
    · rw [this, if_pos rfl, if_pos rfl, List.append_assoc]
      rfl
    · show lex_Lex_l1 x a out = _
      unfold lex_Lex_l1
      rw [start a ha]
      simp only [Option.bind_some, lex_between_rel hg (by rw [List.length_drop]; omega)]
      rw [if_neg (by simp), w64_add (by omega), if_neg (by rw [beq_iff_eq]; omega), start (a + k) (by omega)]
      rw [List.drop_drop] at ht
      obtain ⟨c, q, hd⟩ := drop_some hk2
      have hlen := congrArg List.length hd
      rw [List.length_drop] at hlen
      rw [hd] at ht ⊢
      simp only [Option.bind_some, lex_token_eq c q (by omega), tokI, ht]
      rw [if_neg (by simp), lex_Lex_1_eq d k n a out x hx (by omega) ho]
      rfl
  | later a s k d n p e hg hk ht _ he ih =>
    rintro out ha rfl ho
    have hk2 : a + k < x.length := by rw [List.length_drop] at hk; omega
    obtain ⟨hn, hn2, _, _⟩ := tokL_len ht
    rw [List.length_drop, List.length_drop] at hn2
    have := ih (out ++ [⟨d, ((x.drop a).drop k).take n, ((a + k : Nat) : Int), (x.drop a).take k⟩]) (by omega) (by rw [List.drop_drop, Nat.add_assoc]) (by rw [List.length_append, List.length_cons, List.length_nil]; omega)
    rw [itN (s' := (x, ((a + k + n : Nat) : Int), out ++ [⟨d, ((x.drop a).drop k).take n, ((a + k : Nat) : Int), (x.drop a).take k⟩]))]
    · rw [this, if_neg he, if_neg he]
    · show lex_Lex_l1 x a out = _
      unfold lex_Lex_l1
      rw [start a ha]
      simp only [Option.bind_some, lex_between_rel hg (by rw [List.length_drop]; omega)]
      rw [if_neg (by simp), w64_add (by omega), if_neg (by rw [beq_iff_eq]; omega), start (a + k) (by omega)]
      rw [List.drop_drop] at ht
      obtain ⟨c, q, hd⟩ := drop_some hk2
      have hlen := congrArg List.length hd
      rw [List.length_drop] at hlen
      rw [hd] at ht ⊢
      simp only [Option.bind_some, lex_token_eq c q (by omega), tokI, ht]
      rw [if_neg (by simp), lex_Lex_1_eq d k n a out x hx (by omega) ho]
      rfl
theorem lexM_err (s : List UInt8) (h : (lexM s).2.2 ≠ 0) : (lexM s).1 = [] := (lexR_err (lexM_rel s) h).1
theorem lex_Lex_eq (s : List UInt8) (hs : s.length ≤ 1048576) : lex_Lex s = some (lexI s) := by
  unfold lex_Lex
  rw [if_neg (by simp; omega)]
  have := lex_Lex_loop s hs (lexM_rel s) [] (by omega) rfl (Nat.le_refl _)
  have e0 : ((0 : Nat) : Int) = 0 := rfl
  rw [e0] at this
  rw [this]
  unfold lexI
  by_cases h : (lexM s).2.2 = 0
  · rw [if_pos h]; rfl
  · rw [if_neg h, lexM_err s h]

theorem ref03_Lex_loop (x : List UInt8) (hx : x.length ≤ 1048576) {a : Nat} {s : List UInt8} {l : List ApiToken} {p e : Nat} (h : LexR a s l p e) : ∀ out : List ApiToken, a ≤ x.length → s = x.drop a → out.length ≤ a → iter (fun s => ref03_Lex_l1 x s.1 s.2) ((a : Int), out) = some (if e = 0 then out ++ l else [], (p : Int), (e : Int)) := by
  induction h with
  | note a s k hg =>
    rintro out ha rfl ho
    refine itD ?_
    show ref03_Lex_l1 x a out = _
    unfold ref03_Lex_l1
    rw [ref03_between_eq x a (by omega) ha hg]
    rfl
  | fin a s hg =>
    rintro out ha rfl ho
    refine itD ?_
    show ref03_Lex_l1 x a out = _
    unfold ref03_Lex_l1
    rw [ref03_between_eq x a (by omega) ha hg]
    simp only [Option.bind_some]
    have hl : a + (x.drop a).length = x.length := by rw [List.length_drop]; omega
    rw [if_neg (by simp), hl, if_pos (by simp), sub_from ha]
    simp only [Option.bind_some]
    rw [app_one (by omega)]
    rfl
  | bad a s k e hg hk ht he =>
    rintro out ha rfl ho
    have hk2 : a + k < x.length := by rw [List.length_drop] at hk; omega
    refine itD ?_
    show ref03_Lex_l1 x a out = _
    unfold ref03_Lex_l1
    rw [ref03_between_eq x a (by omega) ha hg]
    simp only [Option.bind_some]
    rw [if_neg (by simp), if_neg (by rw [beq_iff_eq]; omega)]
    rw [List.drop_drop] at ht
    obtain ⟨c, l, hd⟩ := drop_some hk2
    rw [hd] at ht
    rw [ref03_token_eq x (a + k) c l (by omega) hd]
    simp only [Option.bind_some, tokI, ht]
    rw [if_pos (by rw [bne_iff_ne]; omega), if_neg he]
  | tok a s k d n l hg hk ht _ ih =>
    rintro out ha rfl ho
    have hk2 : a + k < x.length := by rw [List.length_drop] at hk; omega
    obtain ⟨hn, hn2, _, _⟩ := tokL_len ht
    rw [List.length_drop, List.length_drop] at hn2
    have := ih (out ++ [⟨d, ((x.drop a).drop k).take n, ((a + k : Nat) : Int), (x.drop a).take k⟩]) (by omega) (by rw [List.drop_drop, Nat.add_assoc]) (by rw [List.length_append, List.length_cons, List.length_nil]; omega)
    rw [itN (s' := (((a + k + n : Nat) : Int), out ++ [⟨d, ((x.drop a).drop k).take n, ((a + k : Nat) : Int), (x.drop a).take k⟩]))]
    · rw [this, if_pos rfl, if_pos rfl, List.append_assoc]
      rfl
    · show ref03_Lex_l1 x a out = _
      unfold ref03_Lex_l1
      rw [ref03_between_eq x a (by omega) ha hg]
      simp only [Option.bind_some]
      rw [if_neg (by simp), if_neg (by rw [beq_iff_eq]; omega)]
      rw [List.drop_drop] at ht
      obtain ⟨c, q, hd⟩ := drop_some hk2
      rw [hd] at ht
      rw [ref03_token_eq x (a + k) c q (by omega) hd]
      simp only [Option.bind_some, tokI, ht]
      rw [if_neg (by simp), w64_add (by omega), sub_drop (s := x) (by omega), sub_drop (s := x) (by omega)]
      simp only [Option.bind_some]
      rw [app_one (by omega)]
      simp only [Option.bind_some, ref03_Lex_j2]
      rw [w64_add (by omega), List.drop_drop]
  | later a s k d n p e hg hk ht _ he ih =>
    rintro out ha rfl ho
    have hk2 : a + k < x.length := by rw [List.length_drop] at hk; omega
    obtain ⟨hn, hn2, _, _⟩ := tokL_len ht
    rw [List.length_drop, List.length_drop] at hn2
    have := ih (out ++ [⟨d, ((x.drop a).drop k).take n, ((a + k : Nat) : Int), (x.drop a).take k⟩]) (by omega) (by rw [List.drop_drop, Nat.add_assoc]) (by rw [List.length_append, List.length_cons, List.length_nil]; omega)
    rw [itN (s' := (((a + k + n : Nat) : Int), out ++ [⟨d, ((x.drop a).drop k).take n, ((a + k : Nat) : Int), (x.drop a).take k⟩]))]
    · rw [this, if_neg he, if_neg he]
    · show ref03_Lex_l1 x a out = _
      unfold ref03_Lex_l1
      rw [ref03_between_eq x a (by omega) ha hg]
      simp only [Option.bind_some]
      rw [if_neg (by simp), if_neg (by rw [beq_iff_eq]; omega)]
      rw [List.drop_drop] at ht
      obtain ⟨c, q, hd⟩ := drop_some hk2
      rw [hd] at ht
      rw [ref03_token_eq x (a + k) c q (by omega) hd]
      simp only [Option.bind_some, tokI, ht]
      rw [if_neg (by simp), w64_add (by omega), sub_drop (s := x) (by omega), sub_drop (s := x) (by omega)]
      simp only [Option.bind_some]
      rw [app_one (by omega)]
      simp only [Option.bind_some, ref03_Lex_j2]
      rw [w64_add (by omega), List.drop_drop]
theorem ref03_Lex_eq (s : List UInt8) (hs : s.length ≤ 1048576) : ref03_Lex s = some (lexI s) := by
  unfold ref03_Lex
  rw [if_neg (by simp; omega)]
  have := ref03_Lex_loop s hs (lexM_rel s) [] (by omega) rfl (Nat.le_refl _)
  have e0 : ((0 : Nat) : Int) = 0 := rfl
  rw [e0] at this
  rw [this]
  unfold lexI
  by_cases h : (lexM s).2.2 = 0
  · rw [if_pos h]; rfl
  · rw [if_neg h, lexM_err s h]
end Go.Proofs.YtefeelcjokdchaaDoor

/- The laws of the lexer in plain Lean: the examples; any text's tokens; any names. -/
set_option linter.unusedSectionVars false
namespace Go.Proofs.YtefeelcjokdchaaDoor
open Go Go.Cn

theorem awake1 : lexI [97, 47, 42, 120, 42, 47, 60, 61, 49] = ([⟨1, [97], 0, []⟩, ⟨4, [60, 61], 6, [47, 42, 120, 42, 47]⟩, ⟨2, [49], 8, []⟩, ⟨5, [], 9, []⟩], 0, 0) := by decide +kernel
theorem awake2 : lexI [97, 38, 98] = ([], 1, 30) := by decide +kernel
theorem awake3 : kept.contains [119, 104, 105, 108, 101] = true := by decide +kernel
theorem awake4 : nameL [97, 95, 49] = true := by decide +kernel
theorem awake5 : nameL [119, 104, 105, 108, 101] = false := by decide +kernel
theorem law03_awake_eq : law03_awake = some true := by
  unfold law03_awake
  rw [lex_Lex_eq _ (by decide), lex_Lex_eq _ (by decide), awake1, awake2]
  simp only [Option.bind_some, lex_Kept_eq, lex_Name_eq, awake3, awake4, awake5]
  rw [lex_Unlex_eq _ (by decide) (by decide)]
  rfl
theorem lexR_length {a : Nat} {s : List UInt8} {l : List ApiToken} {p e : Nat} (h : LexR a s l p e) : l.length ≤ s.length + 1 := by
  induction h with
  | note a s k hg => simp
  | fin a s hg => simp
  | bad a s k e hg hk ht he => simp
  | tok a s k d n l hg hk ht _ ih =>
    obtain ⟨hn, hn2, _, _⟩ := tokL_len ht
    simp only [List.length_drop, List.length_cons] at ih hn2 ⊢
    omega
  | later a s k d n p e hg hk ht _ he ih => simp
theorem lexM_length (s : List UInt8) : (lexM s).1.length ≤ s.length + 1 := lexR_length (lexM_rel s)

theorem law_LexTells (x : List UInt8) : law03_LexTells x = some true := by
  unfold law03_LexTells
  rw [law03_awake_eq]
  simp only [Option.bind_some]
  rw [if_neg (by simp)]
  by_cases h : x.length > 3000
  · rw [if_pos (by simp; omega)]
  · rw [if_neg (by simp; omega), lex_Lex_eq _ (by omega), ref03_Lex_eq _ (by omega)]
    have := lexM_length x
    simp only [Option.bind_some, lexI]
    rw [ref03_Same_eq _ _ (by omega)]
    simp [law03_LexTells_j1]

theorem names_loop (l : List ApiToken) (hl : l.length ≤ 200) : ∃ z, iter (fun s => law03_LexNames_l3 l s) 0 = some z ∧ (match z with | .next _ => ∀ t ∈ l, t.Text.length ≤ 200 ∧ t.Lead.length ≤ 200 | .done r => r = true) := by
  refine iter_ind (f := fun s => law03_LexNames_l3 l s) (fun i => ∃ k : Nat, i = k ∧ k ≤ l.length ∧ ∀ t ∈ l.take k, t.Text.length ≤ 200 ∧ t.Lead.length ≤ 200) (fun z => match z with | .next _ => ∀ t ∈ l, t.Text.length ≤ 200 ∧ t.Lead.length ≤ 200 | .done r => r = true) (fun i => l.length - i.toNat) ?_ 0 ⟨0, rfl, Nat.zero_le _, by simp⟩
  rintro i ⟨k, rfl, hk, hr⟩
  unfold law03_LexNames_l3 law03_LexNames_j4
  rcases Nat.lt_or_ge k l.length with hlt | hge
  · rw [if_pos (by simpa using hlt), idx_nat hlt]
    simp only [Option.bind_some]
    by_cases h1 : l[k].Text.length > 200
    · right
      exact ⟨.done true, by rw [if_pos (by simp; omega)]; rfl, rfl⟩
    · rw [if_neg (by simp; omega)]
      by_cases h2 : l[k].Lead.length > 200
      · right
        exact ⟨.done true, by rw [if_pos (by simp; omega)], rfl⟩
      · left
        refine ⟨((k + 1 : Nat) : Int), by rw [if_neg (by simp; omega), w64_one (by omega)], ⟨k + 1, rfl, hlt, ?_⟩, by simp; omega⟩
        intro t ht
        rw [List.take_succ_eq_append_getElem hlt, List.mem_append] at ht
        rcases ht with ht | ht
        · exact hr t ht
        · rw [List.mem_singleton] at ht
          rw [ht]
          exact ⟨by omega, by omega⟩
  · right
    refine ⟨.next (), by rw [if_neg (by simp; omega)], ?_⟩
    rw [List.take_of_length_le hge] at hr
    exact hr
theorem sizeL_le (b : Nat) : ∀ l : List ApiToken, (∀ t ∈ l, t.Text.length ≤ b ∧ t.Lead.length ≤ b) → sizeL l ≤ l.length * (2 * b)
  | [], _ => by simp [sizeL]
  | t :: l, h => by
    have h1 := h t List.mem_cons_self
    have h2 := sizeL_le b l fun t ht => h t (List.mem_cons_of_mem _ ht)
    simp only [sizeL, List.length_cons]
    rw [Nat.add_mul, Nat.one_mul]
    omega
theorem law_LexNames (x : List UInt8) (y : List ApiToken) : law03_LexNames x y = some true := by
  unfold law03_LexNames
  rw [law03_awake_eq]
  simp only [Option.bind_some]
  rw [if_neg (by simp)]
  by_cases h : x.length > 200
  · rw [if_pos (by simp; omega)]; rfl
  · rw [if_neg (by simp; omega)]
    unfold law03_LexNames_j5
    by_cases h2 : y.length > 200
    · rw [if_pos (by simp; omega)]
    · rw [if_neg (by simp; omega)]
      obtain ⟨z, h3, h4⟩ := names_loop y (by omega)
      rw [h3]
      cases z with
      | done r => exact congrArg some h4
      | next u =>
        have h5 := sizeL_le 200 y h4
        have h6 : y.length * (2 * 200) ≤ 200 * (2 * 200) := Nat.mul_le_mul_right _ (by omega)
        simp only [Option.bind_some, law03_LexNames_k2, lex_Kept_eq, ref03_Kept_eq, lex_Name_eq, ref03_Name_eq]
        rw [lex_Unlex_eq y (by omega) (by omega), ref03_Unlex_eq y (by omega) (by omega)]
        simp [law03_LexNames_j1]
end Go.Proofs.YtefeelcjokdchaaDoor

/- The laws of the lexer in plain Lean: tokens put together; texts that are cut, or go on; texts with one space between. -/
set_option linter.unusedSectionVars false
namespace Go.Proofs.YtefeelcjokdchaaDoor
open Go Go.Cn

theorem eqb_nat {a b : Nat} : ((a : Int) == (b : Int)) = (a == b) := by
  rw [Bool.eq_iff_iff, beq_iff_eq, beq_iff_eq]
  omega
theorem back_loop (x : List UInt8) (l : List ApiToken) (hx : x.length ≤ 3000) (hl : l.length ≤ 3001) (hb : backL 0 x l) : iter (fun s => law03_LexBack_l4 l x s.1 s.2) (0, 0) = some (.next (x.length : Int)) := by
  obtain ⟨z, h1, h2⟩ := iter_ind (f := fun s : Int × Int => law03_LexBack_l4 l x s.1 s.2) (fun s => ∃ k m : Nat, s.2 = k ∧ s.1 = m ∧ m ≤ x.length ∧ ((k = l.length ∧ m = x.length) ∨ (k < l.length ∧ backL m (x.drop m) (l.drop k)))) (fun z => z = .next (x.length : Int)) (fun s => l.length - s.2.toNat)
    (by
      rintro ⟨n, i⟩ ⟨k, m, hi, hn, hm, h⟩
      simp only at hi hn
      subst hi hn
      show (∃ s', law03_LexBack_l4 l x (m : Int) (k : Int) = _ ∧ _) ∨ ∃ o, law03_LexBack_l4 l x (m : Int) (k : Int) = _ ∧ _
      unfold law03_LexBack_l4
      rcases h with ⟨rfl, rfl⟩ | ⟨hk, hbk⟩
      · right
        exact ⟨_, by rw [if_neg (by simp)], rfl⟩
      · obtain ⟨t, l', hd⟩ := drop_some hk
        rw [hd] at hbk
        obtain ⟨hat, s', hs, hor⟩ := hbk
        have hlen := congrArg List.length hs
        have hlen2 := congrArg List.length hd
        simp only [List.length_append, List.length_drop, List.length_cons] at hlen hlen2
        have hsub : sub x ((m + t.Lead.length : Nat) : Int) ((m + t.Lead.length + t.Text.length : Nat) : Int) = some t.Text := by
          rw [sub_drop (by omega), ← List.drop_drop, hs, List.append_assoc, List.drop_left, List.take_left]
        have e1 : w64 ((m : Int) + (t.Lead.length : Int)) = ((m + t.Lead.length : Nat) : Int) := w64_add (by omega)
        have e2 : w64 (((m + t.Lead.length : Nat) : Int) + (t.Text.length : Int)) = ((m + t.Lead.length + t.Text.length : Nat) : Int) := w64_add (by omega)
        have e3 : w64 ((l.length : Int) - 1) = ((l.length - 1 : Nat) : Int) := by rw [w64_id (by omega) (by omega)]; omega
        have e4 : ((t.Kind == 5) == ((k : Int) == ((l.length - 1 : Nat) : Int))) = true := by
          rw [eqb_nat, beq_iff_eq]
          rcases hor with ⟨rfl, h5, _, _⟩ | ⟨hne, h5, _, _⟩
          · rw [List.length_nil] at hlen2
            rw [h5]
            have : k = l.length - 1 := by omega
            simp [this]
          · have : l'.length ≠ 0 := fun h => hne (List.eq_nil_of_length_eq_zero h)
            have : ¬ k = l.length - 1 := by omega
            have h6 : (t.Kind == 5) = false := by rw [beq_eq_false_iff_ne]; exact h5
            rw [h6]
            simp [this]
        have e5 : ((t.Text == []) == ((k : Int) == ((l.length - 1 : Nat) : Int))) = true := by
          rw [eqb_nat, beq_iff_eq]
          rcases hor with ⟨rfl, _, h5, _⟩ | ⟨hne, _, h5, _⟩
          · rw [List.length_nil] at hlen2
            rw [h5]
            have : k = l.length - 1 := by omega
            simp [this]
          · have : l'.length ≠ 0 := fun h => hne (List.eq_nil_of_length_eq_zero h)
            have : ¬ k = l.length - 1 := by omega
            have h6 : (t.Text == []) = false := by rw [beq_eq_false_iff_ne]; exact h5
            rw [h6]
            simp [this]
        left
        rw [if_pos (by simpa using hk)]
        simp only [idx_drop hd, Option.bind_some, law03_LexBack_j5, e1, e2, e3, hsub, hat, e4, e5]
        rw [if_neg (by simp), if_neg (by simp; omega), if_neg (by simp), if_neg (by simp), if_neg (by simp)]
        refine ⟨_, rfl, ⟨k + 1, m + t.Lead.length + t.Text.length, w64_one (by omega), rfl, by omega, ?_⟩, by rw [w64_one (by omega)]; simp; omega⟩
        rcases hor with ⟨rfl, _, h5, rfl⟩ | ⟨hne, _, _, hb⟩
        · left
          simp only [List.length_nil] at hlen hlen2
          exact ⟨by omega, by omega⟩
        · right
          have : l'.length ≠ 0 := fun h => hne (List.eq_nil_of_length_eq_zero h)
          refine ⟨by omega, ?_⟩
          have h1 : x.drop (m + t.Lead.length + t.Text.length) = s' := by
            rw [← List.drop_drop, ← List.drop_drop, hs, List.append_assoc, List.drop_left, List.drop_left]
          rw [h1, (drop_cons hd).2.2]
          exact hb) (0, 0) ⟨0, 0, rfl, rfl, Nat.zero_le _, by
        right
        refine ⟨?_, by simpa using hb⟩
        cases l with
        | nil => exact hb.elim
        | cons t l => simp⟩
  rw [h1, h2]
theorem law_LexBack (x : List UInt8) : law03_LexBack x = some true := by
  unfold law03_LexBack
  rw [law03_awake_eq]
  simp only [Option.bind_some]
  rw [if_neg (by simp)]
  by_cases h : x.length > 3000
  · rw [if_pos (by simp; omega)]
  · rw [if_neg (by simp; omega), lex_Lex_eq _ (by omega)]
    have hlen := lexM_length x
    have hr := lexM_rel x
    simp only [Option.bind_some, lexI]
    by_cases he : (lexM x).2.2 = 0
    · obtain ⟨hp, hne, hb⟩ := lexR_back hr he
      rw [if_neg (by simp [he]), back_loop x _ (by omega) (by omega) hb]
      have hu := backL_unlex _ _ _ hb
      have hs : sizeL (lexM x).1 = x.length := by rw [← unlexL_length, hu]
      simp only [Option.bind_some, law03_LexBack_k3]
      rw [lex_Unlex_eq _ (by omega) (by omega), hu, hp]
      simp [law03_LexBack_j2]
    · obtain ⟨hl, h1, h2⟩ := lexR_err hr he
      rw [if_pos (by rw [bne_iff_ne]; omega), hl, if_pos (by simp), if_pos (by simp)]
      simp only [law03_LexBack_j1, Option.some.injEq, decide_eq_true_eq]
      omega

theorem lexR_byte {a : Nat} {s : List UInt8} {l : List ApiToken} {p e : Nat} (h : LexR a s l p e) : e = 30 → p < a + s.length := by
  induction h with
  | note a s k hg => intro h; cases h
  | fin a s hg => intro h; cases h
  | bad a s k e hg hk ht he => intro _; omega
  | tok a s k d n l hg hk ht _ ih => intro h; cases h
  | later a s k d n p e hg hk ht hr he ih =>
    intro h
    have := ih h
    obtain ⟨hn, hn2, _, _⟩ := tokL_len ht
    rw [List.length_drop] at this hn2
    omega
theorem law_LexAhead (x y : List UInt8) : law03_LexAhead x y = some true := by
  unfold law03_LexAhead
  rw [law03_awake_eq]
  simp only [Option.bind_some]
  rw [if_neg (by simp)]
  by_cases hx : x.length > 2000
  · rw [if_pos (by simp; omega)]; rfl
  · rw [if_neg (by simp; omega)]
    unfold law03_LexAhead_j5
    by_cases hy : y.length > 500
    · rw [if_pos (by simp; omega)]
    · rw [if_neg (by simp; omega), lex_Lex_eq _ (by omega)]
      have hr := lexM_rel x
      simp only [Option.bind_some, lexI]
      by_cases he : (lexM x).2.2 = 0
      · rw [if_pos (by simp [he])]
      · generalize lexM x = r at hr he ⊢
        obtain ⟨l, p, e⟩ := r
        simp only at hr he ⊢
        obtain ⟨rfl, _, hp⟩ := lexR_err hr he
        rw [if_neg (by rw [beq_iff_eq]; omega), if_neg (by simp), show decide ((p : Int) > (x.length : Int)) = false by rw [decide_eq_false_iff_not]; omega]
        obtain ⟨l', h1, h2⟩ := lexR_cut hr he
        rw [Nat.sub_zero] at h1
        have hm := rel_lexM h1
        simp only [law03_LexAhead_j4, Bool.false_eq_true, if_false]
        rw [sub_all (by omega) (by omega) (by omega)]
        simp only [Option.bind_some, Int.toNat_natCast, Int.toNat_zero, List.drop_zero]
        rw [lex_Lex_eq _ (by rw [List.length_take]; omega)]
        simp only [Option.bind_some, lexI, hm]
        have h3 : ((l'.length : Int) == 0) = false := by
          rw [beq_eq_false_iff_ne]
          intro h
          exact h2 (List.eq_nil_of_length_eq_zero (by omega))
        rw [if_neg (by simp), h3]
        simp only [law03_LexAhead_j3, Bool.false_eq_true, if_false]
        by_cases h30 : e = 30
        · subst h30
          have hlt : p < x.length := by have := lexR_byte hr rfl; omega
          obtain ⟨c, q, hd⟩ := drop_some hlt
          rw [if_neg (by simp), idxS_drop hd]
          simp only [Option.bind_some, law03_LexAhead_j2]
          by_cases b1 : c = 38
          · subst b1; rfl
          · rw [if_neg (by rw [beq_iff_eq]; exact byte_ne (n := 38) (by decide) b1)]
            by_cases b2 : c = 124
            · subst b2; rfl
            · rw [if_neg (by rw [beq_iff_eq]; exact byte_ne (n := 124) (by decide) b2)]
              obtain ⟨_, h4⟩ := lexR_on hr y rfl (by
                intro c' q' hd'
                rw [Nat.sub_zero, hd] at hd'
                injection hd' with e1 e2
                exact ⟨by rw [← e1]; exact b1, by rw [← e1]; exact b2⟩)
              have hm2 := rel_lexM h4
              unfold cat
              rw [if_pos (show x.length + y.length ≤ 9223372036854775807 by omega)]
              simp only [Option.bind_some]
              rw [lex_Lex_eq _ (by rw [List.length_append]; omega)]
              simp only [Option.bind_some, lexI, hm2]
              by_cases b3 : ((c.toNat : Int) == 33) = true
              · rw [if_pos b3]
              · rw [if_neg b3, if_pos (by simp)]
                rfl
        · rw [if_pos (by rw [bne_iff_ne]; omega)]

theorem spacedL_length : ∀ l, (spacedL l).length ≤ sizeL l + l.length
  | [] => Nat.le_refl _
  | t :: l => by
    have := spacedL_length l
    simp only [spacedL, sizeL, List.length_cons, List.length_append]
    omega
theorem spaced_loop (l : List ApiToken) (hl : l.length ≤ 2001) (hs : sizeL l ≤ 2000) : iter (fun s => law03_LexLead_l6 l s.1 s.2) ([], 0) = some (spacedL l) := by
  obtain ⟨o, h1, h2⟩ := iter_ind (f := fun s : List UInt8 × Int => law03_LexLead_l6 l s.1 s.2) (fun s => ∃ k : Nat, s.2 = k ∧ k ≤ l.length ∧ spacedL l = s.1 ++ spacedL (l.drop k)) (fun o => o = spacedL l) (fun s => l.length - s.2.toNat)
    (by
      rintro ⟨b, i⟩ ⟨k, hi, hk, hr⟩
      simp only at hi hr
      subst hi
      show (∃ s', law03_LexLead_l6 l b (k : Int) = _ ∧ _) ∨ ∃ o, law03_LexLead_l6 l b (k : Int) = _ ∧ _
      unfold law03_LexLead_l6
      rcases Nat.lt_or_ge k l.length with hlt | hge
      · obtain ⟨t, l', hd⟩ := drop_some hlt
        rw [if_pos (by simpa using hlt), idx_drop hd]
        rw [hd] at hr
        simp only [spacedL] at hr
        have hlen := congrArg List.length hr
        have hsl := spacedL_length l
        simp only [List.length_append, List.length_cons] at hlen
        simp only [Option.bind_some, cat]
        rw [if_pos (by simp only [List.length_cons, List.length_nil]; omega)]
        simp only [Option.bind_some]
        rw [if_pos (by simp only [List.length_append, List.length_cons, List.length_nil]; omega)]
        left
        refine ⟨(b ++ [32] ++ t.Text, ((k + 1 : Nat) : Int)), ?_, ⟨k + 1, rfl, hlt, ?_⟩, by simp; omega⟩
        · simp only [Option.bind_some]
          rw [w64_one (by omega)]
        · rw [hr, (drop_cons hd).2.2]; simp
      · right
        refine ⟨b, by rw [if_neg (by simp; omega)], ?_⟩
        rw [List.drop_eq_nil_of_le hge] at hr
        rw [hr]
        simp [spacedL]) ([], 0) ⟨0, rfl, Nat.zero_le _, by simp⟩
  rw [h1, h2]
theorem sameL_length : ∀ l m, sameL l m → m.length = l.length
  | [], [], _ => rfl
  | _ :: l, _ :: m, h => by rw [List.length_cons, List.length_cons, sameL_length l m h.2.2.2]
  | [], _ :: _, h => h.elim
  | _ :: _, [], h => h.elim
theorem lead_loop (l m : List ApiToken) (hl : l.length ≤ 2001) (h : sameL l m) : iter (fun s => law03_LexLead_l2 l m s) 0 = some (.next ()) := by
  obtain ⟨o, h1, h2⟩ := iter_ind (f := fun s => law03_LexLead_l2 l m s) (fun i => ∃ k : Nat, i = k ∧ k ≤ l.length ∧ sameL (l.drop k) (m.drop k)) (fun o => o = .next ()) (fun i => l.length - i.toNat)
    (by
      rintro i ⟨k, rfl, hk, hr⟩
      unfold law03_LexLead_l2
      rcases Nat.lt_or_ge k l.length with hlt | hge
      · have hml := sameL_length _ _ hr
        rw [List.length_drop, List.length_drop] at hml
        obtain ⟨t, l', hd⟩ := drop_some hlt
        obtain ⟨u, m', hd2⟩ := drop_some (s := m) (k := k) (by omega)
        rw [hd, hd2] at hr
        obtain ⟨r1, r2, r3, r4⟩ := hr
        rw [if_pos (by simpa using hlt), idx_drop hd, idx_drop hd2]
        simp only [Option.bind_some, law03_LexLead_j3, r1, r2, r3]
        rw [if_neg (by simp), if_neg (by simp), if_neg (by simp)]
        left
        exact ⟨_, rfl, ⟨k + 1, w64_one (by omega), hlt, by rw [(drop_cons hd).2.2, (drop_cons hd2).2.2]; exact r4⟩, by rw [w64_one (by omega)]; simp; omega⟩
      · right
        exact ⟨_, by rw [if_neg (by simp; omega)], rfl⟩) 0 ⟨0, rfl, Nat.zero_le _, by simpa using h⟩
  rw [h1, h2]
theorem law_LexLead (x : List UInt8) : law03_LexLead x = some true := by
  unfold law03_LexLead
  rw [law03_awake_eq]
  simp only [Option.bind_some]
  rw [if_neg (by simp)]
  by_cases h : x.length > 2000
  · rw [if_pos (by simp; omega)]
  · rw [if_neg (by simp; omega), lex_Lex_eq _ (by omega)]
    have hlen := lexM_length x
    have hr := lexM_rel x
    simp only [Option.bind_some, lexI]
    by_cases he : (lexM x).2.2 = 0
    · obtain ⟨_, _, hb⟩ := lexR_back hr he
      have hs : sizeL (lexM x).1 = x.length := by rw [← unlexL_length, backL_unlex _ _ _ hb]
      rw [if_neg (by simp [he]), spaced_loop _ (by omega) (by omega)]
      obtain ⟨_, hsp⟩ := lexR_spaced hr he
      obtain ⟨m, h1, h2⟩ := hsp 0
      have hm := rel_lexM h1
      have hsl := spacedL_length (lexM x).1
      simp only [Option.bind_some, law03_LexLead_k5]
      rw [lex_Lex_eq _ (by omega)]
      simp only [Option.bind_some, lexI, hm]
      rw [if_neg (by simp), sameL_length _ _ h2]
      simp only [bne_self_eq_false, law03_LexLead_j4, Bool.false_eq_true, if_false]
      rw [lead_loop _ _ (by omega) h2]
      rfl
    · rw [if_pos (by rw [bne_iff_ne]; omega)]
end Go.Proofs.YtefeelcjokdchaaDoor

/- Tokens' texts, and what must stand between them: the model. No program in sight. -/
set_option linter.unusedSectionVars false
namespace Go.Proofs.YtefeelcjokdchaaDoor
open Go Go.Cn

/-- A text is one token, of this kind. -/
def IsTok (s : List UInt8) (k : Nat) : Prop := GapR s 0 true ∧ 0 < s.length ∧ tokL s = (k, s.length, 0)
theorem IsTok.kind {s : List UInt8} {k : Nat} (h : IsTok s k) : k ≠ 0 := (tokL_len h.2.2).2.2.1
theorem IsTok.lex {s : List UInt8} {k : Nat} (h : IsTok s k) (a : Nat) : LexR a s [⟨k, s, (a : Int), []⟩, ⟨5, [], ((a + s.length : Nat) : Int), []⟩] 0 0 := by
  obtain ⟨h1, h2, h3⟩ := h
  have hf : LexR (a + 0 + s.length) (s.drop (0 + s.length)) [⟨5, [], ((a + s.length : Nat) : Int), []⟩] 0 0 := by
    rw [Nat.zero_add, List.drop_length]
    exact .fin (a + s.length) [] .nil
  have := LexR.tok a s 0 k s.length _ h1 h2 h3 hf
  rw [List.drop_zero, List.take_length, Nat.add_zero] at this
  exact this
theorem lex_inv {a : Nat} {s : List UInt8} {t : ApiToken} {l : List ApiToken} (h : LexR a s (t :: l) 0 0) (hl : l ≠ []) : ∃ k n d, GapR s k true ∧ k < s.length ∧ tokL (s.drop k) = (d, n, 0) ∧ LexR (a + k + n) (s.drop (k + n)) l 0 0 ∧ t = ⟨d, (s.drop k).take n, ((a + k : Nat) : Int), s.take k⟩ := by
  cases h with
  | fin => exact absurd rfl hl
  | tok _ _ k d n _ h1 h2 h3 h4 => exact ⟨k, n, d, h1, h2, h3, h4, rfl⟩
theorem lex_end {a : Nat} {s : List UInt8} {t : ApiToken} (h : LexR a s [t] 0 0) : GapR s s.length true ∧ t = ⟨5, [], ((a + s.length : Nat) : Int), s⟩ := by
  cases h with
  | fin _ _ h => exact ⟨h, rfl⟩
  | tok _ _ k d n l h1 h2 h3 h4 => exact absurd rfl (lexR_back h4 rfl).2.1
/-- A text of two tokens, of which the last is the end, with nothing between, is one token. -/
theorem tok_of_lex {a : Nat} {s : List UInt8} {t u : ApiToken} (h : LexR a s [t, u] 0 0) (h1 : t.Lead = []) (h2 : u.Lead = []) : ∃ k : Nat, t.Kind = k ∧ IsTok s k := by
  obtain ⟨k, n, d, hg, hk, ht, h3, rfl⟩ := lex_inv h (by simp)
  obtain ⟨h4, rfl⟩ := lex_end h3
  obtain ⟨hn, hn2, _, _⟩ := tokL_len ht
  have h1 : s.take k = [] := h1
  have h2 : s.drop (k + n) = [] := h2
  have h5 := congrArg List.length h1
  have h6 := congrArg List.length h2
  rw [List.length_take, List.length_nil] at h5
  rw [List.length_drop, List.length_nil] at h6
  rw [List.length_drop] at hn2
  obtain rfl : k = 0 := by omega
  rw [List.drop_zero] at ht
  obtain rfl : n = s.length := by omega
  exact ⟨d, rfl, hg, hk, ht⟩
theorem isTok_cons {s : List UInt8} {k : Nat} (h : IsTok s k) : ∃ c l, s = c :: l ∧ isSpace c.toNat = false := by
  obtain ⟨h1, h2, h3⟩ := h
  obtain ⟨c, l, hd, hs, _⟩ := gapR_next h1 h2
  rw [List.drop_zero] at hd
  exact ⟨c, l, hd, hs⟩

theorem runL_full (p : Nat → Bool) : ∀ (s t : List UInt8), runL p s = s.length → runL p (s ++ t) = s.length + runL p t
  | [], t, _ => by simp
  | c :: l, t, h => by
    simp only [runL, List.length_cons] at h
    split at h
    · rename_i hc
      simp only [List.cons_append, runL, hc, if_true, List.length_cons]
      rw [runL_full p l t (by omega)]
      omega
    · omega
theorem word_not_slash {c : UInt8} (h : isWord c.toNat = true) : c ≠ 47 ∧ isSpace c.toNat = false := by
  have key : ∀ n : Fin 256, isWord n.1 = true → n.1 ≠ 47 ∧ isSpace n.1 = false := by decide +kernel
  have := key ⟨c.toNat, c.toNat_lt⟩ h
  exact ⟨fun h => this.1 (by rw [h]; rfl), this.2⟩
theorem gap_stop {c : UInt8} {l : List UInt8} (h : isSpace c.toNat = false) (h2 : c ≠ 47) : GapR (c :: l) 0 true := by
  have key : ∀ x : UInt8, [47, x].isPrefixOf (c :: l) = false := by
    intro x
    rw [pre2_false]
    intro q hq
    injection hq with e1 _
    exact h2 e1
  exact .stop c l h (key 47) (key 42)
/-- Which first byte a token of which kind has. -/
theorem isTok_kinds {c : UInt8} {l : List UInt8} {k : Nat} (h : IsTok (c :: l) k) :
    (k = 2 ∧ isDigit c.toNat = true ∧ runL isDigit (c :: l) = l.length + 1) ∨
    ((k = 1 ∨ k = 3) ∧ isDigit c.toNat = false ∧ isLetter c.toNat = true ∧ runL isWord (c :: l) = l.length + 1) ∨
    (k = 4 ∧ isWord c.toNat = false ∧ isDigit c.toNat = false ∧ isLetter c.toNat = false ∧ markL (c :: l) = l.length + 1) := by
  obtain ⟨h1, h2, h3⟩ := h
  rw [tokL_cons] at h3
  cases hd : isDigit c.toNat with
  | true =>
    rw [hd, if_pos rfl] at h3
    split at h3
    · cases h3
    · injection h3 with e1 e2
      injection e2 with e2 e3
      exact .inl ⟨e1.symm, rfl, e2⟩
  | false =>
    rw [hd, if_neg (by simp)] at h3
    cases hl : isLetter c.toNat with
    | true =>
      rw [hl, if_pos rfl] at h3
      split at h3
      · cases h3
      · split at h3
        · injection h3 with e1 e2
          injection e2 with e2 e3
          exact .inr (.inl ⟨.inr e1.symm, rfl, rfl, e2⟩)
        · injection h3 with e1 e2
          injection e2 with e2 e3
          exact .inr (.inl ⟨.inl e1.symm, rfl, rfl, e2⟩)
    | false =>
      rw [hl, if_neg (by simp)] at h3
      split at h3
      · cases h3
      · injection h3 with e1 e2
        injection e2 with e2 e3
        exact .inr (.inr ⟨e1.symm, by simp [isWord, hd, hl], rfl, rfl, e2⟩)

def gapK (x y : Nat) (a b : List UInt8) : Bool :=
  if x = 1 ∨ x = 3 then y != 4 else if x = 2 then y == 2 else clashes.any fun p => p.1 == a && p.2.isPrefixOf b
/-- Two tokens stand side by side just if nothing must stand between them. -/
theorem gap_side {a b : List UInt8} {x y : Nat} (ha : IsTok a x) (hb : IsTok b y) : gapK x y a b = false ↔ GapR (a ++ b) 0 true ∧ tokL (a ++ b) = (x, a.length, 0) := by
  obtain ⟨c, l, rfl, hsc⟩ := isTok_cons ha
  obtain ⟨d, r, rfl, hsd⟩ := isTok_cons hb
  have h3 := ha.2.2
  have kb := isTok_kinds hb
  rcases isTok_kinds ha with ⟨rfl, hd, hr⟩ | ⟨hx, hd, hl, hr⟩ | ⟨rfl, hw, hd, hl, hm⟩
  · -- a number
    have hrun := runL_full isDigit (c :: l) (d :: r) hr
    rw [List.cons_append] at hrun
    have hn := word_not_slash (c := c) (by simp [isWord, hd])
    have hg : GapR (c :: l ++ d :: r) 0 true := gap_stop hsc hn.1
    have hgk : gapK 2 y (c :: l) (d :: r) = (y == 2) := rfl
    rw [hgk]
    have htk : (c :: (l ++ d :: r)).take (l.length + 1) = c :: l := by
      show (c :: l ++ d :: r).take (c :: l).length = c :: l
      exact List.take_left
    have hdr : runL isDigit (d :: r) = 0 ↔ ¬ y = 2 := by
      rcases kb with ⟨rfl, h, hr2⟩ | ⟨hy, h, _⟩ | ⟨rfl, _, h, _⟩
      · simp [hr2]
      · simp only [runL, h, Bool.false_eq_true, if_false, true_iff]
        rcases hy with rfl | rfl <;> decide
      · simp [runL, h]
    rw [List.cons_append, tokL_cons, hrun, hd, if_pos rfl]
    rw [tokL_cons, hr, hd, if_pos rfl] at h3
    by_cases hy : y = 2
    · have h4 : runL isDigit (d :: r) ≠ 0 := fun h => hdr.1 h hy
      constructor
      · intro h; rw [hy] at h; cases h
      · rintro ⟨_, h⟩
        split at h
        · cases h
        · injection h with _ e2
          injection e2 with e2 _
          simp only [List.length_cons] at e2
          omega
    · have h4 := hdr.2 hy
      rw [h4]
      simp only [List.length_cons, Nat.add_zero] at hr ⊢
      simp only [htk]
      have h5 : (c :: l).take (l.length + 1) = c :: l := by
        show (c :: l).take (c :: l).length = c :: l
        exact List.take_length
      simp only [h5] at h3
      constructor
      · intro _; exact ⟨hg, h3⟩
      · intro _; simpa using hy
  · -- a word
    have hrun := runL_full isWord (c :: l) (d :: r) hr
    rw [List.cons_append] at hrun
    have hn := word_not_slash (c := c) (by simp [isWord, hl])
    have hg : GapR (c :: l ++ d :: r) 0 true := gap_stop hsc hn.1
    have hgk : gapK x y (c :: l) (d :: r) = (y != 4) := by unfold gapK; rw [if_pos hx]
    rw [hgk]
    have htk : (c :: (l ++ d :: r)).take (l.length + 1) = c :: l := by
      show (c :: l ++ d :: r).take (c :: l).length = c :: l
      exact List.take_left
    have hdr : runL isWord (d :: r) = 0 ↔ y = 4 := by
      rcases kb with ⟨rfl, h, _⟩ | ⟨hy, h, h2, _⟩ | ⟨rfl, h, _⟩
      · simp [runL, isWord, h]
      · simp only [runL, isWord, h2, Bool.true_or, if_true, Nat.add_one_ne_zero, false_iff]
        rcases hy with rfl | rfl <;> decide
      · simp [runL, h]
    rw [List.cons_append, tokL_cons, hrun, hd, if_neg (by simp), hl, if_pos rfl]
    rw [tokL_cons, hr, hd, if_neg (by simp), hl, if_pos rfl] at h3
    by_cases hy : y = 4
    · have h4 := hdr.2 hy
      rw [h4]
      simp only [List.length_cons, Nat.add_zero] at hr ⊢
      simp only [htk]
      have h5 : (c :: l).take (l.length + 1) = c :: l := by
        show (c :: l).take (c :: l).length = c :: l
        exact List.take_length
      simp only [h5] at h3
      constructor
      · intro _; exact ⟨hg, h3⟩
      · intro _; rw [hy]; rfl
    · have h4 : runL isWord (d :: r) ≠ 0 := fun h => hy (hdr.1 h)
      constructor
      · intro h; rw [bne_eq_false_iff_eq] at h; exact absurd h hy
      · rintro ⟨_, h⟩
        split at h
        · cases h
        · split at h <;>
          · injection h with _ e2
            injection e2 with e2 _
            simp only [List.length_cons] at e2
            omega
  · -- a mark
    have hgk : gapK 4 y (c :: l) (d :: r) = clashes.any fun p => p.1 == (c :: l) && p.2.isPrefixOf (d :: r) := rfl
    rw [hgk]
    have htok : ∀ q, tokL (c :: q) = if markL (c :: q) = 0 then (0, 0, 30) else (4, markL (c :: q), 0) := by
      intro q
      rw [tokL_cons, hd, if_neg (by simp), hl, if_neg (by simp)]
    match l, hm with
    | [], hm =>
      have hone : ones.contains c = true := by
        rw [markL_cons, twos_short] at hm
        by_cases h : ones.contains c = true
        · exact h
        · rw [if_neg (by simp), if_neg h] at hm; simp at hm
      rw [List.cons_append, List.nil_append, htok]
      have key : (clashes.any fun p => p.1 == [c] && p.2.isPrefixOf (d :: r)) = (twos.any (fun x => x.isPrefixOf [c, d]) || (c == 47 && (d == 47 || d == 42))) := by
        have k1 : ∀ x : UInt8, ([x] == [c]) = (c == x) := fun x => by
          rw [Bool.eq_iff_iff, beq_iff_eq, beq_iff_eq]
          exact ⟨fun h => by injection h with h _; exact h.symm, fun h => by rw [h]⟩
        have k2 : ∀ x : UInt8, [x].isPrefixOf (d :: r) = (d == x) := fun x => by
          rw [List.isPrefixOf, List.isPrefixOf, Bool.and_true, Bool.beq_comm]
        have k3 : ∀ x y : UInt8, [x, y].isPrefixOf [c, d] = (c == x && d == y) := fun x y => by
          rw [List.isPrefixOf, List.isPrefixOf, List.isPrefixOf, Bool.and_true, Bool.beq_comm (a := x), Bool.beq_comm (a := y)]
        simp only [clashes, twos, List.any_cons, List.any_nil, k1, k2, k3, Bool.or_false]
        have n1 : (c == 38) = false := by rw [beq_eq_false_iff_ne]; rintro rfl; revert hone; decide
        have n2 : (c == 124) = false := by rw [beq_eq_false_iff_ne]; rintro rfl; revert hone; decide
        rw [n1, n2]
        cases c == 61 <;> cases c == 33 <;> cases c == 60 <;> cases c == 62 <;> cases c == 47 <;> cases d == 61 <;> cases d == 47 <;> cases d == 42 <;> rfl
      rw [key, markL_cons, twos_one c d r, hone]
      have hgap : GapR (c :: d :: r) 0 true ↔ (c == 47 && (d == 47 || d == 42)) = false := by
        constructor
        · intro h
          rw [Bool.eq_false_iff]
          intro h2
          rw [Bool.and_eq_true, Bool.or_eq_true, beq_iff_eq, beq_iff_eq, beq_iff_eq] at h2
          have hh := rel_gap h _ (Nat.le_refl _)
          obtain ⟨rfl, rfl | rfl⟩ := h2
          · have h9 := GapR.line (47 :: 47 :: r) _ _ (pre2.2 ⟨r, rfl⟩) (gap_rel _ _ (Nat.le_refl _))
            have h8 := rel_gap h9 _ (Nat.le_refl _)
            rw [hh] at h8
            have h7 := runL_nl_pos (s := 47 :: 47 :: r) (pre2.2 ⟨r, rfl⟩)
            injection h8 with e1 _
            omega
          · cases he : endNote ((47 :: 42 :: r : List UInt8).drop 2) with
            | none =>
              have h8 := rel_gap (GapR.left (47 :: 42 :: r) (pre2.2 ⟨r, rfl⟩) he) _ (Nat.le_refl _)
              rw [hh] at h8
              injection h8 with _ e2
              cases e2
            | some j =>
              have h9 := GapR.note (47 :: 42 :: r) j _ _ (pre2.2 ⟨r, rfl⟩) he (gap_rel _ _ (Nat.le_refl _))
              have h8 := rel_gap h9 _ (Nat.le_refl _)
              rw [hh] at h8
              injection h8 with e1 _
              omega
        · intro h
          by_cases h47 : c = 47
          · subst h47
            rw [Bool.and_eq_false_iff] at h
            rcases h with h | h
            · cases h
            · rw [Bool.or_eq_false_iff, beq_eq_false_iff_ne, beq_eq_false_iff_ne] at h
              refine .stop 47 _ hsc ?_ ?_
              · rw [pre2_false]; intro q hq; injection hq with _ e; injection e with e _; exact h.1 e
              · rw [pre2_false]; intro q hq; injection hq with _ e; injection e with e _; exact h.2 e
          · exact gap_stop hsc h47
      rw [hgap]
      cases twos.any (fun x => x.isPrefixOf [c, d]) <;> cases (c == 47 && (d == 47 || d == 42)) <;> simp
    | [e], hm =>
      have h2 : markL (c :: ([e] ++ d :: r)) = 2 := by
        rw [List.cons_append, List.nil_append, markL_cons, twos_one]
        rw [markL_cons] at hm
        split at hm
        · rename_i h; rw [if_pos h]
        · split at hm <;> simp at hm
      have ht2 : twos.any (fun x => x.isPrefixOf [c, e]) = true := by
        rw [markL_cons] at hm
        split at hm
        · assumption
        · split at hm <;> simp at hm
      have hc47 : c ≠ 47 := by
        rintro rfl
        revert ht2
        simp [twos, List.isPrefixOf]
      have hcl : (clashes.any fun p => p.1 == [c, e] && p.2.isPrefixOf (d :: r)) = false := by simp [clashes]
      rw [hcl]
      refine ⟨fun _ => ⟨gap_stop hsc hc47, ?_⟩, fun _ => rfl⟩
      rw [List.cons_append, htok, h2]
      rfl
    | e :: f :: l, hm =>
      rw [markL_cons] at hm
      split at hm
      · simp at hm
      · split at hm <;> simp at hm
end Go.Proofs.YtefeelcjokdchaaDoor

/- Tokens' kinds, gaps, and tokens spelt as a text: the model. No program in sight. -/
set_option linter.unusedSectionVars false
namespace Go.Proofs.YtefeelcjokdchaaDoor
open Go Go.Cn

/-- Of which kind a token of this text is; 0: it is none. -/
def kindI (s : List UInt8) : Int :=
  if (lexM s).2.2 ≠ 0 then 0 else match (lexM s).1 with
  | [t, u] => if t.Lead = [] ∧ u.Lead = [] then t.Kind else 0
  | _ => 0
theorem kindI_tok {s : List UInt8} {k : Nat} (h : IsTok s k) : kindI s = k := by
  have := rel_lexM (h.lex 0)
  unfold kindI
  rw [this]
  rfl
theorem kindI_ne {s : List UInt8} (h : kindI s ≠ 0) : ∃ k : Nat, kindI s = k ∧ IsTok s k := by
  have hr := lexM_rel s
  unfold kindI at h ⊢
  generalize lexM s = r at h hr ⊢
  obtain ⟨l, p, e⟩ := r
  simp only at h hr ⊢
  by_cases he : e = 0
  · subst he
    obtain ⟨rfl, _, _⟩ := lexR_back hr rfl
    simp only [ne_eq, not_true_eq_false, if_false] at h ⊢
    match l, hr, h with
    | [t, u], hr, h =>
      simp only at h ⊢
      by_cases hl : t.Lead = [] ∧ u.Lead = []
      · rw [if_pos hl]
        exact tok_of_lex hr hl.1 hl.2
      · rw [if_neg hl] at h
        exact absurd rfl h
    | [], _, h => exact absurd rfl h
    | [_], _, h => exact absurd rfl h
    | _ :: _ :: _ :: _, _, h => exact absurd rfl h
  · rw [if_pos he] at h
    exact absurd rfl h
theorem kindI_len {s : List UInt8} (h : kindI s ≠ 0) : 0 < s.length := by
  obtain ⟨_, _, _, h, _⟩ := kindI_ne h
  exact h
/-- Whether something must stand between two tokens. -/
def gapI (a b : List UInt8) : Bool := if kindI a = 0 ∨ kindI b = 0 then false else gapK (kindI a).toNat (kindI b).toNat a b
theorem gapI_tok {a b : List UInt8} {x y : Nat} (ha : IsTok a x) (hb : IsTok b y) : gapI a b = gapK x y a b := by
  unfold gapI
  rw [kindI_tok ha, kindI_tok hb, if_neg]
  · rfl
  · have h1 := ha.kind
    have h2 := hb.kind
    omega

/-- Tokens as a text, with a space where one must stand. -/
def spellL : Option (List UInt8) → List (List UInt8) → List UInt8
  | _, [] => []
  | none, x :: l => x ++ spellL (some x) l
  | some q, x :: l => (if gapI q x then [32] else []) ++ x ++ spellL (some x) l
def sameS : List (List UInt8) → List ApiToken → Prop
  | [], [t] => t.Kind = 5
  | x :: l, t :: m => t.Text = x ∧ (t.Lead = [] ∨ t.Lead = [32]) ∧ t.Kind = kindI x ∧ kindI x ≠ 5 ∧ sameS l m
  | _, _ => False

theorem tok_then_space {x : List UInt8} {k : Nat} (h : IsTok x k) (r : List UInt8) : GapR (x ++ 32 :: r) 0 true ∧ tokL (x ++ 32 :: r) = (k, x.length, 0) := by
  obtain ⟨h1, h2, h3⟩ := h
  constructor
  · obtain ⟨c, q, hd, hs, hp1, hp2⟩ := gapR_next h1 h2
    rw [List.drop_zero] at hd
    subst hd
    have key : ∀ b : UInt8, b ≠ 32 → [47, b].isPrefixOf (c :: q) = false → [47, b].isPrefixOf (c :: (q ++ 32 :: r)) = false := by
      intro b hb h
      rw [pre2_false] at h ⊢
      intro y hy
      injection hy with e1 e2
      match q with
      | [] =>
        rw [List.nil_append] at e2
        injection e2 with e3 e4
        exact hb e3.symm
      | z :: q =>
        rw [List.cons_append] at e2
        injection e2 with e3 e4
        exact h q (by rw [e1, e3])
    exact .stop c _ hs (key 47 (by decide) hp1) (key 42 (by decide) hp2)
  · have := tokL_space h3 32 (by decide) r
    rw [List.take_length] at this
    exact this
theorem tok_then {x : List UInt8} {k : Nat} (h : IsTok x k) (l : List (List UInt8)) (hl : ∀ y ∈ l, kindI y ≠ 0) : GapR (x ++ spellL (some x) l) 0 true ∧ tokL (x ++ spellL (some x) l) = (k, x.length, 0) := by
  cases l with
  | nil =>
    simp only [spellL, List.append_nil]
    exact ⟨h.1, h.2.2⟩
  | cons y l =>
    simp only [spellL]
    obtain ⟨ky, _, hy⟩ := kindI_ne (hl y List.mem_cons_self)
    cases hg : gapI x y with
    | true =>
      simp only [if_true, List.cons_append, List.nil_append]
      exact tok_then_space h _
    | false =>
      simp only [Bool.false_eq_true, if_false, List.nil_append]
      rw [gapI_tok h hy, gap_side h hy] at hg
      obtain ⟨g1, g2⟩ := hg
      have hx := h.2.1
      have hyl := hy.2.1
      rw [← List.append_assoc]
      refine ⟨gapR_append g1 _ rfl (by rw [List.length_append]; omega) ?_, tokL_append g2 (by rw [List.length_append]; omega) _⟩
      intro c q hd _ hq
      subst hq
      have := congrArg List.length hd
      rw [List.drop_zero, List.length_append] at this
      simp only [List.length_cons, List.length_nil] at this
      omega
theorem spell_lex : ∀ (l : List (List UInt8)), (∀ y ∈ l, kindI y ≠ 0) → ∀ (a : Nat) (p : Option (List UInt8)), ∃ m, LexR a (spellL p l) m 0 0 ∧ sameS l m
  | [], _, a, p => by
    have e : spellL p [] = [] := by cases p <;> rfl
    rw [e]
    exact ⟨_, .fin a [] .nil, rfl⟩
  | x :: l, h, a, p => by
    obtain ⟨k, hkx, hx⟩ := kindI_ne (h x List.mem_cons_self)
    have hl : ∀ y ∈ l, kindI y ≠ 0 := fun y hy => h y (List.mem_cons_of_mem _ hy)
    obtain ⟨t1, t2⟩ := tok_then hx l hl
    have hk5 : kindI x ≠ 5 := by
      have := (tokL_len t2).2.2.2
      omega
    have key : ∀ sp : List UInt8, sp = [] ∨ sp = [32] → ∃ m, LexR a (sp ++ (x ++ spellL (some x) l)) m 0 0 ∧ sameS (x :: l) m := by
      intro sp hsp
      obtain ⟨m, h1, h2⟩ := spell_lex l hl (a + sp.length + x.length) (some x)
      have hg : GapR (sp ++ (x ++ spellL (some x) l)) sp.length true := by
        rcases hsp with rfl | rfl
        · exact t1
        · exact .space 32 _ 0 true (by decide) t1
      have hd : (sp ++ (x ++ spellL (some x) l)).drop sp.length = x ++ spellL (some x) l := List.drop_left
      have := LexR.tok a (sp ++ (x ++ spellL (some x) l)) sp.length k x.length m hg (by have := hx.2.1; simp only [List.length_append]; omega) (by rw [hd]; exact t2) (by rw [← List.drop_drop, hd, List.drop_left]; exact h1)
      refine ⟨_, this, ?_, ?_, ?_, hk5, h2⟩
      · show ((sp ++ (x ++ spellL (some x) l)).drop sp.length).take x.length = x
        rw [hd, List.take_left]
      · show (sp ++ (x ++ spellL (some x) l)).take sp.length = [] ∨ (sp ++ (x ++ spellL (some x) l)).take sp.length = [32]
        rw [List.take_left]
        exact hsp
      · exact hkx.symm
    cases p with
    | none => exact key [] (.inl rfl)
    | some q =>
      simp only [spellL]
      rw [List.append_assoc]
      refine key _ ?_
      cases gapI q x <;> simp
theorem isTok_kinds_of {a b : List UInt8} {d x : Nat} (h : tokL (a ++ b) = (d, a.length, 0)) (hx : IsTok a x) : x = d := by
  have := tokL_take h (Nat.le_refl _)
  rw [List.take_left, hx.2.2] at this
  injection this
theorem sameS_length : ∀ l m, sameS l m → m.length = l.length + 1
  | [], [_], _ => rfl
  | _ :: l, _ :: m, h => by rw [List.length_cons, List.length_cons, sameS_length l m h.2.2.2.2]
  | [], [], h => h.elim
  | [], _ :: _ :: _, h => h.elim
  | _ :: _, [], h => h.elim
end Go.Proofs.YtefeelcjokdchaaDoor

/- Tokens in plain Lean: kinds, gaps, spelling, texts, places come to the model. -/
set_option linter.unusedSectionVars false
namespace Go.Proofs.YtefeelcjokdchaaDoor
open Go Go.Cn

theorem token_Kind_eq (s : List UInt8) (hs : s.length ≤ 1048576) : token_Kind s = some (kindI s) := by
  unfold token_Kind
  rw [lex_Lex_eq s hs]
  have hr := lexM_rel s
  unfold kindI
  simp only [Option.bind_some, lexI]
  generalize lexM s = r at hr ⊢
  obtain ⟨l, p, e⟩ := r
  simp only at hr ⊢
  by_cases he : e = 0
  · subst he
    rw [if_neg (by simp)]
    simp only [ne_eq, not_true_eq_false, if_false]
    match l, hr with
    | [t, u], hr =>
      have h0 : idx [t, u] 0 = some t := rfl
      have h1 : idx [t, u] 1 = some u := rfl
      rw [if_neg (by simp), h0, h1]
      simp only [Option.bind_some, token_Kind_j1]
      by_cases e1 : t.Lead = []
      · by_cases e2 : u.Lead = []
        · simp [e1, e2, h0]
        · simp [e1, e2]
      · simp [e1]
    | [], _ => rfl
    | [_], _ => rfl
    | a :: b :: c :: l, _ => rw [if_pos (by rw [bne_iff_ne]; simp only [List.length_cons]; omega)]; rfl
  · rw [if_pos (by rw [bne_iff_ne]; omega), if_pos he]
    rfl
theorem ref04_Kind_eq (s : List UInt8) (hs : s.length ≤ 1048576) : ref04_Kind s = some (kindI s) := by
  unfold ref04_Kind
  rw [ref03_Lex_eq s hs]
  have hr := lexM_rel s
  unfold kindI
  simp only [Option.bind_some, lexI]
  generalize lexM s = r at hr ⊢
  obtain ⟨l, p, e⟩ := r
  simp only at hr ⊢
  by_cases he : e = 0
  · subst he
    rw [if_neg (by simp)]
    simp only [ne_eq, not_true_eq_false, if_false]
    match l, hr with
    | [t, u], hr =>
      have h0 : idx [t, u] 0 = some t := rfl
      rw [if_neg (by simp), h0]
      simp only [Option.bind_some, ref04_Kind_j1]
      obtain ⟨_, _, _, s', hsp, hor⟩ := lexR_back hr rfl
      rcases hor with ⟨h, _⟩ | ⟨_, _, _, _, s2, hs2, hor2⟩
      · cases h
      rcases hor2 with ⟨_, _, hu, rfl⟩ | ⟨h, _⟩
      · rw [hu, List.append_nil, List.append_nil] at hs2
        subst hs2
        have hlen := congrArg List.length hsp
        simp only [List.length_append] at hlen
        by_cases hts : t.Text = s
        · have hl := congrArg List.length hts
          have z1 : t.Lead = [] := List.eq_nil_of_length_eq_zero (by omega)
          have z2 : u.Lead = [] := List.eq_nil_of_length_eq_zero (by omega)
          rw [if_neg (by simp [hts]), if_pos ⟨z1, z2⟩, h0]
          rfl
        · have : (t.Text == s) = false := by rw [beq_eq_false_iff_ne]; exact hts
          have hn : ¬ (t.Lead = [] ∧ u.Lead = []) := by
            rintro ⟨z1, z2⟩
            apply hts
            rw [hsp, z1, z2]
            simp
          rw [this, if_neg hn]
          rfl
      · exact absurd rfl h
    | [], _ => rfl
    | [_], _ => rfl
    | a :: b :: c :: l, _ => rw [if_pos (by rw [bne_iff_ne]; simp only [List.length_cons]; omega)]; rfl
  · rw [if_pos (by rw [bne_iff_ne]; omega), if_pos he]
    rfl

theorem lclashes_any (a b : List UInt8) : (lclashes.any fun p => p.mark == a && p.behind.isPrefixOf b) = clashes.any fun p => p.1 == a && p.2.isPrefixOf b := rfl
theorem token_Gap_loop (a b : List UInt8) : ∃ z, iter (fun i => token_Gap_l2 a b i) 0 = some z ∧ (match z with | .next _ => (clashes.any fun p => p.1 == a && p.2.isPrefixOf b) = false | .done r => r = true ∧ (clashes.any fun p => p.1 == a && p.2.isPrefixOf b) = true) := by
  rw [← lclashes_any]
  refine iter_ind (f := fun i => token_Gap_l2 a b i) (fun i => ∃ k : Nat, i = k ∧ k ≤ 6 ∧ (lclashes.any fun p => p.mark == a && p.behind.isPrefixOf b) = (lclashes.drop k).any fun p => p.mark == a && p.behind.isPrefixOf b) (fun z => match z with | .next _ => (lclashes.any fun p => p.mark == a && p.behind.isPrefixOf b) = false | .done r => r = true ∧ (lclashes.any fun p => p.mark == a && p.behind.isPrefixOf b) = true) (fun i => 6 - i.toNat) ?_ 0 ⟨0, rfl, by omega, by simp⟩
  rintro i ⟨k, rfl, hk, hr⟩
  have hl : lclashes.length = 6 := rfl
  unfold token_Gap_l2
  rcases Nat.lt_or_ge k 6 with hlt | hge
  · obtain ⟨t, l, hd⟩ := drop_some (s := lclashes) (k := k) (by omega)
    rw [if_pos (by simp; omega), idx_drop hd]
    rw [hd, List.any_cons] at hr
    simp only [Option.bind_some, hasPrefix_eq, token_Gap_j3]
    have key : (if (t.mark == a) = true then (if t.behind.isPrefixOf b = true then (some (.inr (.done true)) : Option (Int ⊕ Flow Unit Bool)) else some (.inl (w64 ((k : Int) + 1)))) else some (.inl (w64 ((k : Int) + 1)))) = if (t.mark == a && t.behind.isPrefixOf b) = true then some (.inr (.done true)) else some (.inl (w64 ((k : Int) + 1))) := by
      cases t.mark == a <;> cases t.behind.isPrefixOf b <;> rfl
    have e2 : (if (t.mark == a) = true then if t.behind.isPrefixOf b = true then some (.inr (.done true)) else some (.inl (w64 ((k : Int) + 1))) else if false = true then some (.inr (.done true)) else some (.inl (w64 ((k : Int) + 1))) : Option (Int ⊕ Flow Unit Bool)) = if (t.mark == a && t.behind.isPrefixOf b) = true then some (.inr (.done true)) else some (.inl (w64 ((k : Int) + 1))) := by
      rw [← key]; simp
    first | rw [e2] | rw [key] | skip
    cases hp : (t.mark == a && t.behind.isPrefixOf b) with
    | true =>
      right
      refine ⟨.done true, ?_, rfl, by rw [hr, hp]; rfl⟩
      rw [Bool.and_eq_true] at hp
      simp [hp.1, hp.2]
    | false =>
      left
      rw [hp, Bool.false_or] at hr
      refine ⟨((k + 1 : Nat) : Int), ?_, ⟨k + 1, rfl, by omega, by rw [hr, (drop_cons hd).2.2]⟩, by simp; omega⟩
      rw [w64_one (by omega)]
      cases h1 : t.mark == a <;> cases h2 : t.behind.isPrefixOf b <;> first | rfl | (rw [h1, h2] at hp; cases hp) | simp
  · right
    refine ⟨.next (), by rw [if_neg (by simp; omega)], ?_⟩
    show (lclashes.any fun p => p.mark == a && p.behind.isPrefixOf b) = false
    rw [hr, List.drop_eq_nil_of_le (by omega)]
    rfl
theorem kindI_cases (s : List UInt8) : kindI s = 0 ∨ kindI s = 1 ∨ kindI s = 2 ∨ kindI s = 3 ∨ kindI s = 4 := by
  by_cases h : kindI s = 0
  · exact .inl h
  · obtain ⟨k, hk, ht⟩ := kindI_ne h
    obtain ⟨c, l, rfl, _⟩ := isTok_cons ht
    rw [hk]
    rcases isTok_kinds ht with ⟨rfl, _⟩ | ⟨rfl | rfl, _⟩ | ⟨rfl, _⟩ <;> simp
theorem gapI_left {a b : List UInt8} (h : kindI a = 0) : gapI a b = false := by unfold gapI; rw [if_pos (.inl h)]
theorem gapI_right {a b : List UInt8} (h : kindI b = 0) : gapI a b = false := by unfold gapI; rw [if_pos (.inr h)]
theorem token_Gap_eq (a b : List UInt8) (ha : a.length ≤ 1048576) (hb : b.length ≤ 1048576) : token_Gap a b = some (gapI a b) := by
  unfold token_Gap
  rw [token_Kind_eq a ha, token_Kind_eq b hb]
  simp only [Option.bind_some]
  by_cases h1 : kindI a = 0
  · rw [if_pos (by simpa using h1), gapI_left h1]
    rfl
  · rw [if_neg (by simpa using h1)]
    by_cases h2 : kindI b = 0
    · have e : (kindI b == 0) = true := by simpa using h2
      rw [e, gapI_right h2]
      rfl
    · have e : (kindI b == 0) = false := by simpa using h2
      rw [e]
      have e2 : gapI a b = gapK (kindI a).toNat (kindI b).toNat a b := by
        unfold gapI
        rw [if_neg (fun h => h.elim h1 h2)]
      rw [e2]
      have hb4 : ((kindI b).toNat != 4) = (kindI b != 4) := by
        rw [Bool.eq_iff_iff, bne_iff_ne, bne_iff_ne]
        rcases kindI_cases b with h | h | h | h | h <;> rw [h] <;> decide
      have hb2 : ((kindI b).toNat == 2) = (kindI b == 2) := by
        rw [Bool.eq_iff_iff, beq_iff_eq, beq_iff_eq]
        rcases kindI_cases b with h | h | h | h | h <;> rw [h] <;> decide
      have g1 : ∀ y, gapK 1 y a b = (y != 4) := fun _ => rfl
      have g2 : ∀ y, gapK 2 y a b = (y == 2) := fun _ => rfl
      have g3 : ∀ y, gapK 3 y a b = (y != 4) := fun _ => rfl
      have g4 : ∀ y, gapK 4 y a b = clashes.any fun p => p.1 == a && p.2.isPrefixOf b := fun _ => rfl
      rcases kindI_cases a with h | h | h | h | h
      · exact absurd h h1
      · rw [h, show (1 : Int).toNat = 1 from rfl, g1, hb4]; rfl
      · rw [h, show (2 : Int).toNat = 2 from rfl, g2, hb2]; rfl
      · rw [h, show (3 : Int).toNat = 3 from rfl, g3, hb4]; rfl
      · rw [h, show (4 : Int).toNat = 4 from rfl, g4]
        obtain ⟨z, h3, h4⟩ := token_Gap_loop a b
        have e3 : token_Gap_j5 4 (kindI b) a b false = (iter (fun s => token_Gap_l2 a b s) 0).bind fun z => match z with | .next _ => token_Gap_k1 | .done r => some r := rfl
        show token_Gap_j5 4 (kindI b) a b false = _
        rw [e3, h3]
        cases z with
        | next u =>
          have h4 : (clashes.any fun p => p.1 == a && p.2.isPrefixOf b) = false := h4
          rw [h4]
          rfl
        | done r =>
          obtain ⟨rfl, h4⟩ := h4
          rw [h4]
          rfl
theorem ref04_Gap_eq (a b : List UInt8) (h : a.length + b.length ≤ 1048576) : ref04_Gap a b = some (gapI a b) := by
  unfold ref04_Gap
  rw [ref04_Kind_eq a (by omega), ref04_Kind_eq b (by omega)]
  simp only [Option.bind_some]
  by_cases h1 : kindI a = 0
  · rw [if_pos (by simpa using h1), gapI_left h1]
    rfl
  · rw [if_neg (by simpa using h1)]
    by_cases h2 : kindI b = 0
    · have e : (kindI b == 0) = true := by simpa using h2
      rw [e, gapI_right h2]
      rfl
    · have e : (kindI b == 0) = false := by simpa using h2
      rw [e]
      unfold ref04_Gap_j2
      rw [if_neg (by simp)]
      obtain ⟨x, _, hx⟩ := kindI_ne h1
      obtain ⟨y, _, hy⟩ := kindI_ne h2
      rw [gapI_tok hx hy]
      unfold cat
      rw [if_pos (show a.length + b.length ≤ 9223372036854775807 by omega)]
      simp only [Option.bind_some]
      rw [ref03_Lex_eq _ (by rw [List.length_append]; exact h)]
      simp only [Option.bind_some, lexI, ref04_Gap_j1]
      cases hg : gapK x y a b with
      | false =>
        obtain ⟨g1, g2⟩ := (gap_side hx hy).1 hg
        have h3 := LexR.tok 0 (a ++ b) 0 x a.length _ g1 (by have := hx.2.1; rw [List.length_append]; omega) g2 (by rw [← List.drop_drop, List.drop_zero, List.drop_left]; exact hy.lex _)
        have hm := rel_lexM h3
        rw [hm]
        rw [if_neg (by simp), if_neg (by simp)]
        have e0 : ∀ t u v : ApiToken, idx [t, u, v] 0 = some t := fun _ _ _ => rfl
        have e1 : ∀ t u v : ApiToken, idx [t, u, v] 1 = some u := fun _ _ _ => rfl
        simp only [e0, e1, Option.bind_some, List.drop_zero, List.take_left]
        simp
      | true =>
        have hr := lexM_rel (a ++ b)
        generalize lexM (a ++ b) = r at hr ⊢
        obtain ⟨l, p, e⟩ := r
        simp only at hr ⊢
        by_cases he : e = 0
        · subst he
          rw [if_neg (by simp)]
          by_cases hl : l.length = 3
          · rw [if_neg (by rw [bne_iff_ne]; omega)]
            match l, hl, hr with
            | [t, u, v], _, hr =>
              have e0 : idx [t, u, v] 0 = some t := rfl
              have e1 : idx [t, u, v] 1 = some u := rfl
              rw [e0, e1]
              simp only [Option.bind_some]
              by_cases ht : t.Text = a
              · rw [if_neg (by simp [ht])]
                by_cases hu : u.Text = b
                · rw [if_neg (by simp [hu])]
                  by_cases hl : u.Lead = []
                  · exfalso
                    obtain ⟨rfl, _, _⟩ := lexR_back hr rfl
                    obtain ⟨k, n, d, hgap, hk, htk, hr2, rfl⟩ := lex_inv hr (by simp)
                    obtain ⟨hn, hn2, _, _⟩ := tokL_len htk
                    have ht : ((a ++ b).drop k).take n = a := ht
                    have hlt := congrArg List.length ht
                    rw [List.length_take, Nat.min_eq_left hn2] at hlt
                    rw [List.length_drop, List.length_append] at hn2
                    obtain ⟨k2, n2, d2, hgap2, hk2, htk2, hr3, rfl⟩ := lex_inv hr2 (by simp)
                    have hu : (((a ++ b).drop (k + n)).drop k2).take n2 = b := hu
                    have hlu := congrArg List.length hu
                    rw [List.length_take, List.length_drop, List.length_drop, List.length_append] at hlu
                    have hb := hy.2.1
                    obtain rfl : k = 0 := by omega
                    rw [List.drop_zero] at htk
                    rw [hlt] at htk
                    have hd := (isTok_kinds_of htk hx).symm
                    subst hd
                    have := (gap_side hx hy).2 ⟨hgap, htk⟩
                    rw [hg] at this
                    cases this
                  · have : (u.Lead == []) = false := by rw [beq_eq_false_iff_ne]; exact hl
                    rw [this]
                    rfl
                · have : (u.Text == b) = false := by rw [beq_eq_false_iff_ne]; exact hu
                  rw [this, if_pos (by rfl)]
              · have : (t.Text == a) = false := by rw [beq_eq_false_iff_ne]; exact ht
                rw [this, if_pos (by rfl)]
          · rw [if_pos (by rw [bne_iff_ne]; omega)]
        · rw [if_pos (by rw [bne_iff_ne]; omega)]
end Go.Proofs.YtefeelcjokdchaaDoor

/- Tokens in plain Lean: spelling, texts, places come to the model; the law of kinds. -/
set_option linter.unusedSectionVars false
namespace Go.Proofs.YtefeelcjokdchaaDoor
open Go Go.Cn

def pv (l : List (List UInt8)) : Nat → Option (List UInt8)
  | 0 => none
  | k + 1 => l[k]?
theorem byte32 : UInt8.ofNat (32 : Int).toNat = 32 := rfl
theorem spell_loop (l : List (List UInt8)) (hl : l.length ≤ 1048576) (hb : ∀ y ∈ l, y.length ≤ 1048576) (hs : (spellL none l).length ≤ 1048576) : ∃ z, iter (fun s => token_Spell_l2 l s.1 s.2) (0, []) = some z ∧ (match z with | .next b => b = spellL none l ∧ ∀ y ∈ l, kindI y ≠ 0 | .done r => r = ([], false) ∧ ∃ y ∈ l, kindI y = 0) := by
  refine iter_ind (f := fun s : Int × List UInt8 => token_Spell_l2 l s.1 s.2) (fun s => ∃ k : Nat, s.1 = k ∧ k ≤ l.length ∧ (∀ y ∈ l.take k, kindI y ≠ 0) ∧ s.2 ++ spellL (pv l k) (l.drop k) = spellL none l) (fun z => match z with | .next b => b = spellL none l ∧ ∀ y ∈ l, kindI y ≠ 0 | .done r => r = ([], false) ∧ ∃ y ∈ l, kindI y = 0) (fun s => l.length - s.1.toNat) ?_ (0, []) ⟨0, rfl, Nat.zero_le _, by simp, by simp [pv]⟩
  rintro ⟨i, b⟩ ⟨k, hi, hk, hall, hr⟩
  simp only at hi hr
  subst hi
  show (∃ s', token_Spell_l2 l (k : Int) b = _ ∧ _) ∨ ∃ o, token_Spell_l2 l (k : Int) b = _ ∧ _
  unfold token_Spell_l2
  rcases Nat.lt_or_ge k l.length with hlt | hge
  · obtain ⟨x, l', hd⟩ := drop_some hlt
    have hx : x ∈ l := List.mem_of_mem_drop (by rw [hd]; exact List.mem_cons_self : x ∈ l.drop k)
    rw [if_pos (by simpa using hlt), idx_drop hd]
    simp only [Option.bind_some]
    rw [token_Kind_eq x (hb x hx)]
    simp only [Option.bind_some]
    by_cases h0 : kindI x = 0
    · right
      exact ⟨.done ([], false), by rw [if_pos (by simpa using h0)], rfl, x, hx, h0⟩
    · left
      rw [if_neg (by simpa using h0)]
      have hall2 : ∀ y ∈ l.take (k + 1), kindI y ≠ 0 := by
        intro y hy
        rw [List.take_succ_eq_append_getElem hlt, List.mem_append, List.mem_singleton] at hy
        rcases hy with hy | hy
        · exact hall y hy
        · have : l[k] = x := by
            have := (drop_cons hd).2.1
            rw [List.getElem?_eq_getElem hlt] at this
            exact Option.some.inj this
          rw [hy, this]
          exact h0
      have hpv : pv l (k + 1) = some x := (drop_cons hd).2.1
      rw [hd] at hr
      have hd2 := (drop_cons hd).2.2
      match k, hk, hr, hlt, hall2, hpv, hd, hd2 with
      | 0, hk, hr, hlt, hall2, hpv, hd, hd2 =>
        simp only [pv, spellL] at hr
        have hlen := congrArg List.length hr
        simp only [List.length_append] at hlen
        rw [if_neg (by simp)]
        simp only [token_Spell_j4, token_Spell_j3, Bool.false_eq_true, if_false]
        rw [idx_drop hd]
        simp only [Option.bind_some, bcat]
        rw [if_pos (show b.length + x.length ≤ 140737488355328 by omega)]
        simp only [Option.bind_some]
        exact ⟨_, rfl, ⟨0 + 1, w64_one (a := 0) (by omega), hlt, hall2, by rw [hpv, hd2, List.append_assoc]; exact hr⟩, by rw [w64_one (a := 0) (by omega)]; simp; omega⟩
      | k + 1, hk, hr, hlt, hall2, hpv, hd, hd2 =>
        obtain ⟨q, r, hdq⟩ := drop_some (s := l) (k := k) (by omega)
        have hq : pv l (k + 1) = some q := (drop_cons hdq).2.1
        have hql : q ∈ l := List.mem_of_mem_drop (by rw [hdq]; exact List.mem_cons_self : q ∈ l.drop k)
        rw [hq] at hr
        simp only [spellL] at hr
        have hlen := congrArg List.length hr
        simp only [List.length_append] at hlen
        have hw : w64 (((k + 1 : Nat) : Int) - 1) = (k : Int) := by rw [w64_id (by omega) (by omega)]; omega
        rw [if_pos (by rw [decide_eq_true_eq]; omega), hw, idx_drop hdq]
        simp only [Option.bind_some]
        rw [token_Gap_eq q x (hb q hql) (hb x hx)]
        simp only [Option.bind_some, token_Spell_j4, token_Spell_j3, idx_drop hd]
        cases hg : gapI q x with
        | true =>
          rw [hg] at hr hlen
          simp only [if_true, List.length_cons, List.length_nil] at hr hlen
          simp only [if_true, bput]
          rw [if_pos ⟨by omega, by omega⟩]
          simp only [Option.bind_some, bcat, byte32]
          have e9 : (b ++ [(32 : UInt8)]).length + x.length ≤ 140737488355328 := by simp only [List.length_append, List.length_cons, List.length_nil]; omega
          rw [if_pos e9]
          simp only [Option.bind_some]
          exact ⟨_, rfl, ⟨k + 1 + 1, w64_one (by omega), hlt, hall2, by rw [hpv, hd2, ← hr]; simp⟩, by rw [w64_one (by omega)]; simp; omega⟩
        | false =>
          rw [hg] at hr hlen
          simp only [Bool.false_eq_true, if_false, List.length_nil, List.nil_append] at hr hlen
          simp only [Bool.false_eq_true, if_false, bcat]
          rw [if_pos (show b.length + x.length ≤ 140737488355328 by omega)]
          simp only [Option.bind_some]
          exact ⟨_, rfl, ⟨k + 1 + 1, w64_one (by omega), hlt, hall2, by rw [hpv, hd2, ← hr]; simp⟩, by rw [w64_one (by omega)]; simp; omega⟩
  · right
    rw [List.drop_eq_nil_of_le hge] at hr
    rw [List.take_of_length_le hge] at hall
    refine ⟨.next b, by rw [if_neg (by simp; omega)], ?_, hall⟩
    rw [← hr]
    cases pv l k <;> simp [spellL]
theorem token_Spell_eq (l : List (List UInt8)) (hl : l.length ≤ 1048576) (hb : ∀ y ∈ l, y.length ≤ 1048576) (hs : (spellL none l).length ≤ 1048576) : (token_Spell l = some (spellL none l, true) ∧ ∀ y ∈ l, kindI y ≠ 0) ∨ (token_Spell l = some ([], false) ∧ ∃ y ∈ l, kindI y = 0) := by
  obtain ⟨z, h1, h2⟩ := spell_loop l hl hb hs
  unfold token_Spell
  rw [h1]
  cases z with
  | next b => obtain ⟨rfl, h2⟩ := h2; exact .inl ⟨rfl, h2⟩
  | done r => obtain ⟨rfl, h2⟩ := h2; exact .inr ⟨rfl, h2⟩

/-- The texts of tokens, without the end. -/
def textsL : List ApiToken → List (List UInt8)
  | [] => []
  | t :: l => if t.Kind = 5 then textsL l else t.Text :: textsL l
theorem textsL_length : ∀ l, (textsL l).length ≤ l.length
  | [] => Nat.le_refl _
  | t :: l => by
    have := textsL_length l
    simp only [textsL, List.length_cons]
    split <;> simp <;> omega
theorem token_Texts_eq (l : List ApiToken) (hl : l.length ≤ 1048576) : token_Texts l = some (textsL l) := by
  obtain ⟨o, h1, h2⟩ := iter_ind (f := fun s : Int × List (List UInt8) => token_Texts_l2 l s.1 s.2) (fun s => ∃ k : Nat, s.1 = k ∧ k ≤ l.length ∧ s.2 ++ textsL (l.drop k) = textsL l) (fun o => o = textsL l) (fun s => l.length - s.1.toNat)
    (by
      rintro ⟨i, b⟩ ⟨k, hi, hk, hr⟩
      simp only at hi hr
      subst hi
      show (∃ s', token_Texts_l2 l (k : Int) b = _ ∧ _) ∨ ∃ o, token_Texts_l2 l (k : Int) b = _ ∧ _
      unfold token_Texts_l2
      rcases Nat.lt_or_ge k l.length with hlt | hge
      · obtain ⟨t, l', hd⟩ := drop_some hlt
        rw [if_pos (by simpa using hlt), idx_drop hd]
        simp only [Option.bind_some, token_Texts_j3]
        have hd2 := (drop_cons hd).2.2
        rw [hd] at hr
        simp only [textsL] at hr
        left
        by_cases h5 : t.Kind = 5
        · rw [if_neg (by simp [h5])]
          rw [if_pos h5] at hr
          exact ⟨_, rfl, ⟨k + 1, w64_one (by omega), hlt, by rw [hd2]; exact hr⟩, by rw [w64_one (by omega)]; simp; omega⟩
        · rw [if_pos (by simpa using h5)]
          rw [if_neg h5] at hr
          have hlen := congrArg List.length hr
          have htl := textsL_length l
          simp only [List.length_append, List.length_cons] at hlen
          unfold app
          rw [if_pos ⟨by simp only [List.length_cons, List.length_nil]; omega, by simp only [List.length_cons, List.length_nil]; omega⟩]
          simp only [Option.bind_some]
          exact ⟨_, rfl, ⟨k + 1, w64_one (by omega), hlt, by rw [hd2, ← hr]; simp⟩, by rw [w64_one (by omega)]; simp; omega⟩
      · right
        refine ⟨b, by rw [if_neg (by simp; omega)], ?_⟩
        rw [List.drop_eq_nil_of_le hge] at hr
        simpa [textsL] using hr) (0, []) ⟨0, rfl, Nat.zero_le _, by simp⟩
  unfold token_Texts
  rw [h1, h2]
  rfl

/-- Whether a byte lies in a token. -/
def inTok (t : ApiToken) (a : Int) : Bool := decide (t.At ≤ a) && decide ((IntKind.wrap .u64 ((IntKind.wrap .u64 a) - (IntKind.wrap .u64 t.At))) < (IntKind.wrap .u64 (t.Text.length : Int)))
def atL : List ApiToken → Int → Nat → Int
  | [], _, _ => -1
  | t :: l, a, k => if inTok t a then k else atL l a (k + 1)
theorem token_At_eq (l : List ApiToken) (a : Int) (hl : l.length ≤ 1048576) : token_At l a = some (atL l a 0) := by
  obtain ⟨z, h1, h2⟩ := iter_ind (f := fun i => token_At_l2 l a i) (fun i => ∃ k : Nat, i = k ∧ k ≤ l.length ∧ atL l a 0 = atL (l.drop k) a k) (fun z => (match z with | .next _ => (-1 : Int) | .done r => r) = atL l a 0) (fun i => l.length - i.toNat)
    (by
      rintro i ⟨k, rfl, hk, hr⟩
      unfold token_At_l2
      rcases Nat.lt_or_ge k l.length with hlt | hge
      · obtain ⟨t, l', hd⟩ := drop_some hlt
        rw [if_pos (by simpa using hlt), idx_drop hd]
        simp only [Option.bind_some, token_At_j3]
        have hd2 := (drop_cons hd).2.2
        rw [hd] at hr
        simp only [atL] at hr
        cases hin : inTok t a with
        | true =>
          right
          rw [hin, if_pos rfl] at hr
          unfold inTok at hin
          rw [Bool.and_eq_true] at hin
          exact ⟨.done k, by rw [if_pos hin.1, if_pos hin.2], hr.symm⟩
        | false =>
          left
          rw [hin] at hr
          refine ⟨((k + 1 : Nat) : Int), ?_, ⟨k + 1, rfl, hlt, by rw [hd2]; exact hr⟩, by simp; omega⟩
          rw [w64_one (by omega)]
          unfold inTok at hin
          rw [Bool.and_eq_false_iff] at hin
          by_cases h1 : decide (t.At ≤ a) = true
          · rcases hin with h | h
            · rw [h] at h1; cases h1
            · rw [if_pos h1, h]; rfl
          · rw [if_neg h1]; simp
      · right
        rw [List.drop_eq_nil_of_le hge] at hr
        exact ⟨.next (), by rw [if_neg (by simp; omega)], hr.symm⟩) 0 ⟨0, rfl, Nat.zero_le _, by simp⟩
  unfold token_At
  rw [h1]
  cases z with
  | next u => exact congrArg some h2
  | done r => exact congrArg some h2

theorem awake04_1 : spellL none [[97], [49], [60], [61], [41], [98]] = [97, 32, 49, 60, 32, 61, 41, 98] := by decide +kernel
theorem awake04_2 : (∀ y ∈ ([[97], [49], [60], [61], [41], [98]] : List (List UInt8)), kindI y ≠ 0) := by decide +kernel
theorem awake04_3 : gapI [97] [49] = true ∧ gapI [60] [61] = true ∧ gapI [47] [42] = true ∧ gapI [49] [97] = false ∧ gapI [41] [97] = false ∧ kindI [119, 104, 105, 108, 101] = 3 := by decide +kernel
theorem awake04_4 : atL [ApiToken.mk 0 [97, 98] 3 []] 4 0 = 0 ∧ textsL [ApiToken.mk 1 [97] 0 []] = [[97]] := by decide +kernel
theorem law04_awake_eq : law04_awake = some true := by
  unfold law04_awake
  rcases token_Spell_eq [[97], [49], [60], [61], [41], [98]] (by decide) (by decide) (by rw [awake04_1]; decide) with ⟨h, _⟩ | ⟨_, y, hy, h0⟩
  · rw [h, awake04_1]
    obtain ⟨a1, a2, a3, a4, a5, a6⟩ := awake04_3
    obtain ⟨b1, b2⟩ := awake04_4
    simp only [Option.bind_some]
    rw [token_Gap_eq _ _ (by decide) (by decide), token_Gap_eq _ _ (by decide) (by decide), token_Gap_eq _ _ (by decide) (by decide), token_Gap_eq _ _ (by decide) (by decide), token_Gap_eq _ _ (by decide) (by decide), token_Kind_eq _ (by decide), token_At_eq _ _ (by decide), token_Texts_eq _ (by decide)]
    simp only [Option.bind_some, a1, a2, a3, a4, a5, a6, b1, b2]
    rfl
  · exact absurd h0 (awake04_2 y hy)

theorem law_TokenKinds (a b : List UInt8) : law04_TokenKinds a b = some true := by
  unfold law04_TokenKinds
  rw [law04_awake_eq]
  simp only [Option.bind_some]
  rw [if_neg (by simp)]
  by_cases ha : a.length > 100
  · rw [if_pos (by simp; omega)]; rfl
  · rw [if_neg (by simp; omega)]
    unfold law04_TokenKinds_j2
    by_cases hb : b.length > 100
    · rw [if_pos (by simp; omega)]
    · rw [if_neg (by simp; omega), token_Kind_eq a (by omega), ref04_Kind_eq a (by omega)]
      simp only [Option.bind_some]
      rw [if_pos (by simp), token_Gap_eq a b (by omega) (by omega), ref04_Gap_eq a b (by omega)]
      simp [law04_TokenKinds_j1]
end Go.Proofs.YtefeelcjokdchaaDoor

/- The laws of tokens in plain Lean: tokens spelt are these tokens again; each byte's place. -/
set_option linter.unusedSectionVars false
namespace Go.Proofs.YtefeelcjokdchaaDoor
open Go Go.Cn

theorem short_eq (l : List (List UInt8)) : ∃ b, law04_short l = some b ∧ (b = true → l.length ≤ 60 ∧ ∀ y ∈ l, y.length ≤ 60) := by
  unfold law04_short
  by_cases h : l.length > 60
  · exact ⟨false, by rw [if_pos (by simp; omega)], by simp⟩
  · rw [if_neg (by simp; omega)]
    obtain ⟨z, h1, h2⟩ := iter_ind (f := fun i => law04_short_l2 l i) (fun i => ∃ k : Nat, i = k ∧ k ≤ l.length ∧ ∀ y ∈ l.take k, y.length ≤ 60) (fun z => match z with | .next _ => ∀ y ∈ l, y.length ≤ 60 | .done r => r = false) (fun i => l.length - i.toNat)
      (by
        rintro i ⟨k, rfl, hk, hr⟩
        unfold law04_short_l2
        rcases Nat.lt_or_ge k l.length with hlt | hge
        · rw [if_pos (by simpa using hlt), idx_nat hlt]
          simp only [Option.bind_some]
          by_cases h1 : l[k].length > 60
          · right
            exact ⟨.done false, by rw [if_pos (by simp; omega)], rfl⟩
          · left
            refine ⟨_, by rw [if_neg (by simp; omega)], ⟨k + 1, w64_one (by omega), hlt, ?_⟩, by rw [w64_one (by omega)]; simp; omega⟩
            intro t ht
            rw [List.take_succ_eq_append_getElem hlt, List.mem_append, List.mem_singleton] at ht
            rcases ht with ht | ht
            · exact hr t ht
            · rw [ht]; omega
        · right
          rw [List.take_of_length_le hge] at hr
          exact ⟨.next (), by rw [if_neg (by simp; omega)], hr⟩) 0 ⟨0, rfl, Nat.zero_le _, by simp⟩
    rw [h1]
    cases z with
    | next u => exact ⟨true, rfl, fun _ => ⟨by omega, h2⟩⟩
    | done r => exact ⟨r, rfl, fun h => by rw [h2] at h; cases h⟩
theorem spellL_length : ∀ (l : List (List UInt8)) (p : Option (List UInt8)), (∀ y ∈ l, y.length ≤ 60) → (spellL p l).length ≤ 61 * l.length
  | [], p, _ => by cases p <;> simp [spellL]
  | x :: l, p, h => by
    have h1 := spellL_length l (some x) fun y hy => h y (List.mem_cons_of_mem _ hy)
    have h2 := h x List.mem_cons_self
    cases p with
    | none => simp only [spellL, List.length_append, List.length_cons]; omega
    | some q =>
      simp only [spellL, List.length_append, List.length_cons]
      cases gapI q x <;> simp <;> omega
theorem ref01_Same_eq (a b : List (List UInt8)) (hl : a.length < 4611686018427387904) : ref01_Same a b = some (decide (a = b)) := by
  unfold ref01_Same
  by_cases hab : a.length = b.length
  · rw [if_neg (by simp; omega)]
    obtain ⟨z, h1, h2⟩ := iter_ind (f := fun s => ref01_Same_l2 a b s) (fun i => ∃ k : Nat, i = k ∧ k ≤ a.length ∧ (a = b ↔ a.drop k = b.drop k)) (fun z => match z with | .next _ => a = b | .done r => r = false ∧ a ≠ b) (fun i => a.length - i.toNat)
      (by
        rintro i ⟨k, rfl, hk, hr⟩
        unfold ref01_Same_l2 ref01_Same_j3
        rcases Nat.lt_or_ge k a.length with hlt | hge
        · have hlt2 : k < b.length := by omega
          rw [if_pos (by simpa using hlt), idx_nat hlt, idx_nat hlt2]
          simp only [Option.bind_some]
          have hd : a.drop k = a[k] :: a.drop (k + 1) := by simp
          have hd2 : b.drop k = b[k] :: b.drop (k + 1) := by simp
          rw [hd, hd2, List.cons.injEq] at hr
          by_cases he : a[k] = b[k]
          · left
            rw [if_neg (by simp [he])]
            refine ⟨((k + 1 : Nat) : Int), by rw [w64_id (by omega) (by omega)]; rfl, ⟨k + 1, rfl, hlt, ?_⟩, by simp; omega⟩
            rw [hr]
            simp [he]
          · right
            rw [if_pos (by simp [he])]
            exact ⟨.done false, rfl, rfl, fun h => he (hr.1 h).1⟩
        · have : k = a.length := by omega
          subst this
          right
          refine ⟨.next (), by simp, ?_⟩
          rw [hr, List.drop_eq_nil_of_le (Nat.le_refl _), List.drop_eq_nil_of_le (by omega)]) 0 ⟨0, rfl, Nat.zero_le _, by simp⟩
    rw [h1]
    cases z with
    | next u =>
      have h2 : a = b := h2
      simp [ref01_Same_k1, h2]
    | done r =>
      obtain ⟨rfl, h2⟩ := h2
      simp [h2]
  · rw [if_pos (by simp; omega)]
    have : a ≠ b := fun h => hab (by rw [h])
    simp [this]
theorem sameS_texts : ∀ l m, sameS l m → textsL m = l
  | [], [t], h => by have h : t.Kind = 5 := h; simp [textsL, h]
  | x :: l, t :: m, h => by
    obtain ⟨h1, _, h3, h4, h5⟩ := h
    simp only [textsL]
    rw [if_neg (by rw [h3]; exact h4), h1, sameS_texts l m h5]
  | [], [], h => h.elim
  | [], _ :: _ :: _, h => h.elim
  | _ :: _, [], h => h.elim
theorem tb_loop (l : List (List UInt8)) (m : List ApiToken) (hl : l.length ≤ 60) (hb : ∀ y ∈ l, y.length ≤ 60) (h : sameS l m) : iter (fun s => law04_TokenBack_l2 l m s) 0 = some (.next ()) := by
  obtain ⟨o, h1, h2⟩ := iter_ind (f := fun s => law04_TokenBack_l2 l m s) (fun i => ∃ k : Nat, i = k ∧ k ≤ l.length ∧ sameS (l.drop k) (m.drop k)) (fun o => o = .next ()) (fun i => l.length - i.toNat)
    (by
      rintro i ⟨k, rfl, hk, hr⟩
      unfold law04_TokenBack_l2
      rcases Nat.lt_or_ge k l.length with hlt | hge
      · have hml := sameS_length _ _ hr
        rw [List.length_drop, List.length_drop] at hml
        obtain ⟨x, l', hd⟩ := drop_some hlt
        obtain ⟨t, m', hd2⟩ := drop_some (s := m) (k := k) (by omega)
        have hx : x ∈ l := List.mem_of_mem_drop (by rw [hd]; exact List.mem_cons_self : x ∈ l.drop k)
        rw [hd, hd2] at hr
        obtain ⟨r1, r2, r3, _, r4⟩ := hr
        rw [if_pos (by simpa using hlt), idx_drop hd, idx_drop hd2]
        simp only [Option.bind_some]
        rw [token_Kind_eq x (by have := hb x hx; omega)]
        simp only [Option.bind_some, law04_TokenBack_j3, r3]
        left
        refine ⟨_, ?_, ⟨k + 1, w64_one (by omega), hlt, by rw [(drop_cons hd).2.2, (drop_cons hd2).2.2]; exact r4⟩, by rw [w64_one (by omega)]; simp; omega⟩
        rcases r2 with r2 | r2 <;> rw [r2] <;> simp
      · right
        exact ⟨_, by rw [if_neg (by simp; omega)], rfl⟩) 0 ⟨0, rfl, Nat.zero_le _, by simpa using h⟩
  rw [h1, h2]
theorem tb_all (l : List (List UInt8)) (x : List UInt8) (hl : l.length ≤ 60) (hb : ∀ y ∈ l, y.length ≤ 60) (h : ∀ y ∈ l, kindI y ≠ 0) : iter (fun s => law04_TokenBack_l6 l true x s) 0 = some (.next ()) := by
  obtain ⟨o, h1, h2⟩ := iter_ind (f := fun s => law04_TokenBack_l6 l true x s) (fun i => ∃ k : Nat, i = k ∧ k ≤ l.length) (fun o => o = .next ()) (fun i => l.length - i.toNat)
    (by
      rintro i ⟨k, rfl, hk⟩
      unfold law04_TokenBack_l6
      rcases Nat.lt_or_ge k l.length with hlt | hge
      · obtain ⟨y, l', hd⟩ := drop_some hlt
        have hy : y ∈ l := List.mem_of_mem_drop (by rw [hd]; exact List.mem_cons_self : y ∈ l.drop k)
        rw [if_pos (by simpa using hlt), idx_drop hd]
        simp only [Option.bind_some]
        rw [token_Kind_eq y (by have := hb y hy; omega)]
        simp only [Option.bind_some]
        left
        exact ⟨_, by rw [if_neg (by simpa using h y hy)], ⟨k + 1, w64_one (by omega), hlt⟩, by rw [w64_one (by omega)]; simp; omega⟩
      · right
        exact ⟨_, by rw [if_neg (by simp; omega)], rfl⟩) 0 ⟨0, rfl, Nat.zero_le _⟩
  rw [h1, h2]
theorem tb_some (l : List (List UInt8)) (hl : l.length ≤ 60) (hb : ∀ y ∈ l, y.length ≤ 60) (h : ∃ y ∈ l, kindI y = 0) : iter (fun s => law04_TokenBack_l6 l false [] s) 0 = some (.done true) := by
  obtain ⟨o, h1, h2⟩ := iter_ind (f := fun s => law04_TokenBack_l6 l false [] s) (fun i => ∃ k : Nat, i = k ∧ k ≤ l.length ∧ ∃ y ∈ l.drop k, kindI y = 0) (fun o => o = .done true) (fun i => l.length - i.toNat)
    (by
      rintro i ⟨k, rfl, hk, y, hy, h0⟩
      unfold law04_TokenBack_l6
      rcases Nat.lt_or_ge k l.length with hlt | hge
      · obtain ⟨z, l', hd⟩ := drop_some hlt
        have hz : z ∈ l := List.mem_of_mem_drop (by rw [hd]; exact List.mem_cons_self : z ∈ l.drop k)
        rw [if_pos (by simpa using hlt), idx_drop hd]
        simp only [Option.bind_some]
        rw [token_Kind_eq z (by have := hb z hz; omega)]
        simp only [Option.bind_some]
        by_cases hz0 : kindI z = 0
        · right
          exact ⟨_, by rw [if_pos (by simpa using hz0)]; rfl, rfl⟩
        · left
          refine ⟨_, by rw [if_neg (by simpa using hz0)], ⟨k + 1, w64_one (by omega), hlt, y, ?_, h0⟩, by rw [w64_one (by omega)]; simp; omega⟩
          rw [hd, List.mem_cons] at hy
          rcases hy with rfl | hy
          · exact absurd h0 hz0
          · rw [(drop_cons hd).2.2]; exact hy
      · rw [List.drop_eq_nil_of_le hge] at hy
        cases hy) 0 ⟨0, rfl, Nat.zero_le _, by simpa using h⟩
  rw [h1, h2]
theorem law_TokenBack (l : List (List UInt8)) : law04_TokenBack l = some true := by
  unfold law04_TokenBack
  rw [law04_awake_eq]
  simp only [Option.bind_some]
  rw [if_neg (by simp)]
  obtain ⟨b, hb, hs⟩ := short_eq l
  rw [hb]
  simp only [Option.bind_some]
  cases b with
  | false => rfl
  | true =>
    obtain ⟨hl, hall⟩ := hs rfl
    have hsl := spellL_length l none hall
    rw [if_neg (by simp)]
    rcases token_Spell_eq l (by omega) (fun y hy => by have := hall y hy; omega) (by omega) with ⟨h1, h2⟩ | ⟨h1, h2⟩
    · rw [h1]
      simp only [Option.bind_some]
      rw [tb_all l _ hl hall h2]
      simp only [Option.bind_some, law04_TokenBack_k5]
      obtain ⟨m, h3, h4⟩ := spell_lex l h2 0 none
      have hm := rel_lexM h3
      have hml := sameS_length _ _ h4
      rw [ref03_Lex_eq _ (by omega)]
      simp only [Option.bind_some, lexI, hm]
      have e1 : w64 ((l.length : Int) + 1) = (m.length : Int) := by rw [w64_one (by omega), hml]
      rw [if_neg (by simp), if_neg (by simp), e1, if_neg (by simp), token_Texts_eq m (by omega)]
      simp only [Option.bind_some, sameS_texts l m h4]
      rw [ref01_Same_eq l l (by omega)]
      simp only [Option.bind_some, decide_true, Bool.not_true, law04_TokenBack_j4, Bool.false_eq_true, if_false]
      rw [tb_loop l m hl hall h4]
      rfl
    · rw [h1]
      simp only [Option.bind_some]
      rw [tb_some l hl hall h2]
      rfl

theorem wrap_u64 {n : Int} (h1 : 0 ≤ n) (h2 : n < 18446744073709551616) : IntKind.wrap .u64 n = n := by
  unfold IntKind.wrap
  have e1 : (2 : Int) ^ (IntKind.u64.bits) = 18446744073709551616 := rfl
  have e3 : IntKind.u64.signed = false := rfl
  simp only [e1, e3, Bool.false_and, Bool.false_eq_true, if_false]
  omega
theorem inTok_iff {t : ApiToken} {n m : Nat} (h : t.At = (m : Int)) (hn : n ≤ 1048576) (ht : t.Text.length ≤ 1048576) : inTok t n = (decide (m ≤ n) && decide (n < m + t.Text.length)) := by
  unfold inTok
  rw [h]
  by_cases hm : m ≤ n
  · rw [wrap_u64 (n := (n : Int)) (by omega) (by omega), wrap_u64 (n := (m : Int)) (by omega) (by omega), wrap_u64 (n := (n : Int) - (m : Int)) (by omega) (by omega), wrap_u64 (by omega) (by omega)]
    congr 1
    · rw [decide_eq_decide]; omega
    · rw [decide_eq_decide]; omega
  · have e1 : decide ((m : Int) ≤ (n : Int)) = false := by rw [decide_eq_false_iff_not]; omega
    have e2 : decide (m ≤ n) = false := by rw [decide_eq_false_iff_not]; exact hm
    rw [e1, e2]
    rfl
theorem atL_none : ∀ (l : List ApiToken) (a : Nat) (s : List UInt8) (n k : Nat), backL a s l → n < a → n ≤ 1048576 → s.length ≤ 1048576 → atL l n k = -1
  | [], _, _, _, _, h, _, _, _ => h.elim
  | t :: l, a, s, n, k, ⟨hat, s', hs, hor⟩, hn, hn2, hsl => by
    have hlen := congrArg List.length hs
    simp only [List.length_append] at hlen
    simp only [atL]
    rw [inTok_iff hat hn2 (by omega), if_neg (by simp; omega)]
    rcases hor with ⟨rfl, _⟩ | ⟨_, _, _, hb⟩
    · rfl
    · exact atL_none l _ s' n (k + 1) hb (by omega) hn2 (by omega)
/-- Where a byte stands. -/
theorem places : ∀ (l : List ApiToken) (a : Nat) (s : List UInt8) (n k : Nat), backL a s l → a ≤ n → n < a + s.length → n ≤ 1048576 → s.length ≤ 1048576 →
    (∃ i t m, atL l n k = ((k + i : Nat) : Int) ∧ l[i]? = some t ∧ t.At = ((m : Nat) : Int) ∧ m ≤ n ∧ n < m + t.Text.length ∧ t.Text[n - m]? = s[n - a]?) ∨
    (atL l n k = -1 ∧ ∃ t ∈ l, ∃ m : Nat, t.At = ((m + t.Lead.length : Nat) : Int) ∧ m ≤ n ∧ n < m + t.Lead.length)
  | [], _, _, _, _, h, _, _, _, _ => h.elim
  | t :: l, a, s, n, k, ⟨hat, s', hs, hor⟩, han, hn, hn2, hsl => by
    have hlen := congrArg List.length hs
    simp only [List.length_append] at hlen
    simp only [atL]
    rw [inTok_iff hat hn2 (by omega)]
    by_cases h1 : n < a + t.Lead.length
    · right
      rw [if_neg (by simp; omega)]
      refine ⟨?_, t, List.mem_cons_self, a, hat, han, h1⟩
      rcases hor with ⟨rfl, _⟩ | ⟨_, _, _, hb⟩
      · rfl
      · exact atL_none l _ s' n (k + 1) hb (by omega) hn2 (by omega)
    · by_cases h2 : n < a + t.Lead.length + t.Text.length
      · left
        rw [if_pos (by simp; omega)]
        refine ⟨0, t, a + t.Lead.length, rfl, rfl, hat, by omega, h2, ?_⟩
        rw [hs, List.append_assoc, List.getElem?_append_right (by omega), List.getElem?_append_left (by omega)]
        congr 1
        omega
      · rw [if_neg (by simp; omega)]
        rcases hor with ⟨rfl, _, h4, rfl⟩ | ⟨_, _, _, hb⟩
        · simp only [List.length_nil] at hlen
          omega
        · rcases places l _ s' n (k + 1) hb (by omega) (by omega) hn2 (by omega) with ⟨i, u, m, e1, e2, e3, e4, e5, e6⟩ | ⟨e1, u, hu, e2⟩
          · left
            refine ⟨i + 1, u, m, by rw [e1]; congr 1; omega, e2, e3, e4, e5, ?_⟩
            rw [e6, hs, List.getElem?_append_right (by rw [List.length_append]; omega), List.length_append]
            congr 1
            omega
          · right
            exact ⟨e1, u, List.mem_cons_of_mem _ hu, e2⟩
theorem backL_bounds : ∀ (l : List ApiToken) (a : Nat) (s : List UInt8), backL a s l → ∀ t ∈ l, ∃ m : Nat, t.At = ((m + t.Lead.length : Nat) : Int) ∧ m + t.Lead.length ≤ a + s.length
  | [], _, _, h, _, _ => h.elim
  | u :: l, a, s, ⟨hat, s', hs, hor⟩, t, ht => by
    have hlen := congrArg List.length hs
    simp only [List.length_append] at hlen
    rw [List.mem_cons] at ht
    rcases ht with rfl | ht
    · exact ⟨a, hat, by omega⟩
    · rcases hor with ⟨rfl, _⟩ | ⟨_, _, _, hb⟩
      · cases ht
      · obtain ⟨m, h1, h2⟩ := backL_bounds l _ s' hb t ht
        exact ⟨m, h1, by omega⟩
theorem sizeL_mem : ∀ (l : List ApiToken) (t : ApiToken), t ∈ l → t.Text.length ≤ sizeL l
  | u :: l, t, h => by
    rw [List.mem_cons] at h
    simp only [sizeL]
    rcases h with rfl | h
    · omega
    · have := sizeL_mem l t h; omega
theorem places_loop (l : List ApiToken) (n : Nat) (hl : l.length ≤ 1048576) (hb : ∀ t ∈ l, ∃ m : Nat, t.At = ((m + t.Lead.length : Nat) : Int) ∧ m + t.Lead.length ≤ 1048576) (h : ∃ t ∈ l, ∃ m : Nat, t.At = ((m + t.Lead.length : Nat) : Int) ∧ m ≤ n ∧ n < m + t.Lead.length) : iter (fun s => law04_TokenPlaces_l3 l (n : Int) s) 0 = some (.done true) := by
  obtain ⟨o, h1, h2⟩ := iter_ind (f := fun s => law04_TokenPlaces_l3 l (n : Int) s) (fun i => ∃ k : Nat, i = k ∧ k ≤ l.length ∧ ∃ t ∈ l.drop k, ∃ m : Nat, t.At = ((m + t.Lead.length : Nat) : Int) ∧ m ≤ n ∧ n < m + t.Lead.length) (fun o => o = .done true) (fun i => l.length - i.toNat)
    (by
      rintro i ⟨k, rfl, hk, t, ht, m, e1, e2, e3⟩
      unfold law04_TokenPlaces_l3
      rcases Nat.lt_or_ge k l.length with hlt | hge
      · obtain ⟨u, l', hd⟩ := drop_some hlt
        have hu : u ∈ l := List.mem_of_mem_drop (by rw [hd]; exact List.mem_cons_self : u ∈ l.drop k)
        obtain ⟨q, hq, hq2⟩ := hb u hu
        rw [if_pos (by simpa using hlt), idx_drop hd]
        have hw : w64 (((q + u.Lead.length : Nat) : Int) - (u.Lead.length : Int)) = (q : Int) := by rw [w64_id (by omega) (by omega)]; omega
        simp only [Option.bind_some, law04_TokenPlaces_j4, hq, hw]
        by_cases c1 : q ≤ n
        · rw [if_pos (by simp; omega)]
          by_cases c2 : n < q + u.Lead.length
          · right
            exact ⟨_, by rw [if_pos (by simp; omega)], rfl⟩
          · left
            refine ⟨_, by rw [if_neg (by simp; omega)], ⟨k + 1, w64_one (by omega), hlt, t, ?_, m, e1, e2, e3⟩, by rw [w64_one (by omega)]; simp; omega⟩
            rw [hd, List.mem_cons] at ht
            rcases ht with rfl | ht
            · rw [hq] at e1; omega
            · rw [(drop_cons hd).2.2]; exact ht
        · rw [if_neg (by simp; omega), if_neg (by simp)]
          left
          refine ⟨_, rfl, ⟨k + 1, w64_one (by omega), hlt, t, ?_, m, e1, e2, e3⟩, by rw [w64_one (by omega)]; simp; omega⟩
          rw [hd, List.mem_cons] at ht
          rcases ht with rfl | ht
          · rw [hq] at e1; omega
          · rw [(drop_cons hd).2.2]; exact ht
      · rw [List.drop_eq_nil_of_le hge] at ht
        cases ht) 0 ⟨0, rfl, Nat.zero_le _, by simpa using h⟩
  rw [h1, h2]
theorem law_TokenPlaces (x : List UInt8) (a : Int) : law04_TokenPlaces x a = some true := by
  unfold law04_TokenPlaces
  rw [law04_awake_eq]
  simp only [Option.bind_some]
  rw [if_neg (by simp)]
  by_cases hx : x.length > 1000
  · rw [if_pos (by simp; omega)]; rfl
  · rw [if_neg (by simp; omega)]
    by_cases h0 : a < 0
    · rw [if_pos (by simpa using h0)]; rfl
    · rw [if_neg (by simpa using h0)]
      unfold law04_TokenPlaces_j5
      by_cases h2 : a ≥ (x.length : Int)
      · rw [if_pos (by simpa using h2)]
      · rw [if_neg (by simpa using h2)]
        obtain ⟨n, rfl⟩ : ∃ n : Nat, a = n := ⟨a.toNat, by omega⟩
        rw [ref03_Lex_eq x (by omega)]
        have hlen := lexM_length x
        have hr := lexM_rel x
        simp only [Option.bind_some, lexI]
        by_cases he : (lexM x).2.2 = 0
        · obtain ⟨_, _, hb⟩ := lexR_back hr he
          rw [if_neg (by simp [he]), token_At_eq _ _ (by omega)]
          generalize (lexM x).1 = l at hb hlen ⊢
          simp only [Option.bind_some]
          rcases places l 0 x n 0 hb (by omega) (by omega) (by omega) (by omega) with ⟨i, t, m, e1, e2, e3, e4, e5, e6⟩ | ⟨e1, e2⟩
          · rw [e1]
            have hi : i < l.length := by
              rcases Nat.lt_or_ge i l.length with h | h
              · exact h
              · rw [List.getElem?_eq_none h] at e2; cases e2
            have hd : l.drop (0 + i) = t :: l.drop (0 + i + 1) := by
              rw [List.drop_eq_getElem_cons (by omega)]
              rw [List.getElem?_eq_getElem hi] at e2
              congr 1
              have := Option.some.inj e2
              simpa using this
            rw [if_neg (by rw [decide_eq_true_eq]; omega), if_pos (by rw [decide_eq_true_eq]; omega)]
            simp only [idx_drop hd, Option.bind_some, e3]
            have hw1 : w64 ((m : Int) + (t.Text.length : Int)) = ((m + t.Text.length : Nat) : Int) := by
              obtain ⟨q, hq, hq2⟩ := backL_bounds l 0 x hb t (List.mem_of_getElem? e2)
              have hs : t.Text.length ≤ 1048576 := by
                rcases Nat.lt_or_ge 1048576 t.Text.length with h | h
                · exfalso
                  have hu := backL_unlex _ _ _ hb
                  have hsz : sizeL l = x.length := by rw [← unlexL_length, hu]
                  have := sizeL_mem l t (List.mem_of_getElem? e2)
                  omega
                · exact h
              exact w64_add (by omega)
            have hw2 : w64 ((n : Int) - (m : Int)) = ((n - m : Nat) : Int) := by rw [w64_id (by omega) (by omega)]; omega
            rw [if_pos (by simp; omega), hw1, if_pos (by simp; omega), hw2, idxS_nat (show n - m < t.Text.length by omega), idxS_nat (show n < x.length by omega)]
            simp only [Option.bind_some, law04_TokenPlaces_j1]
            rw [Nat.sub_zero, List.getElem?_eq_getElem (by omega), List.getElem?_eq_getElem (by omega)] at e6
            rw [Option.some.inj e6]
            simp
          · rw [e1, if_neg (by rw [decide_eq_true_eq]; omega), if_neg (by simp)]
            rw [places_loop l n (by omega) (fun t ht => by
              obtain ⟨m, h1, h2⟩ := backL_bounds l 0 x hb t ht
              exact ⟨m, h1, by omega⟩) e2]
            rfl
        · rw [if_pos (by rw [bne_iff_ne]; omega)]
end Go.Proofs.YtefeelcjokdchaaDoor

/- The plain laws of the lexer and of tokens, gathered. -/
