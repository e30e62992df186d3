/- The example; the law of joins. -/
import Derived.Test.YtefeelcjokdchaaDoorZJ
import Derived.Test.YtefeelcjokdchaaDoorZT
set_option linter.unusedSimpArgs false
set_option linter.unusedVariables false
set_option linter.unusedSectionVars false
/- Plain lemmas: loops as inductions, numbers that don't wrap, places in lists. -/
set_option linter.unusedSectionVars false
namespace Go.Cn

abbrev noG : Glob := ⟨fun _ => True, fun _ _ _ _ => trivial⟩
/-- A loop that goes down comes to what it keeps. -/
theorem iter_ind {σ ω : Type} {f : σ → Option (σ ⊕ ω)} (I : σ → Prop) (Q : ω → Prop) (m : σ → Nat)
    (h : ∀ s, I s → (∃ s', f s = some (.inl s') ∧ I s' ∧ m s' < m s) ∨ (∃ o, f s = some (.inr o) ∧ Q o)) : ∀ s, I s → ∃ o, iter f s = some o ∧ Q o := by
  have key : ∀ n s, m s ≤ n → I s → ∃ o, iter f s = some o ∧ Q o := by
    intro n
    induction n with
    | zero =>
      intro s hm hs
      rcases h s hs with ⟨s', _, _, h3⟩ | ⟨o, h1, h2⟩
      · omega
      · exact ⟨o, @iter_done noG _ _ _ _ _ h1, h2⟩
    | succ n ih =>
      intro s hm hs
      rcases h s hs with ⟨s', h1, h2, h3⟩ | ⟨o, h1, h2⟩
      · obtain ⟨o, h4, h5⟩ := ih s' (by omega) h2
        exact ⟨o, by rw [@iter_next noG _ _ _ _ _ h1]; exact h4, h5⟩
      · exact ⟨o, @iter_done noG _ _ _ _ _ h1, h2⟩
  exact fun s hs => key (m s) s (Nat.le_refl _) hs

theorem w64_id {n : Int} (h1 : -9223372036854775808 ≤ n) (h2 : n ≤ 9223372036854775807) : w64 n = n := by
  unfold w64 IntKind.wrap
  have e1 : (2 : Int) ^ (IntKind.i64.bits) = 18446744073709551616 := rfl
  have e2 : (2 : Int) ^ (IntKind.i64.bits - 1) = 9223372036854775808 := rfl
  have e3 : IntKind.i64.signed = true := rfl
  simp only [e1, e2, e3, Bool.true_and, decide_eq_true_eq]
  split <;> omega

theorem idxS_nat {l : List UInt8} {i : Nat} (h : i < l.length) : idxS l i = some (l[i].toNat : Int) := by
  unfold idxS
  simp [h]
theorem idx_nat {α : Type} {l : List α} {i : Nat} (h : i < l.length) : idx l i = some l[i] := by
  unfold idx
  simp [h]
theorem sub_nat {l : List UInt8} {i j : Nat} (h : i ≤ j) (h2 : j ≤ l.length) : sub l i j = some ((l.take j).drop i) := by
  unfold sub
  simp [h, h2]
end Go.Cn

/- Loops over a row, as folds. -/
set_option linter.unusedSectionVars false
set_option linter.unusedSimpArgs false
set_option linter.unusedVariables false
namespace Go.Cn
def foldE {α β ω : Type} (g : β → α → β ⊕ ω) : List α → β → β ⊕ ω
  | [], b => .inl b
  | x :: l, b => match g b x with
    | .inl b' => foldE g l b'
    | .inr w => .inr w
theorem iter_foldE {α β ω σ ω' : Type} (l : List α) (mk : Nat → β → σ) {step : σ → Option (σ ⊕ ω')} (g : β → α → β ⊕ ω) (fin : β → ω') (ex : ω → ω') (Inv : Nat → β → Prop)
    (hs : ∀ i (h : i < l.length) b, Inv i b → match g b l[i] with | .inl b' => step (mk i b) = some (.inl (mk (i + 1) b')) ∧ Inv (i + 1) b' | .inr w => step (mk i b) = some (.inr (ex w)))
    (he : ∀ b, Inv l.length b → step (mk l.length b) = some (.inr (fin b))) {b0 : β} (h0 : Inv 0 b0) :
    iter step (mk 0 b0) = some (match foldE g l b0 with | .inl b => fin b | .inr w => ex w) := by
  have key : ∀ k i b, i + k = l.length → Inv i b → iter step (mk i b) = some (match foldE g (l.drop i) b with | .inl b => fin b | .inr w => ex w) := by
    intro k
    induction k with
    | zero =>
      intro i b hi hb
      obtain rfl : i = l.length := by omega
      rw [List.drop_length]
      exact @iter_done noG _ _ _ _ _ (he b hb)
    | succ k ih =>
      intro i b hi hb
      have hil : i < l.length := by omega
      have h1 := hs i hil b hb
      rw [List.drop_eq_getElem_cons hil]
      unfold foldE
      cases hg : g b l[i] with
      | inl b' =>
        rw [hg] at h1
        rw [@iter_next noG _ _ _ _ _ h1.1]
        exact ih (i + 1) b' (by omega) h1.2
      | inr w =>
        rw [hg] at h1
        exact @iter_done noG _ _ _ _ _ h1
  have := key l.length 0 b0 (by omega) h0
  simpa using this
/-- A loop that goes over a row to its end. -/
theorem iter_fold {α β σ ω' : Type} (l : List α) (mk : Nat → β → σ) {step : σ → Option (σ ⊕ ω')} (g : β → α → β) (fin : β → ω') (Inv : Nat → β → Prop)
    (hs : ∀ i (h : i < l.length) b, Inv i b → step (mk i b) = some (.inl (mk (i + 1) (g b l[i]))) ∧ Inv (i + 1) (g b l[i]))
    (he : ∀ b, Inv l.length b → step (mk l.length b) = some (.inr (fin b))) {b0 : β} (h0 : Inv 0 b0) :
    iter step (mk 0 b0) = some (fin (l.foldl g b0)) ∧ Inv l.length (l.foldl g b0) := by
  have key : ∀ k i b, i + k = l.length → Inv i b → iter step (mk i b) = some (fin ((l.drop i).foldl g b)) ∧ Inv l.length ((l.drop i).foldl g b) := by
    intro k
    induction k with
    | zero =>
      intro i b hi hb
      obtain rfl : i = l.length := by omega
      rw [List.drop_length]
      exact ⟨@iter_done noG _ _ _ _ _ (he b hb), hb⟩
    | succ k ih =>
      intro i b hi hb
      have hil : i < l.length := by omega
      have h1 := hs i hil b hb
      rw [List.drop_eq_getElem_cons hil, List.foldl_cons, @iter_next noG _ _ _ _ _ h1.1]
      exact ih (i + 1) _ (by omega) h1.2
  have := key l.length 0 b0 (by omega) h0
  simpa using this
theorem w64_succ {i : Nat} (h : i < 4611686018427387904) : w64 ((i : Int) + 1) = ((i + 1 : Nat) : Int) := by rw [w64_id (by omega) (by omega)]; omega
theorem cat_eq {a b : List UInt8} (h : a.length + b.length ≤ 9223372036854775807) : cat a b = some (a ++ b) := by
  unfold cat
  rw [if_pos (by first | exact h | omega)]
theorem bcat_eq {a b : List UInt8} (h : a.length + b.length ≤ 140737488355328) : bcat a b = some (a ++ b) := by
  unfold bcat
  rw [if_pos h]
theorem app_eq {α : Type} {n : Nat} {l m : List α} (h : (l.length + m.length) * n ≤ 140737488355328) (h2 : l.length + m.length ≤ 140737488355328) : app n l m = some (l ++ m) := by
  unfold app
  rw [if_pos (by first | exact ⟨h, h2⟩ | exact h | omega)]
theorem subL_nat {α : Type} {l : List α} {i j : Nat} (h : i ≤ j) (h2 : j ≤ l.length) : subL l i j = some ((l.take j).drop i) := by
  unfold subL
  rw [if_pos (by omega)]
  simp
end Go.Cn

/- Joins and sides of parts. -/
set_option linter.unusedSectionVars false
set_option linter.unusedSimpArgs false
set_option linter.unusedVariables false
namespace Go.Proofs.YtefeelcjokdchaaDoor
open Go Go.Cn

theorem flat_take_succ {α β : Type} (f : α → List β) {l : List α} {i : Nat} (h : i < l.length) : ((l.take (i + 1)).map f).flatten = ((l.take i).map f).flatten ++ f l[i] := by
  rw [List.take_succ_eq_append_getElem h, List.map_append, List.flatten_append]
  simp only [List.map_cons, List.map_nil, List.flatten_cons, List.flatten_nil, List.append_nil]
theorem flat_take_le {α β : Type} (f : α → List β) (l : List α) (i : Nat) : ((l.take i).map f).flatten.length ≤ (l.map f).flatten.length := by
  have h2 : (l.map f).flatten = ((l.take i).map f).flatten ++ ((l.drop i).map f).flatten := by rw [← List.flatten_append, ← List.map_append, List.take_append_drop]
  rw [h2, List.length_append]; omega
theorem flat_bound {α β : Type} (f : α → List β) {l : List α} {i : Nat} (h : i < l.length) : ((l.take i).map f).flatten.length + (f l[i]).length ≤ (l.map f).flatten.length := by
  have := flat_take_le f l (i + 1)
  rw [flat_take_succ f h, List.length_append] at this
  exact this
def selS (side : Int) (p : ApiPart) : List UInt8 := if side = 0 then p.O else if side = 1 then p.A else if side = 2 then p.B else []
def sideM (l : List ApiPart) (side : Int) : List UInt8 := (l.map (selS side)).flatten
/-- The texts that are put together are short. -/
def Fits (l : List ApiPart) : Prop := l.length ≤ 1000000000 ∧ ∀ side, (sideM l side).length ≤ 1000000000
theorem iter_flat {β σ ω' α : Type} (f : α → List β) (l : List α) (mk : Nat → List β → σ) {step : σ → Option (σ ⊕ ω')} (fin : List β → ω')
    (hs : ∀ i (h : i < l.length) b, b.length + (f l[i]).length ≤ (l.map f).flatten.length → step (mk i b) = some (.inl (mk (i + 1) (b ++ f l[i]))))
    (he : ∀ b, step (mk l.length b) = some (.inr (fin b))) : iter step (mk 0 []) = some (fin (l.map f).flatten) := by
  have := iter_fold l mk (step := step) (fun b x => b ++ f x) fin (fun i b => b = ((l.take i).map f).flatten) (fun i h b hb => by
    subst hb
    exact ⟨hs i h _ (flat_bound f h), (flat_take_succ f h).symm⟩) (fun b _ => he b) (b0 := []) (by simp)
  obtain ⟨h1, h2⟩ := this
  rw [h1, h2]
  simp
theorem weave_Side_eq {l : List ApiPart} (hf : Fits l) (side : Int) : weave_Side l side = some (sideM l side) := by
  have hbad : side < 0 ∨ 2 < side → sideM l side = [] := fun h => by
    unfold sideM
    have : ∀ p : ApiPart, selS side p = [] := fun p => by unfold selS; rw [if_neg (by omega), if_neg (by omega), if_neg (by omega)]
    rw [List.flatten_eq_nil_iff]
    intro x hx
    obtain ⟨p, _, rfl⟩ := List.mem_map.1 hx
    exact this p
  unfold weave_Side
  by_cases h1 : side < 0
  · rw [if_pos (by simpa using h1)]; unfold weave_Side_j3; rw [if_pos rfl, hbad (.inl h1)]
  · rw [if_neg (by simpa using h1)]
    unfold weave_Side_j3
    by_cases h2 : side > 2
    · rw [if_pos (by simpa using h2), hbad (.inr h2)]
    · rw [if_neg (by simpa using h2)]
      have hsel : ∀ p : ApiPart, idx ([p.O, p.A, p.B] : List (List UInt8)) side = some (selS side p) := fun p => by
        have : side = 0 ∨ side = 1 ∨ side = 2 := by omega
        rcases this with rfl | rfl | rfl <;> rfl
      have hb := hf.2 side
      have := iter_flat (selS side) l (fun i b => ((i : Int), b)) (step := fun s => weave_Side_l2 l side s.1 s.2) (fun b => b) (fun i h b hbb => by
        unfold weave_Side_l2
        simp only [idx_nat h, hsel, Option.bind_some]
        rw [if_pos (by simp; omega)]
        rw [bcat_eq (by unfold sideM at hb; omega)]
        simp only [Option.bind_some]
        rw [w64_succ (by have := hf.1; omega)]) (fun b => by
        unfold weave_Side_l2
        rw [if_neg (by simp)])
      have this : iter (fun s => weave_Side_l2 l side s.1 s.2) (0, []) = some (sideM l side) := this
      rw [this]
      rfl
theorem ref08_Side_eq {l : List ApiPart} (hf : Fits l) (side : Int) : ref08_Side l side = some (sideM l side) := by
  unfold ref08_Side
  have hb := hf.2 side
  have := iter_flat (selS side) l (fun i b => (b, (i : Int))) (step := fun s => ref08_Side_l2 l side s.1 s.2) (fun b => b) (fun i h b hbb => by
    unfold ref08_Side_l2
    simp only [idx_nat h, Option.bind_some]
    rw [if_pos (by simp; omega)]
    unfold sideM at hb
    unfold selS ref08_Side_j3 at *
    by_cases h0 : side = 0
    · subst h0
      simp only [if_true] at *
      rw [if_pos (by rfl), cat_eq (by omega)]
      simp only [Option.bind_some]
      rw [w64_succ (by have := hf.1; omega)]
    · rw [if_neg (by simpa using h0)]
      simp only [if_neg h0] at *
      by_cases h1 : side = 1
      · subst h1
        simp only [if_true] at *
        rw [if_pos (by rfl), cat_eq (by omega)]
        simp only [Option.bind_some]
        rw [w64_succ (by have := hf.1; omega)]
      · rw [if_neg (by simpa using h1)]
        simp only [if_neg h1] at *
        by_cases h2 : side = 2
        · subst h2
          simp only [if_true] at *
          rw [if_pos (by rfl), cat_eq (by omega)]
          simp only [Option.bind_some]
          rw [w64_succ (by have := hf.1; omega)]
        · rw [if_neg (by simpa using h2)]
          simp only [if_neg h2, List.append_nil] at *
          rw [w64_succ (by have := hf.1; omega)]) (fun b => by
    unfold ref08_Side_l2
    rw [if_neg (by simp)])
  have this : iter (fun s => ref08_Side_l2 l side s.1 s.2) ([], 0) = some (sideM l side) := this
  rw [this]
  rfl
def joinM (l : List ApiPart) : List UInt8 × Bool := if l.any (·.Clash) then ([], false) else (sideM l 1, true)
theorem weave_Join_eq {l : List ApiPart} (hf : Fits l) : weave_Join l = some (joinM l) := by
  unfold weave_Join
  have h1 := iter_foldE l (fun i (_ : Unit) => (i : Int)) (step := fun s => weave_Join_l2 l s) (fun _ p => if p.Clash then .inr ([], false) else .inl ()) (fun _ => Flow.next ()) (fun w => Flow.done w) (fun _ _ => True) (fun i h b _ => by
    cases hc : l[i].Clash with
    | true =>
      simp only [if_true]
      unfold weave_Join_l2
      simp only [idx_nat h, Option.bind_some, hc, if_true]
      rw [if_pos (by simp; omega)]
    | false =>
      simp only [if_false, Bool.false_eq_true]
      refine ⟨?_, trivial⟩
      unfold weave_Join_l2
      simp only [idx_nat h, Option.bind_some, hc, if_false, Bool.false_eq_true]
      rw [if_pos (by simp; omega), w64_succ (by have := hf.1; omega)]) (fun b _ => by
    unfold weave_Join_l2
    rw [if_neg (by simp)]) (b0 := ()) trivial
  have h1 : iter (fun s => weave_Join_l2 l s) 0 = _ := h1
  rw [h1]
  have h2 : ∀ l : List ApiPart, foldE (fun (_ : Unit) (p : ApiPart) => if p.Clash then (.inr ([], false) : Unit ⊕ (List UInt8 × Bool)) else .inl ()) l () = if l.any (·.Clash) then .inr ([], false) else .inl () := by
    intro l
    induction l with
    | nil => rfl
    | cons p l ih =>
      unfold foldE
      cases hc : p.Clash with
      | true => simp [hc]
      | false => simp only [if_false, Bool.false_eq_true]; rw [ih]; simp [hc]
  rw [h2]
  unfold joinM
  cases l.any (·.Clash) with
  | true => rfl
  | false =>
    simp only [if_false, Bool.false_eq_true, Option.bind_some]
    unfold weave_Join_k1
    rw [weave_Side_eq hf]
    rfl
theorem ref08_Join_eq {l : List ApiPart} (hf : Fits l) : ref08_Join l = some (joinM l) := by
  unfold ref08_Join
  have hb := hf.2 1
  unfold sideM at hb
  have hA : ∀ p : ApiPart, selS 1 p = p.A := fun p => rfl
  have h1 := iter_foldE l (fun i (b : List UInt8) => (b, (i : Int))) (step := fun s => ref08_Join_l2 l s.1 s.2) (fun b p => if p.Clash then .inr ([], false) else .inl (b ++ p.A)) (fun b => Flow.next b) (fun w => Flow.done w) (fun i b => b = ((l.take i).map (selS 1)).flatten) (fun i h b hbb => by
    subst hbb
    have hbd := flat_bound (selS 1) h
    cases hc : l[i].Clash with
    | true =>
      simp only [if_true]
      unfold ref08_Join_l2
      simp only [idx_nat h, Option.bind_some, hc, if_true]
      rw [if_pos (by simp; omega)]
    | false =>
      simp only [if_false, Bool.false_eq_true]
      refine ⟨?_, (flat_take_succ (selS 1) h).symm⟩
      unfold ref08_Join_l2
      simp only [idx_nat h, Option.bind_some, hc, if_false, Bool.false_eq_true]
      rw [if_pos (by simp; omega), cat_eq (by rw [hA] at hbd; omega)]
      simp only [Option.bind_some]
      rw [w64_succ (by have := hf.1; omega)]) (fun b _ => by
    unfold ref08_Join_l2
    rw [if_neg (by simp)]) (b0 := []) (by simp)
  have h1 : iter (fun s => ref08_Join_l2 l s.1 s.2) ([], 0) = _ := h1
  rw [h1]
  have h2 : ∀ (l : List ApiPart) (b : List UInt8), foldE (fun (b : List UInt8) (p : ApiPart) => if p.Clash then (.inr ([], false) : List UInt8 ⊕ (List UInt8 × Bool)) else .inl (b ++ p.A)) l b = if l.any (·.Clash) then .inr ([], false) else .inl (b ++ (l.map (selS 1)).flatten) := by
    intro l
    induction l with
    | nil => intro b; simp [foldE]
    | cons p l ih =>
      intro b
      unfold foldE
      cases hc : p.Clash with
      | true => simp [hc]
      | false => simp only [if_false, Bool.false_eq_true]; rw [ih]; simp [hc, hA]
  rw [h2]
  unfold joinM sideM
  cases l.any (·.Clash) with
  | true => rfl
  | false => simp [ref08_Join_k1]
theorem few_eq (a b c : List UInt8) : law08_few a b c = some (decide (a.length ≤ 600 ∧ b.length ≤ 600 ∧ c.length ≤ 600)) := by
  unfold law08_few law08_few_j1
  by_cases h1 : a.length ≤ 600
  · rw [if_pos (by simp; omega)]
    by_cases h2 : b.length ≤ 600
    · rw [if_pos (by simp; omega)]; congr 1; simp [h1, h2]; omega
    · rw [if_neg (by simp; omega)]; simp [h2]
  · rw [if_neg (by simp; omega)]; simp [h1]
theorem fits_of_few {l : List ApiPart} (h1 : l.length ≤ 50) (h2 : ∀ p ∈ l, p.O.length ≤ 600 ∧ p.A.length ≤ 600 ∧ p.B.length ≤ 600) : Fits l := by
  refine ⟨by omega, fun side => ?_⟩
  have key : ∀ l : List ApiPart, (∀ p ∈ l, p.O.length ≤ 600 ∧ p.A.length ≤ 600 ∧ p.B.length ≤ 600) → (sideM l side).length ≤ l.length * 600 := by
    intro l
    induction l with
    | nil => intro _; simp [sideM]
    | cons p l ih =>
      intro h
      have h3 := ih (fun q hq => h q (List.mem_cons_of_mem _ hq))
      have h4 := h p List.mem_cons_self
      have h5 : (selS side p).length ≤ 600 := by unfold selS; split; exact h4.1; split; exact h4.2.1; split; exact h4.2.2; simp
      unfold sideM at h3 ⊢
      simp only [List.map_cons, List.flatten_cons, List.length_append, List.length_cons]
      omega
  have := key l h2
  omega
end Go.Proofs.YtefeelcjokdchaaDoor

/- The example; the law of joins. -/
set_option linter.unusedSectionVars false
set_option linter.unusedSimpArgs false
set_option linter.unusedVariables false
set_option maxRecDepth 100000
namespace Go.Proofs.YtefeelcjokdchaaDoor
open Go Go.Cn
theorem awake08 : law08_awake = some true := by decide +kernel
theorem law_WeaveJoins (l : List ApiPart) (side : Int) : law08_WeaveJoins l side = some true := by
  unfold law08_WeaveJoins
  rw [awake08]
  simp only [Option.bind_some, Bool.not_true, Bool.false_eq_true, if_false]
  by_cases h50 : (l.length : Int) > 50
  · rw [if_pos (by simpa using h50)]
  rw [if_neg (by simpa using h50)]
  have h1 := iter_foldE l (fun i (_ : Unit) => (i : Int)) (step := fun s => law08_WeaveJoins_l3 l s) (fun _ p => if p.O.length ≤ 600 ∧ p.A.length ≤ 600 ∧ p.B.length ≤ 600 then .inl () else .inr true) (fun _ => Flow.next ()) (fun w => Flow.done w) (fun _ _ => True) (fun i h b _ => by
    by_cases hc : l[i].O.length ≤ 600 ∧ l[i].A.length ≤ 600 ∧ l[i].B.length ≤ 600
    · rw [if_pos hc]
      refine ⟨?_, trivial⟩
      unfold law08_WeaveJoins_l3
      simp only [idx_nat h, Option.bind_some, few_eq]
      rw [if_pos (by simp; omega)]
      unfold law08_WeaveJoins_j4
      simp only [hc, and_self, decide_true, Bool.not_true, Bool.false_eq_true, if_false]
      rw [w64_succ (by omega)]
    · rw [if_neg hc]
      unfold law08_WeaveJoins_l3
      simp only [idx_nat h, Option.bind_some, few_eq]
      rw [if_pos (by simp; omega)]
      unfold law08_WeaveJoins_j4
      simp only [hc, decide_false, Bool.not_false, if_true]) (fun b _ => by
    unfold law08_WeaveJoins_l3
    rw [if_neg (by simp)]) (b0 := ()) trivial
  have h1 : iter (fun s => law08_WeaveJoins_l3 l s) 0 = _ := h1
  rw [h1]
  have h2 : ∀ l : List ApiPart, foldE (fun (_ : Unit) (p : ApiPart) => if p.O.length ≤ 600 ∧ p.A.length ≤ 600 ∧ p.B.length ≤ 600 then (.inl () : Unit ⊕ Bool) else .inr true) l () = .inr true ∨ (∀ p ∈ l, p.O.length ≤ 600 ∧ p.A.length ≤ 600 ∧ p.B.length ≤ 600) := by
    intro l
    induction l with
    | nil => right; simp
    | cons p l ih =>
      unfold foldE
      by_cases hc : p.O.length ≤ 600 ∧ p.A.length ≤ 600 ∧ p.B.length ≤ 600
      · rw [if_pos hc]
        refine ih.imp id (fun h q hq => ?_)
        rcases List.mem_cons.1 hq with rfl | hq
        · exact hc
        · exact h q hq
      · rw [if_neg hc]; exact .inl rfl
  rcases h2 l with h2 | h2
  · rw [h2]; rfl
  · cases hf : foldE (fun (_ : Unit) (p : ApiPart) => if p.O.length ≤ 600 ∧ p.A.length ≤ 600 ∧ p.B.length ≤ 600 then (.inl () : Unit ⊕ Bool) else .inr true) l () with
    | inr w =>
      have : ∀ (l : List ApiPart) (w : Bool), foldE (fun (_ : Unit) (p : ApiPart) => if p.O.length ≤ 600 ∧ p.A.length ≤ 600 ∧ p.B.length ≤ 600 then (.inl () : Unit ⊕ Bool) else .inr true) l () = .inr w → w = true := by
        intro l
        induction l with
        | nil => intro w h; simp [foldE] at h
        | cons p l ih =>
          intro w h
          unfold foldE at h
          by_cases hc : p.O.length ≤ 600 ∧ p.A.length ≤ 600 ∧ p.B.length ≤ 600
          · rw [if_pos hc] at h; exact ih w h
          · rw [if_neg hc] at h; simpa using h.symm
      rw [this l w hf]; rfl
    | inl u =>
      have hfit : Fits l := fits_of_few (by omega) h2
      simp only [Option.bind_some]
      unfold law08_WeaveJoins_k2
      rw [weave_Join_eq hfit, ref08_Join_eq hfit]
      simp only [Option.bind_some, weave_Side_eq hfit, ref08_Side_eq hfit, beq_self_eq_true, if_true]
      rfl
end Go.Proofs.YtefeelcjokdchaaDoor
