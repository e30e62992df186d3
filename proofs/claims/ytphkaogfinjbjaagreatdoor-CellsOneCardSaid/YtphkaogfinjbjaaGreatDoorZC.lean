/- Cells: if one side is as it was. -/
import Derived.Test.YtphkaogfinjbjaaGreatDoorZN
set_option linter.unusedSimpArgs false
set_option linter.unusedVariables false
set_option linter.unusedSectionVars false
/- Cells: what both sides compute of keys, tables and texts. -/
set_option linter.unusedSectionVars false
set_option linter.unusedSimpArgs false
set_option linter.unusedVariables false
namespace Go.Proofs.YtphkaogfinjbjaaGreatDoor
open Go Go.Cn

/-- The first text of a key. -/
def getM : List ApiSegment → List UInt8 → Option (List UInt8)
  | [], _ => none
  | s :: l, k => if s.Key = k then some s.Text else getM l k
theorem getM_mem : ∀ {l : List ApiSegment} {k t : List UInt8}, getM l k = some t → ⟨k, t⟩ ∈ l
  | s :: l, k, t, h => by
    unfold getM at h
    split at h
    · rename_i hk
      cases h
      subst hk
      exact List.mem_cons_self
    · exact List.mem_cons_of_mem _ (getM_mem h)
theorem getM_some {l : List ApiSegment} {k : List UInt8} : (getM l k).isSome = decide (k ∈ l.map (·.Key)) := by
  induction l with
  | nil => rfl
  | cons s l ih =>
    unfold getM
    by_cases h : s.Key = k
    · simp [h]
    · rw [if_neg h, ih]
      simp [Ne.symm h]
theorem ref28_Get_eq {l : List ApiSegment} (hl : l.length ≤ 1000000000) (k : List UInt8) : ref28_Get l k = some ((getM l k).getD [], (getM l k).isSome) := by
  have key : ∀ n i, i + n = l.length → iter (fun s => ref28_Get_l2 l k s) (i : Int) = some (match getM (l.drop i) k with | some t => Flow.done (t, true) | none => Flow.next ()) := by
    intro n
    induction n with
    | zero =>
      intro i hi
      obtain rfl : i = l.length := by omega
      rw [List.drop_length]
      refine @iter_done noG _ _ _ _ _ ?_
      unfold ref28_Get_l2
      rw [if_neg (by simp)]
      rfl
    | succ n ih =>
      intro i hi
      have h1 : i < l.length := by omega
      rw [List.drop_eq_getElem_cons h1]
      unfold getM
      by_cases hk : l[i].Key = k
      · rw [if_pos hk]
        refine @iter_done noG _ _ _ _ _ ?_
        unfold ref28_Get_l2
        rw [if_pos (by simp; omega), idx_nat h1]
        simp only [Option.bind_some]
        rw [if_pos (by simp [hk])]
      · rw [if_neg hk, @iter_next noG _ _ _ _ (((i + 1 : Nat) : Int)) (by
          unfold ref28_Get_l2
          rw [if_pos (by simp; omega), idx_nat h1]
          simp only [Option.bind_some]
          rw [if_neg (by simp [hk]), w64_succ (by omega)])]
        exact ih (i + 1) (by omega)
  have := key l.length 0 (by omega)
  have this : iter (fun s => ref28_Get_l2 l k s) 0 = _ := this
  unfold ref28_Get
  rw [this]
  simp only [Option.bind_some, List.drop_zero]
  cases getM l k with
  | none => rfl
  | some t => rfl
def thereT : List UInt8 := [116, 104, 101, 114, 101]
/-- A text that may not be there, as the program holds it. -/
def cellM : Option (List UInt8) → List (List UInt8)
  | none => [[], []]
  | some t => [thereT, t]
theorem cellM_inj {x y : Option (List UInt8)} : cellM x = cellM y ↔ x = y := by
  cases x <;> cases y <;> simp [cellM, thereT]
theorem there_eq (x : Option (List UInt8)) : cells_cell_there (cellM x) = some x.isSome := by cases x <;> rfl
theorem of_eq (t : List UInt8) (b : Bool) : cells_of t b = some (cellM (if b then some t else none)) := by cases b <;> rfl
def tabM (l : List ApiSegment) : SMap (List (List UInt8)) := l.foldr (fun s m => mset s.Key (cellM (some s.Text)) m) []
theorem tabM_get (k : List UInt8) : ∀ l : List ApiSegment, mget k (List.replicate 2 []) (tabM l) = cellM (getM l k)
  | [] => rfl
  | s :: l => by
    show mget k _ (mset s.Key (cellM (some s.Text)) (tabM l)) = _
    rw [@mget_mset noG]
    unfold getM
    by_cases h : s.Key = k
    · rw [if_pos h, if_pos h]
    · rw [if_neg h, if_neg h, tabM_get k l]
theorem cells_table_eq {l : List ApiSegment} (hl : l.length ≤ 1000000000) : cells_table l = some (tabM l) := by
  have key : ∀ n (m : SMap (List (List UInt8))), n ≤ l.length → iter (fun s : Int × SMap (List (List UInt8)) => slices_Backward_api_Segment_api_Segment_1_l2 (fun (s : (SMap (List (List UInt8)))) (a : Int × ApiSegment) => cells_table_r1 s a.1 a.2) l s.1 s.2) (((n : Int) - 1), m) =
      some (Flow.next ((l.take n).foldr (fun s m => mset s.Key (cellM (some s.Text)) m) m)) := by
    intro n
    induction n with
    | zero =>
      intro m _
      refine @iter_done noG _ _ _ _ _ ?_
      unfold slices_Backward_api_Segment_api_Segment_1_l2
      rw [if_neg (by simp)]
      rfl
    | succ n ih =>
      intro m hn
      have h1 : n < l.length := by omega
      have e : (((n + 1 : Nat) : Int) - 1) = (n : Int) := by omega
      rw [e, @iter_next noG _ _ _ _ (((n : Int) - 1), mset l[n].Key (cellM (some l[n].Text)) m) (by
        unfold slices_Backward_api_Segment_api_Segment_1_l2 cells_table_r1
        simp only
        rw [if_pos (by simp), idx_nat h1]
        simp only [Option.bind_some, of_eq]
        rw [if_neg (by simp), w64_id (by omega) (by omega)]
        simp), ih _ (by omega), List.take_succ_eq_append_getElem h1, List.foldr_append]
      rfl
  unfold cells_table slices_Backward_api_Segment_api_Segment_1
  rw [w64_id (by omega) (by omega), key l.length [] (Nat.le_refl _)]
  simp only [Option.bind_some, List.take_length]
  rfl
def onceM (l : List (List UInt8)) : List (List UInt8) := l.foldl addK []
theorem cells_once_eq {l : List (List UInt8)} (hl : l.length ≤ 1000000000) : cells_once l = some (onceM l) := by
  have key := iter_fold l (fun i (b : SMap Bool × List (List UInt8)) => ((i : Int), b.1, b.2)) (step := fun s => cells_once_l2 l s.1 s.2.1 s.2.2) (fun b s => (mset s true b.1, addK b.2 s)) (fun b => (b.1, b.2)) (fun i b => b.2.length ≤ i ∧ ∀ s, mget s false b.1 = decide (s ∈ b.2)) (fun i h b hb => by
    obtain ⟨hb1, hb2⟩ := hb
    have hl2 := addK_len b.2 l[i]
    refine ⟨?_, by simp only; omega, fun s => ?_⟩
    · unfold cells_once_l2 cells_once_j3
      rw [if_pos (by simp; omega), idx_nat h]
      simp only [Option.bind_some, hb2]
      unfold addK
      by_cases hm : l[i] ∈ b.2
      · rw [if_neg (by simp [hm]), if_pos hm, w64_succ (by omega)]
      · rw [if_pos (by simp [hm]), if_neg hm, app_eq (by simp; omega) (by simp; omega)]
        simp only [Option.bind_some]
        rw [w64_succ (by omega)]
    · simp only
      rw [@mget_mset noG]
      have hmem : s ∈ addK b.2 l[i] ↔ (s ∈ b.2 ∨ s = l[i]) := by
        unfold addK
        split
        · rename_i hm
          exact ⟨.inl, fun h => h.elim id (fun e => e ▸ hm)⟩
        · simp
      by_cases he : l[i] = s
      · rw [if_pos he]
        have : s ∈ addK b.2 l[i] := hmem.2 (.inr he.symm)
        simp [this]
      · rw [if_neg he, hb2]
        simp [hmem, Ne.symm he]) (fun b _ => by
    unfold cells_once_l2
    rw [if_neg (by simp)]) (b0 := (([] : SMap Bool), [])) ⟨by simp, fun s => by simp [mget]⟩
  have h2 : ∀ (l : List (List UInt8)) (b : SMap Bool × List (List UInt8)), (l.foldl (fun b s => (mset s true b.1, addK b.2 s)) b).2 = l.foldl addK b.2 := by
    intro l
    induction l with
    | nil => intro b; rfl
    | cons s l ih => intro b; rw [List.foldl_cons, List.foldl_cons, ih]
  unfold cells_once
  have h3 : iter (fun s => cells_once_l2 l s.1 s.2.1 s.2.2) (0, ([] : SMap Bool), []) = _ := key.1
  rw [h3]
  simp only [Option.bind_some, cells_once_k1, h2]
  rfl
theorem keys_row {l : List ApiSegment} {acc : List (List UInt8)} (hl : acc.length + l.length ≤ 1000000000) : iter (fun s => cells_keys_l4 l s.1 s.2) (0, acc) = some (acc ++ l.map (·.Key)) := by
  have key := iter_fold l (fun i (b : List (List UInt8)) => ((i : Int), b)) (step := fun s => cells_keys_l4 l s.1 s.2) (fun b s => b ++ [s.Key]) (fun b => b) (fun i b => b = acc ++ (l.take i).map (·.Key)) (fun i h b hb => by
    subst hb
    refine ⟨?_, by rw [List.take_succ_eq_append_getElem h, List.map_append, List.append_assoc]; rfl⟩
    unfold cells_keys_l4
    rw [if_pos (by simp; omega), idx_nat h]
    simp only [Option.bind_some]
    rw [app_eq (by simp; omega) (by simp; omega)]
    simp only [Option.bind_some]
    rw [w64_succ (by omega)]) (fun b _ => by
    unfold cells_keys_l4
    rw [if_neg (by simp)]) (b0 := acc) (by simp)
  have h3 : iter (fun s => cells_keys_l4 l s.1 s.2) (0, acc) = _ := key.1
  rw [h3, key.2]
  simp
theorem cells_keys_eq {rows : List (List ApiSegment)} (h1 : rows.length ≤ 1000000) (h2 : rows.flatten.length ≤ 1000000000) : cells_keys rows = some (onceM (rows.flatten.map (·.Key))) := by
  have key := iter_fold rows (fun i (b : List (List UInt8)) => ((i : Int), b)) (step := fun s => cells_keys_l2 rows s.1 s.2) (fun b l => b ++ l.map (·.Key)) (fun b => b) (fun i b => b = ((rows.take i).flatten).map (·.Key)) (fun i h b hb => by
    subst hb
    have hfl : (rows.take (i + 1)).flatten = (rows.take i).flatten ++ rows[i] := by rw [List.take_succ_eq_append_getElem h, List.flatten_append]; simp
    have hle : (rows.take (i + 1)).flatten.length ≤ rows.flatten.length := by
      have : rows.flatten = (rows.take (i + 1)).flatten ++ (rows.drop (i + 1)).flatten := by rw [← List.flatten_append, List.take_append_drop]
      rw [this, List.length_append]; omega
    rw [hfl, List.length_append] at hle
    refine ⟨?_, by rw [hfl, List.map_append]⟩
    unfold cells_keys_l2 cells_keys_k3
    rw [if_pos (by simp; omega), idx_nat h]
    simp only [Option.bind_some]
    rw [keys_row (by rw [List.length_map]; omega)]
    simp only [Option.bind_some]
    rw [w64_succ (by omega)]) (fun b _ => by
    unfold cells_keys_l2
    rw [if_neg (by simp)]) (b0 := []) (by simp)
  unfold cells_keys
  have h3 : iter (fun s => cells_keys_l2 rows s.1 s.2) (0, []) = _ := key.1
  rw [h3, key.2]
  simp only [Option.bind_some, List.take_length]
  unfold cells_keys_k1
  rw [cells_once_eq (by rw [List.length_map]; exact h2)]
  rfl
/-- What comes of three texts that may not be there. -/
def threeM (o a b : Option (List UInt8)) : Option (List UInt8) × Int :=
  if a = b then (a, 0) else if a = o then (b, 0) else if b = o then (a, 0) else if a = none ∨ b = none then (none, 3) else
  if (textM (o.getD []) (a.getD []) (b.getD [])).2 = true then (some (textM (o.getD []) (a.getD []) (b.getD [])).1, 0) else (none, 1)
def Short (n : Nat) (x : Option (List UInt8)) : Prop := (x.getD []).length ≤ n
theorem cell_text (x : Option (List UInt8)) : List.getD (cellM x) 1 [] = x.getD [] := by cases x <;> rfl
theorem cells_three_eq {o a b : Option (List UInt8)} (ho : Short 600 o) (ha : Short 600 a) (hb : Short 600 b) : cells_three (cellM o) (cellM a) (cellM b) = some (cellM (threeM o a b).1, (threeM o a b).2) := by
  have h0 : (List.replicate 2 [] : List (List UInt8)) = cellM none := rfl
  have hj : a ≠ none → b ≠ none → cells_three_j1 (cellM o) (cellM a) (cellM b) false = some (if (textM (o.getD []) (a.getD []) (b.getD [])).2 = true then (cellM (some (textM (o.getD []) (a.getD []) (b.getD [])).1), 0) else (cellM none, 1)) := fun _ _ => by
    unfold cells_three_j1
    rw [if_neg (by simp), show arrIx 2 1 = some 1 from rfl]
    simp only [Option.bind_some, cell_text]
    rw [weave_Text_eq ho ha hb]
    simp only [Option.bind_some, of_eq]
    cases (textM (o.getD []) (a.getD []) (b.getD [])).2 with
    | true => simp
    | false => simp [h0]
  unfold cells_three threeM
  simp only [cellM_inj, there_eq, Option.bind_some]
  by_cases h1 : a = b
  · rw [if_pos (by simpa using h1), if_pos h1]
  · rw [if_neg (by simpa using h1), if_neg h1]
    by_cases h2 : a = o
    · rw [if_pos (by simpa using h2), if_pos h2]
    · rw [if_neg (by simpa using h2), if_neg h2]
      by_cases h3 : b = o
      · rw [if_pos (by simpa using h3), if_pos h3]
      · rw [if_neg (by simpa using h3), if_neg h3]
        cases a with
        | none => rw [if_pos (by rfl), if_pos (.inl rfl)]; rfl
        | some ta =>
          rw [if_neg (by simp)]
          cases b with
          | none => rw [if_pos (.inr rfl)]; rfl
          | some tb =>
            rw [if_neg (by simp), show (!(some tb).isSome) = false from rfl, hj (by simp) (by simp)]
            cases (textM (o.getD []) ((some ta).getD []) ((some tb).getD [])).2 <;> rfl
end Go.Proofs.YtphkaogfinjbjaaGreatDoor

/- Cells: the texts of all keys; what is kept of a row. -/
set_option linter.unusedSectionVars false
set_option linter.unusedSimpArgs false
set_option linter.unusedVariables false
namespace Go.Proofs.YtphkaogfinjbjaaGreatDoor
open Go Go.Cn

structure Few (l : List ApiSegment) : Prop where
  len : l.length ≤ 1000
  short : ∀ s ∈ l, s.Text.length ≤ 600
theorem Few.get {l : List ApiSegment} (h : Few l) (k : List UInt8) : Short 600 (getM l k) := by
  unfold Short
  cases hg : getM l k with
  | none => simp
  | some t => exact h.short _ (getM_mem hg)
def txtM (o a b : List ApiSegment) (k : List UInt8) : Option (List UInt8) × Int := threeM (getM o k) (getM a k) (getM b k)
def keys3 (o a b : List ApiSegment) : List (List UInt8) := onceM ((a ++ (o ++ b)).map (·.Key))
def out1 (o a b : List ApiSegment) (k : List UInt8) : List ApiSegment := match (txtM o a b k).1 with | some t => [⟨k, t⟩] | none => []
def bad1 (o a b : List ApiSegment) (k : List UInt8) : List ApiConflict := if (txtM o a b k).2 = 0 then [] else [⟨(txtM o a b k).2, k⟩]
def outM (o a b : List ApiSegment) : List ApiSegment := (keys3 o a b).flatMap (out1 o a b)
def badM (o a b : List ApiSegment) : List ApiConflict := (keys3 o a b).flatMap (bad1 o a b)
theorem fold2 {α β γ : Type} (f : α → List β) (g : α → List γ) : ∀ (l : List α) (x : List β) (y : List γ), l.foldl (fun b k => (b.1 ++ f k, b.2 ++ g k)) (x, y) = (x ++ l.flatMap f, y ++ l.flatMap g)
  | [], x, y => by simp
  | k :: l, x, y => by rw [List.foldl_cons, fold2 f g l]; simp
theorem out1_len (o a b : List ApiSegment) (k : List UInt8) : (out1 o a b k).length ≤ 1 := by unfold out1; split <;> simp
theorem bad1_len (o a b : List ApiSegment) (k : List UInt8) : (bad1 o a b k).length ≤ 1 := by unfold bad1; split <;> simp
theorem onceM_len (l : List (List UInt8)) : (onceM l).length ≤ l.length := by have := addKs_len l []; unfold onceM; simpa using this
theorem cells_Texts_eq {o a b : List ApiSegment} (ho : Few o) (ha : Few a) (hb : Few b) : cells_Texts o a b = some (outM o a b, badM o a b) := by
  have h1 := ho.len
  have h2 := ha.len
  have h3 := hb.len
  unfold cells_Texts
  rw [cells_table_eq (by omega), cells_table_eq (by omega), cells_table_eq (by omega)]
  simp only [Option.bind_some]
  rw [cells_keys_eq (by simp) (by simp; omega)]
  simp only [Option.bind_some]
  have hk : onceM (([a, o, b].flatten).map (·.Key)) = keys3 o a b := by simp [keys3]
  rw [hk]
  have hkl : (keys3 o a b).length ≤ 3000 := by
    have := onceM_len ((a ++ (o ++ b)).map (·.Key))
    simp only [List.length_map, List.length_append] at this
    unfold keys3
    omega
  have key := iter_fold (keys3 o a b) (fun i (p : List ApiSegment × List ApiConflict) => ((i : Int), p.1, p.2)) (step := fun s => cells_Texts_l2 (keys3 o a b) (tabM o) (tabM a) (tabM b) s.1 s.2.1 s.2.2) (fun p k => (p.1 ++ out1 o a b k, p.2 ++ bad1 o a b k)) (fun p => (p.1, p.2)) (fun i p => p.1.length ≤ i ∧ p.2.length ≤ i) (fun i h p hp => by
    have hl1 := out1_len o a b (keys3 o a b)[i]
    have hl2 := bad1_len o a b (keys3 o a b)[i]
    refine ⟨?_, by simp only [List.length_append]; omega⟩
    unfold cells_Texts_l2
    rw [if_pos (by simp; omega), idx_nat h]
    simp only [Option.bind_some, tabM_get]
    rw [cells_three_eq (ho.get _) (ha.get _) (hb.get _)]
    simp only [Option.bind_some]
    have h4 : ∀ bad : List ApiConflict, cells_Texts_j4 (cellM (threeM (getM o (keys3 o a b)[i]) (getM a (keys3 o a b)[i]) (getM b (keys3 o a b)[i])).1) p.1 (keys3 o a b)[i] (i : Int) bad = some (.inl (((i + 1 : Nat) : Int), p.1 ++ out1 o a b (keys3 o a b)[i], bad)) := fun bad => by
      unfold cells_Texts_j4 cells_Texts_j3 out1 txtM
      rw [there_eq]
      simp only [Option.bind_some]
      cases (threeM (getM o (keys3 o a b)[i]) (getM a (keys3 o a b)[i]) (getM b (keys3 o a b)[i])).1 with
      | none => rw [if_neg (by simp), w64_succ (by omega)]; simp
      | some t =>
        rw [if_pos (by simp), show arrIx 2 1 = some 1 from rfl]
        simp only [Option.bind_some, cell_text]
        rw [app_eq (by simp; omega) (by simp; omega)]
        simp only [Option.bind_some]
        rw [w64_succ (by omega)]
        rfl
    unfold bad1 txtM
    by_cases hz : (threeM (getM o (keys3 o a b)[i]) (getM a (keys3 o a b)[i]) (getM b (keys3 o a b)[i])).2 = 0
    · rw [if_neg (by simp [hz]), h4, if_pos hz, List.append_nil]
    · rw [if_pos (by simpa using hz), app_eq (by simp; omega) (by simp; omega)]
      simp only [Option.bind_some]
      rw [h4, if_neg hz]) (fun p _ => by
    unfold cells_Texts_l2
    rw [if_neg (by simp)]) (b0 := ([], [])) (by simp)
  have k1 : iter (fun s => cells_Texts_l2 (keys3 o a b) (tabM o) (tabM a) (tabM b) s.1 s.2.1 s.2.2) (0, [], []) = _ := key.1
  rw [k1, fold2]
  rfl
end Go.Proofs.YtphkaogfinjbjaaGreatDoor

/- Cells: orders of keys. -/
set_option linter.unusedSectionVars false
set_option linter.unusedSimpArgs false
set_option linter.unusedVariables false
namespace Go.Proofs.YtphkaogfinjbjaaGreatDoor
open Go Go.Cn

theorem find_first {l : List (List UInt8)} {p : List UInt8 → Option Bool} {q : List UInt8 → Bool} (hp : ∀ x ∈ l, p x = some (q x)) (hl : l.length ≤ 1000000000) :
    (∃ i : Nat, i < l.length ∧ slices_IndexFunc_string_string l p = some (i : Int) ∧ (l.take i).filter (fun x => !q x) = l.take i ∧ ∃ h : i < l.length, q l[i] = true) ∨ (slices_IndexFunc_string_string l p = some (-1) ∧ l.filter (fun x => !q x) = l) := by
  have key : ∀ n i, i + n = l.length → (l.take i).filter (fun x => !q x) = l.take i →
      (∃ j : Nat, j < l.length ∧ iter (fun s => slices_IndexFunc_string_string_l2 l p s) (i : Int) = some (Flow.done (j : Int)) ∧ (l.take j).filter (fun x => !q x) = l.take j ∧ ∃ h : j < l.length, q l[j] = true) ∨ (iter (fun s => slices_IndexFunc_string_string_l2 l p s) (i : Int) = some (Flow.next ()) ∧ l.filter (fun x => !q x) = l) := by
    intro n
    induction n with
    | zero =>
      intro i hi hf
      obtain rfl : i = l.length := by omega
      rw [List.take_length] at hf
      refine .inr ⟨@iter_done noG _ _ _ _ _ ?_, hf⟩
      unfold slices_IndexFunc_string_string_l2
      rw [if_neg (by simp)]
    | succ n ih =>
      intro i hi hf
      have h1 : i < l.length := by omega
      cases hq : q l[i] with
      | true =>
        refine .inl ⟨i, h1, @iter_done noG _ _ _ _ _ ?_, hf, h1, hq⟩
        unfold slices_IndexFunc_string_string_l2
        rw [if_pos (by simp; omega), idx_nat h1]
        simp only [Option.bind_some]
        rw [hp _ (List.getElem_mem h1)]
        simp only [Option.bind_some]
        rw [if_pos hq]
      | false =>
        have hst : slices_IndexFunc_string_string_l2 l p (i : Int) = some (.inl (((i + 1 : Nat) : Int))) := by
          unfold slices_IndexFunc_string_string_l2
          rw [if_pos (by simp; omega), idx_nat h1]
          simp only [Option.bind_some]
          rw [hp _ (List.getElem_mem h1)]
          simp only [Option.bind_some]
          rw [if_neg (by simp [hq]), w64_succ (by omega)]
        rw [@iter_next noG _ _ _ _ _ hst]
        refine ih (i + 1) (by omega) ?_
        rw [List.take_succ_eq_append_getElem h1, List.filter_append, hf]
        simp [hq]
  have := key l.length 0 (by omega) (by simp)
  unfold slices_IndexFunc_string_string
  rcases this with ⟨j, h1, h2, h3, h4⟩ | ⟨h1, h2⟩
  · have h2 : iter (fun s => slices_IndexFunc_string_string_l2 l p s) 0 = _ := h2
    exact .inl ⟨j, h1, by rw [h2]; rfl, h3, h4⟩
  · have h1 : iter (fun s => slices_IndexFunc_string_string_l2 l p s) 0 = _ := h1
    exact .inr ⟨by rw [h1]; rfl, h2⟩
theorem DeleteFunc_eq {l : List (List UInt8)} {p : List UInt8 → Option Bool} {q : List UInt8 → Bool} (hp : ∀ x ∈ l, p x = some (q x)) (hl : l.length ≤ 1000000000) : slices_DeleteFunc_string_string p l = some (l.filter fun x => !q x) := by
  unfold slices_DeleteFunc_string_string
  rcases find_first hp hl with ⟨i0, h0, h1, h2, h3, h4⟩ | ⟨h1, h2⟩
  · rw [h1]
    simp only [Option.bind_some]
    rw [if_neg (by simp), w64_succ (by omega)]
    have key : ∀ n (i j : Nat) (m : List (List UInt8)), j + n = l.length → i ≤ j → m.length = l.length → m.take i = (l.take j).filter (fun x => !q x) → m.drop j = l.drop j →
        ∃ (i' : Nat) (m' : List (List UInt8)), iter (fun s : Int × Int × List (List UInt8) => slices_DeleteFunc_string_string_l2 p s.1 s.2.1 s.2.2) ((i : Int), (j : Int), m) = some ((i' : Int), m') ∧ i' ≤ l.length ∧ m'.length = l.length ∧ m'.take i' = l.filter (fun x => !q x) := by
      intro n
      induction n with
      | zero =>
        intro i j m hj hij hm ht hd
        obtain rfl : j = l.length := by omega
        rw [List.take_length] at ht
        refine ⟨i, m, @iter_done noG _ _ _ _ _ ?_, hij, hm, ht⟩
        unfold slices_DeleteFunc_string_string_l2
        rw [if_neg (by simp; omega)]
      | succ n ih =>
        intro i j m hj hij hm ht hd
        have hjl : j < l.length := by omega
        have hjm : j < m.length := by omega
        have hmj : m[j] = l[j] := by
          have e1 : m[j]? = l[j]? := by
            have := congrArg (fun x => x[0]?) hd
            simpa using this
          rw [List.getElem?_eq_getElem hjm, List.getElem?_eq_getElem hjl] at e1
          exact Option.some.inj e1
        cases hq : q l[j] with
        | true =>
          have hst : slices_DeleteFunc_string_string_l2 p (i : Int) (j : Int) m = some (.inl ((i : Int), ((j + 1 : Nat) : Int), m)) := by
            unfold slices_DeleteFunc_string_string_l2 slices_DeleteFunc_string_string_j3
            rw [if_pos (by simp; omega), idx_nat hjm]
            simp only [Option.bind_some]
            rw [hmj, hp _ (List.getElem_mem hjl)]
            simp only [Option.bind_some]
            rw [if_neg (by simp [hq]), w64_succ (by omega)]
          rw [@iter_next noG _ _ _ _ ((i : Int), ((j + 1 : Nat) : Int), m) hst]
          refine ih i (j + 1) m (by omega) (by omega) hm ?_ ?_
          · rw [List.take_succ_eq_append_getElem hjl, List.filter_append, ht]; simp [hq]
          · rw [← List.drop_drop, hd, List.drop_drop]
        | false =>
          have hst : slices_DeleteFunc_string_string_l2 p (i : Int) (j : Int) m = some (.inl (((i + 1 : Nat) : Int), ((j + 1 : Nat) : Int), m.set i l[j])) := by
            unfold slices_DeleteFunc_string_string_l2 slices_DeleteFunc_string_string_j3
            rw [if_pos (by simp; omega), idx_nat hjm]
            simp only [Option.bind_some]
            rw [hmj, hp _ (List.getElem_mem hjl)]
            simp only [Option.bind_some]
            rw [if_pos (by simp [hq]), idx_nat (by omega)]
            simp only [Option.bind_some]
            rw [w64_succ (by omega), w64_succ (by omega), Int.toNat_natCast]
          rw [@iter_next noG _ _ _ _ (((i + 1 : Nat) : Int), ((j + 1 : Nat) : Int), m.set i l[j]) hst]
          refine ih (i + 1) (j + 1) _ (by omega) (by omega) (by simpa using hm) ?_ ?_
          · rw [List.take_succ_eq_append_getElem hjl, List.filter_append, ← ht]
            rw [List.take_succ_eq_append_getElem (by simp; omega)]
            simp only [List.getElem_set_self, hq, List.filter_cons, List.filter_nil, Bool.not_false, if_true]
            congr 1
            apply List.ext_getElem?
            intro k
            simp only [List.getElem?_take, List.getElem?_set]
            by_cases hk : k < i
            · rw [if_pos hk, if_pos hk, if_neg (by omega)]
            · rw [if_neg hk, if_neg hk]
          · rw [List.drop_set_of_lt (by omega), ← List.drop_drop, hd, List.drop_drop]
    obtain ⟨i', m', e1, e2, e3, e4⟩ := key (l.length - (i0 + 1)) i0 (i0 + 1) l (by omega) (by omega) rfl (by
      rw [List.take_succ_eq_append_getElem h0, List.filter_append, h2]
      simp [h4]) rfl
    rw [e1]
    simp only [Option.bind_some]
    unfold slices_DeleteFunc_string_string_k1
    rw [cut_eq (by omega) (by omega) (Int.le_refl _)]
    simp only [Option.bind_some, Int.toNat_natCast]
    rw [cut_eq (by omega) (by omega) (by simp; omega)]
    simp only [Option.bind_some]
    unfold cut3
    simp only [Int.toNat_natCast, Int.toNat_zero, List.drop_zero]
    rw [List.take_left' (by simp; omega), e4]
  · rw [h1]
    simp only [Option.bind_some]
    rw [if_pos (by simp), h2]
def keptM (o a b l : List (List UInt8)) : List (List UInt8) := l.filter fun k => !(decide (k ∈ o) && !(decide (k ∈ a) && decide (k ∈ b)))
theorem contains_eq {L : List (List UInt8)} {x : List UInt8} (h : L.length ≤ 1000000000) : slices_Contains_string_string L x = some (decide (x ∈ L)) := by
  rw [slices_Contains_eq (by omega)]
  simp
theorem cells_kept_eq {l o a b : List (List UInt8)} (hl : l.length ≤ 1000000) (ho : o.length ≤ 1000000) (ha : a.length ≤ 1000000) (hb : b.length ≤ 1000000) : cells_Order_1 l o a b = some (keptM o a b l) := by
  unfold cells_Order_1 slices_Clone
  rw [app_eq (by simp; omega) (by simp; omega)]
  simp only [Option.bind_some, List.nil_append]
  rw [DeleteFunc_eq (q := fun k => decide (k ∈ o) && !(decide (k ∈ a) && decide (k ∈ b))) (fun x _ => by
    unfold cells_Order_1_1 cells_Order_1_1_j1
    rw [contains_eq (by omega), contains_eq (by omega), contains_eq (by omega)]
    simp only [Option.bind_some]
    cases decide (x ∈ o) <;> cases decide (x ∈ a) <;> cases decide (x ∈ b) <;> rfl) (by omega)]
  rfl
end Go.Proofs.YtphkaogfinjbjaaGreatDoor

/- Cells: three orders of keys as one. -/
set_option linter.unusedSectionVars false
set_option linter.unusedSimpArgs false
set_option linter.unusedVariables false
namespace Go.Proofs.YtphkaogfinjbjaaGreatDoor
open Go Go.Cn

def woStep (o a b : List (List UInt8)) (acc : List (List UInt8)) (p : Diff3Ends × Diff3Ends) : List (List UInt8) ⊕ Unit :=
  let L := cut3 a p.1.a p.2.a
  let R := cut3 b p.1.b p.2.b
  let k := kindOf (cut3 o p.1.o p.2.o) L R
  if k = 2 then .inl (acc ++ R) else if k = 4 then (if p.1.o < p.2.o then .inr () else .inl (acc ++ L ++ R.filter fun x => !decide (x ∈ L))) else .inl (acc ++ L)
def wovenM (o a b : List (List UInt8)) : List (List UInt8) ⊕ Unit := foldE (woStep o a b) (chunksOf o a b) []
theorem woStep_len {o a b acc acc' : List (List UInt8)} {p : Diff3Ends × Diff3Ends} (h : woStep o a b acc p = .inl acc') : acc'.length ≤ acc.length + a.length + b.length := by
  have d2 := cut_len a p.1.a p.2.a
  have d3 := cut_len b p.1.b p.2.b
  unfold woStep at h
  simp only at h
  split at h
  · cases h; simp; omega
  · split at h
    · split at h
      · cases h
      · cases h
        have := List.length_filter_le (fun x => !decide (x ∈ cut3 a p.1.a p.2.a)) (cut3 b p.1.b p.2.b)
        simp only [List.length_append]; omega
    · cases h; simp; omega
theorem woven1_eq {l other : List (List UInt8)} (hl : l.length ≤ 1000000) (ho : other.length ≤ 1000000) : (slices_Clone l).bind (fun x => slices_DeleteFunc_string_string (fun a0 => cells_woven_1 a0 other) x) = some (l.filter fun x => !decide (x ∈ other)) := by
  unfold slices_Clone
  rw [app_eq (by simp; omega) (by simp; omega)]
  simp only [Option.bind_some, List.nil_append]
  exact DeleteFunc_eq (q := fun x => decide (x ∈ other)) (fun x _ => by
    unfold cells_woven_1
    rw [contains_eq (by omega)]
    rfl) (by omega)
theorem cells_woven_eq {o a b : List (List UInt8)} (ho : o.length ≤ 2000) (ha : a.length ≤ 2000) (hb : b.length ≤ 2000) : cells_woven o a b = some (match wovenM o a b with | .inl l => (l, true) | .inr _ => ([], false)) := by
  unfold cells_woven
  rw [diff3_Parts_eq ho ha hb]
  simp only [Option.bind_some]
  have hlen := chunksOf_len o a b
  have key := iter_foldE (chunksOf o a b) (fun i (l : List (List UInt8)) => ((i : Int), l)) (step := fun s => cells_woven_l2 ((chunksOf o a b).map (chunkOf o a b)) a b s.1 s.2) (woStep o a b) (fun l => Flow.next l) (fun _ => Flow.done ([], false)) (fun i l => l.length ≤ i * 4000) (fun i h l hinv => by
    have hin := chunksOf_in _ (List.getElem_mem h)
    have hws : ∀ l', woStep o a b l (chunksOf o a b)[i] = .inl l' → l'.length ≤ (i + 1) * 4000 := fun l' hl' => by have := woStep_len hl'; omega
    generalize hp : (chunksOf o a b)[i] = p at *
    obtain ⟨q1, q2, q3, q4, q5, q6, q7, q8, q9⟩ := hin
    have d2 := cut_len a p.1.a p.2.a
    have d3 := cut_len b p.1.b p.2.b
    have hstep : cells_woven_l2 ((chunksOf o a b).map (chunkOf o a b)) a b (i : Int) l = match woStep o a b l p with | .inl l' => some (.inl (((i + 1 : Nat) : Int), l')) | .inr _ => some (.inr (Flow.done ([], false))) := by
      unfold cells_woven_l2 cells_woven_j4 cells_woven_j3
      rw [if_pos (by simp; omega), idx_nat (by simpa using h)]
      simp only [Option.bind_some, List.getElem_map, hp]
      rw [show (chunkOf o a b p).O.From = p.1.o from rfl, show (chunkOf o a b p).O.To = p.2.o from rfl, show (chunkOf o a b p).A.From = p.1.a from rfl, show (chunkOf o a b p).A.To = p.2.a from rfl, show (chunkOf o a b p).B.From = p.1.b from rfl, show (chunkOf o a b p).B.To = p.2.b from rfl]
      rw [cut_eq q4 q5 q6, cut_eq q7 q8 q9]
      simp only [Option.bind_some]
      rw [show (chunkOf o a b p).Kind = kindOf (cut3 o p.1.o p.2.o) (cut3 a p.1.a p.2.a) (cut3 b p.1.b p.2.b) from rfl]
      unfold woStep
      simp only
      have hw1 := woven1_eq (l := cut3 b p.1.b p.2.b) (other := cut3 a p.1.a p.2.a) (by omega) (by omega)
      have hfl := List.length_filter_le (fun x => !decide (x ∈ cut3 a p.1.a p.2.a)) (cut3 b p.1.b p.2.b)
      generalize kindOf (cut3 o p.1.o p.2.o) (cut3 a p.1.a p.2.a) (cut3 b p.1.b p.2.b) = k
      by_cases h2 : k = 2
      · rw [if_pos (by simpa using h2), if_pos h2, app_eq (by omega) (by omega)]
        simp only [Option.bind_some]
        rw [w64_succ (by omega)]
      · rw [if_neg (by simpa using h2), if_neg h2]
        by_cases h4 : k = 4
        · rw [if_pos (by simpa using h4), if_pos h4]
          by_cases hlt : p.1.o < p.2.o
          · rw [if_pos (by simpa using hlt), if_pos hlt]
          · rw [if_neg (by simpa using hlt), if_neg hlt, app_eq (by omega) (by omega)]
            simp only [Option.bind_some]
            have hw2 : ∀ f : List (List UInt8) → Option ((Int × List (List UInt8)) ⊕ Flow (List (List UInt8)) (List (List UInt8) × Bool)), ((slices_Clone (cut3 b p.1.b p.2.b)).bind fun x24 => (slices_DeleteFunc_string_string (fun a0 => cells_woven_1 a0 (cut3 a p.1.a p.2.a)) x24).bind f) = f ((cut3 b p.1.b p.2.b).filter fun x => !decide (x ∈ cut3 a p.1.a p.2.a)) := fun f => by
              rw [← Option.bind_assoc, hw1]; rfl
            rw [hw2, app_eq (by simp only [List.length_append]; omega) (by simp only [List.length_append]; omega)]
            simp only [Option.bind_some]
            rw [w64_succ (by omega)]
        · rw [if_neg (by simpa using h4), if_neg h4, app_eq (by omega) (by omega)]
          simp only [Option.bind_some]
          rw [w64_succ (by omega)]
    cases hw : woStep o a b l p with
    | inl l' => simp only; rw [hstep, hw]; exact ⟨rfl, hws l' hw⟩
    | inr u => simp only; rw [hstep, hw]) (fun l _ => by
    unfold cells_woven_l2
    rw [if_neg (by simp)]) (b0 := []) (by simp)
  have key : iter (fun s => cells_woven_l2 ((chunksOf o a b).map (chunkOf o a b)) a b s.1 s.2) (0, []) = _ := key
  rw [key]
  simp only [Option.bind_some]
  unfold wovenM
  cases foldE (woStep o a b) (chunksOf o a b) [] with
  | inl l => rfl
  | inr u => rfl
theorem wovenM_len (o a b : List (List UInt8)) (ho : o.length ≤ 2000) (ha : a.length ≤ 2000) (hb : b.length ≤ 2000) : ∀ l, wovenM o a b = .inl l → l.length ≤ 100000000 := by
  have key : ∀ (ps : List (Diff3Ends × Diff3Ends)) (acc l : List (List UInt8)), foldE (woStep o a b) ps acc = .inl l → l.length ≤ acc.length + ps.length * 4000 := by
    intro ps
    induction ps with
    | nil => intro acc l h; cases h; simp
    | cons p ps ih =>
      intro acc l h
      unfold foldE at h
      cases hw : woStep o a b acc p with
      | inr u => rw [hw] at h; cases h
      | inl acc' =>
        rw [hw] at h
        have h1 := woStep_len hw
        have h2 := ih acc' l h
        simp only [List.length_cons]
        omega
  intro l h
  have := key _ _ _ h
  have := chunksOf_len o a b
  simp at *
  omega
/-- Three orders as one. -/
def orderM (o a b : List (List UInt8)) : List (List UInt8) × Bool :=
  if onceM b = onceM o then (onceM a, true) else if onceM a = onceM o then (onceM b, true) else
  match wovenM (keptM (onceM o) (onceM a) (onceM b) (onceM o)) (keptM (onceM o) (onceM a) (onceM b) (onceM a)) (keptM (onceM o) (onceM a) (onceM b) (onceM b)) with
  | .inl l => if (onceM l).length = l.length then (l, true) else ([], false)
  | .inr _ => ([], false)
theorem same_texts {step : List (List UInt8) → List (List UInt8) → Int → Option (Int ⊕ Flow Unit Bool)} (hs : ∀ a b i, step a b i = slices_Equal_string_string_l2 a b i) {a b : List (List UInt8)} (hl : a.length = b.length) (h : a.length ≤ 1000000) :
    iter (fun s => step a b s) 0 = some (if a = b then Flow.next () else Flow.done false) := by
  have hs' : (fun s => step a b s) = fun s => slices_Equal_string_string_l2 a b s := by funext s; exact hs a b s
  rw [hs']
  have key : ∀ k i, i + k = a.length → iter (fun s => slices_Equal_string_string_l2 a b s) (i : Int) = some (if a.drop i = b.drop i then Flow.next () else Flow.done false) := by
    intro k
    induction k with
    | zero =>
      intro i hi
      obtain rfl : i = a.length := by omega
      rw [@iter_done noG _ _ _ _ (Flow.next ()) (by unfold slices_Equal_string_string_l2; rw [if_neg (by simp)])]
      rw [List.drop_length, hl, List.drop_length, if_pos rfl]
    | succ k ih =>
      intro i hi
      have h1 : i < a.length := by omega
      have h2 : i < b.length := by omega
      rw [List.drop_eq_getElem_cons h1, List.drop_eq_getElem_cons h2]
      by_cases hx : a[i] = b[i]
      · rw [@iter_next noG _ _ _ _ (((i + 1 : Nat) : Int)) (by
          unfold slices_Equal_string_string_l2 slices_Equal_string_string_j3
          rw [if_pos (by simp; omega), idx_nat h1, idx_nat h2]
          simp only [Option.bind_some]
          rw [if_neg (by simp [hx]), w64_succ (by omega)]), ih (i + 1) (by omega)]
        simp only [hx, List.cons.injEq, true_and]
      · rw [@iter_done noG _ _ _ _ (Flow.done false) (by
          unfold slices_Equal_string_string_l2 slices_Equal_string_string_j3
          rw [if_pos (by simp; omega), idx_nat h1, idx_nat h2]
          simp only [Option.bind_some]
          rw [if_pos (by simp [hx])])]
        rw [if_neg (fun h => hx (List.cons.inj h).1)]
  have := key a.length 0 (by omega)
  simpa using this
theorem Equal_texts {a b : List (List UInt8)} (h : a.length ≤ 1000000) : slices_Equal_string_string a b = some (decide (a = b)) := by
  unfold slices_Equal_string_string
  by_cases hl : a.length = b.length
  · rw [if_neg (by simp; omega), same_texts (step := slices_Equal_string_string_l2) (fun _ _ _ => rfl) hl h]
    simp only [Option.bind_some]
    by_cases he : a = b
    · rw [if_pos he]; simp [he, slices_Equal_string_string_k1]
    · rw [if_neg he]; simp [he]
  · rw [if_pos (by simp; omega), decide_eq_false (fun h => hl (by rw [h]))]
theorem cells_Order_eq {o a b : List (List UInt8)} (ho : o.length ≤ 1000) (ha : a.length ≤ 1000) (hb : b.length ≤ 1000) : cells_Order o a b = some (orderM o a b) := by
  have l1 := onceM_len o
  have l2 := onceM_len a
  have l3 := onceM_len b
  unfold cells_Order cells_Order_j3 orderM
  rw [cells_once_eq (by omega), cells_once_eq (by omega), cells_once_eq (by omega)]
  simp only [Option.bind_some]
  rw [Equal_texts (by omega), Equal_texts (by omega)]
  simp only [Option.bind_some]
  by_cases h1 : onceM b = onceM o
  · rw [if_pos (by simpa using h1), if_pos h1]
  · rw [if_neg (by simpa using h1), if_neg h1]
    by_cases h2 : onceM a = onceM o
    · rw [if_pos (by simpa using h2), if_pos h2]
    · rw [if_neg (by simpa using h2), if_neg h2]
      have k1 := List.length_filter_le (fun k => !(decide (k ∈ onceM o) && !(decide (k ∈ onceM a) && decide (k ∈ onceM b)))) (onceM o)
      have k2 := List.length_filter_le (fun k => !(decide (k ∈ onceM o) && !(decide (k ∈ onceM a) && decide (k ∈ onceM b)))) (onceM a)
      have k3 := List.length_filter_le (fun k => !(decide (k ∈ onceM o) && !(decide (k ∈ onceM a) && decide (k ∈ onceM b)))) (onceM b)
      rw [cells_kept_eq (by omega) (by omega) (by omega) (by omega), cells_kept_eq (by omega) (by omega) (by omega) (by omega), cells_kept_eq (by omega) (by omega) (by omega) (by omega)]
      simp only [Option.bind_some]
      rw [cells_woven_eq (by unfold keptM; omega) (by unfold keptM; omega) (by unfold keptM; omega)]
      simp only [Option.bind_some]
      have hwl := wovenM_len (keptM (onceM o) (onceM a) (onceM b) (onceM o)) (keptM (onceM o) (onceM a) (onceM b) (onceM a)) (keptM (onceM o) (onceM a) (onceM b) (onceM b)) (by unfold keptM; omega) (by unfold keptM; omega) (by unfold keptM; omega)
      cases hw : wovenM (keptM (onceM o) (onceM a) (onceM b) (onceM o)) (keptM (onceM o) (onceM a) (onceM b) (onceM a)) (keptM (onceM o) (onceM a) (onceM b) (onceM b)) with
      | inr u => simp [cells_Order_j2, cells_Order_j1]
      | inl l =>
        have hll := hwl l hw
        simp only
        unfold cells_Order_j2 cells_Order_j1
        rw [if_neg (by simp), cells_once_eq (by omega)]
        simp only [Option.bind_some]
        by_cases hc : (onceM l).length = l.length
        · rw [if_neg (by simp [hc]), if_pos hc]
        · rw [if_pos (by simp; omega), if_neg hc]
end Go.Proofs.YtphkaogfinjbjaaGreatDoor

/- Cells: turned about. -/
set_option linter.unusedSectionVars false
set_option linter.unusedSimpArgs false
set_option linter.unusedVariables false
namespace Go.Proofs.YtphkaogfinjbjaaGreatDoor
open Go Go.Cn

theorem awake30 : law30_awake = some true := by decide +kernel
theorem few30 (l : List ApiSegment) : ∃ b, law30_few l = some b ∧ (b = true → Few l) := by
  unfold law30_few
  by_cases hl : l.length ≤ 20
  · rw [if_neg (by simp; omega)]
    have key := iter_foldE l (fun i (_ : Unit) => (i : Int)) (step := fun s => law30_few_l2 l s) (fun _ (s : ApiSegment) => if s.Text.length > 120 ∨ s.Key.length > 60 then .inr () else .inl ()) (fun _ => Flow.next ()) (fun _ => Flow.done false) (fun _ _ => True) (fun i h b _ => by
      have hst : law30_few_l2 l (i : Int) = if l[i].Text.length > 120 ∨ l[i].Key.length > 60 then some (.inr (Flow.done false)) else some (.inl (((i + 1 : Nat) : Int))) := by
        unfold law30_few_l2 law30_few_j3
        rw [if_pos (show decide ((i : Int) < (l.length : Int)) = true by simp; omega), idx_nat h]
        simp only [Option.bind_some]
        by_cases h1 : l[i].Text.length > 120
        · rw [if_pos (show decide ((l[i].Text.length : Int) > 120) = true by simp; omega), if_pos trivial, if_pos (.inl h1)]
        · rw [if_neg (show ¬ decide ((l[i].Text.length : Int) > 120) = true by simp; omega)]
          by_cases h2 : l[i].Key.length > 60
          · rw [if_pos (show decide ((l[i].Key.length : Int) > 60) = true by simp; omega), if_pos (.inr h2)]
          · rw [if_neg (show ¬ decide ((l[i].Key.length : Int) > 60) = true by simp; omega), if_neg (show ¬ (l[i].Text.length > 120 ∨ l[i].Key.length > 60) by omega), w64_succ (by omega)]
      by_cases hc : l[i].Text.length > 120 ∨ l[i].Key.length > 60
      · simp only [if_pos hc]
        rw [hst, if_pos hc]
      · simp only [if_neg hc]
        exact ⟨by rw [hst, if_neg hc], trivial⟩) (fun b _ => by
      unfold law30_few_l2
      rw [if_neg (by simp)]) (b0 := ()) trivial
    have key : iter (fun s => law30_few_l2 l s) 0 = _ := key
    rw [key]
    simp only [Option.bind_some]
    have h2 : ∀ l : List ApiSegment, foldE (fun _ (s : ApiSegment) => if s.Text.length > 120 ∨ s.Key.length > 60 then (.inr () : Unit ⊕ Unit) else .inl ()) l () = .inl () → ∀ s ∈ l, s.Text.length ≤ 600 := by
      intro l
      induction l with
      | nil => intro _ s hs; cases hs
      | cons x l ih =>
        intro h s hs
        unfold foldE at h
        by_cases hx : x.Text.length > 120 ∨ x.Key.length > 60
        · rw [if_pos hx] at h; cases h
        · rw [if_neg hx] at h
          rcases List.mem_cons.1 hs with rfl | hs
          · omega
          · exact ih h s hs
    cases hf : foldE (fun _ (s : ApiSegment) => if s.Text.length > 120 ∨ s.Key.length > 60 then (.inr () : Unit ⊕ Unit) else .inl ()) l () with
    | inl u => exact ⟨true, rfl, fun _ => ⟨by omega, h2 l hf⟩⟩
    | inr u => exact ⟨false, rfl, fun h => by cases h⟩
  · rw [if_pos (by simp; omega)]
    exact ⟨false, rfl, fun h => by cases h⟩
theorem addKs_nodup : ∀ (l ks : List (List UInt8)), ks.Nodup → (l.foldl addK ks).Nodup
  | [], _, h => h
  | s :: l, ks, h => addKs_nodup l (addK ks s) (by
    unfold addK
    split
    · exact h
    · rename_i hm
      rw [List.nodup_append]
      exact ⟨h, by simp, fun x hx y hy => by rw [List.mem_singleton.1 hy]; intro e; exact hm (e ▸ hx)⟩)
theorem addKs_iff (s : List UInt8) : ∀ (l ks : List (List UInt8)), s ∈ l.foldl addK ks ↔ s ∈ ks ∨ s ∈ l
  | [], ks => by simp
  | x :: l, ks => by
    rw [List.foldl_cons, addKs_iff s l]
    unfold addK
    split
    · rename_i hm
      simp only [List.mem_cons]
      exact ⟨fun h => h.imp id .inr, fun h => h.elim .inl (fun h => h.elim (fun e => .inl (e ▸ hm)) .inr)⟩
    · simp only [List.mem_append, List.mem_cons, List.not_mem_nil, or_false]
      exact ⟨fun h => h.elim (fun h => h.imp id .inl) (fun h => .inr (.inr h)), fun h => h.elim (fun h => .inl (.inl h)) (fun h => h.elim (fun h => .inl (.inr h)) .inr)⟩
theorem onceM_nodup (l : List (List UInt8)) : (onceM l).Nodup := addKs_nodup l [] List.nodup_nil
theorem onceM_mem {s : List UInt8} {l : List (List UInt8)} : s ∈ onceM l ↔ s ∈ l := by unfold onceM; rw [addKs_iff]; simp
theorem out1_key {o a b : List ApiSegment} {k : List UInt8} {s : ApiSegment} (h : s ∈ out1 o a b k) : s.Key = k := by
  unfold out1 at h
  split at h
  · rw [List.mem_singleton.1 h]
  · cases h
theorem keyed_nodup {α : Type} (f : List UInt8 → List α) (g : α → List UInt8) (h1 : ∀ k, (f k).length ≤ 1) (h2 : ∀ k, ∀ s ∈ f k, g s = k) : ∀ ks : List (List UInt8), ks.Nodup → ((ks.flatMap f).map g).Nodup
  | [], _ => by simp
  | k :: ks, h => by
    obtain ⟨h3, h4⟩ := List.nodup_cons.1 h
    rw [List.flatMap_cons, List.map_append, List.nodup_append]
    refine ⟨?_, keyed_nodup f g h1 h2 ks h4, fun x hx y hy => ?_⟩
    · have := h1 k
      match hf : f k with
      | [] => simp
      | [s] => simp
      | _ :: _ :: _ => rw [hf] at this; simp at this
    · obtain ⟨s, hs, rfl⟩ := List.mem_map.1 hx
      obtain ⟨t, ht, rfl⟩ := List.mem_map.1 hy
      obtain ⟨k', hk', ht'⟩ := List.mem_flatMap.1 ht
      rw [h2 k s hs, h2 k' t ht']
      intro e
      exact h3 (e ▸ hk')
theorem outM_nodup (o a b : List ApiSegment) : ((outM o a b).map (·.Key)).Nodup := keyed_nodup _ _ (out1_len o a b) (fun k s hs => out1_key hs) _ (onceM_nodup _)
theorem getM_nodup : ∀ {l : List ApiSegment} {s : ApiSegment}, (l.map (·.Key)).Nodup → s ∈ l → getM l s.Key = some s.Text
  | x :: l, s, h, hs => by
    obtain ⟨h3, h4⟩ := List.nodup_cons.1 h
    unfold getM
    rcases List.mem_cons.1 hs with rfl | hs
    · rw [if_pos rfl]
    · rw [if_neg (fun e => h3 (by show x.Key ∈ _; rw [e]; exact List.mem_map_of_mem (f := (·.Key)) hs))]
      exact getM_nodup h4 hs
theorem outM_len (o a b : List ApiSegment) : (outM o a b).length ≤ a.length + (o.length + b.length) := by
  have h1 : ∀ ks : List (List UInt8), (ks.flatMap (out1 o a b)).length ≤ ks.length := by
    intro ks
    induction ks with
    | nil => simp
    | cons k ks ih => have := out1_len o a b k; simp only [List.flatMap_cons, List.length_append, List.length_cons]; omega
  have h2 := h1 (keys3 o a b)
  have h3 := onceM_len ((a ++ (o ++ b)).map (·.Key))
  simp only [List.length_map, List.length_append] at h3
  unfold outM keys3 at *
  omega
theorem badM_len (o a b : List ApiSegment) : (badM o a b).length ≤ a.length + (o.length + b.length) := by
  have h1 : ∀ ks : List (List UInt8), (ks.flatMap (bad1 o a b)).length ≤ ks.length := by
    intro ks
    induction ks with
    | nil => simp
    | cons k ks ih => have := bad1_len o a b k; simp only [List.flatMap_cons, List.length_append, List.length_cons]; omega
  have h2 := h1 (keys3 o a b)
  have h3 := onceM_len ((a ++ (o ++ b)).map (·.Key))
  simp only [List.length_map, List.length_append] at h3
  unfold badM keys3 at *
  omega
/-- A loop that finds nothing to say against any. -/
theorem all_ok {α : Type} {step : Int → Option (Int ⊕ Flow Unit Bool)} (l : List α) (h : l.length ≤ 1000000000) (h1 : ∀ i (hi : i < l.length), step (i : Int) = some (.inl (w64 ((i : Int) + 1)))) (h2 : step (l.length : Int) = some (.inr (.next ()))) : iter step 0 = some (.next ()) := same_refl (l := l) h h1 h2
theorem nodup_of_map {α β : Type} (f : α → β) : ∀ {l : List α}, (l.map f).Nodup → l.Nodup
  | [], _ => List.nodup_nil
  | x :: l, h => by
    obtain ⟨h1, h2⟩ := List.nodup_cons.1 h
    exact List.nodup_cons.2 ⟨fun hx => h1 (List.mem_map_of_mem hx), nodup_of_map f h2⟩
end Go.Proofs.YtphkaogfinjbjaaGreatDoor

/- Cells: rows. -/
set_option linter.unusedSectionVars false
set_option linter.unusedSimpArgs false
set_option linter.unusedVariables false
namespace Go.Proofs.YtphkaogfinjbjaaGreatDoor
open Go Go.Cn

theorem foldl_addK_nodup : ∀ (l ks : List (List UInt8)), (ks ++ l).Nodup → l.foldl addK ks = ks ++ l
  | [], ks, _ => by simp
  | s :: l, ks, h => by
    have hs : s ∉ ks := fun hm => by
      rw [List.nodup_append] at h
      exact h.2.2 s hm s List.mem_cons_self rfl
    rw [List.foldl_cons]
    unfold addK
    rw [if_neg hs]
    have := foldl_addK_nodup l (ks ++ [s]) (by simpa using h)
    unfold addK at this
    rw [this]
    simp
theorem onceM_id {l : List (List UInt8)} (h : l.Nodup) : onceM l = l := by unfold onceM; rw [foldl_addK_nodup l [] (by simpa using h)]; rfl
theorem onceM_onceM (l : List (List UInt8)) : onceM (onceM l) = onceM l := onceM_id (onceM_nodup l)
theorem nodup_of_once {l : List (List UInt8)} (h : (onceM l).length = l.length) : l.Nodup := by
  have key : ∀ (l ks : List (List UInt8)), ks.Nodup → (l.foldl addK ks).length = ks.length + l.length → (ks ++ l).Nodup := by
    intro l
    induction l with
    | nil => intro ks hk _; simpa using hk
    | cons s l ih =>
      intro ks hk hl
      rw [List.foldl_cons] at hl
      by_cases hm : s ∈ ks
      · have h1 : addK ks s = ks := by unfold addK; rw [if_pos hm]
        rw [h1] at hl
        have := addKs_len l ks
        simp only [List.length_cons] at hl
        omega
      · have h1 : addK ks s = ks ++ [s] := by unfold addK; rw [if_neg hm]
        rw [h1] at hl
        have h2 : (ks ++ [s]).Nodup := by
          rw [List.nodup_append]
          exact ⟨hk, by simp, fun x hx y hy => by rw [List.mem_singleton.1 hy]; intro e; exact hm (e ▸ hx)⟩
        have := ih (ks ++ [s]) h2 (by simp only [List.length_append, List.length_cons, List.length_nil] at hl ⊢; omega)
        simpa using this
  have := key l [] List.nodup_nil (by simpa [onceM] using h)
  simpa using this
theorem orderM_nodup (o a b : List (List UInt8)) : (orderM o a b).1.Nodup := by
  unfold orderM
  split
  · exact onceM_nodup _
  · split
    · exact onceM_nodup _
    · split
      · split
        · rename_i h; exact nodup_of_once h
        · exact List.nodup_nil
      · exact List.nodup_nil
theorem orderM_once (o a b : List (List UInt8)) : orderM (onceM o) (onceM a) (onceM b) = orderM o a b := by
  unfold orderM
  rw [onceM_onceM, onceM_onceM, onceM_onceM]
theorem once_append {l m : List (List UInt8)} (hl : l.Nodup) (hm : m.Nodup) : onceM (l ++ m) = l ++ m.filter fun x => !decide (x ∈ l) := by
  have key : ∀ (m ks : List (List UInt8)), m.Nodup → m.foldl addK ks = ks ++ m.filter fun x => !decide (x ∈ ks) := by
    intro m
    induction m with
    | nil => intro ks _; simp
    | cons s m ih =>
      intro ks h
      obtain ⟨h1, h2⟩ := List.nodup_cons.1 h
      rw [List.foldl_cons, ih _ h2]
      by_cases hs : s ∈ ks
      · have e : addK ks s = ks := by unfold addK; rw [if_pos hs]
        rw [e]
        simp [hs]
      · have e : addK ks s = ks ++ [s] := by unfold addK; rw [if_neg hs]
        rw [e, List.filter_cons, if_pos (by simp [hs])]
        have : (m.filter fun x => !decide (x ∈ ks ++ [s])) = m.filter fun x => !decide (x ∈ ks) := by
          refine List.filter_congr fun x hx => ?_
          have : x ≠ s := fun e => h1 (e ▸ hx)
          simp [this]
        rw [this]
        simp
  unfold onceM
  rw [List.foldl_append, foldl_addK_nodup l [] (by simpa using hl), List.nil_append]
  exact key m l hm
def row1 (t : List ApiSegment) (k : List UInt8) : List ApiSegment := match getM t k with | some x => [⟨k, x⟩] | none => []
theorem row1_len (t : List ApiSegment) (k : List UInt8) : (row1 t k).length ≤ 1 := by unfold row1; split <;> simp
/-- Three rows as one. -/
def rowM (o a b : List ApiSegment) : List ApiSegment × List ApiConflict :=
  let l := orderM (o.map (·.Key)) (a.map (·.Key)) (b.map (·.Key))
  if l.2 = true then ((l.1 ++ ((outM o a b).map (·.Key)).filter fun x => !decide (x ∈ l.1)).flatMap (row1 (outM o a b)), badM o a b) else (outM o a b, badM o a b ++ [⟨2, []⟩])
theorem row1_there {t : List ApiSegment} (hn : (t.map (·.Key)).Nodup) {s : ApiSegment} (hs : s ∈ t) : row1 t s.Key = [s] := by
  unfold row1
  rw [getM_nodup hn hs]
theorem concat2 {x y : List (List UInt8)} (hx : x.length ≤ 1000000000) (hy : y.length ≤ 1000000000) : slices_Concat_string_string [x, y] = some (x ++ y) := by
  unfold slices_Concat_string_string
  have s0 : slices_Concat_string_string_l4 [x, y] 0 0 = some (.inl ((x.length : Int), 1)) := by
    unfold slices_Concat_string_string_l4 slices_Concat_string_string_j5
    rw [if_pos (by simp), show idx [x, y] 0 = some x from rfl]
    simp only [Option.bind_some]
    rw [show (0 : Int) + (x.length : Int) = (x.length : Int) by omega, w64_id (by omega) (by omega), if_neg (by simp)]
    rfl
  have s1 : slices_Concat_string_string_l4 [x, y] (x.length : Int) 1 = some (.inl ((x.length : Int) + (y.length : Int), 2)) := by
    unfold slices_Concat_string_string_l4 slices_Concat_string_string_j5
    rw [if_pos (by simp), show idx [x, y] 1 = some y from rfl]
    simp only [Option.bind_some]
    rw [w64_id (by omega) (by omega), if_neg (by simp; omega)]
    rfl
  have s2 : slices_Concat_string_string_l4 [x, y] ((x.length : Int) + (y.length : Int)) 2 = some (.inr ((x.length : Int) + (y.length : Int))) := by
    unfold slices_Concat_string_string_l4
    rw [if_neg (by simp)]
  rw [@iter_next noG _ _ _ _ ((x.length : Int), 1) s0, @iter_next noG _ _ _ _ ((x.length : Int) + (y.length : Int), 2) s1, @iter_done noG _ _ _ _ _ s2]
  simp only [Option.bind_some]
  unfold slices_Concat_string_string_k3
  rw [show slices_Grow ((x.length : Int) + (y.length : Int)) = some [] by unfold slices_Grow; rw [if_pos (by omega)]]
  simp only [Option.bind_some]
  have t0 : slices_Concat_string_string_l2 [x, y] 0 [] = some (.inl (1, x)) := by
    unfold slices_Concat_string_string_l2
    rw [if_pos (by simp), show idx [x, y] 0 = some x from rfl]
    simp only [Option.bind_some]
    rw [app_eq (by simp; omega) (by simp; omega)]
    rfl
  have t1 : slices_Concat_string_string_l2 [x, y] 1 x = some (.inl (2, x ++ y)) := by
    unfold slices_Concat_string_string_l2
    rw [if_pos (by simp), show idx [x, y] 1 = some y from rfl]
    simp only [Option.bind_some]
    rw [app_eq (by omega) (by omega)]
    rfl
  have t2 : slices_Concat_string_string_l2 [x, y] 2 (x ++ y) = some (.inr (x ++ y)) := by
    unfold slices_Concat_string_string_l2
    rw [if_neg (by simp)]
  rw [@iter_next noG _ _ _ _ (1, x) t0, @iter_next noG _ _ _ _ (2, x ++ y) t1, @iter_done noG _ _ _ _ _ t2]
  rfl
theorem orderM_len (o a b : List (List UInt8)) (ho : o.length ≤ 1000) (ha : a.length ≤ 1000) (hb : b.length ≤ 1000) : (orderM o a b).1.length ≤ 100000000 := by
  have l1 := onceM_len o
  have l2 := onceM_len a
  have l3 := onceM_len b
  unfold orderM
  split
  · simp only; omega
  · split
    · simp only; omega
    · have k1 := List.length_filter_le (fun k => !(decide (k ∈ onceM o) && !(decide (k ∈ onceM a) && decide (k ∈ onceM b)))) (onceM o)
      have k2 := List.length_filter_le (fun k => !(decide (k ∈ onceM o) && !(decide (k ∈ onceM a) && decide (k ∈ onceM b)))) (onceM a)
      have k3 := List.length_filter_le (fun k => !(decide (k ∈ onceM o) && !(decide (k ∈ onceM a) && decide (k ∈ onceM b)))) (onceM b)
      split
      · rename_i l hw
        have := wovenM_len _ _ _ (by unfold keptM; omega) (by unfold keptM; omega) (by unfold keptM; omega) l hw
        split
        · simpa using this
        · simp
      · simp
theorem cells_Row_eq {o a b : List ApiSegment} (ho : Few o) (ha : Few a) (hb : Few b) : cells_Row o a b = some (rowM o a b) := by
  have e3 := ho.len
  have e4 := ha.len
  have e5 := hb.len
  have e1 := outM_len o a b
  have e2 := badM_len o a b
  have n1 := outM_nodup o a b
  unfold cells_Row rowM
  rw [cells_Texts_eq ho ha hb]
  simp only [Option.bind_some]
  rw [cells_keys_eq (by simp) (by simp; omega), cells_keys_eq (by simp) (by simp; omega), cells_keys_eq (by simp) (by simp; omega)]
  simp only [Option.bind_some, List.flatten_cons, List.flatten_nil, List.append_nil]
  have m1 := onceM_len (o.map (·.Key))
  have m2 := onceM_len (a.map (·.Key))
  have m3 := onceM_len (b.map (·.Key))
  simp only [List.length_map] at m1 m2 m3
  rw [cells_Order_eq (by omega) (by omega) (by omega), orderM_once]
  simp only [Option.bind_some]
  have hnd := orderM_nodup (o.map (·.Key)) (a.map (·.Key)) (b.map (·.Key))
  have hol := orderM_len (o.map (·.Key)) (a.map (·.Key)) (b.map (·.Key)) (by simpa using e3) (by simpa using e4) (by simpa using e5)
  generalize orderM (o.map (·.Key)) (a.map (·.Key)) (b.map (·.Key)) = l at *
  generalize badM o a b = c at *
  generalize outM o a b = t at *
  obtain ⟨l, ok⟩ := l
  simp only at *
  cases ok with
  | false =>
    rw [if_pos (by rfl), app_eq (by simp; omega) (by simp; omega)]
    simp
  | true =>
    rw [if_neg (by simp), cells_table_eq (by omega), cells_keys_eq (by simp) (by simp; omega)]
    simp only [Option.bind_some, List.flatten_cons, List.flatten_nil, List.append_nil]
    rw [onceM_id n1, concat2 (by omega) (by simp; omega)]
    simp only [Option.bind_some]
    rw [cells_once_eq (by simp; omega), once_append hnd n1]
    simp only [Option.bind_some]
    have hlen : (l ++ (t.map (·.Key)).filter fun x => !decide (x ∈ l)).length ≤ 200000000 := by
      have := List.length_filter_le (fun x => !decide (x ∈ l)) (t.map (·.Key))
      simp only [List.length_append, List.length_map] at this ⊢
      omega
    generalize (l ++ (t.map (·.Key)).filter fun x => !decide (x ∈ l)) = ks at *
    have key := iter_fold ks (fun i (p : List ApiSegment) => ((i : Int), p)) (step := fun s => cells_Row_l2 ks (tabM t) s.1 s.2) (fun p k => p ++ row1 t k) (fun p => p) (fun i p => p.length ≤ i) (fun i h p hp => by
      have hl1 := row1_len t ks[i]
      refine ⟨?_, by simp only [List.length_append]; omega⟩
      unfold cells_Row_l2 cells_Row_j3
      rw [if_pos (by simp; omega), idx_nat h]
      simp only [Option.bind_some, tabM_get]
      rw [there_eq]
      simp only [Option.bind_some]
      unfold row1
      cases getM t ks[i] with
      | none => rw [if_neg (by simp), w64_succ (by omega)]; simp
      | some x =>
        rw [if_pos (by simp), show arrIx 2 1 = some 1 from rfl]
        simp only [Option.bind_some, cell_text]
        rw [app_eq (by simp; omega) (by simp; omega)]
        simp only [Option.bind_some]
        rw [w64_succ (by omega)]
        rfl) (fun p _ => by
      unfold cells_Row_l2
      rw [if_neg (by simp)]) (b0 := []) (Nat.le_refl _)
    have k1 : iter (fun s => cells_Row_l2 ks (tabM t) s.1 s.2) (0, []) = _ := key.1
    rw [k1]
    simp only [Option.bind_some, cells_Row_k1]
    have hf : ∀ (ks : List (List UInt8)) (p : List ApiSegment), ks.foldl (fun p k => p ++ row1 t k) p = p ++ ks.flatMap (row1 t) := by
      intro ks
      induction ks with
      | nil => intro p; simp
      | cons k ks ih => intro p; rw [List.foldl_cons, ih]; simp
    rw [hf]
    simp
end Go.Proofs.YtphkaogfinjbjaaGreatDoor

/- Cells: what is kept. -/
set_option linter.unusedSectionVars false
set_option linter.unusedSimpArgs false
set_option linter.unusedVariables false
namespace Go.Proofs.YtphkaogfinjbjaaGreatDoor
open Go Go.Cn

theorem row1_key {t : List ApiSegment} {k : List UInt8} {s : ApiSegment} (h : s ∈ row1 t k) : s.Key = k ∧ s ∈ t := by
  unfold row1 at h
  split at h
  · rename_i x hx
    rw [List.mem_singleton.1 h]
    exact ⟨rfl, getM_mem hx⟩
  · cases h
theorem rowM_nodup (o a b : List ApiSegment) : ((rowM o a b).1.map (·.Key)).Nodup := by
  unfold rowM
  simp only
  have hnd := orderM_nodup (o.map (·.Key)) (a.map (·.Key)) (b.map (·.Key))
  split
  · refine keyed_nodup _ _ (row1_len _) (fun k s hs => (row1_key hs).1) _ ?_
    rw [← once_append hnd (outM_nodup o a b)]
    exact onceM_nodup _
  · exact outM_nodup o a b
theorem rowM_mem {o a b : List ApiSegment} {s : ApiSegment} : s ∈ (rowM o a b).1 ↔ s ∈ outM o a b := by
  unfold rowM
  simp only
  split
  · constructor
    · intro h
      obtain ⟨k, _, hk⟩ := List.mem_flatMap.1 h
      exact (row1_key hk).2
    · intro h
      refine List.mem_flatMap.2 ⟨s.Key, ?_, by rw [row1_there (outM_nodup o a b) h]; exact List.mem_singleton.2 rfl⟩
      by_cases hl : s.Key ∈ (orderM (o.map (·.Key)) (a.map (·.Key)) (b.map (·.Key))).1
      · exact List.mem_append_left _ hl
      · exact List.mem_append_right _ (List.mem_filter.2 ⟨List.mem_map_of_mem (f := (·.Key)) h, by simpa using hl⟩)
  · exact Iff.rfl
theorem threeM_some {o a b : Option (List UInt8)} {t : List UInt8} (h : (threeM o a b).1 = some t) : a.isSome = true ∨ b.isSome = true := by
  unfold threeM at h
  split at h
  · simp only at h; rw [h]; exact .inl rfl
  · split at h
    · simp only at h; rw [h]; exact .inr rfl
    · split at h
      · simp only at h; rw [h]; exact .inl rfl
      · split at h
        · cases h
        · rename_i h4
          cases a with
          | none => exact absurd (.inl rfl) h4
          | some x => exact .inl rfl
theorem outM_iff {o a b : List ApiSegment} {s : ApiSegment} : s ∈ outM o a b ↔ s.Key ∈ keys3 o a b ∧ (txtM o a b s.Key).1 = some s.Text := by
  unfold outM
  rw [List.mem_flatMap]
  constructor
  · rintro ⟨k, hk, hs⟩
    have h1 := out1_key hs
    subst h1
    refine ⟨hk, ?_⟩
    unfold out1 at hs
    split at hs
    · rename_i t ht
      rw [ht]
      have := congrArg ApiSegment.Text (List.mem_singleton.1 hs)
      rw [this]
    · cases hs
  · rintro ⟨hk, ht⟩
    refine ⟨s.Key, hk, ?_⟩
    unfold out1
    rw [ht]
    exact List.mem_singleton.2 rfl
theorem keys3_mem {o a b : List ApiSegment} {k : List UInt8} : k ∈ keys3 o a b ↔ (getM a k).isSome = true ∨ (getM o k).isSome = true ∨ (getM b k).isSome = true := by
  unfold keys3
  rw [onceM_mem, getM_some, getM_some, getM_some]
  simp only [List.map_append, List.mem_append, decide_eq_true_eq]
theorem rowM_get {o a b : List ApiSegment} (k : List UInt8) : getM (rowM o a b).1 k = (txtM o a b k).1 := by
  have hn := rowM_nodup o a b
  cases h : (txtM o a b k).1 with
  | some t =>
    have hk : k ∈ keys3 o a b := by
      rw [keys3_mem]
      rcases threeM_some h with h | h
      · exact .inl h
      · exact .inr (.inr h)
    have : (⟨k, t⟩ : ApiSegment) ∈ (rowM o a b).1 := rowM_mem.2 (outM_iff.2 ⟨hk, h⟩)
    exact getM_nodup hn this
  | none =>
    cases hg : getM (rowM o a b).1 k with
    | none => rfl
    | some t =>
      have := outM_iff.1 (rowM_mem.1 (getM_mem hg))
      simp only at this
      rw [h] at this
      cases this.2
theorem rowM_len {o a b : List ApiSegment} (ho : Few o) (ha : Few a) (hb : Few b) : (rowM o a b).1.length ≤ 1000000 := by
  have h1 : (rowM o a b).1.Perm (outM o a b) := (List.perm_ext_iff_of_nodup (nodup_of_map (·.Key) (rowM_nodup o a b)) (nodup_of_map (·.Key) (outM_nodup o a b))).2 fun s => rowM_mem
  have := h1.length_eq
  have := outM_len o a b
  have := ho.len
  have := ha.len
  have := hb.len
  omega
theorem kept_eq {o a b : List ApiSegment} (ho : Few o) (ha : Few a) (hb : Few b) : law30_CellsKept_j12 o a b false = some true := by
  have e3 := ho.len
  have e4 := ha.len
  have e5 := hb.len
  unfold law30_CellsKept_j12
  rw [if_neg (by simp), cells_Row_eq ho ha hb]
  simp only [Option.bind_some]
  have hn := rowM_nodup o a b
  have hl := rowM_len ho ha hb
  have hg := fun k => rowM_get (o := o) (a := a) (b := b) k
  have hside : ∀ s ∈ (rowM o a b).1, (getM a s.Key).isSome = true ∨ (getM b s.Key).isSome = true := fun s hs => threeM_some (outM_iff.1 (rowM_mem.1 hs)).2
  generalize (rowM o a b).1 = r at *
  rw [all_ok r (by omega) (fun i hi => by
    unfold law30_CellsKept_l7 law30_CellsKept_j11
    rw [if_pos (by simp; omega), idx_nat hi]
    simp only [Option.bind_some]
    rw [ref28_Get_eq (by omega), ref28_Get_eq (by omega)]
    simp only [Option.bind_some]
    have hin : iter (fun s => law30_CellsKept_l9 (i : Int) r s) 0 = some (Flow.next ()) := by
      have key := iter_fold (r.take i) (fun k (_ : Unit) => (k : Int)) (step := fun s => law30_CellsKept_l9 (i : Int) r s) (fun b _ => b) (fun _ => Flow.next ()) (fun _ _ => True) (fun k hk b _ => by
        have hki : k < i := by simp at hk; omega
        refine ⟨?_, trivial⟩
        unfold law30_CellsKept_l9 law30_CellsKept_j10
        rw [if_pos (by simp; omega), idx_nat (by omega), idx_nat hi]
        simp only [Option.bind_some]
        have hne : r[k].Key ≠ r[i].Key := fun e => by
          have h1 : (r.map (·.Key))[k]? = some r[i].Key := by rw [List.getElem?_map, List.getElem?_eq_getElem (by omega)]; simp [e]
          have h2 : (r.map (·.Key))[i]? = some r[i].Key := by rw [List.getElem?_map, List.getElem?_eq_getElem hi]; rfl
          have := (List.getElem?_inj (by simp; omega) hn).1 (h1.trans h2.symm)
          omega
        rw [if_neg (by simpa using hne), w64_succ (by omega)]) (fun b _ => by
        unfold law30_CellsKept_l9
        rw [if_neg (by simp; omega)]) (b0 := ()) trivial
      exact key.1
    have hfin : law30_CellsKept_j11 (i : Int) r false = some (.inl (w64 ((i : Int) + 1))) := by
      unfold law30_CellsKept_j11
      rw [if_neg (by simp), hin]
      rfl
    rcases hside r[i] (List.getElem_mem hi) with h | h
    · rw [h, if_neg (by simp)]
      exact hfin
    · by_cases hc : (getM a r[i].Key).isSome = true
      · rw [hc, if_neg (by simp)]; exact hfin
      · rw [if_pos (by simpa using hc), h]; exact hfin) (by
    unfold law30_CellsKept_l7
    rw [if_neg (by simp)])]
  simp only [Option.bind_some]
  unfold law30_CellsKept_k6
  rw [all_ok o (by omega) (fun i hi => by
    unfold law30_CellsKept_l2
    rw [if_pos (by simp; omega), idx_nat hi]
    simp only [Option.bind_some]
    rw [ref28_Get_eq (by omega), ref28_Get_eq (by omega), ref28_Get_eq (by omega)]
    simp only [Option.bind_some]
    have hskip : ∀ w, law30_CellsKept_j5 (i : Int) o r w true = some (.inl (w64 ((i : Int) + 1))) := fun w => by
      unfold law30_CellsKept_j5 law30_CellsKept_j3
      rw [if_pos rfl]
    have hgo : getM o o[i].Key ≠ none := fun e => by
      have := getM_some (l := o) (k := o[i].Key)
      rw [e] at this
      have h2 : o[i].Key ∈ o.map (·.Key) := List.mem_map_of_mem (f := (·.Key)) (List.getElem_mem hi)
      simp only [Option.isSome_none] at this
      exact absurd h2 (by simpa using this.symm)
    cases hw : getM o o[i].Key with
    | none => exact absurd hw hgo
    | some w =>
      cases hx : getM a o[i].Key with
      | none => rw [if_pos (by rfl)]; exact hskip _
      | some x =>
        rw [if_neg (by simp)]
        cases hy : getM b o[i].Key with
        | none => rw [if_pos (by rfl)]; exact hskip _
        | some y =>
          rw [if_neg (by simp)]
          simp only [Option.getD_some]
          by_cases h1 : x = w
          · rw [if_neg (by simp [h1])]
            by_cases h2 : y = w
            · have : (!(y == w)) = false := by simp [h2]
              rw [this]
              unfold law30_CellsKept_j5 law30_CellsKept_j4 law30_CellsKept_j3
              rw [if_neg (by simp), idx_nat hi]
              simp only [Option.bind_some]
              rw [ref28_Get_eq (by omega), hg]
              have ht : (txtM o a b o[i].Key).1 = some w := by
                unfold txtM threeM
                rw [hw, hx, hy, h1, h2, if_pos rfl]
              rw [ht]
              simp
            · have : (!(y == w)) = true := by simp [h2]
              rw [this]
              exact hskip _
          · rw [if_pos (by simp [h1])]
            exact hskip _) (by
    unfold law30_CellsKept_l2
    rw [if_neg (by simp)])]
  rfl
theorem law_CellsKept (o a b : List ApiSegment) : law30_CellsKept o a b = some true := by
  obtain ⟨b1, h1, f1⟩ := few30 o
  obtain ⟨b2, h2, f2⟩ := few30 a
  obtain ⟨b3, h3, f3⟩ := few30 b
  unfold law30_CellsKept
  rw [awake30, h1, h2, h3]
  simp only [Option.bind_some]
  rw [if_neg (by simp)]
  have ht : law30_CellsKept_j12 o a b true = some true := by unfold law30_CellsKept_j12; rw [if_pos rfl]
  cases b1 with
  | false => rw [if_pos (by rfl), ht]
  | true =>
    rw [if_neg (by simp)]
    cases b2 with
    | false => rw [if_pos (by rfl), ht]
    | true =>
      rw [if_neg (by simp)]
      cases b3 with
      | false => exact ht
      | true => exact kept_eq (f1 rfl) (f2 rfl) (f3 rfl)
end Go.Proofs.YtphkaogfinjbjaaGreatDoor

/- Cells: if one side is as it was. -/
set_option linter.unusedSectionVars false
set_option linter.unusedSimpArgs false
set_option linter.unusedVariables false
namespace Go.Proofs.YtphkaogfinjbjaaGreatDoor
open Go Go.Cn

/-- The first of each key. -/
def firstM (a : List ApiSegment) : List ApiSegment := (onceM (a.map (·.Key))).flatMap (row1 a)
def addS (out : List ApiSegment) (s : ApiSegment) : List ApiSegment := if (getM out s.Key).isSome then out else out ++ [s]
theorem addS_len (out : List ApiSegment) (s : ApiSegment) : (addS out s).length ≤ out.length + 1 := by unfold addS; split <;> simp
theorem getM_append (l m : List ApiSegment) (k : List UInt8) : getM (l ++ m) k = if (getM l k).isSome then getM l k else getM m k := by
  induction l with
  | nil => rfl
  | cons s l ih =>
    show (if s.Key = k then some s.Text else getM (l ++ m) k) = if (if s.Key = k then some s.Text else getM l k).isSome = true then (if s.Key = k then some s.Text else getM l k) else getM m k
    by_cases h : s.Key = k
    · rw [if_pos h, if_pos h]; rfl
    · rw [if_neg h, if_neg h, ih]
theorem addS_fold : ∀ (a done : List ApiSegment), a.foldl addS (firstM done) = firstM (done ++ a)
  | [], done => by simp
  | s :: a, done => by
    rw [List.foldl_cons]
    have h1 : firstM (done ++ [s]) = addS (firstM done) s := by
      have hk : ∀ t : ApiSegment, t ∈ firstM done → t.Key ∈ done.map (·.Key) := fun t ht => by
        obtain ⟨k, hk, h⟩ := List.mem_flatMap.1 ht
        have := (row1_key h).1
        rw [this]
        exact onceM_mem.1 hk
      have hrow : ∀ k, k ∈ onceM (done.map (·.Key)) → row1 (done ++ [s]) k = row1 done k := fun k hk => by
        unfold row1
        rw [getM_append]
        have : (getM done k).isSome = true := by rw [getM_some]; simpa using onceM_mem.1 hk
        rw [if_pos this]
      have hmap : (onceM (done.map (·.Key))).flatMap (row1 (done ++ [s])) = firstM done := by
        unfold firstM
        have : ∀ ks : List (List UInt8), (∀ k ∈ ks, k ∈ onceM (done.map (·.Key))) → ks.flatMap (row1 (done ++ [s])) = ks.flatMap (row1 done) := by
          intro ks
          induction ks with
          | nil => intro _; rfl
          | cons k ks ih => intro h; rw [List.flatMap_cons, List.flatMap_cons, hrow k (h k List.mem_cons_self), ih (fun x hx => h x (List.mem_cons_of_mem _ hx))]
        exact this _ (fun k hk => hk)
      have hget : (getM (firstM done) s.Key).isSome = decide (s.Key ∈ done.map (·.Key)) := by
        rw [getM_some]
        congr 1
        refine propext ⟨fun h => ?_, fun h => ?_⟩
        · obtain ⟨t, ht, e⟩ := List.mem_map.1 h
          rw [← e]; exact hk t ht
        · have h2 : (getM done s.Key).isSome = true := by rw [getM_some]; simpa using h
          obtain ⟨x, hx⟩ := Option.isSome_iff_exists.1 h2
          refine List.mem_map.2 ⟨⟨s.Key, x⟩, List.mem_flatMap.2 ⟨s.Key, onceM_mem.2 h, ?_⟩, rfl⟩
          unfold row1; rw [hx]; exact List.mem_singleton.2 rfl
      unfold addS
      rw [hget]
      conv => lhs; unfold firstM
      have ho : onceM ((done ++ [s]).map (·.Key)) = addK (onceM (done.map (·.Key))) s.Key := by
        unfold onceM
        rw [List.map_append, List.foldl_append]
        rfl
      rw [ho]
      unfold addK
      by_cases hm : s.Key ∈ done.map (·.Key)
      · rw [if_pos (onceM_mem.2 hm), if_pos (by simpa using hm), hmap]
      · rw [if_neg (fun h => hm (onceM_mem.1 h)), if_neg (by simpa using hm), List.flatMap_append, hmap]
        congr 1
        rw [List.flatMap_cons, List.flatMap_nil, List.append_nil]
        unfold row1
        rw [getM_append]
        have : ¬ (getM done s.Key).isSome = true := by rw [getM_some]; simpa using hm
        rw [if_neg this]
        unfold getM
        rw [if_pos rfl]
    rw [← h1, addS_fold a (done ++ [s])]
    simp
theorem ref30_Once_eq {a : List ApiSegment} (ha : a.length ≤ 1000000) : ref30_Once a = some (firstM a) := by
  have key := iter_fold a (fun i (b : List ApiSegment) => ((i : Int), b)) (step := fun s => ref30_Once_l2 a s.1 s.2) addS (fun b => b) (fun i b => b.length ≤ i) (fun i h b hb => by
    have hl2 := addS_len b a[i]
    refine ⟨?_, by omega⟩
    unfold ref30_Once_l2 ref30_Once_j3
    rw [if_pos (by simp; omega), idx_nat h]
    simp only [Option.bind_some]
    rw [ref28_Get_eq (by omega)]
    simp only [Option.bind_some]
    unfold addS
    cases (getM b a[i].Key).isSome with
    | true => rw [if_neg (by simp), if_pos rfl, w64_succ (by omega)]
    | false =>
      rw [if_pos (by simp), if_neg (by simp), app_eq (by simp; omega) (by simp; omega)]
      simp only [Option.bind_some]
      rw [w64_succ (by omega)]) (fun b _ => by
    unfold ref30_Once_l2
    rw [if_neg (by simp)]) (b0 := []) (Nat.le_refl _)
  unfold ref30_Once
  have h3 : iter (fun s => ref30_Once_l2 a s.1 s.2) (0, []) = _ := key.1
  rw [h3]
  have h4 := addS_fold a []
  rw [show firstM [] = [] from rfl] at h4
  rw [h4]
  rfl
theorem row_side {o a b c : List ApiSegment} (ht : ∀ k, (txtM o a b k).1 = getM c k) (hk : ∀ k, (txtM o a b k).2 = 0) (hl : orderM (o.map (·.Key)) (a.map (·.Key)) (b.map (·.Key)) = (onceM (c.map (·.Key)), true)) : rowM o a b = (firstM c, []) := by
  have hbad : badM o a b = [] := by
    unfold badM
    rw [List.flatMap_eq_nil_iff]
    intro k _
    unfold bad1
    rw [if_pos (hk k)]
  have hg : ∀ k, getM (outM o a b) k = getM c k := fun k => by
    rw [← ht k]
    have h1 := rowM_get (o := o) (a := a) (b := b) k
    rw [← h1]
    have hn1 := rowM_nodup o a b
    have hn2 := outM_nodup o a b
    cases h : getM (outM o a b) k with
    | some t => exact (getM_nodup hn1 (rowM_mem.2 (getM_mem h)) : getM _ (⟨k, t⟩ : ApiSegment).Key = _).symm
    | none =>
      cases h2 : getM (rowM o a b).1 k with
      | none => rfl
      | some t =>
        have := getM_nodup hn2 (rowM_mem.1 (getM_mem h2))
        simp only at this
        rw [h] at this
        cases this
  unfold rowM
  simp only
  rw [hl, hbad]
  simp only [if_true]
  have hrest : ((outM o a b).map (·.Key)).filter (fun x => !decide (x ∈ onceM (c.map (·.Key)))) = [] := by
    rw [List.filter_eq_nil_iff]
    intro k hk'
    have h1 : (getM (outM o a b) k).isSome = true := by rw [getM_some]; simpa using hk'
    rw [hg, getM_some] at h1
    simp only [decide_eq_true_eq] at h1
    simp [onceM_mem.2 h1]
  rw [hrest, List.append_nil]
  congr 1
  unfold firstM
  congr 1
  funext k
  unfold row1
  rw [hg]
theorem one_eq {o a : List ApiSegment} (ho : Few o) (ha : Few a) : law30_CellsOne_j4 a o false = some true := by
  have e3 := ho.len
  have e4 := ha.len
  unfold law30_CellsOne_j4
  rw [if_neg (by simp), ref30_Once_eq (by omega), cells_Row_eq ho ho ha, cells_Row_eq ho ha ho, cells_Row_eq ho ha ha]
  have r1 : rowM o o a = (firstM a, []) := by
    refine row_side (c := a) (fun k => ?_) (fun k => ?_) ?_
    · unfold txtM threeM
      by_cases h : getM o k = getM a k
      · rw [if_pos h, h]
      · rw [if_neg h, if_pos rfl]
    · unfold txtM threeM
      by_cases h : getM o k = getM a k
      · rw [if_pos h]
      · rw [if_neg h, if_pos rfl]
    · unfold orderM
      by_cases h : onceM (a.map (·.Key)) = onceM (o.map (·.Key))
      · rw [if_pos h, h]
      · rw [if_neg h, if_pos rfl]
  have r2 : rowM o a o = (firstM a, []) := by
    refine row_side (c := a) (fun k => ?_) (fun k => ?_) ?_
    · unfold txtM threeM
      by_cases h : getM a k = getM o k
      · rw [if_pos h]
      · rw [if_neg h, if_neg h, if_pos rfl]
    · unfold txtM threeM
      by_cases h : getM a k = getM o k
      · rw [if_pos h]
      · rw [if_neg h, if_neg h, if_pos rfl]
    · unfold orderM
      rw [if_pos rfl]
  have ht : ∀ k, txtM o a a k = (getM a k, 0) := fun k => by unfold txtM threeM; rw [if_pos rfl]
  have hbad : badM o a a = [] := by
    unfold badM
    rw [List.flatMap_eq_nil_iff]
    intro k _
    unfold bad1
    rw [ht, if_pos rfl]
  have hc : ∀ c ∈ (rowM o a a).2, c.Kind = 2 := fun c hc => by
    unfold rowM at hc
    simp only at hc
    rw [hbad] at hc
    split at hc
    · cases hc
    · simp at hc; rw [hc]
  have hcl : (rowM o a a).2.length ≤ 1 := by
    unfold rowM
    simp only
    rw [hbad]
    split <;> simp
  have hlen : (rowM o a a).1.length = (firstM a).length := by
    have hnf : ((firstM a).map (·.Key)).Nodup := keyed_nodup _ _ (row1_len _) (fun k s hs => (row1_key hs).1) _ (onceM_nodup _)
    have : (rowM o a a).1.Perm (firstM a) := (List.perm_ext_iff_of_nodup (nodup_of_map (·.Key) (rowM_nodup o a a)) (nodup_of_map (·.Key) hnf)).2 fun s => by
      rw [rowM_mem, outM_iff, ht]
      unfold firstM
      rw [List.mem_flatMap]
      constructor
      · rintro ⟨_, h⟩
        simp only at h
        refine ⟨s.Key, onceM_mem.2 ?_, ?_⟩
        · have h2 : (getM a s.Key).isSome = true := by rw [h]; rfl
          rw [getM_some] at h2
          simpa using h2
        · unfold row1; rw [h]; exact List.mem_singleton.2 rfl
      · rintro ⟨k, hk, h⟩
        have h1 := (row1_key h).1
        subst h1
        unfold row1 at h
        split at h
        · rename_i x hx
          have := congrArg ApiSegment.Text (List.mem_singleton.1 h)
          simp only at this
          refine ⟨?_, by simp only; rw [hx, this]⟩
          rw [keys3_mem, hx]
          exact .inl rfl
        · cases h
    exact this.length_eq
  have hfl : (firstM a).length ≤ 1000000 := by
    have := onceM_len (a.map (·.Key))
    have h2 : ∀ ks : List (List UInt8), (ks.flatMap (row1 a)).length ≤ ks.length := by
      intro ks
      induction ks with
      | nil => simp
      | cons k ks ih => have := row1_len a k; simp only [List.flatMap_cons, List.length_append, List.length_cons]; omega
    have := h2 (onceM (a.map (·.Key)))
    simp only [List.length_map] at *
    unfold firstM
    omega
  rw [r1, r2]
  simp only [Option.bind_some]
  have hsame : ref28_Same (firstM a) (firstM a) = some true := by
    unfold ref28_Same
    rw [if_neg (by simp), all_ok (firstM a) (by omega) (fun i hi => by
      unfold ref28_Same_l2 ref28_Same_j3
      rw [if_pos (by simp; omega), idx_nat hi]
      simp) (by
      unfold ref28_Same_l2
      rw [if_neg (by simp)])]
    rfl
  generalize rowM o a a = z at *
  rw [if_neg (by decide), hsame]
  simp only [Option.bind_some]
  rw [if_neg (by simp)]
  unfold law30_CellsOne_j3
  rw [if_neg (by simp), all_ok z.2 (by omega) (fun i hi => by
    unfold law30_CellsOne_l2
    rw [if_pos (by simp; omega), idx_nat hi]
    simp only [Option.bind_some]
    rw [if_neg (by simp [hc _ (List.getElem_mem hi)])]) (by
    unfold law30_CellsOne_l2
    rw [if_neg (by simp)])]
  simp only [Option.bind_some]
  unfold law30_CellsOne_k1
  simp [hlen]
theorem law_CellsOne (o a : List ApiSegment) : law30_CellsOne o a = some true := by
  obtain ⟨b1, h1, f1⟩ := few30 o
  obtain ⟨b2, h2, f2⟩ := few30 a
  unfold law30_CellsOne
  rw [awake30, h1, h2]
  simp only [Option.bind_some]
  rw [if_neg (by simp)]
  have ht : law30_CellsOne_j4 a o true = some true := by unfold law30_CellsOne_j4; rw [if_pos rfl]
  cases b1 with
  | false => rw [if_pos (by rfl), ht]
  | true =>
    rw [if_neg (by simp)]
    cases b2 with
    | false => exact ht
    | true => exact one_eq (f1 rfl) (f2 rfl)
end Go.Proofs.YtphkaogfinjbjaaGreatDoor
