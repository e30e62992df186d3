/- Cells: turned about. -/
import Derived.Test.YtphkaogfinjbjaaGreatDoorZN
set_option linter.unusedSimpArgs false
set_option linter.unusedVariables false
set_option linter.unusedSectionVars false
/- Cells: what both sides compute of keys, tables and texts. -/
set_option linter.unusedSectionVars false
set_option linter.unusedSimpArgs false
set_option linter.unusedVariables false
namespace Go.Proofs.YtphkaogfinjbjaaGreatDoor
open Go Go.Cn

/-- The first text of a key. -/
def getM : List ApiSegment → List UInt8 → Option (List UInt8)
  | [], _ => none
  | s :: l, k => if s.Key = k then some s.Text else getM l k
theorem getM_mem : ∀ {l : List ApiSegment} {k t : List UInt8}, getM l k = some t → ⟨k, t⟩ ∈ l
  | s :: l, k, t, h => by
    unfold getM at h
    split at h
    · rename_i hk
      cases h
      subst hk
      exact List.mem_cons_self
    · exact List.mem_cons_of_mem _ (getM_mem h)
theorem ref28_Get_eq {l : List ApiSegment} (hl : l.length ≤ 1000000000) (k : List UInt8) : ref28_Get l k = some ((getM l k).getD [], (getM l k).isSome) := by
  have key : ∀ n i, i + n = l.length → iter (fun s => ref28_Get_l2 l k s) (i : Int) = some (match getM (l.drop i) k with | some t => Flow.done (t, true) | none => Flow.next ()) := by
    intro n
    induction n with
    | zero =>
      intro i hi
      obtain rfl : i = l.length := by omega
      rw [List.drop_length]
      refine @iter_done noG _ _ _ _ _ ?_
      unfold ref28_Get_l2
      rw [if_neg (by simp)]
      rfl
    | succ n ih =>
      intro i hi
      have h1 : i < l.length := by omega
      rw [List.drop_eq_getElem_cons h1]
      unfold getM
      by_cases hk : l[i].Key = k
      · rw [if_pos hk]
        refine @iter_done noG _ _ _ _ _ ?_
        unfold ref28_Get_l2
        rw [if_pos (by simp; omega), idx_nat h1]
        simp only [Option.bind_some]
        rw [if_pos (by simp [hk])]
      · rw [if_neg hk, @iter_next noG _ _ _ _ (((i + 1 : Nat) : Int)) (by
          unfold ref28_Get_l2
          rw [if_pos (by simp; omega), idx_nat h1]
          simp only [Option.bind_some]
          rw [if_neg (by simp [hk]), w64_succ (by omega)])]
        exact ih (i + 1) (by omega)
  have := key l.length 0 (by omega)
  have this : iter (fun s => ref28_Get_l2 l k s) 0 = _ := this
  unfold ref28_Get
  rw [this]
  simp only [Option.bind_some, List.drop_zero]
  cases getM l k with
  | none => rfl
  | some t => rfl
def thereT : List UInt8 := [116, 104, 101, 114, 101]
/-- A text that may not be there, as the program holds it. -/
def cellM : Option (List UInt8) → List (List UInt8)
  | none => [[], []]
  | some t => [thereT, t]
theorem cellM_inj {x y : Option (List UInt8)} : cellM x = cellM y ↔ x = y := by
  cases x <;> cases y <;> simp [cellM, thereT]
theorem there_eq (x : Option (List UInt8)) : cells_cell_there (cellM x) = some x.isSome := by cases x <;> rfl
theorem of_eq (t : List UInt8) (b : Bool) : cells_of t b = some (cellM (if b then some t else none)) := by cases b <;> rfl
def tabM (l : List ApiSegment) : SMap (List (List UInt8)) := l.foldr (fun s m => mset s.Key (cellM (some s.Text)) m) []
theorem tabM_get (k : List UInt8) : ∀ l : List ApiSegment, mget k (List.replicate 2 []) (tabM l) = cellM (getM l k)
  | [] => rfl
  | s :: l => by
    show mget k _ (mset s.Key (cellM (some s.Text)) (tabM l)) = _
    rw [@mget_mset noG]
    unfold getM
    by_cases h : s.Key = k
    · rw [if_pos h, if_pos h]
    · rw [if_neg h, if_neg h, tabM_get k l]
theorem cells_table_eq {l : List ApiSegment} (hl : l.length ≤ 1000000000) : cells_table l = some (tabM l) := by
  have key : ∀ n (m : SMap (List (List UInt8))), n ≤ l.length → iter (fun s : Int × SMap (List (List UInt8)) => slices_Backward_api_Segment_api_Segment_1_l2 (fun (s : (SMap (List (List UInt8)))) (a : Int × ApiSegment) => cells_table_r1 s a.1 a.2) l s.1 s.2) (((n : Int) - 1), m) =
      some (Flow.next ((l.take n).foldr (fun s m => mset s.Key (cellM (some s.Text)) m) m)) := by
    intro n
    induction n with
    | zero =>
      intro m _
      refine @iter_done noG _ _ _ _ _ ?_
      unfold slices_Backward_api_Segment_api_Segment_1_l2
      rw [if_neg (by simp)]
      rfl
    | succ n ih =>
      intro m hn
      have h1 : n < l.length := by omega
      have e : (((n + 1 : Nat) : Int) - 1) = (n : Int) := by omega
      rw [e, @iter_next noG _ _ _ _ (((n : Int) - 1), mset l[n].Key (cellM (some l[n].Text)) m) (by
        unfold slices_Backward_api_Segment_api_Segment_1_l2 cells_table_r1
        simp only
        rw [if_pos (by simp), idx_nat h1]
        simp only [Option.bind_some, of_eq]
        rw [if_neg (by simp), w64_id (by omega) (by omega)]
        simp), ih _ (by omega), List.take_succ_eq_append_getElem h1, List.foldr_append]
      rfl
  unfold cells_table slices_Backward_api_Segment_api_Segment_1
  rw [w64_id (by omega) (by omega), key l.length [] (Nat.le_refl _)]
  simp only [Option.bind_some, List.take_length]
  rfl
def onceM (l : List (List UInt8)) : List (List UInt8) := l.foldl addK []
theorem cells_once_eq {l : List (List UInt8)} (hl : l.length ≤ 1000000000) : cells_once l = some (onceM l) := by
  have key := iter_fold l (fun i (b : SMap Bool × List (List UInt8)) => ((i : Int), b.1, b.2)) (step := fun s => cells_once_l2 l s.1 s.2.1 s.2.2) (fun b s => (mset s true b.1, addK b.2 s)) (fun b => (b.1, b.2)) (fun i b => b.2.length ≤ i ∧ ∀ s, mget s false b.1 = decide (s ∈ b.2)) (fun i h b hb => by
    obtain ⟨hb1, hb2⟩ := hb
    have hl2 := addK_len b.2 l[i]
    refine ⟨?_, by simp only; omega, fun s => ?_⟩
    · unfold cells_once_l2 cells_once_j3
      rw [if_pos (by simp; omega), idx_nat h]
      simp only [Option.bind_some, hb2]
      unfold addK
      by_cases hm : l[i] ∈ b.2
      · rw [if_neg (by simp [hm]), if_pos hm, w64_succ (by omega)]
      · rw [if_pos (by simp [hm]), if_neg hm, app_eq (by simp; omega) (by simp; omega)]
        simp only [Option.bind_some]
        rw [w64_succ (by omega)]
    · simp only
      rw [@mget_mset noG]
      have hmem : s ∈ addK b.2 l[i] ↔ (s ∈ b.2 ∨ s = l[i]) := by
        unfold addK
        split
        · rename_i hm
          exact ⟨.inl, fun h => h.elim id (fun e => e ▸ hm)⟩
        · simp
      by_cases he : l[i] = s
      · rw [if_pos he]
        have : s ∈ addK b.2 l[i] := hmem.2 (.inr he.symm)
        simp [this]
      · rw [if_neg he, hb2]
        simp [hmem, Ne.symm he]) (fun b _ => by
    unfold cells_once_l2
    rw [if_neg (by simp)]) (b0 := (([] : SMap Bool), [])) ⟨by simp, fun s => by simp [mget]⟩
  have h2 : ∀ (l : List (List UInt8)) (b : SMap Bool × List (List UInt8)), (l.foldl (fun b s => (mset s true b.1, addK b.2 s)) b).2 = l.foldl addK b.2 := by
    intro l
    induction l with
    | nil => intro b; rfl
    | cons s l ih => intro b; rw [List.foldl_cons, List.foldl_cons, ih]
  unfold cells_once
  have h3 : iter (fun s => cells_once_l2 l s.1 s.2.1 s.2.2) (0, ([] : SMap Bool), []) = _ := key.1
  rw [h3]
  simp only [Option.bind_some, cells_once_k1, h2]
  rfl
theorem keys_row {l : List ApiSegment} {acc : List (List UInt8)} (hl : acc.length + l.length ≤ 1000000000) : iter (fun s => cells_keys_l4 l s.1 s.2) (0, acc) = some (acc ++ l.map (·.Key)) := by
  have key := iter_fold l (fun i (b : List (List UInt8)) => ((i : Int), b)) (step := fun s => cells_keys_l4 l s.1 s.2) (fun b s => b ++ [s.Key]) (fun b => b) (fun i b => b = acc ++ (l.take i).map (·.Key)) (fun i h b hb => by
    subst hb
    refine ⟨?_, by rw [List.take_succ_eq_append_getElem h, List.map_append, List.append_assoc]; rfl⟩
    unfold cells_keys_l4
    rw [if_pos (by simp; omega), idx_nat h]
    simp only [Option.bind_some]
    rw [app_eq (by simp; omega) (by simp; omega)]
    simp only [Option.bind_some]
    rw [w64_succ (by omega)]) (fun b _ => by
    unfold cells_keys_l4
    rw [if_neg (by simp)]) (b0 := acc) (by simp)
  have h3 : iter (fun s => cells_keys_l4 l s.1 s.2) (0, acc) = _ := key.1
  rw [h3, key.2]
  simp
theorem cells_keys_eq {rows : List (List ApiSegment)} (h1 : rows.length ≤ 1000000) (h2 : rows.flatten.length ≤ 1000000000) : cells_keys rows = some (onceM (rows.flatten.map (·.Key))) := by
  have key := iter_fold rows (fun i (b : List (List UInt8)) => ((i : Int), b)) (step := fun s => cells_keys_l2 rows s.1 s.2) (fun b l => b ++ l.map (·.Key)) (fun b => b) (fun i b => b = ((rows.take i).flatten).map (·.Key)) (fun i h b hb => by
    subst hb
    have hfl : (rows.take (i + 1)).flatten = (rows.take i).flatten ++ rows[i] := by rw [List.take_succ_eq_append_getElem h, List.flatten_append]; simp
    have hle : (rows.take (i + 1)).flatten.length ≤ rows.flatten.length := by
      have : rows.flatten = (rows.take (i + 1)).flatten ++ (rows.drop (i + 1)).flatten := by rw [← List.flatten_append, List.take_append_drop]
      rw [this, List.length_append]; omega
    rw [hfl, List.length_append] at hle
    refine ⟨?_, by rw [hfl, List.map_append]⟩
    unfold cells_keys_l2 cells_keys_k3
    rw [if_pos (by simp; omega), idx_nat h]
    simp only [Option.bind_some]
    rw [keys_row (by rw [List.length_map]; omega)]
    simp only [Option.bind_some]
    rw [w64_succ (by omega)]) (fun b _ => by
    unfold cells_keys_l2
    rw [if_neg (by simp)]) (b0 := []) (by simp)
  unfold cells_keys
  have h3 : iter (fun s => cells_keys_l2 rows s.1 s.2) (0, []) = _ := key.1
  rw [h3, key.2]
  simp only [Option.bind_some, List.take_length]
  unfold cells_keys_k1
  rw [cells_once_eq (by rw [List.length_map]; exact h2)]
  rfl
/-- What comes of three texts that may not be there. -/
def threeM (o a b : Option (List UInt8)) : Option (List UInt8) × Int :=
  if a = b then (a, 0) else if a = o then (b, 0) else if b = o then (a, 0) else if a = none ∨ b = none then (none, 3) else
  if (textM (o.getD []) (a.getD []) (b.getD [])).2 = true then (some (textM (o.getD []) (a.getD []) (b.getD [])).1, 0) else (none, 1)
def Short (n : Nat) (x : Option (List UInt8)) : Prop := (x.getD []).length ≤ n
theorem cell_text (x : Option (List UInt8)) : List.getD (cellM x) 1 [] = x.getD [] := by cases x <;> rfl
theorem cells_three_eq {o a b : Option (List UInt8)} (ho : Short 600 o) (ha : Short 600 a) (hb : Short 600 b) : cells_three (cellM o) (cellM a) (cellM b) = some (cellM (threeM o a b).1, (threeM o a b).2) := by
  have h0 : (List.replicate 2 [] : List (List UInt8)) = cellM none := rfl
  have hj : a ≠ none → b ≠ none → cells_three_j1 (cellM o) (cellM a) (cellM b) false = some (if (textM (o.getD []) (a.getD []) (b.getD [])).2 = true then (cellM (some (textM (o.getD []) (a.getD []) (b.getD [])).1), 0) else (cellM none, 1)) := fun _ _ => by
    unfold cells_three_j1
    rw [if_neg (by simp), show arrIx 2 1 = some 1 from rfl]
    simp only [Option.bind_some, cell_text]
    rw [weave_Text_eq ho ha hb]
    simp only [Option.bind_some, of_eq]
    cases (textM (o.getD []) (a.getD []) (b.getD [])).2 with
    | true => simp
    | false => simp [h0]
  unfold cells_three threeM
  simp only [cellM_inj, there_eq, Option.bind_some]
  by_cases h1 : a = b
  · rw [if_pos (by simpa using h1), if_pos h1]
  · rw [if_neg (by simpa using h1), if_neg h1]
    by_cases h2 : a = o
    · rw [if_pos (by simpa using h2), if_pos h2]
    · rw [if_neg (by simpa using h2), if_neg h2]
      by_cases h3 : b = o
      · rw [if_pos (by simpa using h3), if_pos h3]
      · rw [if_neg (by simpa using h3), if_neg h3]
        cases a with
        | none => rw [if_pos (by rfl), if_pos (.inl rfl)]; rfl
        | some ta =>
          rw [if_neg (by simp)]
          cases b with
          | none => rw [if_pos (.inr rfl)]; rfl
          | some tb =>
            rw [if_neg (by simp), show (!(some tb).isSome) = false from rfl, hj (by simp) (by simp)]
            cases (textM (o.getD []) ((some ta).getD []) ((some tb).getD [])).2 <;> rfl
end Go.Proofs.YtphkaogfinjbjaaGreatDoor

/- Cells: the texts of all keys; what is kept of a row. -/
set_option linter.unusedSectionVars false
set_option linter.unusedSimpArgs false
set_option linter.unusedVariables false
namespace Go.Proofs.YtphkaogfinjbjaaGreatDoor
open Go Go.Cn

structure Few (l : List ApiSegment) : Prop where
  len : l.length ≤ 1000
  short : ∀ s ∈ l, s.Text.length ≤ 600
theorem Few.get {l : List ApiSegment} (h : Few l) (k : List UInt8) : Short 600 (getM l k) := by
  unfold Short
  cases hg : getM l k with
  | none => simp
  | some t => exact h.short _ (getM_mem hg)
def txtM (o a b : List ApiSegment) (k : List UInt8) : Option (List UInt8) × Int := threeM (getM o k) (getM a k) (getM b k)
def keys3 (o a b : List ApiSegment) : List (List UInt8) := onceM ((a ++ (o ++ b)).map (·.Key))
def out1 (o a b : List ApiSegment) (k : List UInt8) : List ApiSegment := match (txtM o a b k).1 with | some t => [⟨k, t⟩] | none => []
def bad1 (o a b : List ApiSegment) (k : List UInt8) : List ApiConflict := if (txtM o a b k).2 = 0 then [] else [⟨(txtM o a b k).2, k⟩]
def outM (o a b : List ApiSegment) : List ApiSegment := (keys3 o a b).flatMap (out1 o a b)
def badM (o a b : List ApiSegment) : List ApiConflict := (keys3 o a b).flatMap (bad1 o a b)
theorem fold2 {α β γ : Type} (f : α → List β) (g : α → List γ) : ∀ (l : List α) (x : List β) (y : List γ), l.foldl (fun b k => (b.1 ++ f k, b.2 ++ g k)) (x, y) = (x ++ l.flatMap f, y ++ l.flatMap g)
  | [], x, y => by simp
  | k :: l, x, y => by rw [List.foldl_cons, fold2 f g l]; simp
theorem out1_len (o a b : List ApiSegment) (k : List UInt8) : (out1 o a b k).length ≤ 1 := by unfold out1; split <;> simp
theorem bad1_len (o a b : List ApiSegment) (k : List UInt8) : (bad1 o a b k).length ≤ 1 := by unfold bad1; split <;> simp
theorem onceM_len (l : List (List UInt8)) : (onceM l).length ≤ l.length := by have := addKs_len l []; unfold onceM; simpa using this
theorem cells_Texts_eq {o a b : List ApiSegment} (ho : Few o) (ha : Few a) (hb : Few b) : cells_Texts o a b = some (outM o a b, badM o a b) := by
  have h1 := ho.len
  have h2 := ha.len
  have h3 := hb.len
  unfold cells_Texts
  rw [cells_table_eq (by omega), cells_table_eq (by omega), cells_table_eq (by omega)]
  simp only [Option.bind_some]
  rw [cells_keys_eq (by simp) (by simp; omega)]
  simp only [Option.bind_some]
  have hk : onceM (([a, o, b].flatten).map (·.Key)) = keys3 o a b := by simp [keys3]
  rw [hk]
  have hkl : (keys3 o a b).length ≤ 3000 := by
    have := onceM_len ((a ++ (o ++ b)).map (·.Key))
    simp only [List.length_map, List.length_append] at this
    unfold keys3
    omega
  have key := iter_fold (keys3 o a b) (fun i (p : List ApiSegment × List ApiConflict) => ((i : Int), p.1, p.2)) (step := fun s => cells_Texts_l2 (keys3 o a b) (tabM o) (tabM a) (tabM b) s.1 s.2.1 s.2.2) (fun p k => (p.1 ++ out1 o a b k, p.2 ++ bad1 o a b k)) (fun p => (p.1, p.2)) (fun i p => p.1.length ≤ i ∧ p.2.length ≤ i) (fun i h p hp => by
    have hl1 := out1_len o a b (keys3 o a b)[i]
    have hl2 := bad1_len o a b (keys3 o a b)[i]
    refine ⟨?_, by simp only [List.length_append]; omega⟩
    unfold cells_Texts_l2
    rw [if_pos (by simp; omega), idx_nat h]
    simp only [Option.bind_some, tabM_get]
    rw [cells_three_eq (ho.get _) (ha.get _) (hb.get _)]
    simp only [Option.bind_some]
    have h4 : ∀ bad : List ApiConflict, cells_Texts_j4 (cellM (threeM (getM o (keys3 o a b)[i]) (getM a (keys3 o a b)[i]) (getM b (keys3 o a b)[i])).1) p.1 (keys3 o a b)[i] (i : Int) bad = some (.inl (((i + 1 : Nat) : Int), p.1 ++ out1 o a b (keys3 o a b)[i], bad)) := fun bad => by
      unfold cells_Texts_j4 cells_Texts_j3 out1 txtM
      rw [there_eq]
      simp only [Option.bind_some]
      cases (threeM (getM o (keys3 o a b)[i]) (getM a (keys3 o a b)[i]) (getM b (keys3 o a b)[i])).1 with
      | none => rw [if_neg (by simp), w64_succ (by omega)]; simp
      | some t =>
        rw [if_pos (by simp), show arrIx 2 1 = some 1 from rfl]
        simp only [Option.bind_some, cell_text]
        rw [app_eq (by simp; omega) (by simp; omega)]
        simp only [Option.bind_some]
        rw [w64_succ (by omega)]
        rfl
    unfold bad1 txtM
    by_cases hz : (threeM (getM o (keys3 o a b)[i]) (getM a (keys3 o a b)[i]) (getM b (keys3 o a b)[i])).2 = 0
    · rw [if_neg (by simp [hz]), h4, if_pos hz, List.append_nil]
    · rw [if_pos (by simpa using hz), app_eq (by simp; omega) (by simp; omega)]
      simp only [Option.bind_some]
      rw [h4, if_neg hz]) (fun p _ => by
    unfold cells_Texts_l2
    rw [if_neg (by simp)]) (b0 := ([], [])) (by simp)
  have k1 : iter (fun s => cells_Texts_l2 (keys3 o a b) (tabM o) (tabM a) (tabM b) s.1 s.2.1 s.2.2) (0, [], []) = _ := key.1
  rw [k1, fold2]
  rfl
end Go.Proofs.YtphkaogfinjbjaaGreatDoor

/- Cells: orders of keys. -/
set_option linter.unusedSectionVars false
set_option linter.unusedSimpArgs false
set_option linter.unusedVariables false
namespace Go.Proofs.YtphkaogfinjbjaaGreatDoor
open Go Go.Cn

end Go.Proofs.YtphkaogfinjbjaaGreatDoor

/- Cells: three orders of keys as one. -/
set_option linter.unusedSectionVars false
set_option linter.unusedSimpArgs false
set_option linter.unusedVariables false
namespace Go.Proofs.YtphkaogfinjbjaaGreatDoor
open Go Go.Cn

end Go.Proofs.YtphkaogfinjbjaaGreatDoor

/- Cells: turned about. -/
set_option linter.unusedSectionVars false
set_option linter.unusedSimpArgs false
set_option linter.unusedVariables false
namespace Go.Proofs.YtphkaogfinjbjaaGreatDoor
open Go Go.Cn

theorem awake30 : law30_awake = some true := by decide +kernel
theorem few30 (l : List ApiSegment) : ∃ b, law30_few l = some b ∧ (b = true → Few l) := by
  unfold law30_few
  by_cases hl : l.length ≤ 20
  · rw [if_neg (by simp; omega)]
    have key := iter_foldE l (fun i (_ : Unit) => (i : Int)) (step := fun s => law30_few_l2 l s) (fun _ (s : ApiSegment) => if s.Text.length > 120 ∨ s.Key.length > 60 then .inr () else .inl ()) (fun _ => Flow.next ()) (fun _ => Flow.done false) (fun _ _ => True) (fun i h b _ => by
      have hst : law30_few_l2 l (i : Int) = if l[i].Text.length > 120 ∨ l[i].Key.length > 60 then some (.inr (Flow.done false)) else some (.inl (((i + 1 : Nat) : Int))) := by
        unfold law30_few_l2 law30_few_j3
        rw [if_pos (show decide ((i : Int) < (l.length : Int)) = true by simp; omega), idx_nat h]
        simp only [Option.bind_some]
        by_cases h1 : l[i].Text.length > 120
        · rw [if_pos (show decide ((l[i].Text.length : Int) > 120) = true by simp; omega), if_pos trivial, if_pos (.inl h1)]
        · rw [if_neg (show ¬ decide ((l[i].Text.length : Int) > 120) = true by simp; omega)]
          by_cases h2 : l[i].Key.length > 60
          · rw [if_pos (show decide ((l[i].Key.length : Int) > 60) = true by simp; omega), if_pos (.inr h2)]
          · rw [if_neg (show ¬ decide ((l[i].Key.length : Int) > 60) = true by simp; omega), if_neg (show ¬ (l[i].Text.length > 120 ∨ l[i].Key.length > 60) by omega), w64_succ (by omega)]
      by_cases hc : l[i].Text.length > 120 ∨ l[i].Key.length > 60
      · simp only [if_pos hc]
        rw [hst, if_pos hc]
      · simp only [if_neg hc]
        exact ⟨by rw [hst, if_neg hc], trivial⟩) (fun b _ => by
      unfold law30_few_l2
      rw [if_neg (by simp)]) (b0 := ()) trivial
    have key : iter (fun s => law30_few_l2 l s) 0 = _ := key
    rw [key]
    simp only [Option.bind_some]
    have h2 : ∀ l : List ApiSegment, foldE (fun _ (s : ApiSegment) => if s.Text.length > 120 ∨ s.Key.length > 60 then (.inr () : Unit ⊕ Unit) else .inl ()) l () = .inl () → ∀ s ∈ l, s.Text.length ≤ 600 := by
      intro l
      induction l with
      | nil => intro _ s hs; cases hs
      | cons x l ih =>
        intro h s hs
        unfold foldE at h
        by_cases hx : x.Text.length > 120 ∨ x.Key.length > 60
        · rw [if_pos hx] at h; cases h
        · rw [if_neg hx] at h
          rcases List.mem_cons.1 hs with rfl | hs
          · omega
          · exact ih h s hs
    cases hf : foldE (fun _ (s : ApiSegment) => if s.Text.length > 120 ∨ s.Key.length > 60 then (.inr () : Unit ⊕ Unit) else .inl ()) l () with
    | inl u => exact ⟨true, rfl, fun _ => ⟨by omega, h2 l hf⟩⟩
    | inr u => exact ⟨false, rfl, fun h => by cases h⟩
  · rw [if_pos (by simp; omega)]
    exact ⟨false, rfl, fun h => by cases h⟩
theorem addKs_nodup : ∀ (l ks : List (List UInt8)), ks.Nodup → (l.foldl addK ks).Nodup
  | [], _, h => h
  | s :: l, ks, h => addKs_nodup l (addK ks s) (by
    unfold addK
    split
    · exact h
    · rename_i hm
      rw [List.nodup_append]
      exact ⟨h, by simp, fun x hx y hy => by rw [List.mem_singleton.1 hy]; intro e; exact hm (e ▸ hx)⟩)
theorem addKs_iff (s : List UInt8) : ∀ (l ks : List (List UInt8)), s ∈ l.foldl addK ks ↔ s ∈ ks ∨ s ∈ l
  | [], ks => by simp
  | x :: l, ks => by
    rw [List.foldl_cons, addKs_iff s l]
    unfold addK
    split
    · rename_i hm
      simp only [List.mem_cons]
      exact ⟨fun h => h.imp id .inr, fun h => h.elim .inl (fun h => h.elim (fun e => .inl (e ▸ hm)) .inr)⟩
    · simp only [List.mem_append, List.mem_cons, List.not_mem_nil, or_false]
      exact ⟨fun h => h.elim (fun h => h.imp id .inl) (fun h => .inr (.inr h)), fun h => h.elim (fun h => .inl (.inl h)) (fun h => h.elim (fun h => .inl (.inr h)) .inr)⟩
theorem onceM_nodup (l : List (List UInt8)) : (onceM l).Nodup := addKs_nodup l [] List.nodup_nil
theorem onceM_mem {s : List UInt8} {l : List (List UInt8)} : s ∈ onceM l ↔ s ∈ l := by unfold onceM; rw [addKs_iff]; simp
theorem threeM_swap (o a b : Option (List UInt8)) : threeM o b a = threeM o a b := by
  unfold threeM
  by_cases h1 : a = b
  · rw [if_pos h1, if_pos h1.symm, h1]
  · rw [if_neg h1, if_neg (Ne.symm h1)]
    by_cases h2 : a = o
    · by_cases h3 : b = o
      · exact absurd (h2.trans h3.symm) h1
      · rw [if_neg h3, if_pos h2, if_pos h2]
    · by_cases h3 : b = o
      · rw [if_pos h3, if_neg h2, if_pos h3]
      · rw [if_neg h3, if_neg h2, if_neg h2, if_neg h3, textM_swap]
        by_cases h4 : a = none ∨ b = none
        · rw [if_pos h4, if_pos h4.symm]
        · rw [if_neg h4, if_neg (fun h => h4 h.symm)]
theorem out1_swap (o a b : List ApiSegment) : out1 o b a = out1 o a b := by
  funext k
  unfold out1 txtM
  rw [threeM_swap]
theorem bad1_swap (o a b : List ApiSegment) : bad1 o b a = bad1 o a b := by
  funext k
  unfold bad1 txtM
  rw [threeM_swap]
theorem keys3_perm (o a b : List ApiSegment) : (keys3 o b a).Perm (keys3 o a b) := by
  refine (List.perm_ext_iff_of_nodup (onceM_nodup _) (onceM_nodup _)).2 fun k => ?_
  rw [onceM_mem, onceM_mem]
  simp only [List.map_append, List.mem_append]
  exact ⟨fun h => h.elim (fun h => .inr (.inr h)) (fun h => h.elim (fun h => .inr (.inl h)) .inl), fun h => h.elim (fun h => .inr (.inr h)) (fun h => h.elim (fun h => .inr (.inl h)) .inl)⟩
theorem outM_perm (o a b : List ApiSegment) : (outM o b a).Perm (outM o a b) := by
  unfold outM
  rw [out1_swap]
  exact (keys3_perm o a b).flatMap_right _
theorem badM_perm (o a b : List ApiSegment) : (badM o b a).Perm (badM o a b) := by
  unfold badM
  rw [bad1_swap]
  exact (keys3_perm o a b).flatMap_right _
theorem out1_key {o a b : List ApiSegment} {k : List UInt8} {s : ApiSegment} (h : s ∈ out1 o a b k) : s.Key = k := by
  unfold out1 at h
  split at h
  · rw [List.mem_singleton.1 h]
  · cases h
theorem bad1_key {o a b : List ApiSegment} {k : List UInt8} {s : ApiConflict} (h : s ∈ bad1 o a b k) : s.Key = k := by
  unfold bad1 at h
  split at h
  · cases h
  · rw [List.mem_singleton.1 h]
theorem keyed_nodup {α : Type} (f : List UInt8 → List α) (g : α → List UInt8) (h1 : ∀ k, (f k).length ≤ 1) (h2 : ∀ k, ∀ s ∈ f k, g s = k) : ∀ ks : List (List UInt8), ks.Nodup → ((ks.flatMap f).map g).Nodup
  | [], _ => by simp
  | k :: ks, h => by
    obtain ⟨h3, h4⟩ := List.nodup_cons.1 h
    rw [List.flatMap_cons, List.map_append, List.nodup_append]
    refine ⟨?_, keyed_nodup f g h1 h2 ks h4, fun x hx y hy => ?_⟩
    · have := h1 k
      match hf : f k with
      | [] => simp
      | [s] => simp
      | _ :: _ :: _ => rw [hf] at this; simp at this
    · obtain ⟨s, hs, rfl⟩ := List.mem_map.1 hx
      obtain ⟨t, ht, rfl⟩ := List.mem_map.1 hy
      obtain ⟨k', hk', ht'⟩ := List.mem_flatMap.1 ht
      rw [h2 k s hs, h2 k' t ht']
      intro e
      exact h3 (e ▸ hk')
theorem outM_nodup (o a b : List ApiSegment) : ((outM o a b).map (·.Key)).Nodup := keyed_nodup _ _ (out1_len o a b) (fun k s hs => out1_key hs) _ (onceM_nodup _)
theorem badM_nodup (o a b : List ApiSegment) : ((badM o a b).map (·.Key)).Nodup := keyed_nodup _ _ (bad1_len o a b) (fun k s hs => bad1_key hs) _ (onceM_nodup _)
theorem getM_nodup : ∀ {l : List ApiSegment} {s : ApiSegment}, (l.map (·.Key)).Nodup → s ∈ l → getM l s.Key = some s.Text
  | x :: l, s, h, hs => by
    obtain ⟨h3, h4⟩ := List.nodup_cons.1 h
    unfold getM
    rcases List.mem_cons.1 hs with rfl | hs
    · rw [if_pos rfl]
    · rw [if_neg (fun e => h3 (by show x.Key ∈ _; rw [e]; exact List.mem_map_of_mem (f := (·.Key)) hs))]
      exact getM_nodup h4 hs
theorem outM_len (o a b : List ApiSegment) : (outM o a b).length ≤ a.length + (o.length + b.length) := by
  have h1 : ∀ ks : List (List UInt8), (ks.flatMap (out1 o a b)).length ≤ ks.length := by
    intro ks
    induction ks with
    | nil => simp
    | cons k ks ih => have := out1_len o a b k; simp only [List.flatMap_cons, List.length_append, List.length_cons]; omega
  have h2 := h1 (keys3 o a b)
  have h3 := onceM_len ((a ++ (o ++ b)).map (·.Key))
  simp only [List.length_map, List.length_append] at h3
  unfold outM keys3 at *
  omega
theorem badM_len (o a b : List ApiSegment) : (badM o a b).length ≤ a.length + (o.length + b.length) := by
  have h1 : ∀ ks : List (List UInt8), (ks.flatMap (bad1 o a b)).length ≤ ks.length := by
    intro ks
    induction ks with
    | nil => simp
    | cons k ks ih => have := bad1_len o a b k; simp only [List.flatMap_cons, List.length_append, List.length_cons]; omega
  have h2 := h1 (keys3 o a b)
  have h3 := onceM_len ((a ++ (o ++ b)).map (·.Key))
  simp only [List.length_map, List.length_append] at h3
  unfold badM keys3 at *
  omega
/-- A loop that finds nothing to say against any. -/
theorem all_ok {α : Type} {step : Int → Option (Int ⊕ Flow Unit Bool)} (l : List α) (h : l.length ≤ 1000000000) (h1 : ∀ i (hi : i < l.length), step (i : Int) = some (.inl (w64 ((i : Int) + 1)))) (h2 : step (l.length : Int) = some (.inr (.next ()))) : iter step 0 = some (.next ()) := same_refl (l := l) h h1 h2
theorem count_eq {d : List ApiConflict} {c : List ApiConflict} {i : Nat} (hi : i < c.length) (hd : d.length ≤ 1000000000) : iter (fun s : Int × Int => law30_CellsTurned_l4 d c (i : Int) s.1 s.2) (0, 0) = some ((d.count c[i] : Nat) : Int) := by
  have key := iter_fold d (fun k (n : Nat) => ((n : Int), (k : Int))) (step := fun s : Int × Int => law30_CellsTurned_l4 d c (i : Int) s.1 s.2) (fun n x => if x = c[i] then n + 1 else n) (fun n => (n : Int)) (fun k n => n ≤ k) (fun k h n hn => by
    refine ⟨?_, by split <;> omega⟩
    unfold law30_CellsTurned_l4 law30_CellsTurned_j6 law30_CellsTurned_j5
    rw [if_pos (by simp; omega), idx_nat h, idx_nat hi]
    simp only [Option.bind_some]
    by_cases he : d[k] = c[i]
    · rw [if_pos (by simpa using he), if_pos he, w64_succ (by omega), w64_succ (by omega)]
    · rw [if_neg (by simpa using he), if_neg he, w64_succ (by omega)]) (fun n _ => by
    unfold law30_CellsTurned_l4
    rw [if_neg (by simp)]) (b0 := 0) (Nat.le_refl _)
  have k1 : iter (fun s : Int × Int => law30_CellsTurned_l4 d c (i : Int) s.1 s.2) (0, 0) = _ := key.1
  rw [k1]
  have h2 : ∀ (d : List ApiConflict) (n : Nat), d.foldl (fun n x => if x = c[i] then n + 1 else n) n = n + d.count c[i] := by
    intro d
    induction d with
    | nil => intro n; simp
    | cons x d ih =>
      intro n
      rw [List.foldl_cons, ih, List.count_cons]
      by_cases he : x = c[i]
      · simp [he]; omega
      · simp [he]
  rw [h2]
  simp
theorem nodup_of_map {α β : Type} (f : α → β) : ∀ {l : List α}, (l.map f).Nodup → l.Nodup
  | [], _ => List.nodup_nil
  | x :: l, h => by
    obtain ⟨h1, h2⟩ := List.nodup_cons.1 h
    exact List.nodup_cons.2 ⟨fun hx => h1 (List.mem_map_of_mem hx), nodup_of_map f h2⟩
theorem count_one : ∀ {l : List ApiConflict} {x : ApiConflict}, l.Nodup → x ∈ l → l.count x = 1
  | y :: l, x, h, hx => by
    obtain ⟨h1, h2⟩ := List.nodup_cons.1 h
    rw [List.count_cons]
    rcases List.mem_cons.1 hx with rfl | hx
    · have : l.count x = 0 := List.count_eq_zero.2 h1
      simp [this]
    · have hne : ¬ y = x := fun e => h1 (e ▸ hx)
      rw [count_one h2 hx]
      simp [hne]
theorem turned_eq {o a b : List ApiSegment} (ho : Few o) (ha : Few a) (hb : Few b) : law30_CellsTurned_j11 o a b false = some true := by
  unfold law30_CellsTurned_j11
  rw [if_neg (by simp), cells_Texts_eq ho ha hb, cells_Texts_eq ho hb ha]
  simp only [Option.bind_some]
  have p1 := outM_perm o a b
  have p2 := badM_perm o a b
  have n1 := outM_nodup o b a
  have n2 := badM_nodup o b a
  have e1 := outM_len o a b
  have e2 := badM_len o a b
  have e3 := ho.len
  have e4 := ha.len
  have e5 := hb.len
  have e6 := p1.length_eq
  have e7 := p2.length_eq
  generalize outM o a b = x at *
  generalize outM o b a = y at *
  generalize badM o a b = c at *
  generalize badM o b a = d at *
  rw [if_neg (by simp; omega)]
  unfold law30_CellsTurned_j10
  rw [if_neg (by simp; omega)]
  rw [all_ok x (by omega) (fun i hi => by
    unfold law30_CellsTurned_l8 law30_CellsTurned_j9
    rw [if_pos (by simp; omega), idx_nat hi]
    simp only [Option.bind_some]
    rw [ref28_Get_eq (by omega), getM_nodup n1 (p1.mem_iff.2 (List.getElem_mem hi))]
    simp) (by
    unfold law30_CellsTurned_l8
    rw [if_neg (by simp)])]
  simp only [Option.bind_some]
  unfold law30_CellsTurned_k7
  rw [all_ok c (by omega) (fun i hi => by
    unfold law30_CellsTurned_l2 law30_CellsTurned_k3
    rw [if_pos (by simp; omega), count_eq hi (by omega)]
    simp only [Option.bind_some]
    have : d.count c[i] = 1 := count_one (nodup_of_map (·.Key) n2) (p2.mem_iff.2 (List.getElem_mem hi))
    rw [this, if_neg (by simp)]) (by
    unfold law30_CellsTurned_l2
    rw [if_neg (by simp)])]
  rfl
theorem law_CellsTurned (o a b : List ApiSegment) : law30_CellsTurned o a b = some true := by
  obtain ⟨b1, h1, f1⟩ := few30 o
  obtain ⟨b2, h2, f2⟩ := few30 a
  obtain ⟨b3, h3, f3⟩ := few30 b
  unfold law30_CellsTurned
  rw [awake30, h1, h2, h3]
  simp only [Option.bind_some]
  rw [if_neg (by simp)]
  have ht : law30_CellsTurned_j11 o a b true = some true := by unfold law30_CellsTurned_j11; rw [if_pos rfl]
  cases b1 with
  | false => rw [if_pos (by rfl), ht]
  | true =>
    rw [if_neg (by simp)]
    cases b2 with
    | false => rw [if_pos (by rfl), ht]
    | true =>
      rw [if_neg (by simp)]
      cases b3 with
      | false => exact ht
      | true => exact turned_eq (f1 rfl) (f2 rfl) (f3 rfl)
end Go.Proofs.YtphkaogfinjbjaaGreatDoor
