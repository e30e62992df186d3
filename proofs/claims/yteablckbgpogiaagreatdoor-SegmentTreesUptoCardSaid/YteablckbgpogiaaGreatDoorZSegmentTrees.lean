/- The law SegmentTrees answers true for every input of the second form and leaves what it was handed as it was: the given card is proved, on no condition but those in the given statement itself (the library being as the kit models it). -/
import Derived.Test.YteablckbgpogiaaGreatDoorZP14
import Derived.Test.YteablckbgpogiaaGreatDoorZW
import Derived.Test.YteablckbgpogiaaGreatDoorZV
import Derived.Test.YteablckbgpogiaaGreatDoorCards
import Derived.Test.YteablckbgpogiaaGreatDoorTie
import Derived.WalkKit
import Derived.ProofKit
import Derived.OpenShut
import Derived.Deep.DeepHandedRow
import Derived.Lib.LaidTab
set_option linter.unusedSimpArgs false
set_option linter.unusedVariables false
set_option linter.unusedSectionVars false
/- The law SegmentTrees answers true for every input of the second form and leaves what it was handed as it was: the given card is proved, on no condition but those in the given statement itself (the library being as the kit models it). -/
set_option linter.unusedSimpArgs false
set_option linter.unusedVariables false
set_option maxRecDepth 100000
namespace Go.Proofs.YteablckbgpogiaaGreatDoor.segmentTreesUpto
open Go Go.Cn Go.ChangeShapes Go.WideShapes Go.ChangeAt Go.RowKit
theorem own : ownKnob Tryz.prog.godebug = none := by kernel_rfl
theorem kids : Kids Tryz.prog (· < Tryz.prog.types.size) := kids_rows (by kernel_rfl) (by kernel_rfl)
theorem full : ∀ t e, t < Tryz.prog.types.size → Tryz.prog.underlying t = some (.slice e) → 0 < Tryz.prog.cellsOf e := slices_full_of Tryz.prog (by kernel_rfl)
theorem contract (H : Type) (enc : TypeId × Value → H) (W : World) (base : Nat) (args : Array Value) (ds gs : List (DataW H)) (before : List MemPlace)
    (hval : ∀ (j : Nat) t v, Tryz.f4.params[j]? = some t → args[j]? = some v → Value.okWide Tryz.prog W .any base t v)
    (hW : DataW.Whole enc Tryz.prog Tryz.f4.params.toList Rows.segmentTreesSpec.vars false W args.toList ds gs before) (hk : Rows.uptoBulkAll (ds ++ gs) ≤ 1048576) (hL : laidMetH Tryz.prog Rows.segmentTreesUptoRow.laid W) (hS : W.ShapedOpen Tryz.prog) :
    Calls Tryz.prog 4 args W fun e W' => ∃ v, e = .returned v ∧ Rows.segmentTreesSpec.post enc Tryz.prog Tryz.f4 false true false false W args v W' := by
  letI : Known := ⟨False⟩
  have hW' := hW
  obtain ⟨p, q, hA, hV, hpq, _, _⟩ := hW
  have hg := startGlob hL hS
  rw [Tryz.params4] at hA hval
  obtain ⟨v0, vs0, d0, ds0, p0, q0, hargs0, hds0, _, h0, r0⟩ := trodAll_cons hA
  obtain ⟨hvs, hdsn, _⟩ := trodAll_nil r0
  subst hvs hdsn
  have hargs' : args = #[v0] := by cases args; simp_all
  subst hargs'
  obtain ⟨a0, ha0⟩ := arg_of (s := ⟨W, fun b => b < W.heap.size⟩) (R := bx en) (opens_list (by kernel_rfl) Tryz.underlying40 opFile (Nat.zero_lt_succ _)) rfl Tryz.underlying40 rfl (fun _ h => h) (hval 0 40 v0 rfl rfl) h0
  have hsize : fsum a0 ≤ 1048576 := by
    obtain ⟨fuel, hf⟩ := h0
    replace hf : DataW.trod enc Tryz.prog W 0 (fun x => true) true fuel 40 [v0] = some (d0, p0) := by obtain ⟨_, _, rfl, _⟩ := ha0; exact hf
    have hb := files_bulk (s := ⟨W, fun b => b < W.heap.size⟩) (fun _ h => h) ha0 hf
    rw [hds0] at hk
    simp only [List.cons_append, Rows.uptoBulkAll] at hk
    simp only at hb
    omega
  have hc := calls_of_fnP (law28_SegmentTrees_ok a0 true (law_SegmentTrees (by omega))) hg (vs := [v0]) ⟨ha0, trivial⟩
  refine hc.mono fun e W' ⟨he, hb⟩ => ⟨_, he, ?_⟩
  exact law_post kids full hW' rfl Tryz.underlying4 rfl (by rw [hds0]; rfl) (by rw [Tryz.params4]; decide) hb
abbrev wit : Array Value := #[.slice none 0 0]
theorem laid_met (os : Os) : laidMet Tryz.prog Rows.segmentTreesUptoRow.laid ((laidWorld os).forCall (fun _ _ => 0) ⟨#[], wit, []⟩).memory :=
  laidMet_of_run' 8 (by kernel_rfl) (by kernel_rfl)
theorem reads (os : Os) {H : Type} (enc : TypeId × Value → H) : ∃ places, DataW.whole enc Tryz.prog ((laidWorld os).forCall (fun _ _ => 0) ⟨#[], wit, []⟩).memory Tryz.f4.params.toList Rows.segmentTreesSpec.vars false wit.toList 8 = some ([.nil], [], places) :=
  ⟨[], by kernel_rfl⟩
theorem small {H : Type} : Rows.uptoSmall H ([.nil] ++ []) = true := by
  simp [Rows.uptoSmall, Rows.uptoBulkAll, Rows.uptoBulk]
theorem lifted (os : Os) (started : os.Started) (H : Type) (enc : TypeId × Value → H) (F : Stop.Interp) :
    ReturnsInHanded {} Tryz.checked os 4 .any ((Rows.OpenSpec.upto Rows.segmentTreesSpec).preRow enc Tryz.prog Tryz.f4 Rows.segmentTreesUptoRow.domain false Rows.segmentTreesUptoRow.laid) (((Rows.OpenSpec.upto Rows.segmentTreesSpec).at F).post enc Tryz.prog Tryz.f4 false true false false) := by
  obtain ⟨places, hx⟩ := reads os enc
  refine returnsInHanded_of_row (C := Tryz.checked) (s := Rows.OpenSpec.upto Rows.segmentTreesSpec) own started (by kernel_rfl) Tryz.func4
    (witness_row_at (enc := enc) (C := Tryz.checked) false (laidWorld os) wit rfl (by kernel_rfl) (by kernel_rfl) (by kernel_rfl)
      (OpenSpec.preRow_of_cond 8 hx (by kernel_rfl) (fun k hk => by obtain rfl := Option.some.inj hk; exact small) (by kernel_rfl) (laid_met os))) ?_
  intro W base args ds gs before hval hW _ hk _ hL hS _
  exact contract H enc W base args ds gs before hval hW (of_decide_eq_true (hk _ rfl)) hL hS
theorem said : Rows.SegmentTreesUptoSaid :=
  OpenClaim.holds_of_cond 4 Tryz.f4 rfl rfl rfl rfl rfl rfl rfl ⟨rfl, rfl, rfl, rfl, rfl⟩ rfl rfl rfl rfl rfl (by kernel_rfl) Tryz.func4 (by kernel_rfl)
    (of_decide_eq_true (by kernel_rfl)) (by unfold Func.isWrapper; first | (rw [if_pos (by decide +kernel)]; kernel_rfl) | (rw [if_neg (by decide +kernel)]; exact ⟨rfl, rfl⟩))
    (fun os started H enc _ F => by rw [OpenClaim.pre_eq_preRow]; exact lifted os started H enc F)
theorem plain (f : FuncId) (fn : Func) (hf : Tryz.pinned.checked.prog.funcNamed "concordat/concordatlaw28.SegmentTrees" = some f) (hfn : Tryz.pinned.checked.prog.funcs[f]? = some fn) :
    true = Tryz.pinned.checked.prog.looks [] ∧ ∀ (j : Nat) t, fn.params[j]? = some t → Tryz.pinned.checked.prog.wantsStandIn t = false := by
  obtain rfl : f = 4 := Option.some.inj ((show Tryz.prog.funcNamed "concordat/concordatlaw28.SegmentTrees" = some 4 by kernel_rfl).symm.trans hf) |>.symm
  obtain rfl : fn = Tryz.f4 := (Option.some.inj (Tryz.func4.symm.trans hfn)).symm
  refine ⟨by kernel_rfl, fun j t ht => ?_⟩
  rw [Tryz.params4] at ht
  have hm := Array.mem_of_getElem? ht
  simp at hm
  subst hm
  exact (show Tryz.prog.wantsStandIn 40 = false by kernel_rfl)
theorem card : Rows.SegmentTreesUptoCardSaid :=
  Claim7.holds_tied_plain_at .later [] _ _ _ _ said (fun _ h => by cases h) (by kernel_rfl) (fun _ h => by cases h) segmentTreesUpto_row_tie rfl ⟨rfl, rfl⟩ (by kernel_rfl) rfl plain (by kernel_rfl)
end Go.Proofs.YteablckbgpogiaaGreatDoor.segmentTreesUpto
