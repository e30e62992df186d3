/- The law concordatlaw18.TypesFiles answers true for every input and leaves what it was handed as it was: the given card is proved, on no condition but those in the given statement itself (the library being as the kit models it). -/
import Derived.Test.YtcndghapmoaidaaGreatDoorZP2
import Derived.Test.YtcndghapmoaidaaGreatDoorZW
import Derived.Test.YtcndghapmoaidaaGreatDoorZL
import Derived.Test.YtcndghapmoaidaaGreatDoorZM
import Derived.Test.YtcndghapmoaidaaGreatDoorCards
import Derived.Test.YtcndghapmoaidaaGreatDoorTie
import Derived.WalkKit
import Derived.ProofKit
import Derived.OpenShut
import Derived.Deep.DeepHandedRow
import Derived.Lib.LaidTab
set_option linter.unusedSimpArgs false
set_option linter.unusedVariables false
set_option maxRecDepth 100000
namespace Go.Proofs.YtcndghapmoaidaaGreatDoor.typesFiles
open Go Go.Cn Go.ChangeShapes Go.WideShapes Go.ChangeAt Go.RowKit
theorem own : ownKnob Tryz.prog.godebug = none := by kernel_rfl
theorem kids : Kids Tryz.prog (· < Tryz.prog.types.size) := kids_rows kr kr
theorem full : ∀ t e, t < Tryz.prog.types.size → Tryz.prog.underlying t = some (.slice e) → 0 < Tryz.prog.cellsOf e := slices_full_of Tryz.prog kr
theorem contract (H : Type) (enc : TypeId × Value → H) (W : World) (base : Nat) (args : Array Value) (ds gs : List (DataW H)) (before : List MemPlace)
    (hval : ∀ (j : Nat) t v, Tryz.f10.params[j]? = some t → args[j]? = some v → Value.okWide Tryz.prog W .any base t v)
    (hW : DataW.Whole enc Tryz.prog Tryz.f10.params.toList Rows.typesFilesSpec.vars false W args.toList ds gs before) (hL : laidMetH Tryz.prog Rows.typesFilesRow.laid W) (hS : W.ShapedOpen Tryz.prog) :
    Calls Tryz.prog 10 args W fun e W' => ∃ v, e = .returned v ∧ Rows.typesFilesSpec.post enc Tryz.prog Tryz.f10 false true false false W args v W' := by
  letI : Known := ⟨False⟩
  have hW' := hW
  obtain ⟨p, q, hA, hV, hpq, _, _⟩ := hW
  have hg := azw hL hS
  rw [Tryz.params10] at hA hval
  obtain ⟨v0, vs0, d0, ds0, p0, q0, hargs0, hds0, _, h0, r0⟩ := trodAll_cons hA
  obtain ⟨hvs, hdsn, _⟩ := trodAll_nil r0
  subst hvs hdsn
  have hargs' : args = #[v0] := by cases args; simp_all
  subst hargs'
  obtain ⟨a0, ha0⟩ := arg_of (s := ⟨W, fun b => b < W.heap.size⟩) (R := Rp.list Rp.str) (axm kr Tryz.underlying22 (az6 kr Tryz.underlying9) (Nat.zero_lt_succ _)) rfl Tryz.underlying22 rfl (fun _ h => h) (hval 0 22 v0 rfl rfl) h0
  have hc := auz (akp a0 true (aqn a0)) hg (vs := [v0]) ⟨ha0, trivial⟩
  refine hc.mono fun e W' ⟨he, hb⟩ => ⟨_, he, ?_⟩
  exact a1r kids full hW' rfl Tryz.underlying4 rfl (by rw [hds0]; rfl) (by rw [Tryz.params10]; decide) hb
theorem laid_met (os : Os) : laidMet Tryz.prog Rows.typesFilesRow.laid ((aoq os).forCall (fun _ _ => 0) ⟨#[], #[.slice none 0 0], []⟩).memory :=
  laidMet_of_run' 8 kr kr
theorem reads (os : Os) {H : Type} (enc : TypeId × Value → H) : ∃ acj, DataW.whole enc Tryz.prog ((aoq os).forCall (fun _ _ => 0) ⟨#[], #[.slice none 0 0], []⟩).memory Tryz.f10.params.toList Rows.typesFilesSpec.vars false (#[.slice none 0 0] : Array Value).toList 8 = some ([.nil], [], acj) :=
  ⟨[], by kernel_rfl⟩
theorem lifted (os : Os) (started : os.Started) (H : Type) (enc : TypeId × Value → H) (F : Stop.Interp) :
    ReturnsInHanded {} Tryz.checked os 10 .any ((OpenSpec.ofChange Rows.typesFilesSpec).preRow enc Tryz.prog Tryz.f10 Rows.typesFilesRow.domain false Rows.typesFilesRow.laid) (((OpenSpec.ofChange Rows.typesFilesSpec).at F).post enc Tryz.prog Tryz.f10 false true false false) := by
  obtain ⟨acj, hx⟩ := reads os enc
  refine returnsInHanded_of_row (C := Tryz.checked) (s := OpenSpec.ofChange Rows.typesFilesSpec) own started kr Tryz.func10
    (witness_row_at (enc := enc) (C := Tryz.checked) false (aoq os) #[.slice none 0 0] rfl kr kr kr
      (OpenSpec.preRow_of_cond 8 hx kr (fun k hk => by cases hk) kr (laid_met os))) ?_
  intro W base args ds gs before hval hW _ _ _ hL hS _
  exact contract H enc W base args ds gs before hval hW hL hS
theorem said : Rows.TypesFilesSaid :=
  OpenClaim.holds_of_cond 10 Tryz.f10 rfl rfl rfl rfl rfl rfl rfl ⟨rfl, rfl, rfl, rfl, rfl⟩ rfl rfl rfl rfl rfl kr Tryz.func10 kr
    (of_decide_eq_true kr) (by unfold Func.isWrapper; first | (rw [if_pos (by decide +kernel)]; kernel_rfl) | (rw [if_neg (by decide +kernel)]; exact ⟨rfl, rfl⟩))
    (fun os started H enc _ F => by rw [OpenClaim.pre_eq_preRow]; exact lifted os started H enc F)
theorem plain (f : FuncId) (fn : Func) (hf : Tryz.pinned.checked.prog.funcNamed "concordat/concordatlaw18.TypesFiles" = some f) (hfn : Tryz.pinned.checked.prog.funcs[f]? = some fn) :
    true = Tryz.pinned.checked.prog.looks [] ∧ ∀ (j : Nat) t, fn.params[j]? = some t → Tryz.pinned.checked.prog.wantsStandIn t = false := by
  obtain rfl : f = 10 := Option.some.inj ((show Tryz.prog.funcNamed "concordat/concordatlaw18.TypesFiles" = some 10 by kernel_rfl).symm.trans hf) |>.symm
  obtain rfl : fn = Tryz.f10 := (Option.some.inj (Tryz.func10.symm.trans hfn)).symm
  refine ⟨by kernel_rfl, fun j t ht => ?_⟩
  rw [Tryz.params10] at ht
  have hm := Array.mem_of_getElem? ht
  simp at hm
  subst hm
  exact (show Tryz.prog.wantsStandIn 22 = false by kernel_rfl)
theorem card : Rows.TypesFilesCardSaid :=
  Claim7.holds_tied_plain_at .later [] _ _ _ _ said (fun _ h => by cases h) kr (fun _ h => by cases h) typesFiles_row_tie rfl ⟨rfl, rfl⟩ kr rfl plain kr
end Go.Proofs.YtcndghapmoaidaaGreatDoor.typesFiles
