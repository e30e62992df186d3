/- The law concordatlaw17.BindFiles answers true for every input and leaves what it was handed as it was: the given card is proved, on no condition but those in the given statement itself (the library being as the kit models it). -/
import Derived.Test.YtcndghapmoaidaaGreatDoorZP2
import Derived.Test.YtcndghapmoaidaaGreatDoorZW
import Derived.Test.YtcndghapmoaidaaGreatDoorZL
import Derived.Test.YtcndghapmoaidaaGreatDoorZM
import Derived.Test.YtcndghapmoaidaaGreatDoorCards
import Derived.Test.YtcndghapmoaidaaGreatDoorTie
import Derived.WalkKit
import Derived.ProofKit
import Derived.OpenShut
import Derived.Deep.DeepHandedRow
import Derived.Lib.LaidTab
set_option linter.unusedSimpArgs false
set_option linter.unusedVariables false
set_option maxRecDepth 100000
namespace Go.Proofs.YtcndghapmoaidaaGreatDoor.bindFiles
open Go Go.Cn Go.ChangeShapes Go.WideShapes Go.ChangeAt Go.RowKit
theorem own : ownKnob Tryz.prog.godebug = none := by kernel_rfl
theorem kids : Kids Tryz.prog (· < Tryz.prog.types.size) := kids_rows kr kr
theorem full : ∀ t e, t < Tryz.prog.types.size → Tryz.prog.underlying t = some (.slice e) → 0 < Tryz.prog.cellsOf e := slices_full_of Tryz.prog kr
theorem contract (H : Type) (enc : TypeId × Value → H) (W : World) (base : Nat) (args : Array Value) (ds gs : List (DataW H)) (before : List MemPlace)
    (hval : ∀ (j : Nat) t v, Tryz.f6.params[j]? = some t → args[j]? = some v → Value.okWide Tryz.prog W .any base t v)
    (hW : DataW.Whole enc Tryz.prog Tryz.f6.params.toList Rows.bindFilesSpec.vars false W args.toList ds gs before) (hL : laidMetH Tryz.prog Rows.bindFilesRow.laid W) (hS : W.ShapedOpen Tryz.prog) :
    Calls Tryz.prog 6 args W fun e W' => ∃ v, e = .returned v ∧ Rows.bindFilesSpec.post enc Tryz.prog Tryz.f6 false true false false W args v W' := by
  letI : Known := ⟨False⟩
  have hW' := hW
  obtain ⟨p, q, hA, hV, hpq, _, _⟩ := hW
  have hg := aze hL hS
  rw [Tryz.params6] at hA hval
  obtain ⟨v0, vs0, d0, ds0, p0, q0, hargs0, hds0, _, h0, r0⟩ := trodAll_cons hA
  obtain ⟨v1, vs1, d1, ds1, p1, q1, hargs1, hds1, _, h1, r1⟩ := trodAll_cons r0
  obtain ⟨hvs, hdsn, _⟩ := trodAll_nil r1
  subst hvs hdsn
  subst hargs1 hds1
  have hargs' : args = #[v0, v1] := by cases args; simp_all
  subst hargs'
  obtain ⟨a0, ha0⟩ := a12 (s := ⟨W, fun b => b < W.heap.size⟩) (R := Rp.list Rp.str) (axb kr Tryz.underlying22 (ats kr Tryz.underlying9) (Nat.zero_lt_succ _)) rfl Tryz.underlying22 rfl (fun _ h => h) (hval 0 22 v0 rfl rfl) h0
  obtain ⟨a1, ha1⟩ := a12 (s := ⟨W, fun b => b < W.heap.size⟩) (R := Rp.str) (ats kr Tryz.underlying9) rfl Tryz.underlying9 rfl (fun _ h => h) (hval 1 9 v1 rfl rfl) h1
  have hc := aun (ak2 a0 a1 true (as4 a0 a1)) hg (vs := [v0, v1]) ⟨ha0, ha1, trivial⟩
  refine hc.mono fun e W' ⟨he, hb⟩ => ⟨_, he, ?_⟩
  exact a04 kids full hW' rfl Tryz.underlying4 rfl (by rw [hds0]; rfl) (by rw [Tryz.params6]; decide) hb
theorem laid_met (os : Os) : laidMet Tryz.prog Rows.bindFilesRow.laid ((aoe os).forCall (fun _ _ => 0) ⟨#[], #[.slice none 0 0, .string ⟨#[]⟩], []⟩).memory :=
  laidMet_of_run' 8 kr kr
theorem reads (os : Os) {H : Type} (enc : TypeId × Value → H) : ∃ abb, DataW.whole enc Tryz.prog ((aoe os).forCall (fun _ _ => 0) ⟨#[], #[.slice none 0 0, .string ⟨#[]⟩], []⟩).memory Tryz.f6.params.toList Rows.bindFilesSpec.vars false (#[.slice none 0 0, .string ⟨#[]⟩] : Array Value).toList 8 = some ([.nil, .lit (.string [])], [], abb) :=
  ⟨[], by kernel_rfl⟩
theorem lifted (os : Os) (started : os.Started) (H : Type) (enc : TypeId × Value → H) (F : Stop.Interp) :
    ReturnsInHanded {} Tryz.checked os 6 .any ((OpenSpec.ofChange Rows.bindFilesSpec).preRow enc Tryz.prog Tryz.f6 Rows.bindFilesRow.domain false Rows.bindFilesRow.laid) (((OpenSpec.ofChange Rows.bindFilesSpec).at F).post enc Tryz.prog Tryz.f6 false true false false) := by
  obtain ⟨abb, hx⟩ := reads os enc
  refine returnsInHanded_of_row (C := Tryz.checked) (s := OpenSpec.ofChange Rows.bindFilesSpec) own started kr Tryz.func6
    (witness_row_at (enc := enc) (C := Tryz.checked) false (aoe os) #[.slice none 0 0, .string ⟨#[]⟩] rfl kr kr kr
      (OpenSpec.preRow_of_cond 8 hx kr (fun k hk => by cases hk) kr (laid_met os))) ?_
  intro W base args ds gs before hval hW _ _ _ hL hS _
  exact contract H enc W base args ds gs before hval hW hL hS
theorem said : Rows.BindFilesSaid :=
  OpenClaim.holds_of_cond 6 Tryz.f6 rfl rfl rfl rfl rfl rfl rfl ⟨rfl, rfl, rfl, rfl, rfl⟩ rfl rfl rfl rfl rfl kr Tryz.func6 kr
    (of_decide_eq_true kr) (by unfold Func.isWrapper; first | (rw [if_pos (by decide +kernel)]; kernel_rfl) | (rw [if_neg (by decide +kernel)]; exact ⟨rfl, rfl⟩))
    (fun os started H enc _ F => by rw [OpenClaim.pre_eq_preRow]; exact lifted os started H enc F)
theorem plain (f : FuncId) (fn : Func) (hf : Tryz.pinned.checked.prog.funcNamed "concordat/concordatlaw17.BindFiles" = some f) (hfn : Tryz.pinned.checked.prog.funcs[f]? = some fn) :
    true = Tryz.pinned.checked.prog.looks [] ∧ ∀ (j : Nat) t, fn.params[j]? = some t → Tryz.pinned.checked.prog.wantsStandIn t = false := by
  obtain rfl : f = 6 := Option.some.inj ((show Tryz.prog.funcNamed "concordat/concordatlaw17.BindFiles" = some 6 by kernel_rfl).symm.trans hf) |>.symm
  obtain rfl : fn = Tryz.f6 := (Option.some.inj (Tryz.func6.symm.trans hfn)).symm
  refine ⟨by kernel_rfl, fun j t ht => ?_⟩
  rw [Tryz.params6] at ht
  have hm := Array.mem_of_getElem? ht
  simp at hm
  rcases hm with rfl | rfl
  · exact (show Tryz.prog.wantsStandIn 22 = false by kernel_rfl)
  · exact (show Tryz.prog.wantsStandIn 9 = false by kernel_rfl)
theorem card : Rows.BindFilesCardSaid :=
  Claim7.holds_tied_plain_at .later [] _ _ _ _ said (fun _ h => by cases h) kr (fun _ h => by cases h) bindFiles_row_tie rfl ⟨rfl, rfl⟩ kr rfl plain kr
end Go.Proofs.YtcndghapmoaidaaGreatDoor.bindFiles
