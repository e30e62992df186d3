/- The law concordatlaw18.TypesChain answers true for every input and leaves what it was handed as it was: the given card is proved, on no condition but those in the given statement itself (the library being as the kit models it). -/
import Derived.Test.YtcndghapmoaidaaGreatDoorZP16
import Derived.Test.YtcndghapmoaidaaGreatDoorZW
import Derived.Test.YtcndghapmoaidaaGreatDoorZL
import Derived.Test.YtcndghapmoaidaaGreatDoorCards
import Derived.Test.YtcndghapmoaidaaGreatDoorTie
import Derived.WalkKit
import Derived.ProofKit
import Derived.OpenShut
import Derived.Deep.DeepHandedRow
import Derived.Lib.LaidTab
set_option linter.unusedSimpArgs false
set_option linter.unusedVariables false
set_option maxRecDepth 100000
namespace Go.Proofs.YtcndghapmoaidaaGreatDoor.typesChain
open Go Go.Cn Go.ChangeShapes Go.WideShapes Go.ChangeAt Go.RowKit
theorem own : ownKnob Tryz.prog.godebug = none := by kernel_rfl
theorem kids : Kids Tryz.prog (· < Tryz.prog.types.size) := kids_rows (by kernel_rfl) (by kernel_rfl)
theorem full : ∀ t e, t < Tryz.prog.types.size → Tryz.prog.underlying t = some (.slice e) → 0 < Tryz.prog.cellsOf e := slices_full_of Tryz.prog (by kernel_rfl)
theorem contract (H : Type) (enc : TypeId × Value → H) (W : World) (base : Nat) (args : Array Value) (ds gs : List (DataW H)) (before : List MemPlace)
    (hval : ∀ (j : Nat) t v, Tryz.f9.params[j]? = some t → args[j]? = some v → Value.okWide Tryz.prog W .any base t v)
    (hW : DataW.Whole enc Tryz.prog Tryz.f9.params.toList Rows.typesChainSpec.vars false W args.toList ds gs before) (hL : laidMetH Tryz.prog Rows.typesChainRow.laid W) (hS : W.ShapedOpen Tryz.prog) :
    Calls Tryz.prog 9 args W fun e W' => ∃ v, e = .returned v ∧ Rows.typesChainSpec.post enc Tryz.prog Tryz.f9 false true false false W args v W' := by
  letI : Known := ⟨False⟩
  have hW' := hW
  obtain ⟨p, q, hA, hV, hpq, _, _⟩ := hW
  have hg := startGlob hL hS
  rw [Tryz.params9] at hA hval
  obtain ⟨v0, vs0, d0, ds0, p0, q0, hargs0, hds0, _, h0, r0⟩ := trodAll_cons hA
  obtain ⟨v1, vs1, d1, ds1, p1, q1, hargs1, hds1, _, h1, r1⟩ := trodAll_cons r0
  obtain ⟨hvs, hdsn, _⟩ := trodAll_nil r1
  subst hvs hdsn
  subst hargs1 hds1
  have hargs' : args = #[v0, v1] := by cases args; simp_all
  subst hargs'
  obtain ⟨a0, ha0⟩ := arg_of (s := ⟨W, fun b => b < W.heap.size⟩) (R := ba a6) (opens_list (by kernel_rfl) Tryz.underlying22 (opens_str (by kernel_rfl) Tryz.underlying9) (Nat.zero_lt_succ _)) rfl Tryz.underlying22 rfl (fun _ h => h) (hval 0 22 v0 rfl rfl) h0
  obtain ⟨a1, ha1⟩ := arg_of (s := ⟨W, fun b => b < W.heap.size⟩) (R := ba a6) (opens_list (by kernel_rfl) Tryz.underlying22 (opens_str (by kernel_rfl) Tryz.underlying9) (Nat.zero_lt_succ _)) rfl Tryz.underlying22 rfl (fun _ h => h) (hval 1 22 v1 rfl rfl) h1
  have hc := calls_of_fnP (law18_TypesChain_ok a0 a1 true (law_TypesChain a0 a1)) hg (vs := [v0, v1]) ⟨ha0, ha1, trivial⟩
  refine hc.mono fun e W' ⟨he, hb⟩ => ⟨_, he, ?_⟩
  exact law_post kids full hW' rfl Tryz.underlying4 rfl (by rw [hds0]; rfl) (by rw [Tryz.params9]; decide) hb
theorem laid_met (os : Os) : laidMet Tryz.prog Rows.typesChainRow.laid ((laidWorld os).forCall (fun _ _ => 0) ⟨#[], #[.slice none 0 0, .slice none 0 0], []⟩).memory :=
  laidMet_of_run' 8 (by kernel_rfl) (by kernel_rfl)
theorem reads (os : Os) {H : Type} (enc : TypeId × Value → H) : ∃ places, DataW.whole enc Tryz.prog ((laidWorld os).forCall (fun _ _ => 0) ⟨#[], #[.slice none 0 0, .slice none 0 0], []⟩).memory Tryz.f9.params.toList Rows.typesChainSpec.vars false (#[.slice none 0 0, .slice none 0 0] : Array Value).toList 8 = some ([.nil, .nil], [], places) :=
  ⟨[], by kernel_rfl⟩
theorem lifted (os : Os) (started : os.Started) (H : Type) (enc : TypeId × Value → H) (F : Stop.Interp) :
    ReturnsInHanded {} Tryz.checked os 9 .any ((OpenSpec.ofChange Rows.typesChainSpec).preRow enc Tryz.prog Tryz.f9 Rows.typesChainRow.domain false Rows.typesChainRow.laid) (((OpenSpec.ofChange Rows.typesChainSpec).at F).post enc Tryz.prog Tryz.f9 false true false false) := by
  obtain ⟨places, hx⟩ := reads os enc
  refine returnsInHanded_of_row (C := Tryz.checked) (s := OpenSpec.ofChange Rows.typesChainSpec) own started (by kernel_rfl) Tryz.func9
    (witness_row_at (enc := enc) (C := Tryz.checked) false (laidWorld os) #[.slice none 0 0, .slice none 0 0] rfl (by kernel_rfl) (by kernel_rfl) (by kernel_rfl)
      (OpenSpec.preRow_of_cond 8 hx (by kernel_rfl) (fun k hk => by cases hk) (by kernel_rfl) (laid_met os))) ?_
  intro W base args ds gs before hval hW _ _ _ hL hS _
  exact contract H enc W base args ds gs before hval hW hL hS
theorem said : Rows.TypesChainSaid :=
  OpenClaim.holds_of_cond 9 Tryz.f9 rfl rfl rfl rfl rfl rfl rfl ⟨rfl, rfl, rfl, rfl, rfl⟩ rfl rfl rfl rfl rfl (by kernel_rfl) Tryz.func9 (by kernel_rfl)
    (of_decide_eq_true (by kernel_rfl)) (by unfold Func.isWrapper; first | (rw [if_pos (by decide +kernel)]; kernel_rfl) | (rw [if_neg (by decide +kernel)]; exact ⟨rfl, rfl⟩))
    (fun os started H enc _ F => by rw [OpenClaim.pre_eq_preRow]; exact lifted os started H enc F)
theorem plain (f : FuncId) (fn : Func) (hf : Tryz.pinned.checked.prog.funcNamed "concordat/concordatlaw18.TypesChain" = some f) (hfn : Tryz.pinned.checked.prog.funcs[f]? = some fn) :
    true = Tryz.pinned.checked.prog.looks [] ∧ ∀ (j : Nat) t, fn.params[j]? = some t → Tryz.pinned.checked.prog.wantsStandIn t = false := by
  obtain rfl : f = 9 := Option.some.inj ((show Tryz.prog.funcNamed "concordat/concordatlaw18.TypesChain" = some 9 by kernel_rfl).symm.trans hf) |>.symm
  obtain rfl : fn = Tryz.f9 := (Option.some.inj (Tryz.func9.symm.trans hfn)).symm
  refine ⟨by kernel_rfl, fun j t ht => ?_⟩
  rw [Tryz.params9] at ht
  have hm := Array.mem_of_getElem? ht
  simp at hm
  subst hm
  exact (show Tryz.prog.wantsStandIn 22 = false by kernel_rfl)
theorem card : Rows.TypesChainCardSaid :=
  Claim7.holds_tied_plain_at .later [] _ _ _ _ said (fun _ h => by cases h) (by kernel_rfl) (fun _ h => by cases h) typesChain_row_tie rfl ⟨rfl, rfl⟩ (by kernel_rfl) rfl plain (by kernel_rfl)
end Go.Proofs.YtcndghapmoaidaaGreatDoor.typesChain
