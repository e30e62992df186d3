/- The law ShapeTells answers true for every input of the second form and leaves what it was handed as it was: the given card is proved, on no condition but those in the given statement itself (the library being as the kit models it). -/
import Derived.Test.YtgkcoicaopilhaaGreatDoorZP8
import Derived.Test.YtgkcoicaopilhaaGreatDoorZW
import Derived.Test.YtgkcoicaopilhaaGreatDoorCards
import Derived.Test.YtgkcoicaopilhaaGreatDoorTie
import Derived.Test.YtgkcoicaopilhaaGreatDoorZJ
import Derived.WalkKit
import Derived.ProofKit
import Derived.OpenShut
import Derived.Deep.DeepHandedRow
import Derived.Lib.LaidTab
set_option linter.unusedSimpArgs false
set_option linter.unusedVariables false
set_option linter.unusedSectionVars false
/- The law ShapeTells answers true for every input of the second form and leaves what it was handed as it was: the given card is proved, on no condition but those in the given statement itself (the library being as the kit models it). -/
set_option maxRecDepth 100000
namespace Go.Proofs.YtgkcoicaopilhaaGreatDoor.shapeTellsUpto
open Go Go.Cn Go.ChangeShapes Go.WideShapes Go.ChangeAt Go.RowKit
theorem own : ownKnob Tryz.prog.godebug = none := by kernel_rfl
theorem kids : Kids Tryz.prog (· < Tryz.prog.types.size) := kids_rows (by kernel_rfl) (by kernel_rfl)
theorem full : ∀ t e, t < Tryz.prog.types.size → Tryz.prog.underlying t = some (.slice e) → 0 < Tryz.prog.cellsOf e := slices_full_of Tryz.prog (by kernel_rfl)
theorem contract (H : Type) (enc : TypeId × Value → H) (W : World) (base : Nat) (args : Array Value) (ds gs : List (DataW H)) (before : List MemPlace)
    (hval : ∀ (j : Nat) t v, Tryz.f3.params[j]? = some t → args[j]? = some v → Value.okWide Tryz.prog W .any base t v)
    (hW : DataW.Whole enc Tryz.prog Tryz.f3.params.toList Rows.shapeTellsSpec.vars false W args.toList ds gs before) (hk : Rows.uptoBulkAll (ds ++ gs) ≤ 1048576) (hL : laidMetH Tryz.prog Rows.shapeTellsUptoRow.laid W) (hS : W.ShapedOpen Tryz.prog) :
    Calls Tryz.prog 3 args W fun e W' => ∃ v, e = .returned v ∧ Rows.shapeTellsSpec.post enc Tryz.prog Tryz.f3 false true false false W args v W' := by
  have hW' := hW
  obtain ⟨p, q, hA, hV, hpq, _, _⟩ := hW
  have hg := startGlob hL hS
  rw [Tryz.params3] at hA hval
  obtain ⟨v0, vs0, d0, ds0, p0, q0, hargs0, hds0, _, h0, r0⟩ := trodAll_cons hA
  obtain ⟨v1, vs1, d1, ds1, p1, q1, hargs1, hds1, _, h1, r1⟩ := trodAll_cons r0
  obtain ⟨hvs, hdsn, _⟩ := trodAll_nil r1
  subst hvs hdsn
  subst hargs1 hds1
  have hargs' : args = #[v0, v1] := by cases args; simp_all
  subst hargs'
  obtain ⟨a0, ha0⟩ := arg_ofS (s := ⟨W, fun b => b < W.heap.size⟩) (R := ab) opNode rfl Tryz.underlying24 (fun _ h => h) (hval 0 24 v0 rfl rfl) h0
  obtain ⟨a1, ha1⟩ := arg_of (s := ⟨W, fun b => b < W.heap.size⟩) (R := ax ak) (opens_list (by kernel_rfl) Tryz.underlying25 (opens_str (by kernel_rfl) Tryz.underlying9) (Nat.zero_lt_succ _)) rfl Tryz.underlying25 rfl (fun _ h => h) (hval 1 25 v1 rfl rfl) h1
  have hsize : fo a0 ≤ 1048576 ∧ tsum a0 ≤ 1048576 ∧ okN a0 := by
    obtain ⟨cs, hcs, hv⟩ := ab.spec.1 ha0
    obtain ⟨fuel, hf⟩ := h0
    have hv : v0 = .agg cs.toArray := hv
    rw [hv] at hf
    obtain ⟨hb1, hb2, hb3⟩ := node_all (s := ⟨W, fun b => b < W.heap.size⟩) (fun _ h => h) (fuel + 1) fuel (Nat.lt_succ_self _) a0 cs _ hcs hf
    rw [hds0] at hk
    simp only [List.cons_append, Rows.uptoBulkAll] at hk
    simp only at hb1 hb2
    exact ⟨by omega, by omega, hb3⟩
  have hc := calls_of_fnP (law14_ShapeTells_ok a0 a1 true (ShapeTells_law hsize.1 hsize.2.1 hsize.2.2)) hg (vs := [v0, v1]) ⟨ha0, ha1, trivial⟩
  refine hc.mono fun e W' ⟨he, hb⟩ => ⟨_, he, ?_⟩
  exact law_post kids full hW' rfl Tryz.underlying4 rfl (by rw [hds0]; rfl) (by rw [Tryz.params3]; decide) hb
abbrev wit : Array Value := #[.agg #[.int .i64 0, .string ⟨#[]⟩, .string ⟨#[]⟩, .int .i64 0, .int .i64 0, .int .i64 0, .int .i64 0, .int .i64 0, .slice none 0 0], .slice none 0 0]
theorem laid_met (os : Os) : laidMet Tryz.prog Rows.shapeTellsUptoRow.laid ((laidWorld os).forCall (fun _ _ => 0) ⟨#[], wit, []⟩).memory :=
  laidMet_of_run' 8 (by kernel_rfl) (by kernel_rfl)
theorem reads (os : Os) {H : Type} (enc : TypeId × Value → H) : ∃ places, DataW.whole enc Tryz.prog ((laidWorld os).forCall (fun _ _ => 0) ⟨#[], wit, []⟩).memory Tryz.f3.params.toList Rows.shapeTellsSpec.vars false wit.toList 8 = some ([.agg [.lit (.int .i64 0), .lit (.string []), .lit (.string []), .lit (.int .i64 0), .lit (.int .i64 0), .lit (.int .i64 0), .lit (.int .i64 0), .lit (.int .i64 0), .nil], .nil], [], places) :=
  ⟨[], by kernel_rfl⟩
theorem small {H : Type} : Rows.uptoSmall H ([.agg [.lit (.int .i64 0), .lit (.string []), .lit (.string []), .lit (.int .i64 0), .lit (.int .i64 0), .lit (.int .i64 0), .lit (.int .i64 0), .lit (.int .i64 0), .nil], .nil] ++ []) = true := by
  simp [Rows.uptoSmall, Rows.uptoBulkAll, Rows.uptoBulk]
theorem lifted (os : Os) (started : os.Started) (H : Type) (enc : TypeId × Value → H) (F : Stop.Interp) :
    ReturnsInHanded {} Tryz.checked os 3 .any ((Rows.OpenSpec.upto Rows.shapeTellsSpec).preRow enc Tryz.prog Tryz.f3 Rows.shapeTellsUptoRow.domain false Rows.shapeTellsUptoRow.laid) (((Rows.OpenSpec.upto Rows.shapeTellsSpec).at F).post enc Tryz.prog Tryz.f3 false true false false) := by
  obtain ⟨places, hx⟩ := reads os enc
  refine returnsInHanded_of_row (C := Tryz.checked) (s := Rows.OpenSpec.upto Rows.shapeTellsSpec) own started (by kernel_rfl) Tryz.func3
    (witness_row_at (enc := enc) (C := Tryz.checked) false (laidWorld os) wit rfl (by kernel_rfl) (by kernel_rfl) (by kernel_rfl)
      (OpenSpec.preRow_of_cond 8 hx (by kernel_rfl) (fun k hk => by obtain rfl := Option.some.inj hk; exact small) (by kernel_rfl) (laid_met os))) ?_
  intro W base args ds gs before hval hW _ hk _ hL hS _
  exact contract H enc W base args ds gs before hval hW (of_decide_eq_true (hk _ rfl)) hL hS
theorem said : Rows.ShapeTellsUptoSaid :=
  OpenClaim.holds_of_cond 3 Tryz.f3 rfl rfl rfl rfl rfl rfl rfl ⟨rfl, rfl, rfl, rfl, rfl⟩ rfl rfl rfl rfl rfl (by kernel_rfl) Tryz.func3 (by kernel_rfl)
    (of_decide_eq_true (by kernel_rfl)) (by unfold Func.isWrapper; first | (rw [if_pos (by decide +kernel)]; kernel_rfl) | (rw [if_neg (by decide +kernel)]; exact ⟨rfl, rfl⟩))
    (fun os started H enc _ F => by rw [OpenClaim.pre_eq_preRow]; exact lifted os started H enc F)
theorem plain (f : FuncId) (fn : Func) (hf : Tryz.pinned.checked.prog.funcNamed "concordat/concordatlaw14.ShapeTells" = some f) (hfn : Tryz.pinned.checked.prog.funcs[f]? = some fn) :
    true = Tryz.pinned.checked.prog.looks [] ∧ ∀ (j : Nat) t, fn.params[j]? = some t → Tryz.pinned.checked.prog.wantsStandIn t = false := by
  obtain rfl : f = 3 := Option.some.inj ((show Tryz.prog.funcNamed "concordat/concordatlaw14.ShapeTells" = some 3 by kernel_rfl).symm.trans hf) |>.symm
  obtain rfl : fn = Tryz.f3 := (Option.some.inj (Tryz.func3.symm.trans hfn)).symm
  refine ⟨by kernel_rfl, fun j t ht => ?_⟩
  rw [Tryz.params3] at ht
  have hm := Array.mem_of_getElem? ht
  simp at hm
  rcases hm with rfl | rfl
  · exact (show Tryz.prog.wantsStandIn 24 = false by kernel_rfl)
  · exact (show Tryz.prog.wantsStandIn 25 = false by kernel_rfl)
theorem card : Rows.ShapeTellsUptoCardSaid :=
  Claim7.holds_tied_plain_at .later [] _ _ _ _ said (fun _ h => by cases h) (by kernel_rfl) (fun _ h => by cases h) shapeTellsUpto_row_tie rfl ⟨rfl, rfl⟩ (by kernel_rfl) rfl plain (by kernel_rfl)
end Go.Proofs.YtgkcoicaopilhaaGreatDoor.shapeTellsUpto
