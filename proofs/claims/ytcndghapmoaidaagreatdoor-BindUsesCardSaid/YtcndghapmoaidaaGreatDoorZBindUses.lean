/- The law concordatlaw17.BindUses answers true for every input and leaves what it was handed as it was: the given card is proved, on no condition but those in the given statement itself (the library being as the kit models it). -/
import Derived.Test.YtcndghapmoaidaaGreatDoorZP2
import Derived.Test.YtcndghapmoaidaaGreatDoorZW
import Derived.Test.YtcndghapmoaidaaGreatDoorZL
import Derived.Test.YtcndghapmoaidaaGreatDoorCards
import Derived.Test.YtcndghapmoaidaaGreatDoorTie
import Derived.WalkKit
import Derived.ProofKit
import Derived.OpenShut
import Derived.Deep.DeepHandedRow
import Derived.Lib.LaidTab
set_option linter.unusedSimpArgs false
set_option linter.unusedVariables false
set_option maxRecDepth 100000
namespace Go.Proofs.YtcndghapmoaidaaGreatDoor.bindUses
open Go Go.Cn Go.ChangeShapes Go.WideShapes Go.ChangeAt Go.RowKit
theorem own : ownKnob Tryz.prog.godebug = none := by kernel_rfl
theorem kids : Kids Tryz.prog (· < Tryz.prog.types.size) := kids_rows kr kr
theorem full : ∀ t e, t < Tryz.prog.types.size → Tryz.prog.underlying t = some (.slice e) → 0 < Tryz.prog.cellsOf e := slices_full_of Tryz.prog kr
theorem contract (H : Type) (enc : TypeId × Value → H) (W : World) (base : Nat) (args : Array Value) (ds gs : List (DataW H)) (before : List MemPlace)
    (hval : ∀ (j : Nat) t v, Tryz.f3.params[j]? = some t → args[j]? = some v → Value.okWide Tryz.prog W .any base t v)
    (hW : DataW.Whole enc Tryz.prog Tryz.f3.params.toList Rows.bindUsesSpec.vars false W args.toList ds gs before) (hL : laidMetH Tryz.prog Rows.bindUsesRow.laid W) (hS : W.ShapedOpen Tryz.prog) :
    Calls Tryz.prog 3 args W fun e W' => ∃ v, e = .returned v ∧ Rows.bindUsesSpec.post enc Tryz.prog Tryz.f3 false true false false W args v W' := by
  letI : Known := ⟨False⟩
  have hW' := hW
  obtain ⟨p, q, hA, hV, hpq, _, _⟩ := hW
  have hg := ayn hL hS
  rw [Tryz.params3] at hA hval
  obtain ⟨v0, vs0, d0, ds0, p0, q0, hargs0, hds0, _, h0, r0⟩ := trodAll_cons hA
  obtain ⟨v1, vs1, d1, ds1, p1, q1, hargs1, hds1, _, h1, r1⟩ := trodAll_cons r0
  obtain ⟨v2, vs2, d2, ds2, p2, q2, hargs2, hds2, _, h2, r2⟩ := trodAll_cons r1
  obtain ⟨hvs, hdsn, _⟩ := trodAll_nil r2
  subst hvs hdsn
  subst hargs2 hds2
  subst hargs1 hds1
  have hargs' : args = #[v0, v1, v2] := by cases args; simp_all
  subst hargs'
  obtain ⟨a0, ha0⟩ := axv (s := ⟨W, fun b => b < W.heap.size⟩) (R := Rp.list Rp.str) (awu kr Tryz.underlying22 (atm kr Tryz.underlying9) (Nat.zero_lt_succ _)) rfl Tryz.underlying22 rfl (fun _ h => h) (hval 0 22 v0 rfl rfl) h0
  obtain ⟨a1, ha1⟩ := axv (s := ⟨W, fun b => b < W.heap.size⟩) (R := Rp.str) (atm kr Tryz.underlying9) rfl Tryz.underlying9 rfl (fun _ h => h) (hval 1 9 v1 rfl rfl) h1
  obtain ⟨a2, ha2⟩ := axv (s := ⟨W, fun b => b < W.heap.size⟩) (R := Rp.int .i64) (ay0 kr Tryz.underlying3) rfl Tryz.underlying3 rfl (fun _ h => h) (hval 2 3 v2 rfl rfl) h2
  have hc := aul (amy a0 a1 a2 true (aub a0 a1 a2)) hg (vs := [v0, v1, v2]) ⟨ha0, ha1, ha2, trivial⟩
  refine hc.mono fun e W' ⟨he, hb⟩ => ⟨_, he, ?_⟩
  exact az7 kids full hW' rfl Tryz.underlying4 rfl (by rw [hds0]; rfl) (by rw [Tryz.params3]; decide) hb
theorem laid_met (os : Os) : laidMet Tryz.prog Rows.bindUsesRow.laid ((aoj os).forCall (fun _ _ => 0) ⟨#[], #[.slice none 0 0, .string ⟨#[]⟩, .int .i64 0], []⟩).memory :=
  laidMet_of_run' 8 kr kr
theorem reads (os : Os) {H : Type} (enc : TypeId × Value → H) : ∃ abt, DataW.whole enc Tryz.prog ((aoj os).forCall (fun _ _ => 0) ⟨#[], #[.slice none 0 0, .string ⟨#[]⟩, .int .i64 0], []⟩).memory Tryz.f3.params.toList Rows.bindUsesSpec.vars false (#[.slice none 0 0, .string ⟨#[]⟩, .int .i64 0] : Array Value).toList 8 = some ([.nil, .lit (.string []), .lit (.int .i64 0)], [], abt) :=
  ⟨[], by kernel_rfl⟩
theorem lifted (os : Os) (started : os.Started) (H : Type) (enc : TypeId × Value → H) (F : Stop.Interp) :
    ReturnsInHanded {} Tryz.checked os 3 .any ((OpenSpec.ofChange Rows.bindUsesSpec).preRow enc Tryz.prog Tryz.f3 Rows.bindUsesRow.domain false Rows.bindUsesRow.laid) (((OpenSpec.ofChange Rows.bindUsesSpec).at F).post enc Tryz.prog Tryz.f3 false true false false) := by
  obtain ⟨abt, hx⟩ := reads os enc
  refine returnsInHanded_of_row (C := Tryz.checked) (s := OpenSpec.ofChange Rows.bindUsesSpec) own started kr Tryz.func3
    (witness_row_at (enc := enc) (C := Tryz.checked) false (aoj os) #[.slice none 0 0, .string ⟨#[]⟩, .int .i64 0] rfl kr kr kr
      (OpenSpec.preRow_of_cond 8 hx kr (fun k hk => by cases hk) kr (laid_met os))) ?_
  intro W base args ds gs before hval hW _ _ _ hL hS _
  exact contract H enc W base args ds gs before hval hW hL hS
theorem said : Rows.BindUsesSaid :=
  OpenClaim.holds_of_cond 3 Tryz.f3 rfl rfl rfl rfl rfl rfl rfl ⟨rfl, rfl, rfl, rfl, rfl⟩ rfl rfl rfl rfl rfl kr Tryz.func3 kr
    (of_decide_eq_true kr) (by unfold Func.isWrapper; first | (rw [if_pos (by decide +kernel)]; kernel_rfl) | (rw [if_neg (by decide +kernel)]; exact ⟨rfl, rfl⟩))
    (fun os started H enc _ F => by rw [OpenClaim.pre_eq_preRow]; exact lifted os started H enc F)
theorem plain (f : FuncId) (fn : Func) (hf : Tryz.pinned.checked.prog.funcNamed "concordat/concordatlaw17.BindUses" = some f) (hfn : Tryz.pinned.checked.prog.funcs[f]? = some fn) :
    true = Tryz.pinned.checked.prog.looks [] ∧ ∀ (j : Nat) t, fn.params[j]? = some t → Tryz.pinned.checked.prog.wantsStandIn t = false := by
  obtain rfl : f = 3 := Option.some.inj ((show Tryz.prog.funcNamed "concordat/concordatlaw17.BindUses" = some 3 by kernel_rfl).symm.trans hf) |>.symm
  obtain rfl : fn = Tryz.f3 := (Option.some.inj (Tryz.func3.symm.trans hfn)).symm
  refine ⟨by kernel_rfl, fun j t ht => ?_⟩
  rw [Tryz.params3] at ht
  have hm := Array.mem_of_getElem? ht
  simp at hm
  rcases hm with rfl | rfl | rfl
  · exact (show Tryz.prog.wantsStandIn 22 = false by kernel_rfl)
  · exact (show Tryz.prog.wantsStandIn 9 = false by kernel_rfl)
  · exact (show Tryz.prog.wantsStandIn 3 = false by kernel_rfl)
theorem card : Rows.BindUsesCardSaid :=
  Claim7.holds_tied_plain_at .later [] _ _ _ _ said (fun _ h => by cases h) kr (fun _ h => by cases h) bindUses_row_tie rfl ⟨rfl, rfl⟩ kr rfl plain kr
end Go.Proofs.YtcndghapmoaidaaGreatDoor.bindUses
