/- x -/
import Derived.Test.YtmgckbgmmpemgaaGreatRows
import Derived.Test.YtmgckbgmmpemgaaGreatSAbC
import Derived.Test.YtmgckbgmmpemgaaGreatSVbn
import Derived.Test.YtmgckbgmmpemgaaGreatSPlB
namespace Go.Proofs.YtmgckbgmmpemgaaGreat
open Go Go.Ab Go.Wk Go.ChangeShapes Go.RowKit Go.Pl
theorem Tryz.own : ownKnob Tryz.prog.godebug = none := by kernel_rfl
theorem Tryz.laidOut : laidOutB Tryz.prog = true := by kernel_rfl
theorem c1 {P : Program} {t : TypeId} {ti : TypeInfo} {k : Nat} (h : P.info? t = some ti) (h2 : ti.size = k) : P.cellsOf t = k := by simp [Program.cellsOf, h, h2]
theorem zW2 : RdT Tryz.prog 2 1 I VI := zTV Tryz.underlying2
theorem zW3 : RdC Tryz.prog 22 (fun x => T.ro ((L 1 I) x)) (VL VI) := zTY Tryz.underlying22 (c1 (zU Tryz.type2) rfl) Nat.one_pos zW2
theorem zT4 : RdT Tryz.prog 22 1 (L 1 I) (VL VI) := zTW Tryz.underlying22 (c1 (zU Tryz.type2) rfl) Nat.one_pos zW2
theorem zW4 : RdC Tryz.prog 23 (fun x => T.ro ((L 1 (L 1 I)) x)) (VL (VL VI)) := zTY Tryz.underlying23 (c1 (zU Tryz.type22) rfl) Nat.one_pos zT4
theorem zW5 : RdT Tryz.prog 23 1 (L 1 (L 1 I)) (VL (VL VI)) := zTW Tryz.underlying23 (c1 (zU Tryz.type22) rfl) Nat.one_pos zT4
theorem zT5 : RdC Tryz.prog 24 (fun x => T.ro ((L 1 (L 1 (L 1 I))) x)) (VL (VL (VL VI))) := zTY Tryz.underlying24 (c1 (zU Tryz.type23) rfl) Nat.one_pos zW5
theorem zW6 : RdA Tryz.prog 26 (fun x : SPr => T.agg [T.ro ((L 1 I) x.zF), T.ro ((L 1 (L 1 I)) x.yV), T.ro ((L 1 (L 1 (L 1 I))) x.zJ)]) zMN :=
  zTk SPr.mk Tryz.underlying26 (c1 (zU Tryz.type26) rfl) ⟨rfl, (c1 (zU Tryz.type22) rfl)⟩ ⟨rfl, (c1 (zU Tryz.type23) rfl)⟩ ⟨rfl, (c1 (zU Tryz.type24) rfl)⟩ zW3 zW4 zT5 (fun _ _ _ => rfl) fun _ _ _ h1 h2 h3 => ⟨h1, h2, h3⟩
theorem zW7 : RdC Tryz.prog 2 I VI := zTX Tryz.underlying2
theorem zW8 : RdA Tryz.prog 28 (fun x : zS => T.agg [I x.Prime, I x.Dim, T.ro ((L 1 (L 1 (L 1 I))) x.zP)]) zRG :=
  zTk zS.mk Tryz.underlying28 (c1 (zU Tryz.type28) rfl) ⟨rfl, (c1 (zU Tryz.type2) rfl)⟩ ⟨rfl, (c1 (zU Tryz.type2) rfl)⟩ ⟨rfl, (c1 (zU Tryz.type24) rfl)⟩ zW7 zW7 zT5 (fun _ _ _ => rfl) fun _ _ _ h1 h2 h3 => ⟨h1, h2, h3⟩
set_option maxRecDepth 100000 in
theorem lifted (os : Os) (started : os.Started) (H : Type) (enc : TypeId × Value → H) :
    ReturnsInHanded {} Tryz.checked os 3 .any (Rows.fnExactAllSubmodulesSpec.pre6 enc Tryz.prog Tryz.f3 Rows.fnExactAllSubmodulesRow.domain false) (Rows.fnExactAllSubmodulesSpec.post enc Tryz.prog Tryz.f3 false true false false) := by
  refine zLi (C := Tryz.checked) Tryz.own started (by kernel_rfl) Tryz.func3
    (ChangeSpec.witness6 (enc := enc) (C := Tryz.checked) false ⟨#[], #[.agg #[.slice none 0 0, .slice none 0 0, .slice none 0 0], .agg #[.int .i64 0, .int .i64 0, .slice none 0 0]], []⟩ 8 (by kernel_rfl) (by kernel_rfl) (by kernel_rfl) (by kernel_rfl))
    (fun l hl => ?_) rfl (by kernel_rfl) Tryz.underlying4 Tryz.laidOut (by kernel_rfl) ?_
  · rw [Tryz.params3] at hl
    match l, hl with
    | [a0, a1], _ => exact ⟨rfl, rfl, rfl⟩
  · intro W base args ds p hval hA
    have hA' := hA
    rw [Tryz.params3] at hA' hval
    obtain ⟨v0, v1, d0, d1, p0, p1, rfl, rfl, rfl, ⟨n0, h0⟩, ⟨n1, h1⟩⟩ := trodAll_two hA'
    obtain ⟨x0, g0, k0⟩ := zW6 enc W base n0 v0 _ h0 (hval 0 _ v0 rfl rfl)
    obtain ⟨x1, g1, k1⟩ := zW8 enc W base n1 v1 _ h1 (hval 1 _ v1 rfl rfl)
    refine ⟨_, rfl, (t_aX.h x0 x1).go (zDy x0 x1 g0 g1), fun i u hu => ?_⟩
    match i, hu with
    | 0, hu => cases hu; exact k0 _ 0 rfl
    | 1, hu => cases hu; exact k1 _ 1 rfl
    | i + 2, hu => simp at hu

theorem jA : Tryz.prog.mayEnter = true := by kernel_rfl
theorem jB : (Rows.fnExactAllSubmodulesRow.lifted == Tryz.prog.liftsFinal) = true := by kernel_rfl
theorem jC : (Tryz.prog.make == some Rows.fnExactAllSubmodulesRow.make) = true := by kernel_rfl
theorem jD : (Rows.fnExactAllSubmodulesRow.unfollowed == Tryz.prog.unfollowed 3) = true := by kernel_rfl
theorem jE : (Rows.fnExactAllSubmodulesRow.recurses == Tryz.prog.recurses 3) = true := by kernel_rfl
theorem jF : (Rows.fnExactAllSubmodulesRow.inPlace == Tryz.prog.inPlace 3) = true := by kernel_rfl
theorem jG : (Rows.fnExactAllSubmodulesRow.named == Tryz.prog.varsNamed 3) = true := by kernel_rfl
theorem jH : mapsRowed Tryz.prog = true := by kernel_rfl
theorem jI : Tryz.prog.stopsHeard = true := by kernel_rfl
theorem jJ : joinedFacts Tryz.prog 3 Tryz.f3 Rows.fnExactAllSubmodulesSpec Rows.fnExactAllSubmodulesRow = true := by
  unfold joinedFacts
  rw [jA, jB, jC, jD, jE, jF, jG, jH, jI, Tryz.laidOut]
  kernel_rfl
theorem jK : Tryz.prog.funcNamed Rows.fnExactAllSubmodulesRow.func = some 3 := by kernel_rfl
theorem jL : Tryz.f3.isInstance Tryz.prog Rows.fnExactAllSubmodulesRow.origin Rows.fnExactAllSubmodulesRow.targs := of_decide_eq_true (by kernel_rfl)
theorem jM : Tryz.f3.isWrapper Tryz.prog Rows.fnExactAllSubmodulesRow.wrapper Rows.fnExactAllSubmodulesRow.mainSum := by unfold Func.isWrapper; first | (rw [if_pos (by decide +kernel)]; kernel_rfl) | (rw [if_neg (by decide +kernel)]; exact ⟨rfl, rfl⟩)
theorem FnExactAllSubmodules_holds : Rows.FnExactAllSubmodulesSaid :=
  OpenClaim.holds_of_wide 3 Tryz.f3 rfl rfl rfl rfl rfl rfl rfl ⟨rfl, rfl, rfl, rfl, rfl⟩ rfl rfl rfl rfl rfl jK Tryz.func3 jJ jL jM
    (fun os started H enc _ => lifted os started H enc)
end Go.Proofs.YtmgckbgmmpemgaaGreat
