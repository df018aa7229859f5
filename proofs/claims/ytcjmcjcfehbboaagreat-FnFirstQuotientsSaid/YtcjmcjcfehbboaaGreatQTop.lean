/- x -/
import Derived.Test.YtcjmcjcfehbboaaGreatRows
import Derived.Test.YtcjmcjcfehbboaaGreatQAbC
import Derived.Test.YtcjmcjcfehbboaaGreatQVbp
import Derived.Test.YtcjmcjcfehbboaaGreatQPlC
namespace Go.Proofs.YtcjmcjcfehbboaaGreat
open Go Go.Ab Go.Wk Go.ChangeShapes Go.RowKit Go.Pl
theorem Tryz.own : ownKnob Tryz.prog.godebug = none := by kernel_rfl
theorem Tryz.laidOut : laidOutB Tryz.prog = true := by kernel_rfl
theorem c1 {P : Program} {t : TypeId} {ti : TypeInfo} {k : Nat} (h : P.info? t = some ti) (h2 : ti.size = k) : P.cellsOf t = k := by simp [Program.cellsOf, h, h2]
theorem yBM : RdT Tryz.prog 5 1 (IK .u8) VU := zXr Tryz.underlying5
theorem yAA : RdA Tryz.prog 22 (fun x => T.ro ((L 1 (IK .u8)) x)) (VL VU) := yBp Tryz.underlying22 (c1 (zP Tryz.type5) rfl) Nat.one_pos yBM
set_option maxRecDepth 100000 in
theorem lifted (os : Os) (started : os.Started) (H : Type) (enc : TypeId × Value → H) :
    ReturnsInHanded {} Tryz.checked os 3 .any (Rows.fnFirstQuotientsSpec.pre6 enc Tryz.prog Tryz.f3 Rows.fnFirstQuotientsRow.domain false) (Rows.fnFirstQuotientsSpec.post enc Tryz.prog Tryz.f3 false true false false) := by
  refine zMd (C := Tryz.checked) Tryz.own started (by kernel_rfl) Tryz.func3
    (ChangeSpec.witness6 (enc := enc) (C := Tryz.checked) false ⟨#[], #[.slice none 0 0], []⟩ 8 (by kernel_rfl) (by kernel_rfl) (by kernel_rfl) (by kernel_rfl))
    (fun l hl => ?_) rfl (by kernel_rfl) Tryz.underlying4 Tryz.laidOut (by kernel_rfl) ?_
  · rw [Tryz.params3] at hl
    match l, hl with
    | [a0], _ => exact ⟨rfl, rfl, rfl⟩
  · intro W base args ds p hval hA
    have hA' := hA
    rw [Tryz.params3] at hA' hval
    obtain ⟨v0, d0, rfl, rfl, ⟨n0, h0⟩⟩ := trodAll_one hA'
    obtain ⟨x0, g0, k0⟩ := yAA enc W base n0 v0 _ h0 (hval 0 _ v0 rfl rfl)
    refine ⟨_, rfl, (t_t.h x0).go (zCn x0 g0), fun i u hu => ?_⟩
    match i, hu with
    | 0, hu => cases hu; exact k0 _ 0 rfl
    | i + 1, hu => simp at hu

theorem jA : Tryz.prog.mayEnter = true := by kernel_rfl
theorem jB : (Rows.fnFirstQuotientsRow.lifted == Tryz.prog.liftsFinal) = true := by kernel_rfl
theorem jC : (Tryz.prog.make == some Rows.fnFirstQuotientsRow.make) = true := by kernel_rfl
theorem jD : (Rows.fnFirstQuotientsRow.unfollowed == Tryz.prog.unfollowed 3) = true := by kernel_rfl
theorem jE : (Rows.fnFirstQuotientsRow.recurses == Tryz.prog.recurses 3) = true := by kernel_rfl
theorem jF : (Rows.fnFirstQuotientsRow.inPlace == Tryz.prog.inPlace 3) = true := by kernel_rfl
theorem jG : (Rows.fnFirstQuotientsRow.named == Tryz.prog.varsNamed 3) = true := by kernel_rfl
theorem jH : mapsRowed Tryz.prog = true := by kernel_rfl
theorem jI : Tryz.prog.stopsHeard = true := by kernel_rfl
theorem jJ : joinedFacts Tryz.prog 3 Tryz.f3 Rows.fnFirstQuotientsSpec Rows.fnFirstQuotientsRow = true := by
  unfold joinedFacts
  rw [jA, jB, jC, jD, jE, jF, jG, jH, jI, Tryz.laidOut]
  kernel_rfl
theorem jK : Tryz.prog.funcNamed Rows.fnFirstQuotientsRow.func = some 3 := by kernel_rfl
theorem jL : Tryz.f3.isInstance Tryz.prog Rows.fnFirstQuotientsRow.origin Rows.fnFirstQuotientsRow.targs := of_decide_eq_true (by kernel_rfl)
theorem jM : Tryz.f3.isWrapper Tryz.prog Rows.fnFirstQuotientsRow.wrapper Rows.fnFirstQuotientsRow.mainSum := by unfold Func.isWrapper; first | (rw [if_pos (by decide +kernel)]; kernel_rfl) | (rw [if_neg (by decide +kernel)]; exact ⟨rfl, rfl⟩)
theorem FnFirstQuotients_holds : Rows.FnFirstQuotientsSaid :=
  OpenClaim.holds_of_wide 3 Tryz.f3 rfl rfl rfl rfl rfl rfl rfl ⟨rfl, rfl, rfl, rfl, rfl⟩ rfl rfl rfl rfl rfl jK Tryz.func3 jJ jL jM
    (fun os started H enc _ => lifted os started H enc)
end Go.Proofs.YtcjmcjcfehbboaaGreat
