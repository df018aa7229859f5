/- x -/
import Derived.Test.YtchnmobojdcikaaGreatRows
import Derived.Test.YtchnmobojdcikaaGreatCAbC
import Derived.Test.YtchnmobojdcikaaGreatCVbr
import Derived.Test.YtchnmobojdcikaaGreatCPlC
namespace Go.Proofs.YtchnmobojdcikaaGreat
open Go Go.Ab Go.Wk Go.ChangeShapes Go.RowKit Go.Pl
theorem Tryz.own : ownKnob Tryz.prog.godebug = none := by kernel_rfl
theorem Tryz.laidOut : laidOutB Tryz.prog = true := by kernel_rfl
theorem c1 {P : Program} {t : TypeId} {ti : TypeInfo} {k : Nat} (h : P.info? t = some ti) (h2 : ti.size = k) : P.cellsOf t = k := by simp [Program.cellsOf, h, h2]
theorem yCS : RdT Tryz.prog 5 1 (IK .u8) VU := zYG Tryz.underlying5
theorem yCc : RdA Tryz.prog 22 (fun x => T.ro ((L 1 (IK .u8)) x)) (VL VU) := yCx Tryz.underlying22 (c1 (zM Tryz.type5) rfl) Nat.one_pos yCS
set_option maxRecDepth 100000 in
theorem lifted (os : Os) (started : os.Started) (H : Type) (enc : TypeId × Value → H) :
    ReturnsInHanded {} Tryz.checked os 14 .any (Rows.fnCoboundariesSpec.pre6 enc Tryz.prog Tryz.f14 Rows.fnCoboundariesRow.domain false) (Rows.fnCoboundariesSpec.post enc Tryz.prog Tryz.f14 false true false false) := by
  refine zNc (C := Tryz.checked) Tryz.own started (by kernel_rfl) Tryz.func14
    (ChangeSpec.witness6 (enc := enc) (C := Tryz.checked) false ⟨#[], #[.slice none 0 0], []⟩ 8 (by kernel_rfl) (by kernel_rfl) (by kernel_rfl) (by kernel_rfl))
    (fun l hl => ?_) rfl (by kernel_rfl) Tryz.underlying4 Tryz.laidOut (by kernel_rfl) ?_
  · rw [Tryz.params14] at hl
    match l, hl with
    | [a0], _ => exact ⟨rfl, rfl, rfl⟩
  · intro W base args ds p hval hA
    have hA' := hA
    rw [Tryz.params14] at hA' hval
    obtain ⟨v0, d0, rfl, rfl, ⟨n0, h0⟩⟩ := trodAll_one hA'
    obtain ⟨x0, g0, k0⟩ := yCc enc W base n0 v0 _ h0 (hval 0 _ v0 rfl rfl)
    refine ⟨_, rfl, (t_bQ.h x0).go (zD0 x0 g0), fun i u hu => ?_⟩
    match i, hu with
    | 0, hu => cases hu; exact k0 _ 0 rfl
    | i + 1, hu => simp at hu

theorem jA : Tryz.prog.mayEnter = true := by kernel_rfl
theorem jB : (Rows.fnCoboundariesRow.lifted == Tryz.prog.liftsFinal) = true := by kernel_rfl
theorem jC : (Tryz.prog.make == some Rows.fnCoboundariesRow.make) = true := by kernel_rfl
theorem jD : (Rows.fnCoboundariesRow.unfollowed == Tryz.prog.unfollowed 14) = true := by kernel_rfl
theorem jE : (Rows.fnCoboundariesRow.recurses == Tryz.prog.recurses 14) = true := by kernel_rfl
theorem jF : (Rows.fnCoboundariesRow.inPlace == Tryz.prog.inPlace 14) = true := by kernel_rfl
theorem jG : (Rows.fnCoboundariesRow.named == Tryz.prog.varsNamed 14) = true := by kernel_rfl
theorem jH : mapsRowed Tryz.prog = true := by kernel_rfl
theorem jI : Tryz.prog.stopsHeard = true := by kernel_rfl
theorem jJ : joinedFacts Tryz.prog 14 Tryz.f14 Rows.fnCoboundariesSpec Rows.fnCoboundariesRow = true := by
  unfold joinedFacts
  rw [jA, jB, jC, jD, jE, jF, jG, jH, jI, Tryz.laidOut]
  kernel_rfl
theorem jK : Tryz.prog.funcNamed Rows.fnCoboundariesRow.func = some 14 := by kernel_rfl
theorem jL : Tryz.f14.isInstance Tryz.prog Rows.fnCoboundariesRow.origin Rows.fnCoboundariesRow.targs := of_decide_eq_true (by kernel_rfl)
theorem jM : Tryz.f14.isWrapper Tryz.prog Rows.fnCoboundariesRow.wrapper Rows.fnCoboundariesRow.mainSum := by unfold Func.isWrapper; first | (rw [if_pos (by decide +kernel)]; kernel_rfl) | (rw [if_neg (by decide +kernel)]; exact ⟨rfl, rfl⟩)
theorem FnCoboundaries_holds : Rows.FnCoboundariesSaid :=
  OpenClaim.holds_of_wide 14 Tryz.f14 rfl rfl rfl rfl rfl rfl rfl ⟨rfl, rfl, rfl, rfl, rfl⟩ rfl rfl rfl rfl rfl jK Tryz.func14 jJ jL jM
    (fun os started H enc _ => lifted os started H enc)
end Go.Proofs.YtchnmobojdcikaaGreat
