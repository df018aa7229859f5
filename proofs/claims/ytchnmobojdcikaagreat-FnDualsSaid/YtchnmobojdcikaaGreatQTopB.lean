/- x -/
import Derived.Test.YtchnmobojdcikaaGreatRows
import Derived.Test.YtchnmobojdcikaaGreatQAbB
import Derived.Test.YtchnmobojdcikaaGreatQVbp
import Derived.Test.YtchnmobojdcikaaGreatQVbr
import Derived.Test.YtchnmobojdcikaaGreatQPlC
namespace Go.Proofs.YtchnmobojdcikaaGreat
open Go Go.Ab Go.Wk Go.ChangeShapes Go.RowKit Go.Pl
theorem Tryz.own : ownKnob Tryz.prog.godebug = none := by kernel_rfl
theorem Tryz.laidOut : laidOutB Tryz.prog = true := by kernel_rfl
theorem c1 {P : Program} {t : TypeId} {ti : TypeInfo} {k : Nat} (h : P.info? t = some ti) (h2 : ti.size = k) : P.cellsOf t = k := by simp [Program.cellsOf, h, h2]
theorem zWO : RdT Tryz.prog 5 1 (IK .u8) VU := zPZ Tryz.underlying5
theorem zQM : RdA Tryz.prog 22 (fun x => T.ro ((L 1 (IK .u8)) x)) (VL VU) := zXT Tryz.underlying22 (c1 (zL Tryz.type5) rfl) Nat.one_pos zWO
set_option maxRecDepth 100000 in
theorem lifted (os : Os) (started : os.Started) (H : Type) (enc : TypeId × Value → H) :
    ReturnsInHanded {} Tryz.checked os 7 .any (Rows.fnDualsSpec.pre6 enc Tryz.prog Tryz.f7 Rows.fnDualsRow.domain false) (Rows.fnDualsSpec.post enc Tryz.prog Tryz.f7 false true false false) := by
  refine zGo (C := Tryz.checked) Tryz.own started (by kernel_rfl) Tryz.func7
    (ChangeSpec.witness6 (enc := enc) (C := Tryz.checked) false ⟨#[], #[.slice none 0 0], []⟩ 8 (by kernel_rfl) (by kernel_rfl) (by kernel_rfl) (by kernel_rfl))
    (fun l hl => ?_) rfl (by kernel_rfl) Tryz.underlying4 Tryz.laidOut (by kernel_rfl) ?_
  · rw [Tryz.params7] at hl
    match l, hl with
    | [a0], _ => exact ⟨rfl, rfl, rfl⟩
  · intro W base args ds p hval hA
    have hA' := hA
    rw [Tryz.params7] at hA' hval
    obtain ⟨v0, d0, rfl, rfl, ⟨n0, h0⟩⟩ := trodAll_one hA'
    obtain ⟨x0, g0, k0⟩ := zQM enc W base n0 v0 _ h0 (hval 0 _ v0 rfl rfl)
    refine ⟨_, rfl, (t_bK.h x0).go (zHp x0 g0), fun i u hu => ?_⟩
    match i, hu with
    | 0, hu => cases hu; exact k0 _ 0 rfl
    | i + 1, hu => simp at hu

theorem jA : Tryz.prog.mayEnter = true := by kernel_rfl
theorem jB : (Rows.fnDualsRow.lifted == Tryz.prog.liftsFinal) = true := by kernel_rfl
theorem jC : (Tryz.prog.make == some Rows.fnDualsRow.make) = true := by kernel_rfl
theorem jD : (Rows.fnDualsRow.unfollowed == Tryz.prog.unfollowed 7) = true := by kernel_rfl
theorem jE : (Rows.fnDualsRow.recurses == Tryz.prog.recurses 7) = true := by kernel_rfl
theorem jF : (Rows.fnDualsRow.inPlace == Tryz.prog.inPlace 7) = true := by kernel_rfl
theorem jG : (Rows.fnDualsRow.named == Tryz.prog.varsNamed 7) = true := by kernel_rfl
theorem jH : mapsRowed Tryz.prog = true := by kernel_rfl
theorem jI : Tryz.prog.stopsHeard = true := by kernel_rfl
theorem jJ : joinedFacts Tryz.prog 7 Tryz.f7 Rows.fnDualsSpec Rows.fnDualsRow = true := by
  unfold joinedFacts
  rw [jA, jB, jC, jD, jE, jF, jG, jH, jI, Tryz.laidOut]
  kernel_rfl
theorem jK : Tryz.prog.funcNamed Rows.fnDualsRow.func = some 7 := by kernel_rfl
theorem jL : Tryz.f7.isInstance Tryz.prog Rows.fnDualsRow.origin Rows.fnDualsRow.targs := of_decide_eq_true (by kernel_rfl)
theorem jM : Tryz.f7.isWrapper Tryz.prog Rows.fnDualsRow.wrapper Rows.fnDualsRow.mainSum := by unfold Func.isWrapper; first | (rw [if_pos (by decide +kernel)]; kernel_rfl) | (rw [if_neg (by decide +kernel)]; exact ⟨rfl, rfl⟩)
theorem FnDuals_holds : Rows.FnDualsSaid :=
  OpenClaim.holds_of_wide 7 Tryz.f7 rfl rfl rfl rfl rfl rfl rfl ⟨rfl, rfl, rfl, rfl, rfl⟩ rfl rfl rfl rfl rfl jK Tryz.func7 jJ jL jM
    (fun os started H enc _ => lifted os started H enc)
end Go.Proofs.YtchnmobojdcikaaGreat
