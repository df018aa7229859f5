/- x -/
import Derived.Test.YtchnmobojdcikaaGreatRows
import Derived.Test.YtchnmobojdcikaaGreatQAbB
import Derived.Test.YtchnmobojdcikaaGreatQVbp
import Derived.Test.YtchnmobojdcikaaGreatQVbr
import Derived.Test.YtchnmobojdcikaaGreatQPlB
namespace Go.Proofs.YtchnmobojdcikaaGreat
open Go Go.Ab Go.Wk Go.ChangeShapes Go.RowKit Go.Pl
theorem Tryz.own : ownKnob Tryz.prog.godebug = none := by kernel_rfl
theorem Tryz.laidOut : laidOutB Tryz.prog = true := by kernel_rfl
theorem c1 {P : Program} {t : TypeId} {ti : TypeInfo} {k : Nat} (h : P.info? t = some ti) (h2 : ti.size = k) : P.cellsOf t = k := by simp [Program.cellsOf, h, h2]
theorem zWO : RdT Tryz.prog 5 1 (IK .u8) VU := zPZ Tryz.underlying5
theorem zQM : RdA Tryz.prog 22 (fun x => T.ro ((L 1 (IK .u8)) x)) (VL VU) := zXT Tryz.underlying22 (c1 (zL Tryz.type5) rfl) Nat.one_pos zWO
set_option maxRecDepth 100000 in
theorem lifted (os : Os) (started : os.Started) (H : Type) (enc : TypeId × Value → H) :
    ReturnsInHanded {} Tryz.checked os 9 .any (Rows.fnSubmodulesSpec.pre6 enc Tryz.prog Tryz.f9 Rows.fnSubmodulesRow.domain false) (Rows.fnSubmodulesSpec.post enc Tryz.prog Tryz.f9 false true false false) := by
  refine zGo (C := Tryz.checked) Tryz.own started (by kernel_rfl) Tryz.func9
    (ChangeSpec.witness6 (enc := enc) (C := Tryz.checked) false ⟨#[], #[.slice none 0 0], []⟩ 8 (by kernel_rfl) (by kernel_rfl) (by kernel_rfl) (by kernel_rfl))
    (fun l hl => ?_) rfl (by kernel_rfl) Tryz.underlying4 Tryz.laidOut (by kernel_rfl) ?_
  · rw [Tryz.params9] at hl
    match l, hl with
    | [a0], _ => exact ⟨rfl, rfl, rfl⟩
  · intro W base args ds p hval hA
    have hA' := hA
    rw [Tryz.params9] at hA' hval
    obtain ⟨v0, d0, rfl, rfl, ⟨n0, h0⟩⟩ := trodAll_one hA'
    obtain ⟨x0, g0, k0⟩ := zQM enc W base n0 v0 _ h0 (hval 0 _ v0 rfl rfl)
    refine ⟨_, rfl, (t_t.h x0).go (zD2 x0 g0), fun i u hu => ?_⟩
    match i, hu with
    | 0, hu => cases hu; exact k0 _ 0 rfl
    | i + 1, hu => simp at hu

theorem jA : Tryz.prog.mayEnter = true := by kernel_rfl
theorem jB : (Rows.fnSubmodulesRow.lifted == Tryz.prog.liftsFinal) = true := by kernel_rfl
theorem jC : (Tryz.prog.make == some Rows.fnSubmodulesRow.make) = true := by kernel_rfl
theorem jD : (Rows.fnSubmodulesRow.unfollowed == Tryz.prog.unfollowed 9) = true := by kernel_rfl
theorem jE : (Rows.fnSubmodulesRow.recurses == Tryz.prog.recurses 9) = true := by kernel_rfl
theorem jF : (Rows.fnSubmodulesRow.inPlace == Tryz.prog.inPlace 9) = true := by kernel_rfl
theorem jG : (Rows.fnSubmodulesRow.named == Tryz.prog.varsNamed 9) = true := by kernel_rfl
theorem jH : mapsRowed Tryz.prog = true := by kernel_rfl
theorem jI : Tryz.prog.stopsHeard = true := by kernel_rfl
theorem jJ : joinedFacts Tryz.prog 9 Tryz.f9 Rows.fnSubmodulesSpec Rows.fnSubmodulesRow = true := by
  unfold joinedFacts
  rw [jA, jB, jC, jD, jE, jF, jG, jH, jI, Tryz.laidOut]
  kernel_rfl
theorem jK : Tryz.prog.funcNamed Rows.fnSubmodulesRow.func = some 9 := by kernel_rfl
theorem jL : Tryz.f9.isInstance Tryz.prog Rows.fnSubmodulesRow.origin Rows.fnSubmodulesRow.targs := of_decide_eq_true (by kernel_rfl)
theorem jM : Tryz.f9.isWrapper Tryz.prog Rows.fnSubmodulesRow.wrapper Rows.fnSubmodulesRow.mainSum := by unfold Func.isWrapper; first | (rw [if_pos (by decide +kernel)]; kernel_rfl) | (rw [if_neg (by decide +kernel)]; exact ⟨rfl, rfl⟩)
theorem FnSubmodules_holds : Rows.FnSubmodulesSaid :=
  OpenClaim.holds_of_wide 9 Tryz.f9 rfl rfl rfl rfl rfl rfl rfl ⟨rfl, rfl, rfl, rfl, rfl⟩ rfl rfl rfl rfl rfl jK Tryz.func9 jJ jL jM
    (fun os started H enc _ => lifted os started H enc)
end Go.Proofs.YtchnmobojdcikaaGreat
