/- x -/
import Derived.Test.YtchnmobojdcikaaGreatRows
import Derived.Test.YtchnmobojdcikaaGreatKAbB
import Derived.Test.YtchnmobojdcikaaGreatKVay
import Derived.Test.YtchnmobojdcikaaGreatKVaz
import Derived.Test.YtchnmobojdcikaaGreatKPlC
namespace Go.Proofs.YtchnmobojdcikaaGreat
open Go Go.Ab Go.Wk Go.ChangeShapes Go.RowKit Go.Pl
theorem Tryz.own : ownKnob Tryz.prog.godebug = none := by kernel_rfl
theorem Tryz.laidOut : laidOutB Tryz.prog = true := by kernel_rfl
theorem c1 {P : Program} {t : TypeId} {ti : TypeInfo} {k : Nat} (h : P.info? t = some ti) (h2 : ti.size = k) : P.cellsOf t = k := by simp [Program.cellsOf, h, h2]
theorem yAG : RdT Tryz.prog 5 1 (IK .u8) VU := zSD Tryz.underlying5
theorem zUc : RdA Tryz.prog 22 (fun x => T.ro ((L 1 (IK .u8)) x)) (VL VU) := yBM Tryz.underlying22 (c1 (zO Tryz.type5) rfl) Nat.one_pos yAG
set_option maxRecDepth 100000 in
theorem lifted (os : Os) (started : os.Started) (H : Type) (enc : TypeId × Value → H) :
    ReturnsInHanded {} Tryz.checked os 11 .any (Rows.fnCocyclesSpec.pre6 enc Tryz.prog Tryz.f11 Rows.fnCocyclesRow.domain false) (Rows.fnCocyclesSpec.post enc Tryz.prog Tryz.f11 false true false false) := by
  refine zHC (C := Tryz.checked) Tryz.own started (by kernel_rfl) Tryz.func11
    (ChangeSpec.witness6 (enc := enc) (C := Tryz.checked) false ⟨#[], #[.slice none 0 0], []⟩ 8 (by kernel_rfl) (by kernel_rfl) (by kernel_rfl) (by kernel_rfl))
    (fun l hl => ?_) rfl (by kernel_rfl) Tryz.underlying4 Tryz.laidOut (by kernel_rfl) ?_
  · rw [Tryz.params11] at hl
    match l, hl with
    | [a0], _ => exact ⟨rfl, rfl, rfl⟩
  · intro W base args ds p hval hA
    have hA' := hA
    rw [Tryz.params11] at hA' hval
    obtain ⟨v0, d0, rfl, rfl, ⟨n0, h0⟩⟩ := trodAll_one hA'
    obtain ⟨x0, g0, k0⟩ := zUc enc W base n0 v0 _ h0 (hval 0 _ v0 rfl rfl)
    refine ⟨_, rfl, (t_bS.h x0).go (zGk x0 g0), fun i u hu => ?_⟩
    match i, hu with
    | 0, hu => cases hu; exact k0 _ 0 rfl
    | i + 1, hu => simp at hu

theorem jA : Tryz.prog.mayEnter = true := by kernel_rfl
theorem jB : (Rows.fnCocyclesRow.lifted == Tryz.prog.liftsFinal) = true := by kernel_rfl
theorem jC : (Tryz.prog.make == some Rows.fnCocyclesRow.make) = true := by kernel_rfl
theorem jD : (Rows.fnCocyclesRow.unfollowed == Tryz.prog.unfollowed 11) = true := by kernel_rfl
theorem jE : (Rows.fnCocyclesRow.recurses == Tryz.prog.recurses 11) = true := by kernel_rfl
theorem jF : (Rows.fnCocyclesRow.inPlace == Tryz.prog.inPlace 11) = true := by kernel_rfl
theorem jG : (Rows.fnCocyclesRow.named == Tryz.prog.varsNamed 11) = true := by kernel_rfl
theorem jH : mapsRowed Tryz.prog = true := by kernel_rfl
theorem jI : Tryz.prog.stopsHeard = true := by kernel_rfl
theorem jJ : joinedFacts Tryz.prog 11 Tryz.f11 Rows.fnCocyclesSpec Rows.fnCocyclesRow = true := by
  unfold joinedFacts
  rw [jA, jB, jC, jD, jE, jF, jG, jH, jI, Tryz.laidOut]
  kernel_rfl
theorem jK : Tryz.prog.funcNamed Rows.fnCocyclesRow.func = some 11 := by kernel_rfl
theorem jL : Tryz.f11.isInstance Tryz.prog Rows.fnCocyclesRow.origin Rows.fnCocyclesRow.targs := of_decide_eq_true (by kernel_rfl)
theorem jM : Tryz.f11.isWrapper Tryz.prog Rows.fnCocyclesRow.wrapper Rows.fnCocyclesRow.mainSum := by unfold Func.isWrapper; first | (rw [if_pos (by decide +kernel)]; kernel_rfl) | (rw [if_neg (by decide +kernel)]; exact ⟨rfl, rfl⟩)
theorem FnCocycles_holds : Rows.FnCocyclesSaid :=
  OpenClaim.holds_of_wide 11 Tryz.f11 rfl rfl rfl rfl rfl rfl rfl ⟨rfl, rfl, rfl, rfl, rfl⟩ rfl rfl rfl rfl rfl jK Tryz.func11 jJ jL jM
    (fun os started H enc _ => lifted os started H enc)
end Go.Proofs.YtchnmobojdcikaaGreat
