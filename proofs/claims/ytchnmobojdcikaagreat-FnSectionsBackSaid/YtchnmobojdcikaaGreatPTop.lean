/- x -/
import Derived.Test.YtchnmobojdcikaaGreatRows
import Derived.Test.YtchnmobojdcikaaGreatPAbB
import Derived.Test.YtchnmobojdcikaaGreatPVbn
import Derived.Test.YtchnmobojdcikaaGreatPPlB
namespace Go.Proofs.YtchnmobojdcikaaGreat
open Go Go.Ab Go.Wk Go.ChangeShapes Go.RowKit Go.Pl
theorem Tryz.own : ownKnob Tryz.prog.godebug = none := by kernel_rfl
theorem Tryz.laidOut : laidOutB Tryz.prog = true := by kernel_rfl
theorem c1 {P : Program} {t : TypeId} {ti : TypeInfo} {k : Nat} (h : P.info? t = some ti) (h2 : ti.size = k) : P.cellsOf t = k := by simp [Program.cellsOf, h, h2]
theorem zXo : RdT Tryz.prog 5 1 (IK .u8) VU := zTx Tryz.underlying5
theorem zWw : RdA Tryz.prog 22 (fun x => T.ro ((L 1 (IK .u8)) x)) (VL VU) := zWM Tryz.underlying22 (c1 (zI Tryz.type5) rfl) Nat.one_pos zXo
set_option maxRecDepth 100000 in
theorem lifted (os : Os) (started : os.Started) (H : Type) (enc : TypeId × Value → H) :
    ReturnsInHanded {} Tryz.checked os 4 .any (Rows.fnSectionsBackSpec.pre6 enc Tryz.prog Tryz.f4 Rows.fnSectionsBackRow.domain false) (Rows.fnSectionsBackSpec.post enc Tryz.prog Tryz.f4 false true false false) := by
  refine zJH (C := Tryz.checked) Tryz.own started (by kernel_rfl) Tryz.func4
    (ChangeSpec.witness6 (enc := enc) (C := Tryz.checked) false ⟨#[], #[.slice none 0 0], []⟩ 8 (by kernel_rfl) (by kernel_rfl) (by kernel_rfl) (by kernel_rfl))
    (fun l hl => ?_) rfl (by kernel_rfl) Tryz.underlying4 Tryz.laidOut (by kernel_rfl) ?_
  · rw [Tryz.params4] at hl
    match l, hl with
    | [a0], _ => exact ⟨rfl, rfl, rfl⟩
  · intro W base args ds p hval hA
    have hA' := hA
    rw [Tryz.params4] at hA' hval
    obtain ⟨v0, d0, rfl, rfl, ⟨n0, h0⟩⟩ := trodAll_one hA'
    obtain ⟨x0, g0, k0⟩ := zWw enc W base n0 v0 _ h0 (hval 0 _ v0 rfl rfl)
    refine ⟨_, rfl, (t_bm.h x0).go (zCb x0 g0), fun i u hu => ?_⟩
    match i, hu with
    | 0, hu => cases hu; exact k0 _ 0 rfl
    | i + 1, hu => simp at hu

theorem jA : Tryz.prog.mayEnter = true := by kernel_rfl
theorem jB : (Rows.fnSectionsBackRow.lifted == Tryz.prog.liftsFinal) = true := by kernel_rfl
theorem jC : (Tryz.prog.make == some Rows.fnSectionsBackRow.make) = true := by kernel_rfl
theorem jD : (Rows.fnSectionsBackRow.unfollowed == Tryz.prog.unfollowed 4) = true := by kernel_rfl
theorem jE : (Rows.fnSectionsBackRow.recurses == Tryz.prog.recurses 4) = true := by kernel_rfl
theorem jF : (Rows.fnSectionsBackRow.inPlace == Tryz.prog.inPlace 4) = true := by kernel_rfl
theorem jG : (Rows.fnSectionsBackRow.named == Tryz.prog.varsNamed 4) = true := by kernel_rfl
theorem jH : mapsRowed Tryz.prog = true := by kernel_rfl
theorem jI : Tryz.prog.stopsHeard = true := by kernel_rfl
theorem jJ : joinedFacts Tryz.prog 4 Tryz.f4 Rows.fnSectionsBackSpec Rows.fnSectionsBackRow = true := by
  unfold joinedFacts
  rw [jA, jB, jC, jD, jE, jF, jG, jH, jI, Tryz.laidOut]
  kernel_rfl
theorem jK : Tryz.prog.funcNamed Rows.fnSectionsBackRow.func = some 4 := by kernel_rfl
theorem jL : Tryz.f4.isInstance Tryz.prog Rows.fnSectionsBackRow.origin Rows.fnSectionsBackRow.targs := of_decide_eq_true (by kernel_rfl)
theorem jM : Tryz.f4.isWrapper Tryz.prog Rows.fnSectionsBackRow.wrapper Rows.fnSectionsBackRow.mainSum := by unfold Func.isWrapper; first | (rw [if_pos (by decide +kernel)]; kernel_rfl) | (rw [if_neg (by decide +kernel)]; exact ⟨rfl, rfl⟩)
theorem FnSectionsBack_holds : Rows.FnSectionsBackSaid :=
  OpenClaim.holds_of_wide 4 Tryz.f4 rfl rfl rfl rfl rfl rfl rfl ⟨rfl, rfl, rfl, rfl, rfl⟩ rfl rfl rfl rfl rfl jK Tryz.func4 jJ jL jM
    (fun os started H enc _ => lifted os started H enc)
end Go.Proofs.YtchnmobojdcikaaGreat
