/- The program's StandardPresentation returns what the reference's returns, for all arguments; no conditions. -/
import Derived.Test.YtimahceaenahkaaRows
import Derived.Test.YtimahceaenahkaaSAbB
import Derived.Test.YtimahceaenahkaaSVbj
import Derived.Test.YtimahceaenahkaaSPlB
namespace Go.Proofs.Ytimahceaenahkaa
open Go Go.Ab Go.Wk Go.ChangeShapes Go.RowKit Go.Pl
theorem Try.own : ownKnob Try.prog.godebug = none := by kernel_rfl
theorem Try.laidOut : laidOutB Try.prog = true := by kernel_rfl
theorem c1 {P : Program} {t : TypeId} {ti : TypeInfo} {k : Nat} (h : P.info? t = some ti) (h2 : ti.size = k) : P.cellsOf t = k := by simp [Program.cellsOf, h, h2]
theorem zQC : RdT Try.prog 2 1 I VI := zOh Try.underlying2
theorem zQD : RdC Try.prog 22 (fun x => T.ro ((L 1 I) x)) (VL VI) := zOj Try.underlying22 (c1 (zI Try.type2) rfl) Nat.one_pos zQC
theorem zNO : RdT Try.prog 22 1 (L 1 I) (VL VI) := zOi Try.underlying22 (c1 (zI Try.type2) rfl) Nat.one_pos zQC
theorem zQE : RdC Try.prog 23 (fun x => T.ro ((L 1 (L 1 I)) x)) (VL (VL VI)) := zOj Try.underlying23 (c1 (zI Try.type22) rfl) Nat.one_pos zNO
theorem zQF : RdT Try.prog 23 1 (L 1 (L 1 I)) (VL (VL VI)) := zOi Try.underlying23 (c1 (zI Try.type22) rfl) Nat.one_pos zNO
theorem zQG : RdC Try.prog 24 (fun x => T.ro ((L 1 (L 1 (L 1 I))) x)) (VL (VL (VL VI))) := zOj Try.underlying24 (c1 (zI Try.type23) rfl) Nat.one_pos zQF
theorem zQH : RdA Try.prog 26 (fun x : SPr => T.agg [T.ro ((L 1 I) x.zA), T.ro ((L 1 (L 1 I)) x.zV), T.ro ((L 1 (L 1 (L 1 I))) x.zB)]) zIs :=
  zP8 SPr.mk Try.underlying26 (c1 (zI Try.type26) rfl) ⟨rfl, (c1 (zI Try.type22) rfl)⟩ ⟨rfl, (c1 (zI Try.type23) rfl)⟩ ⟨rfl, (c1 (zI Try.type24) rfl)⟩ zQD zQE zQG (fun _ _ _ => rfl) fun _ _ _ h1 h2 h3 => ⟨h1, h2, h3⟩
set_option maxRecDepth 100000 in
theorem lifted (os : Os) (started : os.Started) (H : Type) (enc : TypeId × Value → H) :
    ReturnsInHanded {} Try.checked os 3 .any (Rows.fnExactStandardPresentationSpec.pre6 enc Try.prog Try.f3 Rows.fnExactStandardPresentationRow.domain false) (Rows.fnExactStandardPresentationSpec.post enc Try.prog Try.f3 false true false false) := by
  refine zGW (C := Try.checked) Try.own started (by kernel_rfl) Try.func3
    (ChangeSpec.witness6 (enc := enc) (C := Try.checked) false ⟨#[], #[.agg #[.slice none 0 0, .slice none 0 0, .slice none 0 0]], []⟩ 8 (by kernel_rfl) (by kernel_rfl) (by kernel_rfl) (by kernel_rfl))
    (fun l hl => ?_) rfl (by kernel_rfl) Try.underlying4 Try.laidOut (by kernel_rfl) ?_
  · rw [Try.params3] at hl
    match l, hl with
    | [a0], _ => exact ⟨rfl, rfl, rfl⟩
  · intro W base args ds p hval hA
    have hA' := hA
    rw [Try.params3] at hA' hval
    obtain ⟨v0, d0, rfl, rfl, ⟨n0, h0⟩⟩ := trodAll_one hA'
    obtain ⟨x0, g0, k0⟩ := zQH enc W base n0 v0 _ h0 (hval 0 _ v0 rfl rfl)
    refine ⟨_, rfl, (t_az.h x0).go (tY x0 g0), fun i u hu => ?_⟩
    match i, hu with
    | 0, hu => cases hu; exact k0 _ 0 rfl
    | i + 1, hu => simp at hu

theorem jA : Try.prog.mayEnter = true := by kernel_rfl
theorem jB : (Rows.fnExactStandardPresentationRow.lifted == Try.prog.liftsFinal) = true := by kernel_rfl
theorem jC : (Try.prog.make == some Rows.fnExactStandardPresentationRow.make) = true := by kernel_rfl
theorem jD : (Rows.fnExactStandardPresentationRow.unfollowed == Try.prog.unfollowed 3) = true := by kernel_rfl
theorem jE : (Rows.fnExactStandardPresentationRow.recurses == Try.prog.recurses 3) = true := by kernel_rfl
theorem jF : (Rows.fnExactStandardPresentationRow.inPlace == Try.prog.inPlace 3) = true := by kernel_rfl
theorem jG : (Rows.fnExactStandardPresentationRow.named == Try.prog.varsNamed 3) = true := by kernel_rfl
theorem jH : mapsRowed Try.prog = true := by kernel_rfl
theorem jI : Try.prog.stopsHeard = true := by kernel_rfl
theorem jJ : joinedFacts Try.prog 3 Try.f3 Rows.fnExactStandardPresentationSpec Rows.fnExactStandardPresentationRow = true := by
  unfold joinedFacts
  rw [jA, jB, jC, jD, jE, jF, jG, jH, jI, Try.laidOut]
  kernel_rfl
theorem jK : Try.prog.funcNamed Rows.fnExactStandardPresentationRow.func = some 3 := by kernel_rfl
theorem jL : Try.f3.isInstance Try.prog Rows.fnExactStandardPresentationRow.origin Rows.fnExactStandardPresentationRow.targs := of_decide_eq_true (by kernel_rfl)
theorem jM : Try.f3.isWrapper Try.prog Rows.fnExactStandardPresentationRow.wrapper Rows.fnExactStandardPresentationRow.mainSum := by unfold Func.isWrapper; first | (rw [if_pos (by decide +kernel)]; kernel_rfl) | (rw [if_neg (by decide +kernel)]; exact ⟨rfl, rfl⟩)
theorem FnExactStandardPresentation_holds : Rows.FnExactStandardPresentationSaid :=
  OpenClaim.holds_of_wide 3 Try.f3 rfl rfl rfl rfl rfl rfl rfl ⟨rfl, rfl, rfl, rfl, rfl⟩ rfl rfl rfl rfl rfl jK Try.func3 jJ jL jM
    (fun os started H enc _ => lifted os started H enc)
end Go.Proofs.Ytimahceaenahkaa
