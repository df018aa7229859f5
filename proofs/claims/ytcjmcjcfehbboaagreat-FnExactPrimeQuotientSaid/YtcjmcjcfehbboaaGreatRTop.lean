/- x -/
import Derived.Test.YtcjmcjcfehbboaaGreatRows
import Derived.Test.YtcjmcjcfehbboaaGreatRAbC
import Derived.Test.YtcjmcjcfehbboaaGreatRVbl
import Derived.Test.YtcjmcjcfehbboaaGreatRPlD
namespace Go.Proofs.YtcjmcjcfehbboaaGreat
open Go Go.Ab Go.Wk Go.ChangeShapes Go.RowKit Go.Pl
theorem Tryz.own : ownKnob Tryz.prog.godebug = none := by kernel_rfl
theorem Tryz.laidOut : laidOutB Tryz.prog = true := by kernel_rfl
theorem c1 {P : Program} {t : TypeId} {ti : TypeInfo} {k : Nat} (h : P.info? t = some ti) (h2 : ti.size = k) : P.cellsOf t = k := by simp [Program.cellsOf, h, h2]
theorem yEb : RdC Tryz.prog 2 I VI := zSU Tryz.underlying2
theorem yEc : RdT Tryz.prog 2 1 I VI := zZw Tryz.underlying2
theorem yDe : RdT Tryz.prog 38 1 (L 1 I) (VL VI) := yBl Tryz.underlying38 (c1 (zO Tryz.type2) rfl) Nat.one_pos yEc
theorem yDf : RdC Tryz.prog 24 (fun x => T.ro ((L 1 (L 1 I)) x)) (VL (VL VI)) := yDq Tryz.underlying24 (c1 (zO Tryz.type38) rfl) Nat.one_pos yDe
theorem yDg : RdA Tryz.prog 41 (fun x : yF => T.agg [I x.Gens, T.ro ((L 1 (L 1 I)) x.zW)]) zMK :=
  yCr yF.mk Tryz.underlying41 (c1 (zO Tryz.type41) rfl) ⟨rfl, (c1 (zO Tryz.type2) rfl)⟩ ⟨rfl, (c1 (zO Tryz.type24) rfl)⟩ yEb yDf (fun _ _ => rfl) fun _ _ h1 h2 => ⟨h1, h2⟩
theorem yDh : RdA Tryz.prog 2 I VI := yDx Tryz.underlying2
set_option maxRecDepth 100000 in
theorem lifted (os : Os) (started : os.Started) (H : Type) (enc : TypeId × Value → H) :
    ReturnsInHanded {} Tryz.checked os 4 .any (Rows.fnExactPrimeQuotientSpec.pre6 enc Tryz.prog Tryz.f4 Rows.fnExactPrimeQuotientRow.domain false) (Rows.fnExactPrimeQuotientSpec.post enc Tryz.prog Tryz.f4 false true false false) := by
  refine zN1 (C := Tryz.checked) Tryz.own started (by kernel_rfl) Tryz.func4
    (ChangeSpec.witness6 (enc := enc) (C := Tryz.checked) false ⟨#[], #[.agg #[.int .i64 0, .slice none 0 0], .int .i64 0, .int .i64 0], []⟩ 8 (by kernel_rfl) (by kernel_rfl) (by kernel_rfl) (by kernel_rfl))
    (fun l hl => ?_) rfl (by kernel_rfl) Tryz.underlying4 Tryz.laidOut (by kernel_rfl) ?_
  · rw [Tryz.params4] at hl
    match l, hl with
    | [a0, a1, a2], _ => exact ⟨rfl, rfl, rfl⟩
  · intro W base args ds p hval hA
    have hA' := hA
    rw [Tryz.params4] at hA' hval
    obtain ⟨v0, v1, v2, d0, d1, d2, p0, p1, p2, rfl, rfl, rfl, ⟨n0, h0⟩, ⟨n1, h1⟩, ⟨n2, h2⟩⟩ := trodAll_three hA'
    obtain ⟨x0, g0, k0⟩ := yDg enc W base n0 v0 _ h0 (hval 0 _ v0 rfl rfl)
    obtain ⟨x1, g1, k1⟩ := yDh enc W base n1 v1 _ h1 (hval 1 _ v1 rfl rfl)
    obtain ⟨x2, g2, k2⟩ := yDh enc W base n2 v2 _ h2 (hval 2 _ v2 rfl rfl)
    refine ⟨_, rfl, (t_bp.h x0 x1 x2).go (zD4 x0 x1 x2 g0 g1 g2), fun i u hu => ?_⟩
    match i, hu with
    | 0, hu => cases hu; exact k0 _ 0 rfl
    | 1, hu => cases hu; exact k1 _ 1 rfl
    | 2, hu => cases hu; exact k2 _ 2 rfl
    | i + 3, hu => simp at hu

theorem jA : Tryz.prog.mayEnter = true := by kernel_rfl
theorem jB : (Rows.fnExactPrimeQuotientRow.lifted == Tryz.prog.liftsFinal) = true := by kernel_rfl
theorem jC : (Tryz.prog.make == some Rows.fnExactPrimeQuotientRow.make) = true := by kernel_rfl
theorem jD : (Rows.fnExactPrimeQuotientRow.unfollowed == Tryz.prog.unfollowed 4) = true := by kernel_rfl
theorem jE : (Rows.fnExactPrimeQuotientRow.recurses == Tryz.prog.recurses 4) = true := by kernel_rfl
theorem jF : (Rows.fnExactPrimeQuotientRow.inPlace == Tryz.prog.inPlace 4) = true := by kernel_rfl
theorem jG : (Rows.fnExactPrimeQuotientRow.named == Tryz.prog.varsNamed 4) = true := by kernel_rfl
theorem jH : mapsRowed Tryz.prog = true := by kernel_rfl
theorem jI : Tryz.prog.stopsHeard = true := by kernel_rfl
theorem jJ : joinedFacts Tryz.prog 4 Tryz.f4 Rows.fnExactPrimeQuotientSpec Rows.fnExactPrimeQuotientRow = true := by
  unfold joinedFacts
  rw [jA, jB, jC, jD, jE, jF, jG, jH, jI, Tryz.laidOut]
  kernel_rfl
theorem jK : Tryz.prog.funcNamed Rows.fnExactPrimeQuotientRow.func = some 4 := by kernel_rfl
theorem jL : Tryz.f4.isInstance Tryz.prog Rows.fnExactPrimeQuotientRow.origin Rows.fnExactPrimeQuotientRow.targs := of_decide_eq_true (by kernel_rfl)
theorem jM : Tryz.f4.isWrapper Tryz.prog Rows.fnExactPrimeQuotientRow.wrapper Rows.fnExactPrimeQuotientRow.mainSum := by unfold Func.isWrapper; first | (rw [if_pos (by decide +kernel)]; kernel_rfl) | (rw [if_neg (by decide +kernel)]; exact ⟨rfl, rfl⟩)
theorem FnExactPrimeQuotient_holds : Rows.FnExactPrimeQuotientSaid :=
  OpenClaim.holds_of_wide 4 Tryz.f4 rfl rfl rfl rfl rfl rfl rfl ⟨rfl, rfl, rfl, rfl, rfl⟩ rfl rfl rfl rfl rfl jK Tryz.func4 jJ jL jM
    (fun os started H enc _ => lifted os started H enc)
end Go.Proofs.YtcjmcjcfehbboaaGreat
