/- The program's SecondCohomology returns what the reference's returns, for all arguments; no conditions. -/
import Derived.Test.YtijcbaigdbgofaaGreatRows
import Derived.Test.YtijcbaigdbgofaaGreatAbC
import Derived.Test.YtijcbaigdbgofaaGreatW
import Derived.Test.YtijcbaigdbgofaaGreatPlC
namespace Go.Proofs.YtijcbaigdbgofaaGreat
open Go Go.Ab Go.Wk Go.ChangeShapes Go.RowKit Go.Pl
theorem Tryz.own : ownKnob Tryz.prog.godebug = none := by kernel_rfl
theorem Tryz.laidOut : laidOutB Tryz.prog = true := by kernel_rfl
theorem c1 {P : Program} {t : TypeId} {ti : TypeInfo} {k : Nat} (h : P.info? t = some ti) (h2 : ti.size = k) : P.cellsOf t = k := by simp [Program.cellsOf, h, h2]
theorem zZj : RdT Tryz.prog 2 1 I VI := zWk Tryz.underlying2
theorem zZk : RdC Tryz.prog 22 (fun x => T.ro ((L 1 I) x)) (VL VI) := zWn Tryz.underlying22 (c1 (zP Tryz.type2) rfl) Nat.one_pos zZj
theorem zVM : RdT Tryz.prog 22 1 (L 1 I) (VL VI) := zWl Tryz.underlying22 (c1 (zP Tryz.type2) rfl) Nat.one_pos zZj
theorem zZl : RdC Tryz.prog 23 (fun x => T.ro ((L 1 (L 1 I)) x)) (VL (VL VI)) := zWn Tryz.underlying23 (c1 (zP Tryz.type22) rfl) Nat.one_pos zVM
theorem zZm : RdT Tryz.prog 23 1 (L 1 (L 1 I)) (VL (VL VI)) := zWl Tryz.underlying23 (c1 (zP Tryz.type22) rfl) Nat.one_pos zVM
theorem zVN : RdC Tryz.prog 24 (fun x => T.ro ((L 1 (L 1 (L 1 I))) x)) (VL (VL (VL VI))) := zWn Tryz.underlying24 (c1 (zP Tryz.type23) rfl) Nat.one_pos zZm
theorem zZn : RdA Tryz.prog 26 (fun x : SPr => T.agg [T.ro ((L 1 I) x.zA), T.ro ((L 1 (L 1 I)) x.zT), T.ro ((L 1 (L 1 (L 1 I))) x.zF)]) zOr :=
  zVp SPr.mk Tryz.underlying26 (c1 (zP Tryz.type26) rfl) ⟨rfl, (c1 (zP Tryz.type22) rfl)⟩ ⟨rfl, (c1 (zP Tryz.type23) rfl)⟩ ⟨rfl, (c1 (zP Tryz.type24) rfl)⟩ zZk zZl zVN (fun _ _ _ => rfl) fun _ _ _ h1 h2 h3 => ⟨h1, h2, h3⟩
theorem zZo : RdC Tryz.prog 2 I VI := zWm Tryz.underlying2
theorem zZp : RdA Tryz.prog 28 (fun x : zE => T.agg [I x.Prime, I x.Dim, T.ro ((L 1 (L 1 (L 1 I))) x.zH)]) zUa :=
  zVp zE.mk Tryz.underlying28 (c1 (zP Tryz.type28) rfl) ⟨rfl, (c1 (zP Tryz.type2) rfl)⟩ ⟨rfl, (c1 (zP Tryz.type2) rfl)⟩ ⟨rfl, (c1 (zP Tryz.type24) rfl)⟩ zZo zZo zVN (fun _ _ _ => rfl) fun _ _ _ h1 h2 h3 => ⟨h1, h2, h3⟩
set_option maxRecDepth 100000 in
theorem zXl (os : Os) (started : os.Started) (H : Type) (enc : TypeId × Value → H) :
    ReturnsInHanded {} Tryz.checked os 3 .any (Rows.fnExactSecondCohomologySpec.pre6 enc Tryz.prog Tryz.f3 Rows.fnExactSecondCohomologyRow.domain false) (Rows.fnExactSecondCohomologySpec.post enc Tryz.prog Tryz.f3 false true false false) := by
  refine zMF (C := Tryz.checked) Tryz.own started (by kernel_rfl) Tryz.func3
    (ChangeSpec.witness6 (enc := enc) (C := Tryz.checked) false ⟨#[], #[.agg #[.slice none 0 0, .slice none 0 0, .slice none 0 0], .agg #[.int .i64 0, .int .i64 0, .slice none 0 0]], []⟩ 8 (by kernel_rfl) (by kernel_rfl) (by kernel_rfl) (by kernel_rfl))
    (fun l hl => ?_) rfl (by kernel_rfl) Tryz.underlying4 Tryz.laidOut (by kernel_rfl) ?_
  · rw [Tryz.params3] at hl
    match l, hl with
    | [a0, a1], _ => exact ⟨rfl, rfl, rfl⟩
  · intro W base args ds p hval hA
    have hA' := hA
    rw [Tryz.params3] at hA' hval
    obtain ⟨v0, v1, d0, d1, p0, p1, rfl, rfl, rfl, ⟨n0, h0⟩, ⟨n1, h1⟩⟩ := trodAll_two hA'
    obtain ⟨x0, g0, k0⟩ := zZn enc W base n0 v0 _ h0 (hval 0 _ v0 rfl rfl)
    obtain ⟨x1, g1, k1⟩ := zZp enc W base n1 v1 _ h1 (hval 1 _ v1 rfl rfl)
    refine ⟨_, rfl, (t_ba.h x0 x1).go (zBT x0 x1 g0 g1), fun i u hu => ?_⟩
    match i, hu with
    | 0, hu => cases hu; exact k0 _ 0 rfl
    | 1, hu => cases hu; exact k1 _ 1 rfl
    | i + 2, hu => simp at hu

theorem FnExactSecondCohomology_holds : Rows.FnExactSecondCohomologySaid :=
  OpenClaim.holds_of_wide 3 Tryz.f3 rfl rfl rfl rfl rfl rfl rfl ⟨rfl, rfl, rfl, rfl, rfl⟩ rfl rfl rfl rfl rfl (by kernel_rfl) Tryz.func3 (by kernel_rfl)
    (of_decide_eq_true (by kernel_rfl)) (by unfold Func.isWrapper; first | (rw [if_pos (by decide +kernel)]; kernel_rfl) | (rw [if_neg (by decide +kernel)]; exact ⟨rfl, rfl⟩))
    (fun os started H enc _ => zXl os started H enc)
end Go.Proofs.YtijcbaigdbgofaaGreat
