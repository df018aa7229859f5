/- The program's MultiplicatorRank returns what the reference's returns, for all arguments; no conditions. -/
import Derived.Test.YtnggaddopliclaaGreatRows
import Derived.Test.YtnggaddopliclaaGreatAbC
import Derived.Test.YtnggaddopliclaaGreatW
import Derived.Test.YtnggaddopliclaaGreatPlC
namespace Go.Proofs.YtnggaddopliclaaGreat
open Go Go.Ab Go.Wk Go.ChangeShapes Go.RowKit Go.Pl
theorem Tryz.own : ownKnob Tryz.prog.godebug = none := by kernel_rfl
theorem Tryz.laidOut : laidOutB Tryz.prog = true := by kernel_rfl
theorem c1 {P : Program} {t : TypeId} {ti : TypeInfo} {k : Nat} (h : P.info? t = some ti) (h2 : ti.size = k) : P.cellsOf t = k := by simp [Program.cellsOf, h, h2]
theorem zZl : RdT Tryz.prog 2 1 I VI := zWg Tryz.underlying2
theorem zZm : RdC Tryz.prog 22 (fun x => T.ro ((L 1 I) x)) (VL VI) := zWi Tryz.underlying22 (c1 (zP Tryz.type2) rfl) Nat.one_pos zZl
theorem zVG : RdT Tryz.prog 22 1 (L 1 I) (VL VI) := zWh Tryz.underlying22 (c1 (zP Tryz.type2) rfl) Nat.one_pos zZl
theorem zZn : RdC Tryz.prog 23 (fun x => T.ro ((L 1 (L 1 I)) x)) (VL (VL VI)) := zWi Tryz.underlying23 (c1 (zP Tryz.type22) rfl) Nat.one_pos zVG
theorem zZo : RdT Tryz.prog 23 1 (L 1 (L 1 I)) (VL (VL VI)) := zWh Tryz.underlying23 (c1 (zP Tryz.type22) rfl) Nat.one_pos zVG
theorem zZp : RdC Tryz.prog 24 (fun x => T.ro ((L 1 (L 1 (L 1 I))) x)) (VL (VL (VL VI))) := zWi Tryz.underlying24 (c1 (zP Tryz.type23) rfl) Nat.one_pos zZo
theorem zZq : RdA Tryz.prog 26 (fun x : SPr => T.agg [T.ro ((L 1 I) x.zA), T.ro ((L 1 (L 1 I)) x.zU), T.ro ((L 1 (L 1 (L 1 I))) x.zF)]) zOr :=
  zXG SPr.mk Tryz.underlying26 (c1 (zP Tryz.type26) rfl) ⟨rfl, (c1 (zP Tryz.type22) rfl)⟩ ⟨rfl, (c1 (zP Tryz.type23) rfl)⟩ ⟨rfl, (c1 (zP Tryz.type24) rfl)⟩ zZm zZn zZp (fun _ _ _ => rfl) fun _ _ _ h1 h2 h3 => ⟨h1, h2, h3⟩
set_option maxRecDepth 100000 in
theorem zXi (os : Os) (started : os.Started) (H : Type) (enc : TypeId × Value → H) :
    ReturnsInHanded {} Tryz.checked os 5 .any (Rows.fnExactMultiplicatorRankSpec.pre6 enc Tryz.prog Tryz.f5 Rows.fnExactMultiplicatorRankRow.domain false) (Rows.fnExactMultiplicatorRankSpec.post enc Tryz.prog Tryz.f5 false true false false) := by
  refine zM9 (C := Tryz.checked) Tryz.own started (by kernel_rfl) Tryz.func5
    (ChangeSpec.witness6 (enc := enc) (C := Tryz.checked) false ⟨#[], #[.agg #[.slice none 0 0, .slice none 0 0, .slice none 0 0]], []⟩ 8 (by kernel_rfl) (by kernel_rfl) (by kernel_rfl) (by kernel_rfl))
    (fun l hl => ?_) rfl (by kernel_rfl) Tryz.underlying4 Tryz.laidOut (by kernel_rfl) ?_
  · rw [Tryz.params5] at hl
    match l, hl with
    | [a0], _ => exact ⟨rfl, rfl, rfl⟩
  · intro W base args ds p hval hA
    have hA' := hA
    rw [Tryz.params5] at hA' hval
    obtain ⟨v0, d0, rfl, rfl, ⟨n0, h0⟩⟩ := trodAll_one hA'
    obtain ⟨x0, g0, k0⟩ := zZq enc W base n0 v0 _ h0 (hval 0 _ v0 rfl rfl)
    refine ⟨_, rfl, (t_ba.h x0).go (zBy x0 g0), fun i u hu => ?_⟩
    match i, hu with
    | 0, hu => cases hu; exact k0 _ 0 rfl
    | i + 1, hu => simp at hu

theorem FnExactMultiplicatorRank_holds : Rows.FnExactMultiplicatorRankSaid :=
  OpenClaim.holds_of_wide 5 Tryz.f5 rfl rfl rfl rfl rfl rfl rfl ⟨rfl, rfl, rfl, rfl, rfl⟩ rfl rfl rfl rfl rfl (by kernel_rfl) Tryz.func5 (by kernel_rfl)
    (of_decide_eq_true (by kernel_rfl)) (by unfold Func.isWrapper; first | (rw [if_pos (by decide +kernel)]; kernel_rfl) | (rw [if_neg (by decide +kernel)]; exact ⟨rfl, rfl⟩))
    (fun os started H enc _ => zXi os started H enc)
end Go.Proofs.YtnggaddopliclaaGreat
