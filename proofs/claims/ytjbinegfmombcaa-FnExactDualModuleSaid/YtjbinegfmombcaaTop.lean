/- The program and the reference return the same dual modules, for all arguments (FnExactDualModule). This file is a part of the proof. -/
import Derived.Test.YtjbinegfmombcaaRows
import Derived.Test.YtjbinegfmombcaaAbC
import Derived.Test.YtjbinegfmombcaaWB
import Derived.Test.YtjbinegfmombcaaPlB
namespace Go.Proofs.Ytjbinegfmombcaa
open Go Go.Ab Go.Wk Go.ChangeShapes Go.RowKit Go.Pl
theorem Try.own : ownKnob Try.prog.godebug = none := by kernel_rfl
theorem Try.laidOut : laidOutB Try.prog = true := by kernel_rfl
theorem c1 {P : Program} {t : TypeId} {ti : TypeInfo} {k : Nat} (h : P.info? t = some ti) (h2 : ti.size = k) : P.cellsOf t = k := by simp [Program.cellsOf, h, h2]
theorem rd_2 : RdT Try.prog 2 1 I VI := rd_int Try.underlying2
theorem rc_22 : RdC Try.prog 22 (fun x => T.ro ((L 1 I) x)) (VL VI) := rc_L Try.underlying22 (c1 (info_of Try.type2) rfl) Nat.one_pos rd_2
theorem rd_22 : RdT Try.prog 22 1 (L 1 I) (VL VI) := rd_L Try.underlying22 (c1 (info_of Try.type2) rfl) Nat.one_pos rd_2
theorem rc_23 : RdC Try.prog 23 (fun x => T.ro ((L 1 (L 1 I)) x)) (VL (VL VI)) := rc_L Try.underlying23 (c1 (info_of Try.type22) rfl) Nat.one_pos rd_22
theorem rd_23 : RdT Try.prog 23 1 (L 1 (L 1 I)) (VL (VL VI)) := rd_L Try.underlying23 (c1 (info_of Try.type22) rfl) Nat.one_pos rd_22
theorem rc_24 : RdC Try.prog 24 (fun x => T.ro ((L 1 (L 1 (L 1 I))) x)) (VL (VL (VL VI))) := rc_L Try.underlying24 (c1 (info_of Try.type23) rfl) Nat.one_pos rd_23
theorem ra_26 : RdA Try.prog 26 (fun x : SPresentation => T.agg [T.ro ((L 1 I) x.Orders), T.ro ((L 1 (L 1 I)) x.Powers), T.ro ((L 1 (L 1 (L 1 I))) x.Conjugates)]) VPres :=
  ra_S3 SPresentation.mk Try.underlying26 (c1 (info_of Try.type26) rfl) ⟨rfl, (c1 (info_of Try.type22) rfl)⟩ ⟨rfl, (c1 (info_of Try.type23) rfl)⟩ ⟨rfl, (c1 (info_of Try.type24) rfl)⟩ rc_22 rc_23 rc_24 (fun _ _ _ => rfl) fun _ _ _ h1 h2 h3 => ⟨h1, h2, h3⟩
theorem rc_2 : RdC Try.prog 2 I VI := rc_int Try.underlying2
theorem ra_28 : RdA Try.prog 28 (fun x : SModule => T.agg [I x.Prime, I x.Dim, T.ro ((L 1 (L 1 (L 1 I))) x.Actions)]) VMod :=
  ra_S3 SModule.mk Try.underlying28 (c1 (info_of Try.type28) rfl) ⟨rfl, (c1 (info_of Try.type2) rfl)⟩ ⟨rfl, (c1 (info_of Try.type2) rfl)⟩ ⟨rfl, (c1 (info_of Try.type24) rfl)⟩ rc_2 rc_2 rc_24 (fun _ _ _ => rfl) fun _ _ _ h1 h2 h3 => ⟨h1, h2, h3⟩
set_option maxRecDepth 100000 in
theorem lifted (os : Os) (started : os.Started) (H : Type) (enc : TypeId × Value → H) :
    ReturnsInHanded {} Try.checked os 5 .any (Rows.fnExactDualModuleSpec.pre6 enc Try.prog Try.f5 Rows.fnExactDualModuleRow.domain false) (Rows.fnExactDualModuleSpec.post enc Try.prog Try.f5 false true false false) := by
  refine law_lifted (C := Try.checked) Try.own started (by kernel_rfl) Try.func5
    (ChangeSpec.witness6 (enc := enc) (C := Try.checked) false ⟨#[], #[.agg #[.slice none 0 0, .slice none 0 0, .slice none 0 0], .agg #[.int .i64 0, .int .i64 0, .slice none 0 0]], []⟩ 8 (by kernel_rfl) (by kernel_rfl) (by kernel_rfl) (by kernel_rfl))
    (fun l hl => ?_) rfl (by kernel_rfl) Try.underlying4 Try.laidOut (by kernel_rfl) ?_
  · rw [Try.params5] at hl
    match l, hl with
    | [a0, a1], _ => exact ⟨rfl, rfl, rfl⟩
  · intro W base args ds p hval hA
    have hA' := hA
    rw [Try.params5] at hA' hval
    obtain ⟨v0, v1, d0, d1, p0, p1, rfl, rfl, rfl, ⟨n0, h0⟩, ⟨n1, h1⟩⟩ := trodAll_two hA'
    obtain ⟨x0, g0, k0⟩ := ra_26 enc W base n0 v0 _ h0 (hval 0 _ v0 rfl rfl)
    obtain ⟨x1, g1, k1⟩ := ra_28 enc W base n1 v1 _ h1 (hval 1 _ v1 rfl rfl)
    refine ⟨_, rfl, t_laws_FnExactDualModule x0 x1 true (DualModule_plain x0 x1 g0 g1), fun i u hu => ?_⟩
    match i, hu with
    | 0, hu => cases hu; exact k0 _ 0 rfl
    | 1, hu => cases hu; exact k1 _ 1 rfl
    | i + 2, hu => simp at hu

theorem FnExactDualModule_holds : Rows.FnExactDualModuleSaid :=
  OpenClaim.holds_of_wide 5 Try.f5 rfl rfl rfl rfl rfl rfl rfl ⟨rfl, rfl, rfl, rfl, rfl⟩ rfl rfl rfl rfl rfl (by kernel_rfl) Try.func5 (by kernel_rfl)
    (of_decide_eq_true (by kernel_rfl)) (by unfold Func.isWrapper; first | (rw [if_pos (by decide +kernel)]; kernel_rfl) | (rw [if_neg (by decide +kernel)]; exact ⟨rfl, rfl⟩))
    (fun os started H enc _ => lifted os started H enc)
end Go.Proofs.Ytjbinegfmombcaa
