/- The program's DerivationKernel returns what the reference's returns, for all arguments; no conditions. -/
import Derived.Test.YtibamokcnfffhaaGreatRows
import Derived.Test.YtibamokcnfffhaaGreatAbC
import Derived.Test.YtibamokcnfffhaaGreatW
import Derived.Test.YtibamokcnfffhaaGreatPlB
namespace Go.Proofs.YtibamokcnfffhaaGreat
open Go Go.Ab Go.Wk Go.ChangeShapes Go.RowKit Go.Pl
theorem Tryz.own : ownKnob Tryz.prog.godebug = none := by kernel_rfl
theorem Tryz.laidOut : laidOutB Tryz.prog = true := by kernel_rfl
theorem c1 {P : Program} {t : TypeId} {ti : TypeInfo} {k : Nat} (h : P.info? t = some ti) (h2 : ti.size = k) : P.cellsOf t = k := by simp [Program.cellsOf, h, h2]
theorem zTm : RdT Tryz.prog 2 1 I VI := zQN Tryz.underlying2
theorem zTn : RdC Tryz.prog 22 (fun x => T.ro ((L 1 I) x)) (VL VI) := zOY Tryz.underlying22 (c1 (zN Tryz.type2) rfl) Nat.one_pos zTm
theorem zNh : RdT Tryz.prog 22 1 (L 1 I) (VL VI) := zQO Tryz.underlying22 (c1 (zN Tryz.type2) rfl) Nat.one_pos zTm
theorem zTo : RdC Tryz.prog 23 (fun x => T.ro ((L 1 (L 1 I)) x)) (VL (VL VI)) := zOY Tryz.underlying23 (c1 (zN Tryz.type22) rfl) Nat.one_pos zNh
theorem zTp : RdT Tryz.prog 23 1 (L 1 (L 1 I)) (VL (VL VI)) := zQO Tryz.underlying23 (c1 (zN Tryz.type22) rfl) Nat.one_pos zNh
theorem zQ1 : RdC Tryz.prog 24 (fun x => T.ro ((L 1 (L 1 (L 1 I))) x)) (VL (VL (VL VI))) := zOY Tryz.underlying24 (c1 (zN Tryz.type23) rfl) Nat.one_pos zTp
theorem zTq : RdA Tryz.prog 26 (fun x : SPr => T.agg [T.ro ((L 1 I) x.zA), T.ro ((L 1 (L 1 I)) x.zW), T.ro ((L 1 (L 1 (L 1 I))) x.zB)]) zKa :=
  zQi SPr.mk Tryz.underlying26 (c1 (zN Tryz.type26) rfl) ⟨rfl, (c1 (zN Tryz.type22) rfl)⟩ ⟨rfl, (c1 (zN Tryz.type23) rfl)⟩ ⟨rfl, (c1 (zN Tryz.type24) rfl)⟩ zTn zTo zQ1 (fun _ _ _ => rfl) fun _ _ _ h1 h2 h3 => ⟨h1, h2, h3⟩
theorem zTr : RdC Tryz.prog 2 I VI := zQP Tryz.underlying2
theorem zTs : RdA Tryz.prog 28 (fun x : zD => T.agg [I x.Prime, I x.Dim, T.ro ((L 1 (L 1 (L 1 I))) x.zL)]) zPg :=
  zQi zD.mk Tryz.underlying28 (c1 (zN Tryz.type28) rfl) ⟨rfl, (c1 (zN Tryz.type2) rfl)⟩ ⟨rfl, (c1 (zN Tryz.type2) rfl)⟩ ⟨rfl, (c1 (zN Tryz.type24) rfl)⟩ zTr zTr zQ1 (fun _ _ _ => rfl) fun _ _ _ h1 h2 h3 => ⟨h1, h2, h3⟩
theorem zTt : RdA Tryz.prog 23 (fun x => T.ro ((L 1 (L 1 I)) x)) (VL (VL VI)) := zT3 Tryz.underlying23 (c1 (zN Tryz.type22) rfl) Nat.one_pos zNh
set_option maxRecDepth 100000 in
theorem zRu (os : Os) (started : os.Started) (H : Type) (enc : TypeId × Value → H) :
    ReturnsInHanded {} Tryz.checked os 3 .any (Rows.fnExactDerivationKernelSpec.pre6 enc Tryz.prog Tryz.f3 Rows.fnExactDerivationKernelRow.domain false) (Rows.fnExactDerivationKernelSpec.post enc Tryz.prog Tryz.f3 false true false false) := by
  refine zI7 (C := Tryz.checked) Tryz.own started (by kernel_rfl) Tryz.func3
    (ChangeSpec.witness6 (enc := enc) (C := Tryz.checked) false ⟨#[], #[.agg #[.slice none 0 0, .slice none 0 0, .slice none 0 0], .agg #[.int .i64 0, .int .i64 0, .slice none 0 0], .slice none 0 0], []⟩ 8 (by kernel_rfl) (by kernel_rfl) (by kernel_rfl) (by kernel_rfl))
    (fun l hl => ?_) rfl (by kernel_rfl) Tryz.underlying4 Tryz.laidOut (by kernel_rfl) ?_
  · rw [Tryz.params3] at hl
    match l, hl with
    | [a0, a1, a2], _ => exact ⟨rfl, rfl, rfl⟩
  · intro W base args ds p hval hA
    have hA' := hA
    rw [Tryz.params3] at hA' hval
    obtain ⟨v0, v1, v2, d0, d1, d2, p0, p1, p2, rfl, rfl, rfl, ⟨n0, h0⟩, ⟨n1, h1⟩, ⟨n2, h2⟩⟩ := trodAll_three hA'
    obtain ⟨x0, g0, k0⟩ := zTq enc W base n0 v0 _ h0 (hval 0 _ v0 rfl rfl)
    obtain ⟨x1, g1, k1⟩ := zTs enc W base n1 v1 _ h1 (hval 1 _ v1 rfl rfl)
    obtain ⟨x2, g2, k2⟩ := zTt enc W base n2 v2 _ h2 (hval 2 _ v2 rfl rfl)
    refine ⟨_, rfl, (t_aU.h x0 x1 x2).go (kX x0 x1 x2 g0 g1 g2), fun i u hu => ?_⟩
    match i, hu with
    | 0, hu => cases hu; exact k0 _ 0 rfl
    | 1, hu => cases hu; exact k1 _ 1 rfl
    | 2, hu => cases hu; exact k2 _ 2 rfl
    | i + 3, hu => simp at hu

theorem FnExactDerivationKernel_holds : Rows.FnExactDerivationKernelSaid :=
  OpenClaim.holds_of_wide 3 Tryz.f3 rfl rfl rfl rfl rfl rfl rfl ⟨rfl, rfl, rfl, rfl, rfl⟩ rfl rfl rfl rfl rfl (by kernel_rfl) Tryz.func3 (by kernel_rfl)
    (of_decide_eq_true (by kernel_rfl)) (by unfold Func.isWrapper; first | (rw [if_pos (by decide +kernel)]; kernel_rfl) | (rw [if_neg (by decide +kernel)]; exact ⟨rfl, rfl⟩))
    (fun os started H enc _ => zRu os started H enc)
end Go.Proofs.YtibamokcnfffhaaGreat
