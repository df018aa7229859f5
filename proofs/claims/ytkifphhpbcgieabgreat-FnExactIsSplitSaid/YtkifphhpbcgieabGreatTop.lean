/- The program and the reference agree which extensions split, for all arguments (FnExactIsSplit). This file is a part of the proof. -/
import Derived.Test.YtkifphhpbcgieabGreatRows
import Derived.Test.YtkifphhpbcgieabGreatAbC
import Derived.Test.YtkifphhpbcgieabGreatW
import Derived.Test.YtkifphhpbcgieabGreatPlB
namespace Go.Proofs.YtkifphhpbcgieabGreat
open Go Go.Ab Go.Wk Go.ChangeShapes Go.RowKit Go.Pl
theorem Tryz.own : ownKnob Tryz.prog.godebug = none := by kernel_rfl
theorem Tryz.laidOut : laidOutB Tryz.prog = true := by kernel_rfl
theorem c1 {P : Program} {t : TypeId} {ti : TypeInfo} {k : Nat} (h : P.info? t = some ti) (h2 : ti.size = k) : P.cellsOf t = k := by simp [Program.cellsOf, h, h2]
theorem zW3 : RdT Tryz.prog 2 1 I VI := zTT Tryz.underlying2
theorem zW4 : RdC Tryz.prog 22 (fun x => T.ro ((L 1 I) x)) (VL VI) := zRK Tryz.underlying22 (c1 (zM Tryz.type2) rfl) Nat.one_pos zW3
theorem zPY : RdT Tryz.prog 22 1 (L 1 I) (VL VI) := zTU Tryz.underlying22 (c1 (zM Tryz.type2) rfl) Nat.one_pos zW3
theorem zW5 : RdC Tryz.prog 23 (fun x => T.ro ((L 1 (L 1 I)) x)) (VL (VL VI)) := zRK Tryz.underlying23 (c1 (zM Tryz.type22) rfl) Nat.one_pos zPY
theorem zW6 : RdT Tryz.prog 23 1 (L 1 (L 1 I)) (VL (VL VI)) := zTU Tryz.underlying23 (c1 (zM Tryz.type22) rfl) Nat.one_pos zPY
theorem zT5 : RdC Tryz.prog 24 (fun x => T.ro ((L 1 (L 1 (L 1 I))) x)) (VL (VL (VL VI))) := zRK Tryz.underlying24 (c1 (zM Tryz.type23) rfl) Nat.one_pos zW6
theorem zW7 : RdA Tryz.prog 26 (fun x : SPr => T.agg [T.ro ((L 1 I) x.zA), T.ro ((L 1 (L 1 I)) x.zV), T.ro ((L 1 (L 1 (L 1 I))) x.zB)]) zM3 :=
  zTj SPr.mk Tryz.underlying26 (c1 (zM Tryz.type26) rfl) ⟨rfl, (c1 (zM Tryz.type22) rfl)⟩ ⟨rfl, (c1 (zM Tryz.type23) rfl)⟩ ⟨rfl, (c1 (zM Tryz.type24) rfl)⟩ zW4 zW5 zT5 (fun _ _ _ => rfl) fun _ _ _ h1 h2 h3 => ⟨h1, h2, h3⟩
theorem zW8 : RdC Tryz.prog 2 I VI := zTV Tryz.underlying2
theorem zW9 : RdA Tryz.prog 28 (fun x : zD => T.agg [I x.Prime, I x.Dim, T.ro ((L 1 (L 1 (L 1 I))) x.zI)]) zRO :=
  zTj zD.mk Tryz.underlying28 (c1 (zM Tryz.type28) rfl) ⟨rfl, (c1 (zM Tryz.type2) rfl)⟩ ⟨rfl, (c1 (zM Tryz.type2) rfl)⟩ ⟨rfl, (c1 (zM Tryz.type24) rfl)⟩ zW8 zW8 zT5 (fun _ _ _ => rfl) fun _ _ _ h1 h2 h3 => ⟨h1, h2, h3⟩
theorem zWA : RdA Tryz.prog 23 (fun x => T.ro ((L 1 (L 1 I)) x)) (VL (VL VI)) := zWO Tryz.underlying23 (c1 (zM Tryz.type22) rfl) Nat.one_pos zPY
set_option maxRecDepth 100000 in
theorem zUF (os : Os) (started : os.Started) (H : Type) (enc : TypeId × Value → H) :
    ReturnsInHanded {} Tryz.checked os 3 .any (Rows.fnExactIsSplitSpec.pre6 enc Tryz.prog Tryz.f3 Rows.fnExactIsSplitRow.domain false) (Rows.fnExactIsSplitSpec.post enc Tryz.prog Tryz.f3 false true false false) := by
  refine zKE (C := Tryz.checked) Tryz.own started (by kernel_rfl) Tryz.func3
    (ChangeSpec.witness6 (enc := enc) (C := Tryz.checked) false ⟨#[], #[.agg #[.slice none 0 0, .slice none 0 0, .slice none 0 0], .agg #[.int .i64 0, .int .i64 0, .slice none 0 0], .slice none 0 0], []⟩ 8 (by kernel_rfl) (by kernel_rfl) (by kernel_rfl) (by kernel_rfl))
    (fun l hl => ?_) rfl (by kernel_rfl) Tryz.underlying4 Tryz.laidOut (by kernel_rfl) ?_
  · rw [Tryz.params3] at hl
    match l, hl with
    | [a0, a1, a2], _ => exact ⟨rfl, rfl, rfl⟩
  · intro W base args ds p hval hA
    have hA' := hA
    rw [Tryz.params3] at hA' hval
    obtain ⟨v0, v1, v2, d0, d1, d2, p0, p1, p2, rfl, rfl, rfl, ⟨n0, h0⟩, ⟨n1, h1⟩, ⟨n2, h2⟩⟩ := trodAll_three hA'
    obtain ⟨x0, g0, k0⟩ := zW7 enc W base n0 v0 _ h0 (hval 0 _ v0 rfl rfl)
    obtain ⟨x1, g1, k1⟩ := zW9 enc W base n1 v1 _ h1 (hval 1 _ v1 rfl rfl)
    obtain ⟨x2, g2, k2⟩ := zWA enc W base n2 v2 _ h2 (hval 2 _ v2 rfl rfl)
    refine ⟨_, rfl, (t_be.h x0 x1 x2).go (zGF x0 x1 x2 g0 g1 g2), fun i u hu => ?_⟩
    match i, hu with
    | 0, hu => cases hu; exact k0 _ 0 rfl
    | 1, hu => cases hu; exact k1 _ 1 rfl
    | 2, hu => cases hu; exact k2 _ 2 rfl
    | i + 3, hu => simp at hu

theorem FnExactIsSplit_holds : Rows.FnExactIsSplitSaid :=
  OpenClaim.holds_of_wide 3 Tryz.f3 rfl rfl rfl rfl rfl rfl rfl ⟨rfl, rfl, rfl, rfl, rfl⟩ rfl rfl rfl rfl rfl (by kernel_rfl) Tryz.func3 (by kernel_rfl)
    (of_decide_eq_true (by kernel_rfl)) (by unfold Func.isWrapper; first | (rw [if_pos (by decide +kernel)]; kernel_rfl) | (rw [if_neg (by decide +kernel)]; exact ⟨rfl, rfl⟩))
    (fun os started H enc _ => zUF os started H enc)
end Go.Proofs.YtkifphhpbcgieabGreat
