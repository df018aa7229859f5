/- The program and the reference count the same classes of complements, for all arguments (FnExactCountComplementClasses). This file is a part of the proof. -/
import Derived.Test.YtkifphhpbcgieabGreatRows
import Derived.Test.YtkifphhpbcgieabGreatAbC
import Derived.Test.YtkifphhpbcgieabGreatW
import Derived.Test.YtkifphhpbcgieabGreatPlB
namespace Go.Proofs.YtkifphhpbcgieabGreat
open Go Go.Ab Go.Wk Go.ChangeShapes Go.RowKit Go.Pl
theorem Tryz.own : ownKnob Tryz.prog.godebug = none := by kernel_rfl
theorem Tryz.laidOut : laidOutB Tryz.prog = true := by kernel_rfl
theorem c1 {P : Program} {t : TypeId} {ti : TypeInfo} {k : Nat} (h : P.info? t = some ti) (h2 : ti.size = k) : P.cellsOf t = k := by simp [Program.cellsOf, h, h2]
theorem zXn : RdT Tryz.prog 2 1 I VI := zUC Tryz.underlying2
theorem zXo : RdC Tryz.prog 22 (fun x => T.ro ((L 1 I) x)) (VL VI) := zS1 Tryz.underlying22 (c1 (zM Tryz.type2) rfl) Nat.one_pos zXn
theorem zQD : RdT Tryz.prog 22 1 (L 1 I) (VL VI) := zUD Tryz.underlying22 (c1 (zM Tryz.type2) rfl) Nat.one_pos zXn
theorem zXp : RdC Tryz.prog 23 (fun x => T.ro ((L 1 (L 1 I)) x)) (VL (VL VI)) := zS1 Tryz.underlying23 (c1 (zM Tryz.type22) rfl) Nat.one_pos zQD
theorem zXq : RdT Tryz.prog 23 1 (L 1 (L 1 I)) (VL (VL VI)) := zUD Tryz.underlying23 (c1 (zM Tryz.type22) rfl) Nat.one_pos zQD
theorem zUp : RdC Tryz.prog 24 (fun x => T.ro ((L 1 (L 1 (L 1 I))) x)) (VL (VL (VL VI))) := zS1 Tryz.underlying24 (c1 (zM Tryz.type23) rfl) Nat.one_pos zXq
theorem zXr : RdA Tryz.prog 26 (fun x : SPr => T.agg [T.ro ((L 1 I) x.zA), T.ro ((L 1 (L 1 I)) x.zT), T.ro ((L 1 (L 1 (L 1 I))) x.zC)]) zMY :=
  zTV SPr.mk Tryz.underlying26 (c1 (zM Tryz.type26) rfl) ⟨rfl, (c1 (zM Tryz.type22) rfl)⟩ ⟨rfl, (c1 (zM Tryz.type23) rfl)⟩ ⟨rfl, (c1 (zM Tryz.type24) rfl)⟩ zXo zXp zUp (fun _ _ _ => rfl) fun _ _ _ h1 h2 h3 => ⟨h1, h2, h3⟩
theorem zXs : RdC Tryz.prog 2 I VI := zUE Tryz.underlying2
theorem zXt : RdA Tryz.prog 28 (fun x : zB => T.agg [I x.Prime, I x.Dim, T.ro ((L 1 (L 1 (L 1 I))) x.zI)]) zS5 :=
  zTV zB.mk Tryz.underlying28 (c1 (zM Tryz.type28) rfl) ⟨rfl, (c1 (zM Tryz.type2) rfl)⟩ ⟨rfl, (c1 (zM Tryz.type2) rfl)⟩ ⟨rfl, (c1 (zM Tryz.type24) rfl)⟩ zXs zXs zUp (fun _ _ _ => rfl) fun _ _ _ h1 h2 h3 => ⟨h1, h2, h3⟩
theorem zXu : RdA Tryz.prog 23 (fun x => T.ro ((L 1 (L 1 I)) x)) (VL (VL VI)) := zX8 Tryz.underlying23 (c1 (zM Tryz.type22) rfl) Nat.one_pos zQD
set_option maxRecDepth 100000 in
theorem zVy (os : Os) (started : os.Started) (H : Type) (enc : TypeId × Value → H) :
    ReturnsInHanded {} Tryz.checked os 6 .any (Rows.fnExactCountComplementClassesSpec.pre6 enc Tryz.prog Tryz.f6 Rows.fnExactCountComplementClassesRow.domain false) (Rows.fnExactCountComplementClassesSpec.post enc Tryz.prog Tryz.f6 false true false false) := by
  refine zLg (C := Tryz.checked) Tryz.own started (by kernel_rfl) Tryz.func6
    (ChangeSpec.witness6 (enc := enc) (C := Tryz.checked) false ⟨#[], #[.agg #[.slice none 0 0, .slice none 0 0, .slice none 0 0], .agg #[.int .i64 0, .int .i64 0, .slice none 0 0], .slice none 0 0], []⟩ 8 (by kernel_rfl) (by kernel_rfl) (by kernel_rfl) (by kernel_rfl))
    (fun l hl => ?_) rfl (by kernel_rfl) Tryz.underlying4 Tryz.laidOut (by kernel_rfl) ?_
  · rw [Tryz.params6] at hl
    match l, hl with
    | [a0, a1, a2], _ => exact ⟨rfl, rfl, rfl⟩
  · intro W base args ds p hval hA
    have hA' := hA
    rw [Tryz.params6] at hA' hval
    obtain ⟨v0, v1, v2, d0, d1, d2, p0, p1, p2, rfl, rfl, rfl, ⟨n0, h0⟩, ⟨n1, h1⟩, ⟨n2, h2⟩⟩ := trodAll_three hA'
    obtain ⟨x0, g0, k0⟩ := zXr enc W base n0 v0 _ h0 (hval 0 _ v0 rfl rfl)
    obtain ⟨x1, g1, k1⟩ := zXt enc W base n1 v1 _ h1 (hval 1 _ v1 rfl rfl)
    obtain ⟨x2, g2, k2⟩ := zXu enc W base n2 v2 _ h2 (hval 2 _ v2 rfl rfl)
    refine ⟨_, rfl, (t_bm.h x0 x1 x2).go (jP x0 x1 x2 g0 g1 g2), fun i u hu => ?_⟩
    match i, hu with
    | 0, hu => cases hu; exact k0 _ 0 rfl
    | 1, hu => cases hu; exact k1 _ 1 rfl
    | 2, hu => cases hu; exact k2 _ 2 rfl
    | i + 3, hu => simp at hu

theorem FnExactCountComplementClasses_holds : Rows.FnExactCountComplementClassesSaid :=
  OpenClaim.holds_of_wide 6 Tryz.f6 rfl rfl rfl rfl rfl rfl rfl ⟨rfl, rfl, rfl, rfl, rfl⟩ rfl rfl rfl rfl rfl (by kernel_rfl) Tryz.func6 (by kernel_rfl)
    (of_decide_eq_true (by kernel_rfl)) (by unfold Func.isWrapper; first | (rw [if_pos (by decide +kernel)]; kernel_rfl) | (rw [if_neg (by decide +kernel)]; exact ⟨rfl, rfl⟩))
    (fun os started H enc _ => zVy os started H enc)
end Go.Proofs.YtkifphhpbcgieabGreat
