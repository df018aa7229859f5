/- The program's CocycleClasses returns what the reference's returns, for all arguments; no conditions. -/
import Derived.Test.YtijcbaigdbgofaaGreatRows
import Derived.Test.YtijcbaigdbgofaaGreatAbC
import Derived.Test.YtijcbaigdbgofaaGreatWB
import Derived.Test.YtijcbaigdbgofaaGreatPlC
namespace Go.Proofs.YtijcbaigdbgofaaGreat
open Go Go.Ab Go.Wk Go.ChangeShapes Go.RowKit Go.Pl
theorem Tryz.own : ownKnob Tryz.prog.godebug = none := by kernel_rfl
theorem Tryz.laidOut : laidOutB Tryz.prog = true := by kernel_rfl
theorem c1 {P : Program} {t : TypeId} {ti : TypeInfo} {k : Nat} (h : P.info? t = some ti) (h2 : ti.size = k) : P.cellsOf t = k := by simp [Program.cellsOf, h, h2]
theorem yAB : RdT Tryz.prog 2 1 I VI := zXF Tryz.underlying2
theorem yAC : RdC Tryz.prog 22 (fun x => T.ro ((L 1 I) x)) (VL VI) := zXI Tryz.underlying22 (c1 (zQ Tryz.type2) rfl) Nat.one_pos yAB
theorem zXq : RdT Tryz.prog 22 1 (L 1 I) (VL VI) := zXG Tryz.underlying22 (c1 (zQ Tryz.type2) rfl) Nat.one_pos yAB
theorem yAD : RdC Tryz.prog 23 (fun x => T.ro ((L 1 (L 1 I)) x)) (VL (VL VI)) := zXI Tryz.underlying23 (c1 (zQ Tryz.type22) rfl) Nat.one_pos zXq
theorem yAE : RdT Tryz.prog 23 1 (L 1 (L 1 I)) (VL (VL VI)) := zXG Tryz.underlying23 (c1 (zQ Tryz.type22) rfl) Nat.one_pos zXq
theorem zXr : RdC Tryz.prog 24 (fun x => T.ro ((L 1 (L 1 (L 1 I))) x)) (VL (VL (VL VI))) := zXI Tryz.underlying24 (c1 (zQ Tryz.type23) rfl) Nat.one_pos yAE
theorem yAF : RdA Tryz.prog 26 (fun x : SPr => T.agg [T.ro ((L 1 I) x.zA), T.ro ((L 1 (L 1 I)) x.zU), T.ro ((L 1 (L 1 (L 1 I))) x.zF)]) zPd :=
  zWH SPr.mk Tryz.underlying26 (c1 (zQ Tryz.type26) rfl) ⟨rfl, (c1 (zQ Tryz.type22) rfl)⟩ ⟨rfl, (c1 (zQ Tryz.type23) rfl)⟩ ⟨rfl, (c1 (zQ Tryz.type24) rfl)⟩ yAC yAD zXr (fun _ _ _ => rfl) fun _ _ _ h1 h2 h3 => ⟨h1, h2, h3⟩
theorem yAG : RdC Tryz.prog 2 I VI := zXH Tryz.underlying2
theorem yAH : RdA Tryz.prog 28 (fun x : zB => T.agg [I x.Prime, I x.Dim, T.ro ((L 1 (L 1 (L 1 I))) x.zG)]) zVv :=
  zWH zB.mk Tryz.underlying28 (c1 (zQ Tryz.type28) rfl) ⟨rfl, (c1 (zQ Tryz.type2) rfl)⟩ ⟨rfl, (c1 (zQ Tryz.type2) rfl)⟩ ⟨rfl, (c1 (zQ Tryz.type24) rfl)⟩ yAG yAG zXr (fun _ _ _ => rfl) fun _ _ _ h1 h2 h3 => ⟨h1, h2, h3⟩
set_option maxRecDepth 100000 in
theorem zYH (os : Os) (started : os.Started) (H : Type) (enc : TypeId × Value → H) :
    ReturnsInHanded {} Tryz.checked os 4 .any (Rows.fnExactCocycleClassesSpec.pre6 enc Tryz.prog Tryz.f4 Rows.fnExactCocycleClassesRow.domain false) (Rows.fnExactCocycleClassesSpec.post enc Tryz.prog Tryz.f4 false true false false) := by
  refine zNr (C := Tryz.checked) Tryz.own started (by kernel_rfl) Tryz.func4
    (ChangeSpec.witness6 (enc := enc) (C := Tryz.checked) false ⟨#[], #[.agg #[.slice none 0 0, .slice none 0 0, .slice none 0 0], .agg #[.int .i64 0, .int .i64 0, .slice none 0 0]], []⟩ 8 (by kernel_rfl) (by kernel_rfl) (by kernel_rfl) (by kernel_rfl))
    (fun l hl => ?_) rfl (by kernel_rfl) Tryz.underlying4 Tryz.laidOut (by kernel_rfl) ?_
  · rw [Tryz.params4] at hl
    match l, hl with
    | [a0, a1], _ => exact ⟨rfl, rfl, rfl⟩
  · intro W base args ds p hval hA
    have hA' := hA
    rw [Tryz.params4] at hA' hval
    obtain ⟨v0, v1, d0, d1, p0, p1, rfl, rfl, rfl, ⟨n0, h0⟩, ⟨n1, h1⟩⟩ := trodAll_two hA'
    obtain ⟨x0, g0, k0⟩ := yAF enc W base n0 v0 _ h0 (hval 0 _ v0 rfl rfl)
    obtain ⟨x1, g1, k1⟩ := yAH enc W base n1 v1 _ h1 (hval 1 _ v1 rfl rfl)
    refine ⟨_, rfl, (t_a6.h x0 x1).go (zCZ x0 x1 g0 g1), fun i u hu => ?_⟩
    match i, hu with
    | 0, hu => cases hu; exact k0 _ 0 rfl
    | 1, hu => cases hu; exact k1 _ 1 rfl
    | i + 2, hu => simp at hu

theorem FnExactCocycleClasses_holds : Rows.FnExactCocycleClassesSaid :=
  OpenClaim.holds_of_wide 4 Tryz.f4 rfl rfl rfl rfl rfl rfl rfl ⟨rfl, rfl, rfl, rfl, rfl⟩ rfl rfl rfl rfl rfl (by kernel_rfl) Tryz.func4 (by kernel_rfl)
    (of_decide_eq_true (by kernel_rfl)) (by unfold Func.isWrapper; first | (rw [if_pos (by decide +kernel)]; kernel_rfl) | (rw [if_neg (by decide +kernel)]; exact ⟨rfl, rfl⟩))
    (fun os started H enc _ => zYH os started H enc)
end Go.Proofs.YtijcbaigdbgofaaGreat
