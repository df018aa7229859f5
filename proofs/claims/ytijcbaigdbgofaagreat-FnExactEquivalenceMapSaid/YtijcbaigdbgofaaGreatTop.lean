/- The program's EquivalenceMap returns what the reference's returns, for all arguments; no conditions. -/
import Derived.Test.YtijcbaigdbgofaaGreatRows
import Derived.Test.YtijcbaigdbgofaaGreatAbC
import Derived.Test.YtijcbaigdbgofaaGreatW
import Derived.Test.YtijcbaigdbgofaaGreatPlB
namespace Go.Proofs.YtijcbaigdbgofaaGreat
open Go Go.Ab Go.Wk Go.ChangeShapes Go.RowKit Go.Pl
theorem Tryz.own : ownKnob Tryz.prog.godebug = none := by kernel_rfl
theorem Tryz.laidOut : laidOutB Tryz.prog = true := by kernel_rfl
theorem c1 {P : Program} {t : TypeId} {ti : TypeInfo} {k : Nat} (h : P.info? t = some ti) (h2 : ti.size = k) : P.cellsOf t = k := by simp [Program.cellsOf, h, h2]
theorem zYm : RdT Tryz.prog 2 1 I VI := zV2 Tryz.underlying2
theorem zYn : RdC Tryz.prog 22 (fun x => T.ro ((L 1 I) x)) (VL VI) := zTn Tryz.underlying22 (c1 (zM Tryz.type2) rfl) Nat.one_pos zYm
theorem zRu : RdT Tryz.prog 22 1 (L 1 I) (VL VI) := zV3 Tryz.underlying22 (c1 (zM Tryz.type2) rfl) Nat.one_pos zYm
theorem zYo : RdC Tryz.prog 23 (fun x => T.ro ((L 1 (L 1 I)) x)) (VL (VL VI)) := zTn Tryz.underlying23 (c1 (zM Tryz.type22) rfl) Nat.one_pos zRu
theorem zYp : RdT Tryz.prog 23 1 (L 1 (L 1 I)) (VL (VL VI)) := zV3 Tryz.underlying23 (c1 (zM Tryz.type22) rfl) Nat.one_pos zRu
theorem zVc : RdC Tryz.prog 24 (fun x => T.ro ((L 1 (L 1 (L 1 I))) x)) (VL (VL (VL VI))) := zTn Tryz.underlying24 (c1 (zM Tryz.type23) rfl) Nat.one_pos zYp
theorem zYq : RdA Tryz.prog 26 (fun x : SPr => T.agg [T.ro ((L 1 I) x.zA), T.ro ((L 1 (L 1 I)) x.zU), T.ro ((L 1 (L 1 (L 1 I))) x.zD)]) zNA :=
  zUE SPr.mk Tryz.underlying26 (c1 (zM Tryz.type26) rfl) ⟨rfl, (c1 (zM Tryz.type22) rfl)⟩ ⟨rfl, (c1 (zM Tryz.type23) rfl)⟩ ⟨rfl, (c1 (zM Tryz.type24) rfl)⟩ zYn zYo zVc (fun _ _ _ => rfl) fun _ _ _ h1 h2 h3 => ⟨h1, h2, h3⟩
theorem zYr : RdC Tryz.prog 2 I VI := zV4 Tryz.underlying2
theorem zYs : RdA Tryz.prog 28 (fun x : zC => T.agg [I x.Prime, I x.Dim, T.ro ((L 1 (L 1 (L 1 I))) x.zI)]) zTt :=
  zUE zC.mk Tryz.underlying28 (c1 (zM Tryz.type28) rfl) ⟨rfl, (c1 (zM Tryz.type2) rfl)⟩ ⟨rfl, (c1 (zM Tryz.type2) rfl)⟩ ⟨rfl, (c1 (zM Tryz.type24) rfl)⟩ zYr zYr zVc (fun _ _ _ => rfl) fun _ _ _ h1 h2 h3 => ⟨h1, h2, h3⟩
theorem zVd : RdA Tryz.prog 23 (fun x => T.ro ((L 1 (L 1 I)) x)) (VL (VL VI)) := zY4 Tryz.underlying23 (c1 (zM Tryz.type22) rfl) Nat.one_pos zRu
set_option maxRecDepth 100000 in
theorem zWp (os : Os) (started : os.Started) (H : Type) (enc : TypeId × Value → H) :
    ReturnsInHanded {} Tryz.checked os 5 .any (Rows.fnExactEquivalenceMapSpec.pre6 enc Tryz.prog Tryz.f5 Rows.fnExactEquivalenceMapRow.domain false) (Rows.fnExactEquivalenceMapSpec.post enc Tryz.prog Tryz.f5 false true false false) := by
  refine zLC (C := Tryz.checked) Tryz.own started (by kernel_rfl) Tryz.func5
    (ChangeSpec.witness6 (enc := enc) (C := Tryz.checked) false ⟨#[], #[.agg #[.slice none 0 0, .slice none 0 0, .slice none 0 0], .agg #[.int .i64 0, .int .i64 0, .slice none 0 0], .slice none 0 0, .slice none 0 0], []⟩ 8 (by kernel_rfl) (by kernel_rfl) (by kernel_rfl) (by kernel_rfl))
    (fun l hl => ?_) rfl (by kernel_rfl) Tryz.underlying4 Tryz.laidOut (by kernel_rfl) ?_
  · rw [Tryz.params5] at hl
    match l, hl with
    | [a0, a1, a2, a3], _ => exact ⟨rfl, rfl, rfl⟩
  · intro W base args ds p hval hA
    have hA' := hA
    rw [Tryz.params5] at hA' hval
    obtain ⟨v0, v1, v2, v3, d0, d1, d2, d3, p0, p1, p2, p3, rfl, rfl, rfl, ⟨n0, h0⟩, ⟨n1, h1⟩, ⟨n2, h2⟩, ⟨n3, h3⟩⟩ := Go.Ab.trodAll_four hA'
    obtain ⟨x0, g0, k0⟩ := zYq enc W base n0 v0 _ h0 (hval 0 _ v0 rfl rfl)
    obtain ⟨x1, g1, k1⟩ := zYs enc W base n1 v1 _ h1 (hval 1 _ v1 rfl rfl)
    obtain ⟨x2, g2, k2⟩ := zVd enc W base n2 v2 _ h2 (hval 2 _ v2 rfl rfl)
    obtain ⟨x3, g3, k3⟩ := zVd enc W base n3 v3 _ h3 (hval 3 _ v3 rfl rfl)
    refine ⟨_, rfl, (t_bd.h x0 x1 x2 x3).go (zCb x0 x1 x2 x3 g0 g1 g2 g3), fun i u hu => ?_⟩
    match i, hu with
    | 0, hu => cases hu; exact k0 _ 0 rfl
    | 1, hu => cases hu; exact k1 _ 1 rfl
    | 2, hu => cases hu; exact k2 _ 2 rfl
    | 3, hu => cases hu; exact k3 _ 3 rfl
    | i + 4, hu => simp at hu

theorem FnExactEquivalenceMap_holds : Rows.FnExactEquivalenceMapSaid :=
  OpenClaim.holds_of_wide 5 Tryz.f5 rfl rfl rfl rfl rfl rfl rfl ⟨rfl, rfl, rfl, rfl, rfl⟩ rfl rfl rfl rfl rfl (by kernel_rfl) Tryz.func5 (by kernel_rfl)
    (of_decide_eq_true (by kernel_rfl)) (by unfold Func.isWrapper; first | (rw [if_pos (by decide +kernel)]; kernel_rfl) | (rw [if_neg (by decide +kernel)]; exact ⟨rfl, rfl⟩))
    (fun os started H enc _ => zWp os started H enc)
end Go.Proofs.YtijcbaigdbgofaaGreat
