/- The program's CoverMap returns what the reference's returns, for all arguments; no conditions. -/
import Derived.Test.YtmoaeebpmcafpaaGreatRows
import Derived.Test.YtmoaeebpmcafpaaGreatAbC
import Derived.Test.YtmoaeebpmcafpaaGreatWB
import Derived.Test.YtmoaeebpmcafpaaGreatPlC
namespace Go.Proofs.YtmoaeebpmcafpaaGreat
open Go Go.Ab Go.Wk Go.ChangeShapes Go.RowKit Go.Pl
theorem Tryz.own : ownKnob Tryz.prog.godebug = none := by kernel_rfl
theorem Tryz.laidOut : laidOutB Tryz.prog = true := by kernel_rfl
theorem c1 {P : Program} {t : TypeId} {ti : TypeInfo} {k : Nat} (h : P.info? t = some ti) (h2 : ti.size = k) : P.cellsOf t = k := by simp [Program.cellsOf, h, h2]
theorem yCB : RdT Tryz.prog 2 1 I VI := zZ2 Tryz.underlying2
theorem yCC : RdC Tryz.prog 22 (fun x => T.ro ((L 1 I) x)) (VL VI) := zWW Tryz.underlying22 (c1 (zU Tryz.type2) rfl) Nat.one_pos yCB
theorem zUL : RdT Tryz.prog 22 1 (L 1 I) (VL VI) := zZ3 Tryz.underlying22 (c1 (zU Tryz.type2) rfl) Nat.one_pos yCB
theorem yCD : RdC Tryz.prog 23 (fun x => T.ro ((L 1 (L 1 I)) x)) (VL (VL VI)) := zWW Tryz.underlying23 (c1 (zU Tryz.type22) rfl) Nat.one_pos zUL
theorem yCE : RdT Tryz.prog 23 1 (L 1 (L 1 I)) (VL (VL VI)) := zZ3 Tryz.underlying23 (c1 (zU Tryz.type22) rfl) Nat.one_pos zUL
theorem zZb : RdC Tryz.prog 24 (fun x => T.ro ((L 1 (L 1 (L 1 I))) x)) (VL (VL (VL VI))) := zWW Tryz.underlying24 (c1 (zU Tryz.type23) rfl) Nat.one_pos yCE
theorem yCF : RdA Tryz.prog 26 (fun x : SPr => T.agg [T.ro ((L 1 I) x.zA), T.ro ((L 1 (L 1 I)) x.zV), T.ro ((L 1 (L 1 (L 1 I))) x.zG)]) zQk :=
  zY1 SPr.mk Tryz.underlying26 (c1 (zU Tryz.type26) rfl) ⟨rfl, (c1 (zU Tryz.type22) rfl)⟩ ⟨rfl, (c1 (zU Tryz.type23) rfl)⟩ ⟨rfl, (c1 (zU Tryz.type24) rfl)⟩ yCC yCD zZb (fun _ _ _ => rfl) fun _ _ _ h1 h2 h3 => ⟨h1, h2, h3⟩
theorem yCG : RdC Tryz.prog 2 I VI := zZ4 Tryz.underlying2
theorem yCH : RdA Tryz.prog 36 (fun x : zB => T.agg [I x.Prime, I x.Dim, T.ro ((L 1 (L 1 (L 1 I))) x.zF)]) zXb :=
  zY1 zB.mk Tryz.underlying36 (c1 (zU Tryz.type36) rfl) ⟨rfl, (c1 (zU Tryz.type2) rfl)⟩ ⟨rfl, (c1 (zU Tryz.type2) rfl)⟩ ⟨rfl, (c1 (zU Tryz.type24) rfl)⟩ yCG yCG zZb (fun _ _ _ => rfl) fun _ _ _ h1 h2 h3 => ⟨h1, h2, h3⟩
theorem yCI : RdA Tryz.prog 23 (fun x => T.ro ((L 1 (L 1 I)) x)) (VL (VL VI)) := yCW Tryz.underlying23 (c1 (zU Tryz.type22) rfl) Nat.one_pos zUL
set_option maxRecDepth 100000 in
theorem yA4 (os : Os) (started : os.Started) (H : Type) (enc : TypeId × Value → H) :
    ReturnsInHanded {} Tryz.checked os 5 .any (Rows.fnExactCoverMapSpec.pre6 enc Tryz.prog Tryz.f5 Rows.fnExactCoverMapRow.domain false) (Rows.fnExactCoverMapSpec.post enc Tryz.prog Tryz.f5 false true false false) := by
  refine zOl (C := Tryz.checked) Tryz.own started (by kernel_rfl) Tryz.func5
    (ChangeSpec.witness6 (enc := enc) (C := Tryz.checked) false ⟨#[], #[.agg #[.slice none 0 0, .slice none 0 0, .slice none 0 0], .agg #[.int .i64 0, .int .i64 0, .slice none 0 0], .slice none 0 0], []⟩ 8 (by kernel_rfl) (by kernel_rfl) (by kernel_rfl) (by kernel_rfl))
    (fun l hl => ?_) rfl (by kernel_rfl) Tryz.underlying4 Tryz.laidOut (by kernel_rfl) ?_
  · rw [Tryz.params5] at hl
    match l, hl with
    | [a0, a1, a2], _ => exact ⟨rfl, rfl, rfl⟩
  · intro W base args ds p hval hA
    have hA' := hA
    rw [Tryz.params5] at hA' hval
    obtain ⟨v0, v1, v2, d0, d1, d2, p0, p1, p2, rfl, rfl, rfl, ⟨n0, h0⟩, ⟨n1, h1⟩, ⟨n2, h2⟩⟩ := trodAll_three hA'
    obtain ⟨x0, g0, k0⟩ := yCF enc W base n0 v0 _ h0 (hval 0 _ v0 rfl rfl)
    obtain ⟨x1, g1, k1⟩ := yCH enc W base n1 v1 _ h1 (hval 1 _ v1 rfl rfl)
    obtain ⟨x2, g2, k2⟩ := yCI enc W base n2 v2 _ h2 (hval 2 _ v2 rfl rfl)
    refine ⟨_, rfl, (t_bk.h x0 x1 x2).go (zIV x0 x1 x2 g0 g1 g2), fun i u hu => ?_⟩
    match i, hu with
    | 0, hu => cases hu; exact k0 _ 0 rfl
    | 1, hu => cases hu; exact k1 _ 1 rfl
    | 2, hu => cases hu; exact k2 _ 2 rfl
    | i + 3, hu => simp at hu

theorem FnExactCoverMap_holds : Rows.FnExactCoverMapSaid :=
  OpenClaim.holds_of_wide 5 Tryz.f5 rfl rfl rfl rfl rfl rfl rfl ⟨rfl, rfl, rfl, rfl, rfl⟩ rfl rfl rfl rfl rfl (by kernel_rfl) Tryz.func5 (by kernel_rfl)
    (of_decide_eq_true (by kernel_rfl)) (by unfold Func.isWrapper; first | (rw [if_pos (by decide +kernel)]; kernel_rfl) | (rw [if_neg (by decide +kernel)]; exact ⟨rfl, rfl⟩))
    (fun os started H enc _ => yA4 os started H enc)
end Go.Proofs.YtmoaeebpmcafpaaGreat
