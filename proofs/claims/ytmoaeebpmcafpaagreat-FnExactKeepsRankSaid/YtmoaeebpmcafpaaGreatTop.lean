/- The program's KeepsRank returns what the reference's returns, for all arguments; no conditions. -/
import Derived.Test.YtmoaeebpmcafpaaGreatRows
import Derived.Test.YtmoaeebpmcafpaaGreatAbC
import Derived.Test.YtmoaeebpmcafpaaGreatWB
import Derived.Test.YtmoaeebpmcafpaaGreatPlC
namespace Go.Proofs.YtmoaeebpmcafpaaGreat
open Go Go.Ab Go.Wk Go.ChangeShapes Go.RowKit Go.Pl
theorem Tryz.own : ownKnob Tryz.prog.godebug = none := by kernel_rfl
theorem Tryz.laidOut : laidOutB Tryz.prog = true := by kernel_rfl
theorem c1 {P : Program} {t : TypeId} {ti : TypeInfo} {k : Nat} (h : P.info? t = some ti) (h2 : ti.size = k) : P.cellsOf t = k := by simp [Program.cellsOf, h, h2]
theorem yBN : RdT Tryz.prog 2 1 I VI := zYB Tryz.underlying2
theorem yBO : RdC Tryz.prog 22 (fun x => T.ro ((L 1 I) x)) (VL VI) := zWh Tryz.underlying22 (c1 (zR Tryz.type2) rfl) Nat.one_pos yBN
theorem zUf : RdT Tryz.prog 22 1 (L 1 I) (VL VI) := zYC Tryz.underlying22 (c1 (zR Tryz.type2) rfl) Nat.one_pos yBN
theorem yBP : RdC Tryz.prog 23 (fun x => T.ro ((L 1 (L 1 I)) x)) (VL (VL VI)) := zWh Tryz.underlying23 (c1 (zR Tryz.type22) rfl) Nat.one_pos zUf
theorem yBQ : RdT Tryz.prog 23 1 (L 1 (L 1 I)) (VL (VL VI)) := zYC Tryz.underlying23 (c1 (zR Tryz.type22) rfl) Nat.one_pos zUf
theorem zYj : RdC Tryz.prog 24 (fun x => T.ro ((L 1 (L 1 (L 1 I))) x)) (VL (VL (VL VI))) := zWh Tryz.underlying24 (c1 (zR Tryz.type23) rfl) Nat.one_pos yBQ
theorem yBR : RdA Tryz.prog 26 (fun x : SPr => T.agg [T.ro ((L 1 I) x.zA), T.ro ((L 1 (L 1 I)) x.zS), T.ro ((L 1 (L 1 (L 1 I))) x.zG)]) zPK :=
  zXB SPr.mk Tryz.underlying26 (c1 (zR Tryz.type26) rfl) ⟨rfl, (c1 (zR Tryz.type22) rfl)⟩ ⟨rfl, (c1 (zR Tryz.type23) rfl)⟩ ⟨rfl, (c1 (zR Tryz.type24) rfl)⟩ yBO yBP zYj (fun _ _ _ => rfl) fun _ _ _ h1 h2 h3 => ⟨h1, h2, h3⟩
theorem yBS : RdC Tryz.prog 2 I VI := zYD Tryz.underlying2
theorem yBT : RdA Tryz.prog 36 (fun x : zB => T.agg [I x.Prime, I x.Dim, T.ro ((L 1 (L 1 (L 1 I))) x.zF)]) zWm :=
  zXB zB.mk Tryz.underlying36 (c1 (zR Tryz.type36) rfl) ⟨rfl, (c1 (zR Tryz.type2) rfl)⟩ ⟨rfl, (c1 (zR Tryz.type2) rfl)⟩ ⟨rfl, (c1 (zR Tryz.type24) rfl)⟩ yBS yBS zYj (fun _ _ _ => rfl) fun _ _ _ h1 h2 h3 => ⟨h1, h2, h3⟩
theorem yBU : RdA Tryz.prog 23 (fun x => T.ro ((L 1 (L 1 I)) x)) (VL (VL VI)) := yCi Tryz.underlying23 (c1 (zR Tryz.type22) rfl) Nat.one_pos zUf
set_option maxRecDepth 100000 in
theorem zZF (os : Os) (started : os.Started) (H : Type) (enc : TypeId × Value → H) :
    ReturnsInHanded {} Tryz.checked os 4 .any (Rows.fnExactKeepsRankSpec.pre6 enc Tryz.prog Tryz.f4 Rows.fnExactKeepsRankRow.domain false) (Rows.fnExactKeepsRankSpec.post enc Tryz.prog Tryz.f4 false true false false) := by
  refine zNT (C := Tryz.checked) Tryz.own started (by kernel_rfl) Tryz.func4
    (ChangeSpec.witness6 (enc := enc) (C := Tryz.checked) false ⟨#[], #[.agg #[.slice none 0 0, .slice none 0 0, .slice none 0 0], .agg #[.int .i64 0, .int .i64 0, .slice none 0 0], .slice none 0 0], []⟩ 8 (by kernel_rfl) (by kernel_rfl) (by kernel_rfl) (by kernel_rfl))
    (fun l hl => ?_) rfl (by kernel_rfl) Tryz.underlying4 Tryz.laidOut (by kernel_rfl) ?_
  · rw [Tryz.params4] at hl
    match l, hl with
    | [a0, a1, a2], _ => exact ⟨rfl, rfl, rfl⟩
  · intro W base args ds p hval hA
    have hA' := hA
    rw [Tryz.params4] at hA' hval
    obtain ⟨v0, v1, v2, d0, d1, d2, p0, p1, p2, rfl, rfl, rfl, ⟨n0, h0⟩, ⟨n1, h1⟩, ⟨n2, h2⟩⟩ := trodAll_three hA'
    obtain ⟨x0, g0, k0⟩ := yBR enc W base n0 v0 _ h0 (hval 0 _ v0 rfl rfl)
    obtain ⟨x1, g1, k1⟩ := yBT enc W base n1 v1 _ h1 (hval 1 _ v1 rfl rfl)
    obtain ⟨x2, g2, k2⟩ := yBU enc W base n2 v2 _ h2 (hval 2 _ v2 rfl rfl)
    refine ⟨_, rfl, (t_bA.h x0 x1 x2).go (zGK x0 x1 x2 g0 g1 g2), fun i u hu => ?_⟩
    match i, hu with
    | 0, hu => cases hu; exact k0 _ 0 rfl
    | 1, hu => cases hu; exact k1 _ 1 rfl
    | 2, hu => cases hu; exact k2 _ 2 rfl
    | i + 3, hu => simp at hu

theorem FnExactKeepsRank_holds : Rows.FnExactKeepsRankSaid :=
  OpenClaim.holds_of_wide 4 Tryz.f4 rfl rfl rfl rfl rfl rfl rfl ⟨rfl, rfl, rfl, rfl, rfl⟩ rfl rfl rfl rfl rfl (by kernel_rfl) Tryz.func4 (by kernel_rfl)
    (of_decide_eq_true (by kernel_rfl)) (by unfold Func.isWrapper; first | (rw [if_pos (by decide +kernel)]; kernel_rfl) | (rw [if_neg (by decide +kernel)]; exact ⟨rfl, rfl⟩))
    (fun os started H enc _ => zZF os started H enc)
end Go.Proofs.YtmoaeebpmcafpaaGreat
