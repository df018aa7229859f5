/- The program's ComplementsOf returns what the reference's returns, for all arguments; no conditions. -/
import Derived.Test.YtfaocpkdikjohaaGreatRows
import Derived.Test.YtfaocpkdikjohaaGreatAbC
import Derived.Test.YtfaocpkdikjohaaGreatW
import Derived.Test.YtfaocpkdikjohaaGreatPlC
namespace Go.Proofs.YtfaocpkdikjohaaGreat
open Go Go.Ab Go.Wk Go.ChangeShapes Go.RowKit Go.Pl
theorem Tryz.own : ownKnob Tryz.prog.godebug = none := by kernel_rfl
theorem Tryz.laidOut : laidOutB Tryz.prog = true := by kernel_rfl
theorem c1 {P : Program} {t : TypeId} {ti : TypeInfo} {k : Nat} (h : P.info? t = some ti) (h2 : ti.size = k) : P.cellsOf t = k := by simp [Program.cellsOf, h, h2]
theorem zYp : RdT Tryz.prog 2 1 I VI := zVB Tryz.underlying2
theorem zYq : RdC Tryz.prog 22 (fun x => T.ro ((L 1 I) x)) (VL VI) := zT1 Tryz.underlying22 (c1 (zK Tryz.type2) rfl) Nat.one_pos zYp
theorem zR5 : RdT Tryz.prog 22 1 (L 1 I) (VL VI) := zVC Tryz.underlying22 (c1 (zK Tryz.type2) rfl) Nat.one_pos zYp
theorem zYr : RdC Tryz.prog 23 (fun x => T.ro ((L 1 (L 1 I)) x)) (VL (VL VI)) := zT1 Tryz.underlying23 (c1 (zK Tryz.type22) rfl) Nat.one_pos zR5
theorem zYs : RdT Tryz.prog 23 1 (L 1 (L 1 I)) (VL (VL VI)) := zVC Tryz.underlying23 (c1 (zK Tryz.type22) rfl) Nat.one_pos zR5
theorem zVn : RdC Tryz.prog 24 (fun x => T.ro ((L 1 (L 1 (L 1 I))) x)) (VL (VL (VL VI))) := zT1 Tryz.underlying24 (c1 (zK Tryz.type23) rfl) Nat.one_pos zYs
theorem zYt : RdA Tryz.prog 26 (fun x : SPr => T.agg [T.ro ((L 1 I) x.zA), T.ro ((L 1 (L 1 I)) x.zT), T.ro ((L 1 (L 1 (L 1 I))) x.zB)]) zNB :=
  zUS SPr.mk Tryz.underlying26 (c1 (zK Tryz.type26) rfl) ⟨rfl, (c1 (zK Tryz.type22) rfl)⟩ ⟨rfl, (c1 (zK Tryz.type23) rfl)⟩ ⟨rfl, (c1 (zK Tryz.type24) rfl)⟩ zYq zYr zVn (fun _ _ _ => rfl) fun _ _ _ h1 h2 h3 => ⟨h1, h2, h3⟩
theorem zYu : RdC Tryz.prog 2 I VI := zVD Tryz.underlying2
theorem zYv : RdA Tryz.prog 48 (fun x : zC => T.agg [I x.Prime, I x.Dim, T.ro ((L 1 (L 1 (L 1 I))) x.zI)]) zT6 :=
  zUS zC.mk Tryz.underlying48 (c1 (zK Tryz.type48) rfl) ⟨rfl, (c1 (zK Tryz.type2) rfl)⟩ ⟨rfl, (c1 (zK Tryz.type2) rfl)⟩ ⟨rfl, (c1 (zK Tryz.type24) rfl)⟩ zYu zYu zVn (fun _ _ _ => rfl) fun _ _ _ h1 h2 h3 => ⟨h1, h2, h3⟩
theorem zYw : RdA Tryz.prog 23 (fun x => T.ro ((L 1 (L 1 I)) x)) (VL (VL VI)) := zYA Tryz.underlying23 (c1 (zK Tryz.type22) rfl) Nat.one_pos zR5
set_option maxRecDepth 100000 in
theorem zW0 (os : Os) (started : os.Started) (H : Type) (enc : TypeId × Value → H) :
    ReturnsInHanded {} Tryz.checked os 5 .any (Rows.fnExactComplementsOfSpec.pre6 enc Tryz.prog Tryz.f5 Rows.fnExactComplementsOfRow.domain false) (Rows.fnExactComplementsOfSpec.post enc Tryz.prog Tryz.f5 false true false false) := by
  refine zLB (C := Tryz.checked) Tryz.own started (by kernel_rfl) Tryz.func5
    (ChangeSpec.witness6 (enc := enc) (C := Tryz.checked) false ⟨#[], #[.agg #[.slice none 0 0, .slice none 0 0, .slice none 0 0], .agg #[.int .i64 0, .int .i64 0, .slice none 0 0], .slice none 0 0], []⟩ 8 (by kernel_rfl) (by kernel_rfl) (by kernel_rfl) (by kernel_rfl))
    (fun l hl => ?_) rfl (by kernel_rfl) Tryz.underlying4 Tryz.laidOut (by kernel_rfl) ?_
  · rw [Tryz.params5] at hl
    match l, hl with
    | [a0, a1, a2], _ => exact ⟨rfl, rfl, rfl⟩
  · intro W base args ds p hval hA
    have hA' := hA
    rw [Tryz.params5] at hA' hval
    obtain ⟨v0, v1, v2, d0, d1, d2, p0, p1, p2, rfl, rfl, rfl, ⟨n0, h0⟩, ⟨n1, h1⟩, ⟨n2, h2⟩⟩ := trodAll_three hA'
    obtain ⟨x0, g0, k0⟩ := zYt enc W base n0 v0 _ h0 (hval 0 _ v0 rfl rfl)
    obtain ⟨x1, g1, k1⟩ := zYv enc W base n1 v1 _ h1 (hval 1 _ v1 rfl rfl)
    obtain ⟨x2, g2, k2⟩ := zYw enc W base n2 v2 _ h2 (hval 2 _ v2 rfl rfl)
    refine ⟨_, rfl, (t_br.h x0 x1 x2).go (zCE x0 x1 x2 g0 g1 g2), fun i u hu => ?_⟩
    match i, hu with
    | 0, hu => cases hu; exact k0 _ 0 rfl
    | 1, hu => cases hu; exact k1 _ 1 rfl
    | 2, hu => cases hu; exact k2 _ 2 rfl
    | i + 3, hu => simp at hu

theorem FnExactComplementsOf_holds : Rows.FnExactComplementsOfSaid :=
  OpenClaim.holds_of_wide 5 Tryz.f5 rfl rfl rfl rfl rfl rfl rfl ⟨rfl, rfl, rfl, rfl, rfl⟩ rfl rfl rfl rfl rfl (by kernel_rfl) Tryz.func5 (by kernel_rfl)
    (of_decide_eq_true (by kernel_rfl)) (by unfold Func.isWrapper; first | (rw [if_pos (by decide +kernel)]; kernel_rfl) | (rw [if_neg (by decide +kernel)]; exact ⟨rfl, rfl⟩))
    (fun os started H enc _ => zW0 os started H enc)
end Go.Proofs.YtfaocpkdikjohaaGreat
