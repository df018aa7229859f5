/- The program's TailsOfMap returns what the reference's returns, for all arguments; no conditions. -/
import Derived.Test.YtfaocpkdikjohaaGreatRows
import Derived.Test.YtfaocpkdikjohaaGreatAbC
import Derived.Test.YtfaocpkdikjohaaGreatW
import Derived.Test.YtfaocpkdikjohaaGreatPlC
namespace Go.Proofs.YtfaocpkdikjohaaGreat
open Go Go.Ab Go.Wk Go.ChangeShapes Go.RowKit Go.Pl
theorem Tryz.own : ownKnob Tryz.prog.godebug = none := by kernel_rfl
theorem Tryz.laidOut : laidOutB Tryz.prog = true := by kernel_rfl
theorem c1 {P : Program} {t : TypeId} {ti : TypeInfo} {k : Nat} (h : P.info? t = some ti) (h2 : ti.size = k) : P.cellsOf t = k := by simp [Program.cellsOf, h, h2]
theorem yAy : RdT Tryz.prog 2 1 I VI := zXs Tryz.underlying2
theorem yAz : RdC Tryz.prog 22 (fun x => T.ro ((L 1 I) x)) (VL VI) := zXv Tryz.underlying22 (c1 (zQ Tryz.type2) rfl) Nat.one_pos yAy
theorem zWR : RdT Tryz.prog 22 1 (L 1 I) (VL VI) := zXt Tryz.underlying22 (c1 (zQ Tryz.type2) rfl) Nat.one_pos yAy
theorem zWS : RdC Tryz.prog 23 (fun x => T.ro ((L 1 (L 1 I)) x)) (VL (VL VI)) := zXv Tryz.underlying23 (c1 (zQ Tryz.type22) rfl) Nat.one_pos zWR
theorem yA0 : RdT Tryz.prog 23 1 (L 1 (L 1 I)) (VL (VL VI)) := zXt Tryz.underlying23 (c1 (zQ Tryz.type22) rfl) Nat.one_pos zWR
theorem yA1 : RdC Tryz.prog 24 (fun x => T.ro ((L 1 (L 1 (L 1 I))) x)) (VL (VL (VL VI))) := zXv Tryz.underlying24 (c1 (zQ Tryz.type23) rfl) Nat.one_pos yA0
theorem yA2 : RdA Tryz.prog 26 (fun x : SPr => T.agg [T.ro ((L 1 I) x.zA), T.ro ((L 1 (L 1 I)) x.zT), T.ro ((L 1 (L 1 (L 1 I))) x.zE)]) zOW :=
  zWv SPr.mk Tryz.underlying26 (c1 (zQ Tryz.type26) rfl) ⟨rfl, (c1 (zQ Tryz.type22) rfl)⟩ ⟨rfl, (c1 (zQ Tryz.type23) rfl)⟩ ⟨rfl, (c1 (zQ Tryz.type24) rfl)⟩ yAz zWS yA1 (fun _ _ _ => rfl) fun _ _ _ h1 h2 h3 => ⟨h1, h2, h3⟩
theorem yA3 : RdC Tryz.prog 2 I VI := zXu Tryz.underlying2
theorem yA4 : RdA Tryz.prog 28 (fun x : zK => T.agg [I x.Prime, I x.yI, T.ro ((L 1 (L 1 I)) x.Rows)]) zVh :=
  zWv zK.mk Tryz.underlying28 (c1 (zQ Tryz.type28) rfl) ⟨rfl, (c1 (zQ Tryz.type2) rfl)⟩ ⟨rfl, (c1 (zQ Tryz.type2) rfl)⟩ ⟨rfl, (c1 (zQ Tryz.type23) rfl)⟩ yA3 yA3 zWS (fun _ _ _ => rfl) fun _ _ _ h1 h2 h3 => ⟨h1, h2, h3⟩
set_option maxRecDepth 100000 in
theorem zYw (os : Os) (started : os.Started) (H : Type) (enc : TypeId × Value → H) :
    ReturnsInHanded {} Tryz.checked os 3 .any (Rows.fnExactTailsOfMapSpec.pre6 enc Tryz.prog Tryz.f3 Rows.fnExactTailsOfMapRow.domain false) (Rows.fnExactTailsOfMapSpec.post enc Tryz.prog Tryz.f3 false true false false) := by
  refine zNh (C := Tryz.checked) Tryz.own started (by kernel_rfl) Tryz.func3
    (ChangeSpec.witness6 (enc := enc) (C := Tryz.checked) false ⟨#[], #[.agg #[.slice none 0 0, .slice none 0 0, .slice none 0 0], .agg #[.int .i64 0, .int .i64 0, .slice none 0 0]], []⟩ 8 (by kernel_rfl) (by kernel_rfl) (by kernel_rfl) (by kernel_rfl))
    (fun l hl => ?_) rfl (by kernel_rfl) Tryz.underlying4 Tryz.laidOut (by kernel_rfl) ?_
  · rw [Tryz.params3] at hl
    match l, hl with
    | [a0, a1], _ => exact ⟨rfl, rfl, rfl⟩
  · intro W base args ds p hval hA
    have hA' := hA
    rw [Tryz.params3] at hA' hval
    obtain ⟨v0, v1, d0, d1, p0, p1, rfl, rfl, rfl, ⟨n0, h0⟩, ⟨n1, h1⟩⟩ := trodAll_two hA'
    obtain ⟨x0, g0, k0⟩ := yA2 enc W base n0 v0 _ h0 (hval 0 _ v0 rfl rfl)
    obtain ⟨x1, g1, k1⟩ := yA4 enc W base n1 v1 _ h1 (hval 1 _ v1 rfl rfl)
    refine ⟨_, rfl, (t_bo.h x0 x1).go (zGb x0 x1 g0 g1), fun i u hu => ?_⟩
    match i, hu with
    | 0, hu => cases hu; exact k0 _ 0 rfl
    | 1, hu => cases hu; exact k1 _ 1 rfl
    | i + 2, hu => simp at hu

theorem FnExactTailsOfMap_holds : Rows.FnExactTailsOfMapSaid :=
  OpenClaim.holds_of_wide 3 Tryz.f3 rfl rfl rfl rfl rfl rfl rfl ⟨rfl, rfl, rfl, rfl, rfl⟩ rfl rfl rfl rfl rfl (by kernel_rfl) Tryz.func3 (by kernel_rfl)
    (of_decide_eq_true (by kernel_rfl)) (by unfold Func.isWrapper; first | (rw [if_pos (by decide +kernel)]; kernel_rfl) | (rw [if_neg (by decide +kernel)]; exact ⟨rfl, rfl⟩))
    (fun os started H enc _ => zYw os started H enc)
end Go.Proofs.YtfaocpkdikjohaaGreat
