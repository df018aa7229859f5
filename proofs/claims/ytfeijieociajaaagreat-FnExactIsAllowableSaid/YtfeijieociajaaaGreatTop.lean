/- The program's IsAllowable returns what the reference's returns, for all arguments; no conditions. -/
import Derived.Test.YtfeijieociajaaaGreatRows
import Derived.Test.YtfeijieociajaaaGreatAbB
import Derived.Test.YtfeijieociajaaaGreatVD
import Derived.Test.YtfeijieociajaaaGreatPlD
namespace Go.Proofs.YtfeijieociajaaaGreat
open Go Go.Ab Go.Wk Go.ChangeShapes Go.RowKit Go.Pl
theorem Tryz.own : ownKnob Tryz.prog.godebug = none := by kernel_rfl
theorem Tryz.laidOut : laidOutB Tryz.prog = true := by kernel_rfl
theorem c1 {P : Program} {t : TypeId} {ti : TypeInfo} {k : Nat} (h : P.info? t = some ti) (h2 : ti.size = k) : P.cellsOf t = k := by simp [Program.cellsOf, h, h2]
theorem yER : RdT Tryz.prog 2 1 I VI := yAZ Tryz.underlying2
theorem yES : RdC Tryz.prog 22 (fun x => T.ro ((L 1 I) x)) (VL VI) := yBc Tryz.underlying22 (c1 (zN Tryz.type2) rfl) Nat.one_pos yER
theorem yAB : RdT Tryz.prog 22 1 (L 1 I) (VL VI) := yBa Tryz.underlying22 (c1 (zN Tryz.type2) rfl) Nat.one_pos yER
theorem yAC : RdC Tryz.prog 23 (fun x => T.ro ((L 1 (L 1 I)) x)) (VL (VL VI)) := yBc Tryz.underlying23 (c1 (zN Tryz.type22) rfl) Nat.one_pos yAB
theorem yET : RdT Tryz.prog 23 1 (L 1 (L 1 I)) (VL (VL VI)) := yBa Tryz.underlying23 (c1 (zN Tryz.type22) rfl) Nat.one_pos yAB
theorem yEU : RdC Tryz.prog 24 (fun x => T.ro ((L 1 (L 1 (L 1 I))) x)) (VL (VL (VL VI))) := yBc Tryz.underlying24 (c1 (zN Tryz.type23) rfl) Nat.one_pos yET
theorem yEV : RdA Tryz.prog 26 (fun x : SPr => T.agg [T.ro ((L 1 I) x.zA), T.ro ((L 1 (L 1 I)) x.zQ), T.ro ((L 1 (L 1 (L 1 I))) x.zG)]) zQI :=
  zZU SPr.mk Tryz.underlying26 (c1 (zN Tryz.type26) rfl) ⟨rfl, (c1 (zN Tryz.type22) rfl)⟩ ⟨rfl, (c1 (zN Tryz.type23) rfl)⟩ ⟨rfl, (c1 (zN Tryz.type24) rfl)⟩ yES yAC yEU (fun _ _ _ => rfl) fun _ _ _ h1 h2 h3 => ⟨h1, h2, h3⟩
theorem yEW : RdC Tryz.prog 2 I VI := yBb Tryz.underlying2
theorem yEX : RdA Tryz.prog 41 (fun x : zI => T.agg [I x.Prime, I x.xF, T.ro ((L 1 (L 1 I)) x.Rows)]) zY1 :=
  zZU zI.mk Tryz.underlying41 (c1 (zN Tryz.type41) rfl) ⟨rfl, (c1 (zN Tryz.type2) rfl)⟩ ⟨rfl, (c1 (zN Tryz.type2) rfl)⟩ ⟨rfl, (c1 (zN Tryz.type23) rfl)⟩ yEW yEW yAC (fun _ _ _ => rfl) fun _ _ _ h1 h2 h3 => ⟨h1, h2, h3⟩
set_option maxRecDepth 100000 in
theorem yCt (os : Os) (started : os.Started) (H : Type) (enc : TypeId × Value → H) :
    ReturnsInHanded {} Tryz.checked os 5 .any (Rows.fnExactIsAllowableSpec.pre6 enc Tryz.prog Tryz.f5 Rows.fnExactIsAllowableRow.domain false) (Rows.fnExactIsAllowableSpec.post enc Tryz.prog Tryz.f5 false true false false) := by
  refine zOr (C := Tryz.checked) Tryz.own started (by kernel_rfl) Tryz.func5
    (ChangeSpec.witness6 (enc := enc) (C := Tryz.checked) false ⟨#[], #[.agg #[.slice none 0 0, .slice none 0 0, .slice none 0 0], .agg #[.int .i64 0, .int .i64 0, .slice none 0 0]], []⟩ 8 (by kernel_rfl) (by kernel_rfl) (by kernel_rfl) (by kernel_rfl))
    (fun l hl => ?_) rfl (by kernel_rfl) Tryz.underlying4 Tryz.laidOut (by kernel_rfl) ?_
  · rw [Tryz.params5] at hl
    match l, hl with
    | [a0, a1], _ => exact ⟨rfl, rfl, rfl⟩
  · intro W base args ds p hval hA
    have hA' := hA
    rw [Tryz.params5] at hA' hval
    obtain ⟨v0, v1, d0, d1, p0, p1, rfl, rfl, rfl, ⟨n0, h0⟩, ⟨n1, h1⟩⟩ := trodAll_two hA'
    obtain ⟨x0, g0, k0⟩ := yEV enc W base n0 v0 _ h0 (hval 0 _ v0 rfl rfl)
    obtain ⟨x1, g1, k1⟩ := yEX enc W base n1 v1 _ h1 (hval 1 _ v1 rfl rfl)
    refine ⟨_, rfl, (t_b1.h x0 x1).go (zFi x0 x1 g0 g1), fun i u hu => ?_⟩
    match i, hu with
    | 0, hu => cases hu; exact k0 _ 0 rfl
    | 1, hu => cases hu; exact k1 _ 1 rfl
    | i + 2, hu => simp at hu

theorem FnExactIsAllowable_holds : Rows.FnExactIsAllowableSaid :=
  OpenClaim.holds_of_wide 5 Tryz.f5 rfl rfl rfl rfl rfl rfl rfl ⟨rfl, rfl, rfl, rfl, rfl⟩ rfl rfl rfl rfl rfl (by kernel_rfl) Tryz.func5 (by kernel_rfl)
    (of_decide_eq_true (by kernel_rfl)) (by unfold Func.isWrapper; first | (rw [if_pos (by decide +kernel)]; kernel_rfl) | (rw [if_neg (by decide +kernel)]; exact ⟨rfl, rfl⟩))
    (fun os started H enc _ => yCt os started H enc)
end Go.Proofs.YtfeijieociajaaaGreat
