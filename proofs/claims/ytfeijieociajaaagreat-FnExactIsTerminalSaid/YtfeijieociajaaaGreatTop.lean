/- The program's IsTerminal returns what the reference's returns, for all arguments; no conditions. -/
import Derived.Test.YtfeijieociajaaaGreatRows
import Derived.Test.YtfeijieociajaaaGreatAbB
import Derived.Test.YtfeijieociajaaaGreatVE
import Derived.Test.YtfeijieociajaaaGreatPlD
namespace Go.Proofs.YtfeijieociajaaaGreat
open Go Go.Ab Go.Wk Go.ChangeShapes Go.RowKit Go.Pl
theorem Tryz.own : ownKnob Tryz.prog.godebug = none := by kernel_rfl
theorem Tryz.laidOut : laidOutB Tryz.prog = true := by kernel_rfl
theorem c1 {P : Program} {t : TypeId} {ti : TypeInfo} {k : Nat} (h : P.info? t = some ti) (h2 : ti.size = k) : P.cellsOf t = k := by simp [Program.cellsOf, h, h2]
theorem yEj : RdT Tryz.prog 2 1 I VI := yAx Tryz.underlying2
theorem yEk : RdC Tryz.prog 22 (fun x => T.ro ((L 1 I) x)) (VL VI) := yAz Tryz.underlying22 (c1 (zM Tryz.type2) rfl) Nat.one_pos yEj
theorem yAa : RdT Tryz.prog 22 1 (L 1 I) (VL VI) := yAy Tryz.underlying22 (c1 (zM Tryz.type2) rfl) Nat.one_pos yEj
theorem yEl : RdC Tryz.prog 23 (fun x => T.ro ((L 1 (L 1 I)) x)) (VL (VL VI)) := yAz Tryz.underlying23 (c1 (zM Tryz.type22) rfl) Nat.one_pos yAa
theorem yEm : RdT Tryz.prog 23 1 (L 1 (L 1 I)) (VL (VL VI)) := yAy Tryz.underlying23 (c1 (zM Tryz.type22) rfl) Nat.one_pos yAa
theorem yEn : RdC Tryz.prog 24 (fun x => T.ro ((L 1 (L 1 (L 1 I))) x)) (VL (VL (VL VI))) := yAz Tryz.underlying24 (c1 (zM Tryz.type23) rfl) Nat.one_pos yEm
theorem yEo : RdA Tryz.prog 26 (fun x : SPr => T.agg [T.ro ((L 1 I) x.zA), T.ro ((L 1 (L 1 I)) x.zP), T.ro ((L 1 (L 1 (L 1 I))) x.zF)]) zQ4 :=
  yC5 SPr.mk Tryz.underlying26 (c1 (zM Tryz.type26) rfl) ⟨rfl, (c1 (zM Tryz.type22) rfl)⟩ ⟨rfl, (c1 (zM Tryz.type23) rfl)⟩ ⟨rfl, (c1 (zM Tryz.type24) rfl)⟩ yEk yEl yEn (fun _ _ _ => rfl) fun _ _ _ h1 h2 h3 => ⟨h1, h2, h3⟩
set_option maxRecDepth 100000 in
theorem yBF (os : Os) (started : os.Started) (H : Type) (enc : TypeId × Value → H) :
    ReturnsInHanded {} Tryz.checked os 3 .any (Rows.fnExactIsTerminalSpec.pre6 enc Tryz.prog Tryz.f3 Rows.fnExactIsTerminalRow.domain false) (Rows.fnExactIsTerminalSpec.post enc Tryz.prog Tryz.f3 false true false false) := by
  refine zOg (C := Tryz.checked) Tryz.own started (by kernel_rfl) Tryz.func3
    (ChangeSpec.witness6 (enc := enc) (C := Tryz.checked) false ⟨#[], #[.agg #[.slice none 0 0, .slice none 0 0, .slice none 0 0]], []⟩ 8 (by kernel_rfl) (by kernel_rfl) (by kernel_rfl) (by kernel_rfl))
    (fun l hl => ?_) rfl (by kernel_rfl) Tryz.underlying4 Tryz.laidOut (by kernel_rfl) ?_
  · rw [Tryz.params3] at hl
    match l, hl with
    | [a0], _ => exact ⟨rfl, rfl, rfl⟩
  · intro W base args ds p hval hA
    have hA' := hA
    rw [Tryz.params3] at hA' hval
    obtain ⟨v0, d0, rfl, rfl, ⟨n0, h0⟩⟩ := trodAll_one hA'
    obtain ⟨x0, g0, k0⟩ := yEo enc W base n0 v0 _ h0 (hval 0 _ v0 rfl rfl)
    refine ⟨_, rfl, (t_bR.h x0).go (zFI x0 g0), fun i u hu => ?_⟩
    match i, hu with
    | 0, hu => cases hu; exact k0 _ 0 rfl
    | i + 1, hu => simp at hu

theorem FnExactIsTerminal_holds : Rows.FnExactIsTerminalSaid :=
  OpenClaim.holds_of_wide 3 Tryz.f3 rfl rfl rfl rfl rfl rfl rfl ⟨rfl, rfl, rfl, rfl, rfl⟩ rfl rfl rfl rfl rfl (by kernel_rfl) Tryz.func3 (by kernel_rfl)
    (of_decide_eq_true (by kernel_rfl)) (by unfold Func.isWrapper; first | (rw [if_pos (by decide +kernel)]; kernel_rfl) | (rw [if_neg (by decide +kernel)]; exact ⟨rfl, rfl⟩))
    (fun os started H enc _ => yBF os started H enc)
end Go.Proofs.YtfeijieociajaaaGreat
