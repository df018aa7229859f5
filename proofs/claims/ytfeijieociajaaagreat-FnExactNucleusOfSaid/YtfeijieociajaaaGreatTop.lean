/- The program's NucleusOf returns what the reference's returns, for all arguments; no conditions. -/
import Derived.Test.YtfeijieociajaaaGreatRows
import Derived.Test.YtfeijieociajaaaGreatAbC
import Derived.Test.YtfeijieociajaaaGreatVD
import Derived.Test.YtfeijieociajaaaGreatPlD
namespace Go.Proofs.YtfeijieociajaaaGreat
open Go Go.Ab Go.Wk Go.ChangeShapes Go.RowKit Go.Pl
theorem Tryz.own : ownKnob Tryz.prog.godebug = none := by kernel_rfl
theorem Tryz.laidOut : laidOutB Tryz.prog = true := by kernel_rfl
theorem c1 {P : Program} {t : TypeId} {ti : TypeInfo} {k : Nat} (h : P.info? t = some ti) (h2 : ti.size = k) : P.cellsOf t = k := by simp [Program.cellsOf, h, h2]
theorem yEK : RdT Tryz.prog 2 1 I VI := yAV Tryz.underlying2
theorem yEL : RdC Tryz.prog 22 (fun x => T.ro ((L 1 I) x)) (VL VI) := yAX Tryz.underlying22 (c1 (zO Tryz.type2) rfl) Nat.one_pos yEK
theorem yA9 : RdT Tryz.prog 22 1 (L 1 I) (VL VI) := yAW Tryz.underlying22 (c1 (zO Tryz.type2) rfl) Nat.one_pos yEK
theorem yEM : RdC Tryz.prog 23 (fun x => T.ro ((L 1 (L 1 I)) x)) (VL (VL VI)) := yAX Tryz.underlying23 (c1 (zO Tryz.type22) rfl) Nat.one_pos yA9
theorem yEN : RdT Tryz.prog 23 1 (L 1 (L 1 I)) (VL (VL VI)) := yAW Tryz.underlying23 (c1 (zO Tryz.type22) rfl) Nat.one_pos yA9
theorem yEO : RdC Tryz.prog 24 (fun x => T.ro ((L 1 (L 1 (L 1 I))) x)) (VL (VL (VL VI))) := yAX Tryz.underlying24 (c1 (zO Tryz.type23) rfl) Nat.one_pos yEN
theorem yEP : RdA Tryz.prog 26 (fun x : SPr => T.agg [T.ro ((L 1 I) x.zA), T.ro ((L 1 (L 1 I)) x.zP), T.ro ((L 1 (L 1 (L 1 I))) x.zE)]) zQR :=
  yDf SPr.mk Tryz.underlying26 (c1 (zO Tryz.type26) rfl) ⟨rfl, (c1 (zO Tryz.type22) rfl)⟩ ⟨rfl, (c1 (zO Tryz.type23) rfl)⟩ ⟨rfl, (c1 (zO Tryz.type24) rfl)⟩ yEL yEM yEO (fun _ _ _ => rfl) fun _ _ _ h1 h2 h3 => ⟨h1, h2, h3⟩
set_option maxRecDepth 100000 in
theorem yCn (os : Os) (started : os.Started) (H : Type) (enc : TypeId × Value → H) :
    ReturnsInHanded {} Tryz.checked os 4 .any (Rows.fnExactNucleusOfSpec.pre6 enc Tryz.prog Tryz.f4 Rows.fnExactNucleusOfRow.domain false) (Rows.fnExactNucleusOfSpec.post enc Tryz.prog Tryz.f4 false true false false) := by
  refine zOx (C := Tryz.checked) Tryz.own started (by kernel_rfl) Tryz.func4
    (ChangeSpec.witness6 (enc := enc) (C := Tryz.checked) false ⟨#[], #[.agg #[.slice none 0 0, .slice none 0 0, .slice none 0 0]], []⟩ 8 (by kernel_rfl) (by kernel_rfl) (by kernel_rfl) (by kernel_rfl))
    (fun l hl => ?_) rfl (by kernel_rfl) Tryz.underlying4 Tryz.laidOut (by kernel_rfl) ?_
  · rw [Tryz.params4] at hl
    match l, hl with
    | [a0], _ => exact ⟨rfl, rfl, rfl⟩
  · intro W base args ds p hval hA
    have hA' := hA
    rw [Tryz.params4] at hA' hval
    obtain ⟨v0, d0, rfl, rfl, ⟨n0, h0⟩⟩ := trodAll_one hA'
    obtain ⟨x0, g0, k0⟩ := yEP enc W base n0 v0 _ h0 (hval 0 _ v0 rfl rfl)
    refine ⟨_, rfl, (t_bY.h x0).go (zG5 x0 g0), fun i u hu => ?_⟩
    match i, hu with
    | 0, hu => cases hu; exact k0 _ 0 rfl
    | i + 1, hu => simp at hu

theorem FnExactNucleusOf_holds : Rows.FnExactNucleusOfSaid :=
  OpenClaim.holds_of_wide 4 Tryz.f4 rfl rfl rfl rfl rfl rfl rfl ⟨rfl, rfl, rfl, rfl, rfl⟩ rfl rfl rfl rfl rfl (by kernel_rfl) Tryz.func4 (by kernel_rfl)
    (of_decide_eq_true (by kernel_rfl)) (by unfold Func.isWrapper; first | (rw [if_pos (by decide +kernel)]; kernel_rfl) | (rw [if_neg (by decide +kernel)]; exact ⟨rfl, rfl⟩))
    (fun os started H enc _ => yCn os started H enc)
end Go.Proofs.YtfeijieociajaaaGreat
