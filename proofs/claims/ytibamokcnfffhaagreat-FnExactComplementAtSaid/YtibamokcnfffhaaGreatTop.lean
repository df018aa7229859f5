/- The program's ComplementAt returns what the reference's returns, for all arguments; no conditions. -/
import Derived.Test.YtibamokcnfffhaaGreatRows
import Derived.Test.YtibamokcnfffhaaGreatAbC
import Derived.Test.YtibamokcnfffhaaGreatW
import Derived.Test.YtibamokcnfffhaaGreatPlB
namespace Go.Proofs.YtibamokcnfffhaaGreat
open Go Go.Ab Go.Wk Go.ChangeShapes Go.RowKit Go.Pl
theorem Tryz.own : ownKnob Tryz.prog.godebug = none := by kernel_rfl
theorem Tryz.laidOut : laidOutB Tryz.prog = true := by kernel_rfl
theorem c1 {P : Program} {t : TypeId} {ti : TypeInfo} {k : Nat} (h : P.info? t = some ti) (h2 : ti.size = k) : P.cellsOf t = k := by simp [Program.cellsOf, h, h2]
theorem zWM : RdT Tryz.prog 2 1 I VI := zUe Tryz.underlying2
theorem zWN : RdC Tryz.prog 22 (fun x => T.ro ((L 1 I) x)) (VL VI) := zSd Tryz.underlying22 (c1 (zO Tryz.type2) rfl) Nat.one_pos zWM
theorem zQe : RdT Tryz.prog 22 1 (L 1 I) (VL VI) := zUf Tryz.underlying22 (c1 (zO Tryz.type2) rfl) Nat.one_pos zWM
theorem zWO : RdC Tryz.prog 23 (fun x => T.ro ((L 1 (L 1 I)) x)) (VL (VL VI)) := zSd Tryz.underlying23 (c1 (zO Tryz.type22) rfl) Nat.one_pos zQe
theorem zWP : RdT Tryz.prog 23 1 (L 1 (L 1 I)) (VL (VL VI)) := zUf Tryz.underlying23 (c1 (zO Tryz.type22) rfl) Nat.one_pos zQe
theorem zTG : RdC Tryz.prog 24 (fun x => T.ro ((L 1 (L 1 (L 1 I))) x)) (VL (VL (VL VI))) := zSd Tryz.underlying24 (c1 (zO Tryz.type23) rfl) Nat.one_pos zWP
theorem zWQ : RdA Tryz.prog 26 (fun x : SPr => T.agg [T.ro ((L 1 I) x.zA), T.ro ((L 1 (L 1 I)) x.zV), T.ro ((L 1 (L 1 (L 1 I))) x.zD)]) zMD :=
  zTx SPr.mk Tryz.underlying26 (c1 (zO Tryz.type26) rfl) ⟨rfl, (c1 (zO Tryz.type22) rfl)⟩ ⟨rfl, (c1 (zO Tryz.type23) rfl)⟩ ⟨rfl, (c1 (zO Tryz.type24) rfl)⟩ zWN zWO zTG (fun _ _ _ => rfl) fun _ _ _ h1 h2 h3 => ⟨h1, h2, h3⟩
theorem zWR : RdC Tryz.prog 2 I VI := zUg Tryz.underlying2
theorem zWS : RdA Tryz.prog 28 (fun x : zC => T.agg [I x.Prime, I x.Dim, T.ro ((L 1 (L 1 (L 1 I))) x.zJ)]) zSk :=
  zTx zC.mk Tryz.underlying28 (c1 (zO Tryz.type28) rfl) ⟨rfl, (c1 (zO Tryz.type2) rfl)⟩ ⟨rfl, (c1 (zO Tryz.type2) rfl)⟩ ⟨rfl, (c1 (zO Tryz.type24) rfl)⟩ zWR zWR zTG (fun _ _ _ => rfl) fun _ _ _ h1 h2 h3 => ⟨h1, h2, h3⟩
theorem zTH : RdA Tryz.prog 23 (fun x => T.ro ((L 1 (L 1 I)) x)) (VL (VL VI)) := zXc Tryz.underlying23 (c1 (zO Tryz.type22) rfl) Nat.one_pos zQe
set_option maxRecDepth 100000 in
theorem zUO (os : Os) (started : os.Started) (H : Type) (enc : TypeId × Value → H) :
    ReturnsInHanded {} Tryz.checked os 4 .any (Rows.fnExactComplementAtSpec.pre6 enc Tryz.prog Tryz.f4 Rows.fnExactComplementAtRow.domain false) (Rows.fnExactComplementAtSpec.post enc Tryz.prog Tryz.f4 false true false false) := by
  refine zKO (C := Tryz.checked) Tryz.own started (by kernel_rfl) Tryz.func4
    (ChangeSpec.witness6 (enc := enc) (C := Tryz.checked) false ⟨#[], #[.agg #[.slice none 0 0, .slice none 0 0, .slice none 0 0], .agg #[.int .i64 0, .int .i64 0, .slice none 0 0], .slice none 0 0, .slice none 0 0], []⟩ 8 (by kernel_rfl) (by kernel_rfl) (by kernel_rfl) (by kernel_rfl))
    (fun l hl => ?_) rfl (by kernel_rfl) Tryz.underlying4 Tryz.laidOut (by kernel_rfl) ?_
  · rw [Tryz.params4] at hl
    match l, hl with
    | [a0, a1, a2, a3], _ => exact ⟨rfl, rfl, rfl⟩
  · intro W base args ds p hval hA
    have hA' := hA
    rw [Tryz.params4] at hA' hval
    obtain ⟨v0, v1, v2, v3, d0, d1, d2, d3, p0, p1, p2, p3, rfl, rfl, rfl, ⟨n0, h0⟩, ⟨n1, h1⟩, ⟨n2, h2⟩, ⟨n3, h3⟩⟩ := Go.Ab.trodAll_four hA'
    obtain ⟨x0, g0, k0⟩ := zWQ enc W base n0 v0 _ h0 (hval 0 _ v0 rfl rfl)
    obtain ⟨x1, g1, k1⟩ := zWS enc W base n1 v1 _ h1 (hval 1 _ v1 rfl rfl)
    obtain ⟨x2, g2, k2⟩ := zTH enc W base n2 v2 _ h2 (hval 2 _ v2 rfl rfl)
    obtain ⟨x3, g3, k3⟩ := zTH enc W base n3 v3 _ h3 (hval 3 _ v3 rfl rfl)
    refine ⟨_, rfl, (t_bb.h x0 x1 x2 x3).go (zDa x0 x1 x2 x3 g0 g1 g2 g3), fun i u hu => ?_⟩
    match i, hu with
    | 0, hu => cases hu; exact k0 _ 0 rfl
    | 1, hu => cases hu; exact k1 _ 1 rfl
    | 2, hu => cases hu; exact k2 _ 2 rfl
    | 3, hu => cases hu; exact k3 _ 3 rfl
    | i + 4, hu => simp at hu

theorem FnExactComplementAt_holds : Rows.FnExactComplementAtSaid :=
  OpenClaim.holds_of_wide 4 Tryz.f4 rfl rfl rfl rfl rfl rfl rfl ⟨rfl, rfl, rfl, rfl, rfl⟩ rfl rfl rfl rfl rfl (by kernel_rfl) Tryz.func4 (by kernel_rfl)
    (of_decide_eq_true (by kernel_rfl)) (by unfold Func.isWrapper; first | (rw [if_pos (by decide +kernel)]; kernel_rfl) | (rw [if_neg (by decide +kernel)]; exact ⟨rfl, rfl⟩))
    (fun os started H enc _ => zUO os started H enc)
end Go.Proofs.YtibamokcnfffhaaGreat
