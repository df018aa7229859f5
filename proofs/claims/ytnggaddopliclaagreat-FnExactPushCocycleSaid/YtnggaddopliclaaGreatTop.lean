/- The program's PushCocycle returns what the reference's returns, for all arguments; no conditions. -/
import Derived.Test.YtnggaddopliclaaGreatRows
import Derived.Test.YtnggaddopliclaaGreatAbC
import Derived.Test.YtnggaddopliclaaGreatW
import Derived.Test.YtnggaddopliclaaGreatPlB
namespace Go.Proofs.YtnggaddopliclaaGreat
open Go Go.Ab Go.Wk Go.ChangeShapes Go.RowKit Go.Pl
theorem Tryz.own : ownKnob Tryz.prog.godebug = none := by kernel_rfl
theorem Tryz.laidOut : laidOutB Tryz.prog = true := by kernel_rfl
theorem c1 {P : Program} {t : TypeId} {ti : TypeInfo} {k : Nat} (h : P.info? t = some ti) (h2 : ti.size = k) : P.cellsOf t = k := by simp [Program.cellsOf, h, h2]
theorem zT8 : RdT Tryz.prog 2 1 I VI := zRh Tryz.underlying2
theorem zT9 : RdC Tryz.prog 22 (fun x => T.ro ((L 1 I) x)) (VL VI) := zP3 Tryz.underlying22 (c1 (zI Tryz.type2) rfl) Nat.one_pos zT8
theorem zNR : RdT Tryz.prog 22 1 (L 1 I) (VL VI) := zRi Tryz.underlying22 (c1 (zI Tryz.type2) rfl) Nat.one_pos zT8
theorem zQI : RdC Tryz.prog 23 (fun x => T.ro ((L 1 (L 1 I)) x)) (VL (VL VI)) := zP3 Tryz.underlying23 (c1 (zI Tryz.type22) rfl) Nat.one_pos zNR
theorem zTA : RdT Tryz.prog 23 1 (L 1 (L 1 I)) (VL (VL VI)) := zRi Tryz.underlying23 (c1 (zI Tryz.type22) rfl) Nat.one_pos zNR
theorem zQJ : RdC Tryz.prog 24 (fun x => T.ro ((L 1 (L 1 (L 1 I))) x)) (VL (VL (VL VI))) := zP3 Tryz.underlying24 (c1 (zI Tryz.type23) rfl) Nat.one_pos zTA
theorem zTB : RdA Tryz.prog 26 (fun x : SPr => T.agg [T.ro ((L 1 I) x.zA), T.ro ((L 1 (L 1 I)) x.zR), T.ro ((L 1 (L 1 (L 1 I))) x.zB)]) zKM :=
  zMZ SPr.mk Tryz.underlying26 (c1 (zI Tryz.type26) rfl) ⟨rfl, (c1 (zI Tryz.type22) rfl)⟩ ⟨rfl, (c1 (zI Tryz.type23) rfl)⟩ ⟨rfl, (c1 (zI Tryz.type24) rfl)⟩ zT9 zQI zQJ (fun _ _ _ => rfl) fun _ _ _ h1 h2 h3 => ⟨h1, h2, h3⟩
theorem zPL : RdC Tryz.prog 2 I VI := zRj Tryz.underlying2
theorem zQK : RdA Tryz.prog 28 (fun x : zC => T.agg [I x.Prime, I x.Dim, T.ro ((L 1 (L 1 (L 1 I))) x.zE)]) zL9 :=
  zMZ zC.mk Tryz.underlying28 (c1 (zI Tryz.type28) rfl) ⟨rfl, (c1 (zI Tryz.type2) rfl)⟩ ⟨rfl, (c1 (zI Tryz.type2) rfl)⟩ ⟨rfl, (c1 (zI Tryz.type24) rfl)⟩ zPL zPL zQJ (fun _ _ _ => rfl) fun _ _ _ h1 h2 h3 => ⟨h1, h2, h3⟩
theorem zTC : RdA Tryz.prog 30 (fun x : zL => T.agg [I x.Prime, I x.yS, T.ro ((L 1 (L 1 I)) x.Rows)]) zPD :=
  zMZ zL.mk Tryz.underlying30 (c1 (zI Tryz.type30) rfl) ⟨rfl, (c1 (zI Tryz.type2) rfl)⟩ ⟨rfl, (c1 (zI Tryz.type2) rfl)⟩ ⟨rfl, (c1 (zI Tryz.type23) rfl)⟩ zPL zPL zQI (fun _ _ _ => rfl) fun _ _ _ h1 h2 h3 => ⟨h1, h2, h3⟩
theorem zTD : RdA Tryz.prog 23 (fun x => T.ro ((L 1 (L 1 I)) x)) (VL (VL VI)) := zTO Tryz.underlying23 (c1 (zI Tryz.type22) rfl) Nat.one_pos zNR
set_option maxRecDepth 100000 in
theorem zRF (os : Os) (started : os.Started) (H : Type) (enc : TypeId × Value → H) :
    ReturnsInHanded {} Tryz.checked os 3 .any (Rows.fnExactPushCocycleSpec.pre6 enc Tryz.prog Tryz.f3 Rows.fnExactPushCocycleRow.domain false) (Rows.fnExactPushCocycleSpec.post enc Tryz.prog Tryz.f3 false true false false) := by
  refine zJh (C := Tryz.checked) Tryz.own started (by kernel_rfl) Tryz.func3
    (ChangeSpec.witness6 (enc := enc) (C := Tryz.checked) false ⟨#[], #[.agg #[.slice none 0 0, .slice none 0 0, .slice none 0 0], .agg #[.int .i64 0, .int .i64 0, .slice none 0 0], .agg #[.int .i64 0, .int .i64 0, .slice none 0 0], .agg #[.int .i64 0, .int .i64 0, .slice none 0 0], .slice none 0 0], []⟩ 8 (by kernel_rfl) (by kernel_rfl) (by kernel_rfl) (by kernel_rfl))
    (fun l hl => ?_) rfl (by kernel_rfl) Tryz.underlying4 Tryz.laidOut (by kernel_rfl) ?_
  · rw [Tryz.params3] at hl
    match l, hl with
    | [a0, a1, a2, a3, a4], _ => exact ⟨rfl, rfl, rfl⟩
  · intro W base args ds p hval hA
    have hA' := hA
    rw [Tryz.params3] at hA' hval
    obtain ⟨v0, v1, v2, v3, v4, d0, d1, d2, d3, d4, p0, p1, p2, p3, p4, rfl, rfl, rfl, ⟨n0, h0⟩, ⟨n1, h1⟩, ⟨n2, h2⟩, ⟨n3, h3⟩, ⟨n4, h4⟩⟩ := Go.Ab.trodAll_five hA'
    obtain ⟨x0, g0, k0⟩ := zTB enc W base n0 v0 _ h0 (hval 0 _ v0 rfl rfl)
    obtain ⟨x1, g1, k1⟩ := zQK enc W base n1 v1 _ h1 (hval 1 _ v1 rfl rfl)
    obtain ⟨x2, g2, k2⟩ := zQK enc W base n2 v2 _ h2 (hval 2 _ v2 rfl rfl)
    obtain ⟨x3, g3, k3⟩ := zTC enc W base n3 v3 _ h3 (hval 3 _ v3 rfl rfl)
    obtain ⟨x4, g4, k4⟩ := zTD enc W base n4 v4 _ h4 (hval 4 _ v4 rfl rfl)
    refine ⟨_, rfl, (t_aE.h x0 x1 x2 x3 x4).go (zCP x0 x1 x2 x3 x4 g0 g1 g2 g3 g4), fun i u hu => ?_⟩
    match i, hu with
    | 0, hu => cases hu; exact k0 _ 0 rfl
    | 1, hu => cases hu; exact k1 _ 1 rfl
    | 2, hu => cases hu; exact k2 _ 2 rfl
    | 3, hu => cases hu; exact k3 _ 3 rfl
    | 4, hu => cases hu; exact k4 _ 4 rfl
    | i + 5, hu => simp at hu

theorem FnExactPushCocycle_holds : Rows.FnExactPushCocycleSaid :=
  OpenClaim.holds_of_wide 3 Tryz.f3 rfl rfl rfl rfl rfl rfl rfl ⟨rfl, rfl, rfl, rfl, rfl⟩ rfl rfl rfl rfl rfl (by kernel_rfl) Tryz.func3 (by kernel_rfl)
    (of_decide_eq_true (by kernel_rfl)) (by unfold Func.isWrapper; first | (rw [if_pos (by decide +kernel)]; kernel_rfl) | (rw [if_neg (by decide +kernel)]; exact ⟨rfl, rfl⟩))
    (fun os started H enc _ => zRF os started H enc)
end Go.Proofs.YtnggaddopliclaaGreat
