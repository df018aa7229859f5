/- The program's ReplaceVariable returns what the reference's returns, for all arguments; condition: the package variables of Go's library that the row lists hold what the program's text lays, to which the card ties them. -/
import Derived.Test.YtbemegmelmannaaGreatDoorTA
import Derived.Test.YtbemegmelmannaaGreatDoorVat
import Derived.Test.YtbemegmelmannaaGreatDoorVav
import Derived.Test.YtbemegmelmannaaGreatDoorVbb
import Derived.Test.YtbemegmelmannaaGreatDoorPlB
namespace Go.Proofs.YtbemegmelmannaaGreatDoor
open Go Go.Ab Go.Wk Go.ChangeShapes Go.RowKit Go.Pl
theorem rd_9 : RdT Tryz.prog 9 1 Str (fun s => s.size ≤ maxLen) := rd_str Tryz.underlying9
theorem rd_2 : RdT Tryz.prog 2 1 I VI := rd_int Tryz.underlying2
theorem rd_52 : RdT Tryz.prog 52 3 eSNode VN :=
  rd_S3 SNode.mk Tryz.underlying52 ⟨rfl, (c1 (info_of Tryz.type2) rfl)⟩ ⟨rfl, (c1 (info_of Tryz.type9) rfl)⟩ ⟨rfl, (c1 (info_of Tryz.type9) rfl)⟩ rd_2 rd_9 rd_9 (fun _ _ => ⟨rfl, rfl⟩) (fun _ _ _ => rfl) fun _ _ _ h1 h2 h3 => ⟨h1, h2, h3⟩
theorem ra_28 : RdA Tryz.prog 28 (fun x => T.ro (L 3 eSNode x)) (VL VN) := ra_L Tryz.underlying28 (c1 (info_of Tryz.type52) rfl) (by decide) rd_52
theorem ra_9 : RdA Tryz.prog 9 Str (fun s => s.size ≤ maxLen) := ra_str Tryz.underlying9
set_option maxRecDepth 100000 in
theorem reads (os : Os) {H : Type} (enc : TypeId × Value → H) : ∃ places, DataW.whole enc Tryz.prog ((laidWorld os).forCall (fun _ _ => 0) ⟨#[], #[.slice none 0 0, .string ⟨#[]⟩, .slice none 0 0], []⟩).memory Tryz.f6.params.toList Rows.fnExactReplaceVariableSpec.vars false (#[.slice none 0 0, .string ⟨#[]⟩, .slice none 0 0] : Array Value).toList 8 = some ([.nil, .lit (.string []), .nil], [], places) :=
  ⟨[], by kernel_rfl⟩
set_option maxRecDepth 100000 in
theorem lifted (os : Os) (started : os.Started) (H : Type) (enc : TypeId × Value → H) (F : Stop.Interp) :
    ReturnsInHanded {} Tryz.checked os 6 .any ((OpenSpec.ofChange Rows.fnExactReplaceVariableSpec).preRow enc Tryz.prog Tryz.f6 Rows.fnExactReplaceVariableRow.domain false Rows.fnExactReplaceVariableRow.laid) (((OpenSpec.ofChange Rows.fnExactReplaceVariableSpec).at F).post enc Tryz.prog Tryz.f6 false true false false) := by
  obtain ⟨places, hx⟩ := reads os enc
  refine law_liftedL (C := Tryz.checked) Tryz.own started (by kernel_rfl) Tryz.func6
    (witness_row_at (enc := enc) (C := Tryz.checked) false (laidWorld os) #[.slice none 0 0, .string ⟨#[]⟩, .slice none 0 0] rfl (by kernel_rfl) (by kernel_rfl) (by kernel_rfl)
      (OpenSpec.preRow_of_cond 8 hx (by kernel_rfl) (fun k hk => by cases hk) (by kernel_rfl) (laid_met os _)))
    (fun l hl => ?_) rfl (by kernel_rfl) Tryz.underlying4 Tryz.laidOut (by kernel_rfl) ?_ hgl
  · rw [Tryz.params6] at hl
    match l, hl with
    | [a0, a1, a2], _ => exact ⟨rfl, rfl, rfl⟩
  · intro W base args ds p hval hA
    have hA' := hA
    rw [Tryz.params6] at hA' hval
    obtain ⟨v0, v1, v2, d0, d1, d2, p0, p1, p2, rfl, rfl, rfl, ⟨n0, h0⟩, ⟨n1, h1⟩, ⟨n2, h2⟩⟩ := trodAll_three hA'
    obtain ⟨x0, g0, k0⟩ := ra_28 enc W base n0 v0 _ h0 (hval 0 _ v0 rfl rfl)
    obtain ⟨x1, g1, k1⟩ := ra_9 enc W base n1 v1 _ h1 (hval 1 _ v1 rfl rfl)
    obtain ⟨x2, g2, k2⟩ := ra_28 enc W base n2 v2 _ h2 (hval 2 _ v2 rfl rfl)
    refine ⟨_, rfl, (t_ba.h x0 x1 x2).go (ReplaceVariable_plain x0 x1 x2 g0 g1 g2), fun i u hu => ?_⟩
    match i, hu with
    | 0, hu => cases hu; exact k0 _ 0 rfl
    | 1, hu => cases hu; exact k1 _ 1 rfl
    | 2, hu => cases hu; exact k2 _ 2 rfl
    | i + 3, hu => simp at hu
theorem said : Rows.FnExactReplaceVariableSaid :=
  OpenClaim.holds_of_cond 6 Tryz.f6 rfl rfl rfl rfl rfl rfl rfl ⟨rfl, rfl, rfl, rfl, rfl⟩ rfl rfl rfl rfl rfl (by kernel_rfl) Tryz.func6 (by kernel_rfl)
    (of_decide_eq_true (by kernel_rfl)) (by unfold Func.isWrapper; first | (rw [if_pos (by decide +kernel)]; kernel_rfl) | (rw [if_neg (by decide +kernel)]; exact ⟨rfl, rfl⟩))
    (fun os started H enc _ F => by rw [OpenClaim.pre_eq_preRow]; exact lifted os started H enc F)
theorem w28 : Tryz.prog.wantsStandIn 28 = false := by kernel_rfl
theorem w9 : Tryz.prog.wantsStandIn 9 = false := by kernel_rfl
theorem plain (f : FuncId) (fn : Func) (hf : Tryz.pinned.checked.prog.funcNamed "loop.example/g01076/laws.FnExactReplaceVariable" = some f) (hfn : Tryz.pinned.checked.prog.funcs[f]? = some fn) :
    true = Tryz.pinned.checked.prog.looks [] ∧ ∀ (j : Nat) t, fn.params[j]? = some t → Tryz.pinned.checked.prog.wantsStandIn t = false := by
  obtain rfl : f = 6 := Option.some.inj ((show Tryz.prog.funcNamed "loop.example/g01076/laws.FnExactReplaceVariable" = some 6 by kernel_rfl).symm.trans hf) |>.symm
  obtain rfl : fn = Tryz.f6 := (Option.some.inj (Tryz.func6.symm.trans hfn)).symm
  refine ⟨by kernel_rfl, fun j t ht => ?_⟩
  rw [Tryz.params6] at ht
  have ht' := Array.mem_of_getElem? ht
  simp only [List.mem_toArray, List.mem_cons, List.not_mem_nil, or_false] at ht'
  rcases ht' with rfl | rfl | rfl
  · exact w28
  · exact w9
  · exact w28
theorem FnExactReplaceVariable_holds : Rows.FnExactReplaceVariableCardSaid :=
  Claim7.holds_tied_plain_at .later [] _ _ _ _ said (fun _ h => by cases h) (by kernel_rfl) (fun _ h => by cases h) fnExactReplaceVariable_row_tie rfl ⟨rfl, rfl⟩ (by kernel_rfl) rfl plain (by kernel_rfl)
end Go.Proofs.YtbemegmelmannaaGreatDoor
