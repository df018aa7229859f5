/- x -/
import Derived.Test.YtbemegmelmannaaGreatDoorVal
import Derived.Test.YtbemegmelmannaaGreatDoorVaj
import Derived.Test.YtbemegmelmannaaGreatDoorVaz
import Derived.Test.YtbemegmelmannaaGreatDoorWT
namespace Go.Wk
open Go Go.Proofs Go.Ab
set_option maxRecDepth 100000
set_option maxHeartbeats 4000000
theorem tN_w:∀ n,(∀ (x0:SexprReader) r,fN_w n x0 = some r → FnC Tryz.prog 43 [T.ptr (eSexprReader x0)] [(L 3 eSNode) r.1,B r.2.1] [(0,(Pt eSexprReader) r.2.2)]) ∧ (∀ (x0:SexprReader) r,fN_r n x0 = some r → FnC Tryz.prog 56 [T.ptr (eSexprReader x0)] [(L 3 eSNode) r.1,B r.2.1] [(0,(Pt eSexprReader) r.2.2)]) ∧ (∀ (x0:SexprReader) r,fN_j n x0 = some r → FnC Tryz.prog 21 [T.ptr (eSexprReader x0)] [(L 3 eSNode) r.1,B r.2.1] [(0,(Pt eSexprReader) r.2.2)]) ∧ (∀ (x0:SexprReader) r,fN_k n x0 = some r → FnC Tryz.prog 34 [T.ptr (eSexprReader x0)] [(L 3 eSNode) r.1,B r.2.1] [(0,(Pt eSexprReader) r.2.2)]):=by
  intro n
  induction n with
  | zero => exact ⟨(fun _ r h => by simp [fN_w] at h),(fun _ r h => by simp [fN_r] at h),(fun _ r h => by simp [fN_j] at h),(fun _ r h => by simp [fN_k] at h)⟩
  | succ n ih => exact ⟨(fun x0 r h => tb_w ih.2.1 x0 r (by simpa [fN_w] using h)),(fun x0 r h => tb_r ih.2.2.1 x0 r (by simpa [fN_r] using h)),(fun x0 r h => tb_j ih.2.2.2 x0 r (by simpa [fN_j] using h)),(fun x0 r h => tb_k ih.1 x0 r (by simpa [fN_k] using h))⟩
theorem u_j (x0:SexprReader) (r:(List SNode) × Bool × SexprReader) (h:f_j x0 = some r):FnC Tryz.prog 21 [T.ptr (eSexprReader x0)] [(L 3 eSNode) r.1,B r.2.1] [(0,(Pt eSexprReader) r.2.2)]:=by
 obtain ⟨n,hn⟩:=fuelO_some h
 exact (tN_w n).2.2.1 x0 r hn
instance t_j:FI Tryz.prog 21 (∀ (x0:SexprReader),FnK Tryz.prog 21 [T.ptr (eSexprReader x0)] (fun r:(List SNode) × Bool × SexprReader => [(L 3 eSNode) r.1,B r.2.1]) (fun r => [(0,(Pt eSexprReader) r.2.2)]) (f_j x0)):=⟨Tryz.call21,fun x0 => FnK.mk (u_j x0)⟩
end Go.Wk
