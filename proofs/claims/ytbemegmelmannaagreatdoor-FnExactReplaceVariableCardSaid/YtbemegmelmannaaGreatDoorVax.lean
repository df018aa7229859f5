/- x -/
import Derived.Test.YtbemegmelmannaaGreatDoorVae
import Derived.Test.YtbemegmelmannaaGreatDoorVaw
import Derived.Test.YtbemegmelmannaaGreatDoorWT
namespace Go.Wk
open Go Go.Proofs Go.Ab
set_option maxRecDepth 100000
set_option maxHeartbeats 4000000
theorem tN_v:∀ n,(∀ (x0:Sl36Reader) r,fN_v n x0 = some r → FnC Tryz.prog 42 [T.ptr (eSl36Reader x0)] [(L 3 eSNode) r.1] [(0,(Pt eSl36Reader) r.2)]) ∧ (∀ (x0:Sl36Reader) r,fN_i n x0 = some r → FnC Tryz.prog 20 [T.ptr (eSl36Reader x0)] [(L 3 eSNode) r.1] [(0,(Pt eSl36Reader) r.2)]) ∧ (∀ (x0:Sl36Reader) r,fN_h n x0 = some r → FnC Tryz.prog 32 [T.ptr (eSl36Reader x0)] [(L 3 eSNode) r.1] [(0,(Pt eSl36Reader) r.2)]):=by
  intro n
  induction n with
  | zero => exact ⟨(fun _ r h => by simp [fN_v] at h),(fun _ r h => by simp [fN_i] at h),(fun _ r h => by simp [fN_h] at h)⟩
  | succ n ih => exact ⟨(fun x0 r h => tb_v ih.2.1 x0 r (by simpa [fN_v] using h)),(fun x0 r h => tb_i ih.2.2 x0 r (by simpa [fN_i] using h)),(fun x0 r h => tb_h ih.1 x0 r (by simpa [fN_h] using h))⟩
theorem u_i (x0:Sl36Reader) (r:(List SNode) × Sl36Reader) (h:f_i x0 = some r):FnC Tryz.prog 20 [T.ptr (eSl36Reader x0)] [(L 3 eSNode) r.1] [(0,(Pt eSl36Reader) r.2)]:=by
 obtain ⟨n,hn⟩:=fuelO_some h
 exact (tN_v n).2.1 x0 r hn
instance t_i:FI Tryz.prog 20 (∀ (x0:Sl36Reader),FnK Tryz.prog 20 [T.ptr (eSl36Reader x0)] (fun r:(List SNode) × Sl36Reader => [(L 3 eSNode) r.1]) (fun r => [(0,(Pt eSl36Reader) r.2)]) (f_i x0)):=⟨Tryz.call20,fun x0 => FnK.mk (u_i x0)⟩
end Go.Wk

namespace Go.Wk
open Go Go.Proofs Go.Ab
set_option maxRecDepth 100000
set_option maxHeartbeats 4000000
section
attribute [local irreducible] RW CW DK OkL Ok Andthen InBlock Round RetG XS.post rng quoO remO ixO sliceO appO appzO lenOk loopO GTo Ghost FnC FnK LocL OptL Kp BsL BuL RpL Bk Lc JQ AK
instance:HS Tryz.f7.results [(2,4,0,.tr 5 12),(2,5,0,.tr 6 14)]:=⟨⟩
instance t_bb:FI Tryz.prog 7 (∀ (x0:ByteArray),FnK Tryz.prog 7 [Str x0] (fun r:(List SNode) × Int × Int => [(L 3 eSNode) r.1,I r.2.1,I r.2.2]) (fun _ => []) (f_bb x0)):=⟨Tryz.call7,fun x0 => iM Tryz.func7⟩
end
end Go.Wk
