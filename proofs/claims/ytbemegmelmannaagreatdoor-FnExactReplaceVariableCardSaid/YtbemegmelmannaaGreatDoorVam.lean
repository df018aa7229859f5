/- x -/
import Derived.Test.YtbemegmelmannaaGreatDoorVaa
import Derived.Test.YtbemegmelmannaaGreatDoorVag
import Derived.Test.YtbemegmelmannaaGreatDoorVah
import Derived.Test.YtbemegmelmannaaGreatDoorVae
import Derived.Test.YtbemegmelmannaaGreatDoorVak
import Derived.Test.YtbemegmelmannaaGreatDoorVal
import Derived.Test.YtbemegmelmannaaGreatDoorWT
namespace Go.Wk
open Go Go.Proofs Go.Ab
set_option maxRecDepth 100000
set_option maxHeartbeats 4000000
section
attribute [local irreducible] RW CW DK OkL Ok Andthen InBlock Round RetG XS.post rng quoO remO ixO sliceO appO appzO lenOk loopO GTo Ghost FnC FnK LocL OptL Kp BsL BuL RpL Bk Lc JQ AK
instance:HS Tryz.f47.results [(2,2,0,.tr 4 10),(2,3,0,.trq 5 15 [0]),(0,7,0,.fz 22)]:=⟨⟩
instance (r1:(List ByteArray)):LH (R:=SPr × Int) (l1_S r1) [0,2,4] [] (fun s1 => [(7,T.ptr (T.agg [T.ro (lV s1.1),T.ro (lM s1.2.1),T.ro (lC s1.2.2.1)])),(8,I s1.2.2.2)]) (.xs (.xe 0 [4] fun r8 => [(7,T.ptr (T.agg [T.ro (lV r8.1),T.ro (lM r8.2.1),T.ro (lC r8.2.2)]))]) .xr):=⟨⟩
instance t_S:FI Tryz.prog 47 (∀ (x0:ByteArray),FnK Tryz.prog 47 [Str x0] (fun r:SPr × Int => [(fun x => T.agg [(Ro lV) x.Orders,(Ro lM) x.Powers,(Ro lC) x.Conjugates]) r.1,I r.2]) (fun _ => []) (f_S x0)):=⟨Tryz.call47,fun x0 => iM Tryz.func47⟩
end
theorem tN_d:∀ n,(∀ (x0:List SNode) r,fN_d n x0 = some r → FnC Tryz.prog 29 [T.ro ((L 3 eSNode) x0)] [Str r.1,T.ro ((L 3 eSNode) r.2)] []) ∧ (∀ (x0:List SNode) r,fN_t n x0 = some r → FnC Tryz.prog 41 [T.ro ((L 3 eSNode) x0)] [Str r.1,T.ro ((L 3 eSNode) r.2)] []):=by
  intro n
  induction n with
  | zero => exact ⟨(fun _ r h => by simp [fN_d] at h),(fun _ r h => by simp [fN_t] at h)⟩
  | succ n ih => exact ⟨(fun x0 r h => tb_d ih.1 ih.2 x0 r (by simpa [fN_d] using h)),(fun x0 r h => tb_t ih.1 x0 r (by simpa [fN_t] using h))⟩
theorem u_d (x0:List SNode) (r:ByteArray × (List SNode)) (h:f_d x0 = some r):FnC Tryz.prog 29 [T.ro ((L 3 eSNode) x0)] [Str r.1,T.ro ((L 3 eSNode) r.2)] []:=by
 obtain ⟨n,hn⟩:=fuelO_some h
 exact (tN_d n).1 x0 r hn
instance t_d:FI Tryz.prog 29 (∀ (x0:List SNode),FnK Tryz.prog 29 [T.ro ((L 3 eSNode) x0)] (fun r:ByteArray × (List SNode) => [Str r.1,T.ro ((L 3 eSNode) r.2)]) (fun _ => []) (f_d x0)):=⟨Tryz.call29,fun x0 => FnK.mk (u_d x0)⟩
end Go.Wk
