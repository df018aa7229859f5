/- x -/
import Derived.Test.YtchnmobojdcikaaGreatQVat
import Derived.Test.YtchnmobojdcikaaGreatQVaw
import Derived.Test.YtchnmobojdcikaaGreatQWT
import Derived.Test.YtchnmobojdcikaaGreatQVal
open Go.Proofs.Tryz renaming prog→J0
open Option renaming some→dq,none→dt
open Bool renaming true→du,false→dv
namespace Go.Wk
open Go Go.Proofs Go.Ab
set_option maxRecDepth 100000
set_option maxHeartbeats 4000000
section
attribute [local irreducible] RW CW DK OkL Ok zS zV yQ xI XS.post rng xL yO ixO zP zU yT zZ zG GTo zM FnC FnK xK xN Kp Lk BsL BuL RpL Bk Lc JQ AK
instance t_bY:FI J0 229 (∀(a:SPr),FnK J0 229 [qPr a] (fun r=>[B r]) (fun _=>[]) (zWR a)):=⟨Tryz.call229,fun a=>iM Tryz.func229⟩
end
theorem zZY:∀n,(∀(x0:SPr)(x1:Int)(x2:List Int) r,zMq n x0 x1 x2=dq r→FnC J0 258 [qPr x0,I x1,T.ro (lV x2)] [lV r] []):=by
  intro n
  induction n with
  |zero=>exact(fun _ _ _ r h=>by simp[zMq]at h)
  |succ n ih=>exact(fun x0 x1 x2 r h=>zZX ih x0 x1 x2 r (by simpa[zMq]using h))
theorem u_k(x0:SPr)(x1:Int)(x2:List Int)(r:(List Int))(h:f_k x0 x1 x2=dq r):FnC J0 258 [qPr x0,I x1,T.ro (lV x2)] [lV r] []:=by obtain⟨n,hn⟩:=jP h;exact(zZY n) x0 x1 x2 r hn
instance t_k:FI J0 258 (∀(a:SPr)(b:Int)(c:List Int),FnK J0 258 [qPr a,I b,T.ro (lV c)] (fun r=>[lV r]) (fun _=>[]) (f_k a b c)):=⟨Tryz.call258,fun a b c=>FnK.mk (u_k a b c)⟩
end Go.Wk

namespace Go.Wk
open Go Go.Proofs Go.Ab
set_option maxRecDepth 100000
set_option maxHeartbeats 4000000
section
attribute [local irreducible] RW CW DK OkL Ok zS zV yQ xI XS.post rng xL yO ixO zP zU yT zZ zG GTo zM FnC FnK xK xN Kp Lk BsL BuL RpL Bk Lc JQ AK
instance t_bC:FI J0 117 (∀(a:SPr),FnK J0 117 [qPr a] (fun r=>[B r]) (fun _=>[]) (zQU a)):=⟨Tryz.call117,fun a=>iM Tryz.func117⟩
instance t_bv:FI J0 167 (∀(a:SPr)(b:List Int),FnK J0 167 [qPr a,T.ro (lV b)] (fun r=>[lV r]) (fun _=>[]) (zOL a b)):=⟨Tryz.call167,fun a b=>iM Tryz.func167⟩
end
end Go.Wk
