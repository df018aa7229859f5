/- x -/
import Derived.Test.YtmgckbgmmpemgaaGreatSVaa
import Derived.Test.YtmgckbgmmpemgaaGreatSWT
open Go.Proofs.Tryz renaming prog→J0
open Option renaming some→VU,none→VV
open Bool renaming true→VW,false→VX
namespace Go.Wk
open Go Go.Proofs Go.Ab
set_option maxRecDepth 100000
set_option maxHeartbeats 4000000
theorem zXn:∀n,(∀(x0:Int)(x1:Int) r,zLR n x0 x1=VU r→FnC J0 50 [I x0,I x1] [lM r] []):=by
  intro n
  induction n with
  |zero=>exact(fun _ _ r h=>by simp[zLR]at h)
  |succ n ih=>exact(fun x0 x1 r h=>zXe ih x0 x1 r (by simpa[zLR]using h))
theorem u_f(x0:Int)(x1:Int)(r:(List (List Int)))(h:f_f x0 x1=VU r):FnC J0 50 [I x0,I x1] [lM r] []:=by obtain⟨n,hn⟩:=zAm h;exact(zXn n) x0 x1 r hn
instance t_f:FI J0 50 (∀(a b:Int),FnK J0 50 [I a,I b] (fun r:(List (List Int))=>[lM r]) (fun _=>[]) (f_f a b)):=⟨Tryz.call50,fun a b=>FnK.mk (u_f a b)⟩
section
attribute [local irreducible] RW CW DK OkL Ok yM yJ wN vO XS.post rng yQ vN ixO yG xC wV yW zI GTo zN FnC FnK vT uL Kp Lk BsL BuL RpL Bk Lc
instance t_bu:FI J0 51 (∀(a:List Int)(b:Int),FnK J0 51 [T.ro (lV a),I b] (fun r=>[B r]) (fun _=>[]) (zS0 a b)):=⟨Tryz.call51,fun a b=>iM Tryz.func51⟩
end
end Go.Wk
