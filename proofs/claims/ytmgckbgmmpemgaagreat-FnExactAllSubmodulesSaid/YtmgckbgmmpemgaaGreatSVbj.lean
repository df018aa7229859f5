/- x -/
import Derived.Test.YtmgckbgmmpemgaaGreatSVba
import Derived.Test.YtmgckbgmmpemgaaGreatSWT
open Go.Proofs.Tryz renaming prog→J0,call84→J4
open Option renaming some→VU,none→VV
open Bool renaming true→VW,false→VX
namespace Go.Wk
open Go Go.Proofs Go.Ab
set_option maxRecDepth 100000
set_option maxHeartbeats 4000000
theorem zXv:∀n,(∀(x0:List zD)(x1:Int)(x2:Int)(x3:Int) r,zLT n x0 x1 x2 x3=VU r→FnC J0 84 [L 3 zA x0,I x1,I x2,I x3,T.lit (.func (.func 54) #[] #[])] [] [(0,(L 3 zA) r)]):=by
  intro n
  induction n with
  |zero=>exact(fun _ _ _ _ r h=>by simp[zLT]at h)
  |succ n ih=>exact(fun x0 x1 x2 x3 r h=>zXu ih x0 x1 x2 x3 r (by simpa[zLT]using h))
theorem u_a(x0:List zD)(x1:Int)(x2:Int)(x3:Int)(r:(List zD))(h:f_a x0 x1 x2 x3=VU r):FnC J0 84 [L 3 zA x0,I x1,I x2,I x3,T.lit (.func (.func 54) #[] #[])] [] [(0,(L 3 zA) r)]:=by obtain⟨n,hn⟩:=zAm h;exact(zXv n) x0 x1 x2 x3 r hn
instance t_a:FI J0 84 (∀(a:List zD)(b c d:Int),FnK J0 84 [L 3 zA a,I b,I c,I d,T.lit (.func (.func 54) #[] #[])] (fun _:(List zD)=>[]) (fun r=>[(0,(L 3 zA) r)]) (f_a a b c d)):=⟨J4,fun a b c d=>FnK.mk (u_a a b c d)⟩
end Go.Wk
