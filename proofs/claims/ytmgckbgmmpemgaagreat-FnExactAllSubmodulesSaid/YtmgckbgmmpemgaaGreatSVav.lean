/- x -/
import Derived.Test.YtmgckbgmmpemgaaGreatSVaa
import Derived.Test.YtmgckbgmmpemgaaGreatSVas
import Derived.Test.YtmgckbgmmpemgaaGreatSVap
import Derived.Test.YtmgckbgmmpemgaaGreatSWT
open Go.Proofs.Tryz renaming prog→J0,call115→K2,call113→Qt
open Option renaming some→VU,none→VV
open Bool renaming true→VW,false→VX
namespace Go.Wk
open Go Go.Proofs Go.Ab
set_option maxRecDepth 100000
set_option maxHeartbeats 4000000
theorem zXs(x0:List zD)(x1:Int)(x2:Int)(r:(List zD))(h:zSE x0 x1 x2=VU r):FnC J0 111 [L 3 zA x0,I x1,I x2,T.lit (.func (.func 54) #[] #[])] [] [(0,(L 3 zA) r)]:=by cases h
instance t_a3:FI J0 111 (∀(a:List zD)(b c:Int),FnK J0 111 [L 3 zA a,I b,I c,T.lit (.func (.func 54) #[] #[])] (fun _:(List zD)=>[]) (fun r=>[(0,(L 3 zA) r)]) (zSE a b c)):=⟨Tryz.call111,fun a b c=>FnK.mk (zXs a b c)⟩
theorem zXt(x0:List zD)(x1:Int)(x2:Int)(r:(List zD))(h:zOl x0 x1 x2=VU r):FnC J0 113 [L 3 zA x0,I x1,I x2,T.lit (.func (.func 54) #[] #[])] [] [(0,(L 3 zA) r)]:=by cases h
instance t_az:FI J0 113 (∀(a:List zD)(b c:Int),FnK J0 113 [L 3 zA a,I b,I c,T.lit (.func (.func 54) #[] #[])] (fun _:(List zD)=>[]) (fun r=>[(0,(L 3 zA) r)]) (zOl a b c)):=⟨Qt,fun a b c=>FnK.mk (zXt a b c)⟩
theorem u_i(x0:List zD)(x1:Int)(x2:Int)(x3:Int)(r:Int×(List zD))(h:f_i x0 x1 x2 x3=VU r):FnC J0 115 [L 3 zA x0,I x1,I x2,I x3,T.lit (.func (.func 54) #[] #[])] [I r.1] [(0,(L 3 zA) r.2)]:=by cases h
instance t_i:FI J0 115 (∀(a:List zD)(b c d:Int),FnK J0 115 [L 3 zA a,I b,I c,I d,T.lit (.func (.func 54) #[] #[])] (fun r:Int×(List zD)=>[I r.1]) (fun r=>[(0,(L 3 zA) r.2)]) (f_i a b c d)):=⟨K2,fun a b c d=>FnK.mk (u_i a b c d)⟩
end Go.Wk
