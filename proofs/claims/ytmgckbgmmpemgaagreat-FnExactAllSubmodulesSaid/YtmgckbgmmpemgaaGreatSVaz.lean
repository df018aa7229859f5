/- x -/
import Derived.Test.YtmgckbgmmpemgaaGreatSVap
import Derived.Test.YtmgckbgmmpemgaaGreatSVaw
import Derived.Test.YtmgckbgmmpemgaaGreatSWT
open Go.Proofs.Tryz renaming prog→J0,call112→Qu
open Option renaming some→VU,none→VV
open Bool renaming true→VW,false→VX
namespace Go.Wk
open Go Go.Proofs Go.Ab
set_option maxRecDepth 100000
set_option maxHeartbeats 4000000
section
attribute [local irreducible] RW CW DK OkL Ok yM yJ wN vO XS.post rng yQ vN ixO yG xC wV yW zI GTo zN FnC FnK vT uL Kp Lk BsL BuL RpL Bk Lc
instance t_a8:FI J0 135 (∀(a:List zD)(b c:Int),FnK J0 135 [T.ro ((L 3 zA) a),I b,T.ptr (I c),T.lit (.func (.func 54) #[] #[])] (fun r=>[I r.1]) (fun r=>[(2,(Pt I) r.2)]) (zOj a b c)):=⟨Tryz.call135,fun a b c=>iM Tryz.func135⟩
end
end Go.Wk

namespace Go.Wk
open Go Go.Proofs Go.Ab
set_option maxRecDepth 100000
set_option maxHeartbeats 4000000
section
attribute [local irreducible] RW CW DK OkL Ok yM yJ wN vO XS.post rng yQ vN ixO yG xC wV yW zI GTo zN FnC FnK vT uL Kp Lk BsL BuL RpL Bk Lc
instance t_a4:FI J0 112 (∀(a:List zD)(b c:Int),FnK J0 112 [T.ro ((L 3 zA) a),I b,I c,T.lit (.func (.func 54) #[] #[])] (fun r=>[I r.1,I r.2]) (fun _=>[]) (zRf a b c)):=⟨Qu,fun a b c=>iM Tryz.func112⟩
end
end Go.Wk
