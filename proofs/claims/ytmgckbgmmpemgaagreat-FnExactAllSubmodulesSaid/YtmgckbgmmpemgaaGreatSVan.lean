/- x -/
import Derived.Test.YtmgckbgmmpemgaaGreatSVam
import Derived.Test.YtmgckbgmmpemgaaGreatSWT
import Derived.Test.YtmgckbgmmpemgaaGreatSVah
import Derived.Test.YtmgckbgmmpemgaaGreatSVai
open Go.Proofs.Tryz renaming prog→J0
open Option renaming some→VU,none→VV
open Bool renaming true→VW,false→VX
namespace Go.Wk
open Go Go.Proofs Go.Ab
set_option maxRecDepth 100000
set_option maxHeartbeats 4000000
section
attribute [local irreducible] RW CW DK OkL Ok yM yJ wN vO XS.post rng yQ vN ixO yG xC wV yW zI GTo zN FnC FnK vT uL Kp Lk BsL BuL RpL Bk Lc
instance t_bx:FI J0 62 (∀(a:SPr),FnK J0 62 [qPr a] (fun r=>[B r]) (fun _=>[]) (zUN a)):=⟨Tryz.call62,fun a=>iM Tryz.func62⟩
end
end Go.Wk

namespace Go.Wk
open Go Go.Proofs Go.Ab
set_option maxRecDepth 100000
set_option maxHeartbeats 4000000
section
attribute [local irreducible] RW CW DK OkL Ok yM yJ wN vO XS.post rng yQ vN ixO yG xC wV yW zI GTo zN FnC FnK vT uL Kp Lk BsL BuL RpL Bk Lc
instance t_bq:FI J0 37 (∀(a:SPr),FnK J0 37 [qPr a] (fun r=>[B r]) (fun _=>[]) (zRZ a)):=⟨Tryz.call37,fun a=>iM Tryz.func37⟩
end
end Go.Wk

namespace Go.Wk
open Go Go.Proofs Go.Ab
set_option maxRecDepth 100000
set_option maxHeartbeats 4000000
section
attribute [local irreducible] RW CW DK OkL Ok yM yJ wN vO XS.post rng yQ vN ixO yG xC wV yW zI GTo zN FnC FnK vT uL Kp Lk BsL BuL RpL Bk Lc
instance t_bl:FI J0 20 (∀(a:SPr)(b:zS),FnK J0 20 [qPr a,vG b] (fun r=>[B r]) (fun _=>[]) (zSb a b)):=⟨Tryz.call20,fun a b=>iM Tryz.func20⟩
end
end Go.Wk
