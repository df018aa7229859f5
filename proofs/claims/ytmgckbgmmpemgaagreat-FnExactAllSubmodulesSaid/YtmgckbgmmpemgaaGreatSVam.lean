/- x -/
import Derived.Test.YtmgckbgmmpemgaaGreatSVal
import Derived.Test.YtmgckbgmmpemgaaGreatSWT
open Go.Proofs.Tryz renaming prog→J0
open Option renaming some→VU,none→VV
open Bool renaming true→VW,false→VX
namespace Go.Wk
open Go Go.Proofs Go.Ab
set_option maxRecDepth 100000
set_option maxHeartbeats 4000000
section
attribute [local irreducible] RW CW DK OkL Ok yM yJ wN vO XS.post rng yQ vN ixO yG xC wV yW zI GTo zN FnC FnK vT uL Kp Lk BsL BuL RpL Bk Lc
instance(a:SPr):LH (R:=xJ) (zKF a) [1,2] [] (fun b=>[(3,I b)]) (.xs (.xe 0 [1] fun _=>[]) .xr):=⟨⟩
instance t_aJ:FI J0 94 (∀(a:SPr),FnK J0 94 [qPr a] (fun r=>[zGg r]) (fun _=>[]) (zUM a)):=⟨Tryz.call94,fun a=>iM Tryz.func94⟩
end
end Go.Wk
