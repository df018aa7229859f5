/- x -/
import Derived.Test.YtmgckbgmmpemgaaGreatSVbg
import Derived.Test.YtmgckbgmmpemgaaGreatSWT
import Derived.Test.YtmgckbgmmpemgaaGreatSVaj
open Go.Proofs.Tryz renaming prog→J0,call42→Gf
open Option renaming some→VU,none→VV
open Bool renaming true→VW,false→VX
namespace Go.Wk
open Go Go.Proofs Go.Ab
set_option maxRecDepth 100000
set_option maxHeartbeats 4000000
section
attribute [local irreducible] RW CW DK OkL Ok yM yJ wN vO XS.post rng yQ vN ixO yG xC wV yW zI GTo zN FnC FnK vT uL Kp Lk BsL BuL RpL Bk Lc
instance(a:SPr):LH (R:=Int) (zKJ a) [0] [] (fun b=>[(3,I b)]) (.xe 0 [0] fun c=>[(3,I c)]):=⟨⟩
instance t_aI:FI J0 76 (∀(a:SPr),FnK J0 76 [T.ro ((Pt uT) a)] (fun r=>[I r]) (fun _=>[]) (zUT a)):=⟨Tryz.call76,fun a=>iM Tryz.func76⟩
end
end Go.Wk

namespace Go.Wk
open Go Go.Proofs Go.Ab
set_option maxRecDepth 100000
set_option maxHeartbeats 4000000
section
attribute [local irreducible] RW CW DK OkL Ok yM yJ wN vO XS.post rng yQ vN ixO yG xC wV yW zI GTo zN FnC FnK vT uL Kp Lk BsL BuL RpL Bk Lc
instance t_aS:FI J0 42 (∀(a:SPr),FnK J0 42 [qPr a] (fun r=>[B r]) (fun _=>[]) (zSe a)):=⟨Gf,fun a=>iM Tryz.func42⟩
end
end Go.Wk
