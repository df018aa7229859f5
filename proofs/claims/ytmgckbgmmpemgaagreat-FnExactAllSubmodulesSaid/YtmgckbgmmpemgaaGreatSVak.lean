/- x -/
import Derived.Test.YtmgckbgmmpemgaaGreatSVaf
import Derived.Test.YtmgckbgmmpemgaaGreatSVai
import Derived.Test.YtmgckbgmmpemgaaGreatSWT
open Go.Proofs.Tryz renaming prog→J0
open Option renaming some→VU,none→VV
open Bool renaming true→VW,false→VX
namespace Go.Wk
open Go Go.Proofs Go.Ab
set_option maxRecDepth 100000
set_option maxHeartbeats 4000000
section
attribute [local irreducible] RW CW DK OkL Ok yM yJ wN vO XS.post rng yQ vN ixO yG xC wV yW zI GTo zN FnC FnK vT uL Kp Lk BsL BuL RpL Bk Lc
instance:HS Tryz.f41.8 [(3,0,0,.tr 5 12),(2,3,0,.tr 6 14),(0,34,0,.tr 22 6),(0,38,0,.fz 6),(0,38,1,.res 37 6 []),(2,8,0,.tr 8 38)]:=⟨⟩
instance(b:zS)(c:(List (List Int))):LH (R:=(List (List Int))) (zOf b c) [2,5] [] (fun a=>[(6,L 1 lV a.1),(7,I a.2)]) (.xe 2 [] fun d=>[(6,L 1 lV d)]):=⟨⟩
instance(a:zS):LH (R:=(List (List Int))) (zQU a) [2] [] (fun b=>[(5,L 1 (Ro lV) b)]) .xr:=⟨⟩
instance t_N:FI J0 41 (∀(a:zS)(b:List (List Int)),FnK J0 41 [vG a,T.ro (lM b)] (fun r:(List (List Int))=>[(L 1 (Ro lV)) r]) (fun _=>[]) (f_N a b)):=⟨Tryz.call41,fun a b=>iM Tryz.func41⟩
end
end Go.Wk

namespace Go.Wk
open Go Go.Proofs Go.Ab
set_option maxRecDepth 100000
set_option maxHeartbeats 4000000
section
attribute [local irreducible] RW CW DK OkL Ok yM yJ wN vO XS.post rng yQ vN ixO yG xC wV yW zI GTo zN FnC FnK vT uL Kp Lk BsL BuL RpL Bk Lc
instance t_a2:FI J0 22 (∀(a:zS)(b:List (List Int)),FnK J0 22 [vG a,T.ro (lM b)] (fun r=>[B r]) (fun _=>[]) (zOg a b)):=⟨Tryz.call22,fun a b=>iM Tryz.func22⟩
end
end Go.Wk
