/- x -/
import Derived.Test.YtmgckbgmmpemgaaGreatSVaa
import Derived.Test.YtmgckbgmmpemgaaGreatSWT
open Go.Proofs.Tryz renaming prog→J0
open Option renaming some→VU,none→VV
open Bool renaming true→VW,false→VX
namespace Go.Wk
open Go Go.Proofs Go.Ab
set_option maxRecDepth 100000
set_option maxHeartbeats 4000000
section
attribute [local irreducible] RW CW DK OkL Ok yM yJ wN vO XS.post rng yQ vN ixO yG xC wV yW zI GTo zN FnC FnK vT uL Kp Lk BsL BuL RpL Bk Lc
instance t_bz:FI J0 85 (∀(a:Int),FnK J0 85 [(IK .u64) a] (fun r=>[I r]) (fun _=>[]) (zVg a)):=⟨Tryz.call85,fun a=>iM Tryz.func85⟩
instance:HS Tryz.f56.8 [(2,10,0,.tr 6 24),(0,33,0,.tr 31 6),(2,14,0,.tr 6 33)]:=⟨⟩
instance(b:List (List Int)):LH (R:=(List Int)) (zUV b) [0,9,10] [] (fun a=>[(3,I a.1),(11,I a.2)]) (.xe 0 [9,10] fun c=>[(3,I c)]):=⟨⟩
instance(b:List (List Int)):LH (R:=(List Int)) (zUW b) [25,26] [] (fun a=>[(6,L 1 I a.1),(27,I a.2)]) (.xe 2 [25,26] fun c=>[(6,L 1 I c)]):=⟨⟩
instance t_Y:FI J0 56 (∀(a:List (List Int)),FnK J0 56 [T.ro (lM a)] (fun r=>[lV r]) (fun _=>[]) (f_Y a)):=⟨Tryz.call56,fun a=>iM Tryz.func56⟩
end
end Go.Wk
