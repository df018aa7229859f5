/- x -/
import Derived.Test.YtchnmobojdcikaaGreatCVaa
import Derived.Test.YtchnmobojdcikaaGreatCVab
import Derived.Test.YtchnmobojdcikaaGreatCVag
import Derived.Test.YtchnmobojdcikaaGreatCVat
import Derived.Test.YtchnmobojdcikaaGreatCVbb
import Derived.Test.YtchnmobojdcikaaGreatCVbc
import Derived.Test.YtchnmobojdcikaaGreatCVbl
import Derived.Test.YtchnmobojdcikaaGreatCWT
import Derived.Test.YtchnmobojdcikaaGreatCVad
open Go.Proofs.Tryz renaming prog→J0
open Option renaming some→iz,none→iA
open Bool renaming true→iB,false→iC
namespace Go.Wk
open Go Go.Proofs Go.Ab
set_option maxRecDepth 100000
set_option maxHeartbeats 4000000
section
attribute [local irreducible] RW CW DK OkL Ok zV yA yW xK XS.post rng xN yP ixO zO yG yO yB zG GTo zP FnC FnK xQ wB Kp Lk BsL BuL RpL Bk Lc JQ AK
instance:HS Tryz.f128.8 [(1,8,0,.trf 18 2 16 [2,1]),(2,18,0,.fi 9 8),(0,42,0,.fz 41),(0,52,0,.trq 47 8 [2,0])]:=⟨⟩
instance t_b4:FI J0 128 (∀(a:zF)(b:Int),FnK J0 128 [T.ptr (vU a),I b] (fun r:SPr×zC×zF=>[(fun x=>T.agg [(Ro lV) x.zA,(Ro lM) x.zJ,(Ro lC) x.zB]) r.1,(fun x=>T.agg [I x.Prime,I x.Dim,(Ro lC) x.zE]) r.2.1]) (fun r=>[(0,(Pt (fun x=>T.agg [(Ro (L 1 (IK .u8))) x.code,I x.at_,I x.seed])) r.2.2)]) (zXt a b)):=⟨Tryz.call128,fun a b=>iM Tryz.func128⟩
end
end Go.Wk

namespace Go.Wk
open Go Go.Proofs Go.Ab
set_option maxRecDepth 100000
set_option maxHeartbeats 4000000
section
attribute [local irreducible] RW CW DK OkL Ok zV yA yW xK XS.post rng xN yP ixO zO yG yO yB zG GTo zP FnC FnK xQ wB Kp Lk BsL BuL RpL Bk Lc JQ AK
instance:HS Tryz.f92.8 [(2,2,0,.tr 5 11),(2,4,0,.tr 8 17),(0,30,0,.tr 25 8),(2,6,0,.tr 8 30)]:=⟨⟩
instance(b:SPr×zC×zF):LH (R:=SPr×zC×(List (List Int))) (zVb b) [2,3,6,7] [] (fun a=>[(5,T.ptr (T.agg [T.ro ((L 1 (IK .u8)) a.1),I a.2.1,I a.2.2.1])),(8,L 1 lV a.2.2.2.1),(9,I a.2.2.2.2)]) (.xe 0 [] fun c=>[(8,L 1 lV c)]):=⟨⟩
instance t_bz:FI J0 92 (∀(a:List Int),FnK J0 92 [T.ro ((L 1 (IK .u8)) a)] (fun r:SPr×zC×(List (List Int))=>[(fun x=>T.agg [(Ro lV) x.zA,(Ro lM) x.zJ,(Ro lC) x.zB]) r.1,(fun x=>T.agg [I x.Prime,I x.Dim,(Ro lC) x.zE]) r.2.1,lM r.2.2]) (fun _=>[]) (yAi a)):=⟨Tryz.call92,fun a=>iM Tryz.func92⟩
end
end Go.Wk
