/- x -/
import Derived.Test.YtchnmobojdcikaaGreatPVaa
import Derived.Test.YtchnmobojdcikaaGreatPVag
import Derived.Test.YtchnmobojdcikaaGreatPVbb
import Derived.Test.YtchnmobojdcikaaGreatPWT
open Go.Proofs.Tryz renaming prog→J0
open Option renaming some→aB,none→aC
open Bool renaming true→aD,false→aE
namespace Go.Wk
open Go Go.Proofs Go.Ab
set_option maxRecDepth 100000
set_option maxHeartbeats 4000000
section
attribute [local irreducible] RW CW DK OkL Ok yA yB xE xH XS.post rng xK yV ixO zN yD xC zU zC GTo zO FnC FnK xV wG Kp Lk BsL BuL RpL Bk Lc JQ AK
instance:HS Tryz.f120.8 [(0,45,0,.trq 35 7 [1,0]),(2,12,0,.tr 9 47),(0,69,0,.tr 56 9),(2,14,0,.tr 9 69),(0,73,0,.tr 72 9),(0,74,0,.trq 71 7 [2,0]),(1,4,0,.trf 76 0 7 [0,0]),(1,4,1,.trf 76 1 7 [1,0]),(1,4,2,.trf 76 2 7 [2,0])]:=⟨⟩
instance(c:SPr)(d:Int)(e:(List (List Int))×(List (List (List Int)))×Int):LH (R:=SPr×Int) (zNf c d e) [1,2,4,7,8] [] (fun b=>[(9,L 1 lV b.1),(10,I b.2)]) (.xe 2 [] fun a=>[(9,L 1 lV a)]):=⟨⟩
instance(a:SPr)(b:Int):LN (zK7 a b) 7:=⟨⟩
instance(c:SPr)(d:Int)(A0 A1 A2:T):LHk (R:=SPr×Int) (zK7 c d) (T.ptr (T.agg [A0,A1,A2])) [1,2,4] [] (fun b=>[(7,T.ptr (T.agg [A0,L 1 lV b.1,L 1 lM b.2.1])),(8,I b.2.2)]) (.xe 0 [1,2] fun a=>[(7,T.ptr (T.agg [A0,L 1 lV a.1,L 1 lM a.2]))]):=⟨⟩
instance t_H:FI J0 120 (∀(a:SPr)(b:Int),FnK J0 120 [qPr a,I b] (fun r=>[xT r.1,I r.2]) (fun _=>[]) (f_H a b)):=⟨Tryz.call120,fun a b=>iM Tryz.func120⟩
end
end Go.Wk
