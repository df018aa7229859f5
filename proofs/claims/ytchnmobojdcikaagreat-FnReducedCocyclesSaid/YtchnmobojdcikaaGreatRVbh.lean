/- x -/
import Derived.Test.YtchnmobojdcikaaGreatRVaa
import Derived.Test.YtchnmobojdcikaaGreatRVaf
import Derived.Test.YtchnmobojdcikaaGreatRVbg
import Derived.Test.YtchnmobojdcikaaGreatRWT
open Go.Proofs.Tryz renaming prog->J0
open Option renaming some->iW,none->iY
open Bool renaming true->iZ,false->ja
namespace Go.Wk
open Go Go.Proofs Go.Ab
set_option maxRecDepth 100000
set_option maxHeartbeats 4000000
section
attribute [local irreducible] RW CW DK OkL Ok yB yI xF xQ XS.post rng xV xC ixO zL yE yT yD zH GTo zR FnC FnK wA wN Kp Lk BsL BuL RpL Bk Lc JQ AK
instance:HS Tryz.f120.8 [(0,45,0,.trq 35 7 [1,0]),(2,12,0,.tr 9 47),(0,69,0,.tr 56 9),(2,14,0,.tr 9 69),(0,73,0,.tr 72 9),(0,74,0,.trq 71 7 [2,0]),(1,4,0,.trf 76 0 7 [0,0]),(1,4,1,.trf 76 1 7 [1,0]),(1,4,2,.trf 76 2 7 [2,0])]:=⟨⟩
instance(c:SPr)(d:Int)(e:(List (List Int))×(List (List (List Int)))×Int):LH (R:=SPr×Int) (zXe c d e) [1,2,4,7,8] [] (fun b=>[(9,L 1 lV b.1),(10,I b.2)]) (.xe 2 [] fun a=>[(9,L 1 lV a)]):=⟨⟩
instance(a:SPr)(b:Int):LN (zRx a b) 7:=⟨⟩
instance(c:SPr)(d:Int)(A0 A1 A2:T):LHk (R:=SPr×Int) (zRx c d) (T.ptr (T.agg [A0,A1,A2])) [1,2,4] [] (fun b=>[(7,T.ptr (T.agg [A0,L 1 lV b.1,L 1 lM b.2.1])),(8,I b.2.2)]) (.xe 0 [1,2] fun a=>[(7,T.ptr (T.agg [A0,L 1 lV a.1,L 1 lM a.2]))]):=⟨⟩
instance t_az:FI J0 120 (∀(a:SPr)(b:Int),FnK J0 120 [qPr a,I b] (fun r=>[vQ r.1,I r.2]) (fun _=>[]) (zZk a b)):=⟨Tryz.call120,fun a b=>iM Tryz.func120⟩
end
end Go.Wk
