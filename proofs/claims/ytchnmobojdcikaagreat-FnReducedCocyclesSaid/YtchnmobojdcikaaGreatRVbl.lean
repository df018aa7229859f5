/- x -/
import Derived.Test.YtchnmobojdcikaaGreatRVaa
import Derived.Test.YtchnmobojdcikaaGreatRVac
import Derived.Test.YtchnmobojdcikaaGreatRVbc
import Derived.Test.YtchnmobojdcikaaGreatRVbe
import Derived.Test.YtchnmobojdcikaaGreatRWT
open Go.Proofs.Tryz renaming prog->J0
open Option renaming some->iW,none->iY
open Bool renaming true->iZ,false->ja
namespace Go.Wk
open Go Go.Proofs Go.Ab
set_option maxRecDepth 100000
set_option maxHeartbeats 4000000
section
attribute [local irreducible] RW CW DK OkL Ok yB yI xF xQ XS.post rng xV xC ixO zL yE yT yD zH GTo zR FnC FnK wA wN Kp Lk BsL BuL RpL Bk Lc JQ AK
instance:HS Tryz.f286.8 [(2,8,0,.tr 9 35),(0,58,0,.tr 57 9),(0,59,0,.trq 56 7 [2,0]),(2,14,0,.tr 11 62),(2,14,1,.fz 11),(2,15,0,.tr 12 63),(2,19,0,.tr 14 69),(0,91,0,.tr 76 14),(0,94,0,.tr 93 14),(0,95,0,.tr 92 12),(2,17,0,.tr 12 95)]:=⟨⟩
instance(c:zB)(d:(List (List Int))×Int):LH (R:=(List (List Int))) (zS8 c d) [3,5,6,7,8] [] (fun b=>[(9,L 1 I b.1),(10,I b.2)]) (.xe 2 [] fun a=>[(9,L 1 I a)]):=⟨⟩
instance(a:zB)(b c:Int):LN (zS9 a b c) 7:=⟨⟩
instance(a:zB)(d e:Int)(A0 A1 A2 A3 A4 A5 A6:T):LHk (R:=(List (List Int))) (zS9 a d e) (T.ptr (T.agg [T.agg [A0,A1,A2],T.agg [A3,A4,A5],A6])) [3,5,6] [] (fun c=>[(7,T.ptr (T.agg [T.agg [A0,A1,A2],wS a,L 1 lV c.1])),(8,I c.2)]) (.xe 0 [5] fun b=>[(7,T.ptr (T.agg [T.agg [A0,A1,A2],wS a,L 1 lV b]))]):=⟨⟩
instance(e:zB)(b:(List (List Int)))(c:(List (List Int))×Int):LH (R:=(List (List Int))) (zSA e b c) [3,6,11,12,13] [] (fun a=>[(14,L 1 I a.1),(15,I a.2)]) (.xe 6 [] fun d=>[(14,L 1 I d)]):=⟨⟩
instance(d:zB)(e:Int)(b:(List (List Int))):LH (R:=(List (List Int))) (zW0 d e b) [3,6,11] [] (fun a=>[(12,L 1 lV a.1),(13,I a.2)]) (.xe 4 [6] fun c=>[(12,L 1 lV c)]):=⟨⟩
instance t_s:FI J0 286 (∀(a:SPr)(b:zB),FnK J0 286 [qPr a,wS b] (fun r:(List (List Int))=>[lM r]) (fun _=>[]) (f_s a b)):=⟨Tryz.call286,fun a b=>iM Tryz.func286⟩
instance:HS Tryz.f197.8 [(2,2,0,.tr 7 13)]:=⟨⟩
instance(a:(List (List Int))):LH (R:=Bool) (zNX a) [7] [] (fun b=>[(8,I b)]) (.xs (.xe 0 [7] fun _=>[]) .xr):=⟨⟩
instance t_aE:FI J0 197 (∀(a:SPr)(b:zB)(c:List (List Int)),FnK J0 197 [qPr a,wS b,T.ro (lM c)] (fun r=>[B r]) (fun _=>[]) (zS1 a b c)):=⟨Tryz.call197,fun a b c=>iM Tryz.func197⟩
end
end Go.Wk
