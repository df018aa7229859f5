/- x -/
import Derived.Test.YtchnmobojdcikaaGreatRVac
import Derived.Test.YtchnmobojdcikaaGreatRVah
import Derived.Test.YtchnmobojdcikaaGreatRVaj
import Derived.Test.YtchnmobojdcikaaGreatRVat
import Derived.Test.YtchnmobojdcikaaGreatRVba
import Derived.Test.YtchnmobojdcikaaGreatRWT
open Go.Proofs.Tryz renaming prog->J0
open Option renaming some->iW,none->iY
open Bool renaming true->iZ,false->ja
namespace Go.Wk
open Go Go.Proofs Go.Ab
set_option maxRecDepth 100000
set_option maxHeartbeats 4000000
section
attribute [local irreducible] RW CW DK OkL Ok yB yI xF xQ XS.post rng xV xC ixO zL yE yT yD zH GTo zR FnC FnK wA wN Kp Lk BsL BuL RpL Bk Lc JQ AK
instance:HS Tryz.f271.8 [(2,2,0,.tr 3 5),(0,18,0,.tr 14 3),(2,4,0,.tr 3 18)]:=⟨⟩
instance(b:zO):LH (R:=(List (List Int))) (zK6 b) [1] [] (fun a=>[(3,L 1 lV a.1),(4,I a.2)]) (.xe 0 [1] fun c=>[(3,L 1 lV c)]):=⟨⟩
instance t_ae:FI J0 271 (∀(a:zO),FnK J0 271 [xM a] (fun r:(List (List Int))=>[lM r]) (fun _=>[]) (zJC a)):=⟨Tryz.call271,fun a=>iM Tryz.func271⟩
instance:HS Tryz.f238.8 [(1,6,0,.trf 129 0 9 [0,0]),(1,6,1,.trf 129 1 9 [1,0]),(1,6,2,.trf 129 2 9 [2,0])]:=⟨⟩
instance(a:SPr)(b:List (List Int)):LN (zPv a b) 9:=⟨⟩
instance(c:SPr)(d:List (List Int))(A0 A1 A2:T):LHk (R:=SPr) (zPv c d) (T.ptr (T.agg [A0,A1,A2])) [0,1,2,6,7,44,45] [] (fun b=>[(9,T.ptr (T.agg [A0,L 1 lV b.1,A2])),(10,I b.2.1),(46,I b.2.2)]) (.xe 0 [44,45] fun a=>[(9,T.ptr (T.agg [A0,L 1 lV a.1,A2])),(10,I a.2)]):=⟨⟩
instance(c:List (List Int))(a:(List (List (List Int)))×Int×Int)(b:List (List Int)):LN (zPw c a b) 9:=⟨⟩
instance(e:List (List Int))(c:(List (List (List Int)))×Int×Int)(d:List (List Int))(A0 A1 A2:T):LHk (R:=SPr) (zPw e c d) (T.ptr (T.agg [A0,A1,A2])) [0,1,2,6,7,13,65,66,75,76] [] (fun a=>[(9,T.ptr (T.agg [A0,A1,L 1 lM a.1])),(10,I a.2.1),(77,I a.2.2)]) (.xe 4 [75,76] fun b=>[(9,T.ptr (T.agg [A0,A1,L 1 lM b.1])),(10,I b.2)]):=⟨⟩
instance(c:SPr)(a:(List (List (List Int)))×Int×Int)(b:List (List Int)):LN (zPx c a b) 9:=⟨⟩
instance(e:SPr)(b:(List (List (List Int)))×Int×Int)(c:List (List Int))(A0 A1 A2:T):LHk (R:=SPr) (zPx e b c) (T.ptr (T.agg [A0,A1,A2])) [0,1,2,6,7,10,13,65,66,105,106] [] (fun a=>[(9,T.ptr (T.agg [A0,A1,L 1 lM a.1])),(107,I a.2)]) (.xe 6 [13,105,106] fun d=>[(9,T.ptr (T.agg [A0,A1,L 1 lM d]))]):=⟨⟩
instance(a:SPr)(b:zB)(c:List (List Int)):LN (zPy a b c) 9:=⟨⟩
instance(c:SPr)(d:zB)(e:List (List Int))(A0 A1 A2:T):LHk (R:=SPr) (zPy c d e) (T.ptr (T.agg [A0,A1,A2])) [0,1,2,6,7,65] [] (fun a=>[(9,T.ptr (T.agg [A0,A1,L 1 lM a.1])),(10,I a.2.1),(66,I a.2.2)]) (.xe 2 [0,1,2,7,65] fun b=>[(9,T.ptr (T.agg [A0,A1,L 1 lM b]))]):=⟨⟩
instance t_r:FI J0 238 (∀(a:SPr)(b:zB)(c:List (List Int)),FnK J0 238 [T.ro ((Pt vQ) a),T.ro ((Pt wC) b),T.ro (lM c)] (fun r=>[vQ r]) (fun _=>[]) (f_r a b c)):=⟨Tryz.call238,fun a b c=>iM Tryz.func238⟩
end
end Go.Wk
