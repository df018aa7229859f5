/- x -/
import Derived.Test.YtcjmcjcfehbboaaGreatRVaa
import Derived.Test.YtcjmcjcfehbboaaGreatRVag
import Derived.Test.YtcjmcjcfehbboaaGreatRVah
import Derived.Test.YtcjmcjcfehbboaaGreatRVal
import Derived.Test.YtcjmcjcfehbboaaGreatRVam
import Derived.Test.YtcjmcjcfehbboaaGreatRWT
open Go.Proofs.Tryz renaming prog->J1
open Option renaming some->Wu,none->Wv
open Bool renaming true->Ww,false->Wx
namespace Go.Wk
open Go Go.Proofs Go.Ab
set_option maxRecDepth 100000
set_option maxHeartbeats 4000000
section
attribute [local irreducible] RW CW DK OkL Ok yX xC wK wY XS.post rng vP vL ixO zT yR wN yO zF GTo zI FnC FnK vB uC Kp Lk BsL BuL RpL Bk Lc
instance:HS Tryz.f93.8 [(1,6,0,.trf 129 0 9 [0,0]),(1,6,1,.trf 129 1 9 [1,0]),(1,6,2,.trf 129 2 9 [2,0])]:=⟨⟩
instance(a:SPr)(b:List (List Int)):LN (zO2 a b) 9:=⟨⟩
instance(c:SPr)(d:List (List Int))(A0 A1 A2:T):LHk (R:=SPr) (zO2 c d) (T.ptr (T.agg [A0,A1,A2])) [0,1,2,6,7,44,45] [] (fun b=>[(9,T.ptr (T.agg [A0,L 1 lV b.1,A2])),(10,I b.2.1),(46,I b.2.2)]) (.xe 0 [44,45] fun a=>[(9,T.ptr (T.agg [A0,L 1 lV a.1,A2])),(10,I a.2)]):=⟨⟩
instance(c:List (List Int))(a:(List (List (List Int)))×Int×Int)(b:List (List Int)):LN (zO3 c a b) 9:=⟨⟩
instance(e:List (List Int))(c:(List (List (List Int)))×Int×Int)(d:List (List Int))(A0 A1 A2:T):LHk (R:=SPr) (zO3 e c d) (T.ptr (T.agg [A0,A1,A2])) [0,1,2,6,7,13,65,66,75,76] [] (fun a=>[(9,T.ptr (T.agg [A0,A1,L 1 lM a.1])),(10,I a.2.1),(77,I a.2.2)]) (.xe 4 [75,76] fun b=>[(9,T.ptr (T.agg [A0,A1,L 1 lM b.1])),(10,I b.2)]):=⟨⟩
instance(c:SPr)(a:(List (List (List Int)))×Int×Int)(b:List (List Int)):LN (zO4 c a b) 9:=⟨⟩
instance(e:SPr)(b:(List (List (List Int)))×Int×Int)(c:List (List Int))(A0 A1 A2:T):LHk (R:=SPr) (zO4 e b c) (T.ptr (T.agg [A0,A1,A2])) [0,1,2,6,7,10,13,65,66,105,106] [] (fun a=>[(9,T.ptr (T.agg [A0,A1,L 1 lM a.1])),(107,I a.2)]) (.xe 6 [13,105,106] fun d=>[(9,T.ptr (T.agg [A0,A1,L 1 lM d]))]):=⟨⟩
instance(a:SPr)(b:zS)(c:List (List Int)):LN (zO5 a b c) 9:=⟨⟩
instance(c:SPr)(d:zS)(e:List (List Int))(A0 A1 A2:T):LHk (R:=SPr) (zO5 c d e) (T.ptr (T.agg [A0,A1,A2])) [0,1,2,6,7,65] [] (fun a=>[(9,T.ptr (T.agg [A0,A1,L 1 lM a.1])),(10,I a.2.1),(66,I a.2.2)]) (.xe 2 [0,1,2,7,65] fun b=>[(9,T.ptr (T.agg [A0,A1,L 1 lM b]))]):=⟨⟩
instance t_l:FI J1 93 (∀(a:SPr)(b:zS)(c:List (List Int)),FnK J1 93 [T.ro ((Pt yM) a),T.ro ((Pt yE) b),T.ro (lM c)] (fun r=>[yM r]) (fun _=>[]) (f_l a b c)):=⟨Tryz.call93,fun a b c=>iM Tryz.func93⟩
end
end Go.Wk
