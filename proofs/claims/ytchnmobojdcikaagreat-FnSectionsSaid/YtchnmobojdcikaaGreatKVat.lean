/- x -/
import Derived.Test.YtchnmobojdcikaaGreatKVam
import Derived.Test.YtchnmobojdcikaaGreatKVan
import Derived.Test.YtchnmobojdcikaaGreatKVao
import Derived.Test.YtchnmobojdcikaaGreatKVap
import Derived.Test.YtchnmobojdcikaaGreatKWT
open Go.Proofs.Tryz renaming prog→J0
open Option renaming some→dJ,none→dK
open Bool renaming true→dL,false→dM
namespace Go.Wk
open Go Go.Proofs Go.Ab
set_option maxRecDepth 100000
set_option maxHeartbeats 4000000
section
attribute [local irreducible] RW CW DK OkL Ok yO yY wQ wK XS.post rng wS xR ixO zQ zZ wP yG zH GTo zX FnC FnK vM uH Kp Lk BsL BuL RpL Bk Lc JQ AK
instance:HS Tryz.f294.8 [(0,22,0,.trq 18 4 [1,0]),(0,36,0,.tr 31 6),(2,10,0,.tr 6 36),(0,40,0,.tr 39 6),(0,41,0,.trq 38 4 [2,0]),(1,2,0,.trf 44 0 4 [0,0]),(1,2,1,.trf 44 1 4 [1,0]),(1,2,2,.trf 44 2 4 [2,0])]:=⟨⟩
instance(b:List Int):LH (R:=SPr) (zRw b) [2,3,4,13,14] [] (fun a=>[(6,L 1 lV a.1),(7,I a.2)]) (.xe 2 [] fun c=>[(6,L 1 lV c)]):=⟨⟩
instance(a:List Int):LN (zRx a) 4:=⟨⟩
instance(c:List Int)(A0 A1 A2:T):LHk (R:=SPr) (zRx c) (T.ptr (T.agg [A0,A1,A2])) [2,3,13] [] (fun b=>[(4,T.ptr (T.agg [A0,L 1 lV b.1,L 1 lM b.2.1])),(14,I b.2.2)]) (.xe 0 [3,13] fun a=>[(4,T.ptr (T.agg [A0,L 1 lV a.1,L 1 lM a.2]))]):=⟨⟩
instance t_W:FI J0 294 (∀(a:List Int),FnK J0 294 [T.ro (lV a)] (fun r=>[wH r]) (fun _=>[]) (f_W a)):=⟨Tryz.call294,fun a=>iM Tryz.func294⟩
instance:HS Tryz.f238.8 [(1,6,0,.trf 129 0 9 [0,0]),(1,6,1,.trf 129 1 9 [1,0]),(1,6,2,.trf 129 2 9 [2,0])]:=⟨⟩
instance(a:SPr)(b:List (List Int)):LN (zO0 a b) 9:=⟨⟩
instance(c:SPr)(d:List (List Int))(A0 A1 A2:T):LHk (R:=SPr) (zO0 c d) (T.ptr (T.agg [A0,A1,A2])) [0,1,2,6,7,44,45] [] (fun b=>[(9,T.ptr (T.agg [A0,L 1 lV b.1,A2])),(10,I b.2.1),(46,I b.2.2)]) (.xe 0 [44,45] fun a=>[(9,T.ptr (T.agg [A0,L 1 lV a.1,A2])),(10,I a.2)]):=⟨⟩
instance(c:List (List Int))(a:(List (List (List Int)))×Int×Int)(b:List (List Int)):LN (zO1 c a b) 9:=⟨⟩
instance(e:List (List Int))(c:(List (List (List Int)))×Int×Int)(d:List (List Int))(A0 A1 A2:T):LHk (R:=SPr) (zO1 e c d) (T.ptr (T.agg [A0,A1,A2])) [0,1,2,6,7,13,65,66,75,76] [] (fun a=>[(9,T.ptr (T.agg [A0,A1,L 1 lM a.1])),(10,I a.2.1),(77,I a.2.2)]) (.xe 4 [75,76] fun b=>[(9,T.ptr (T.agg [A0,A1,L 1 lM b.1])),(10,I b.2)]):=⟨⟩
instance(c:SPr)(a:(List (List (List Int)))×Int×Int)(b:List (List Int)):LN (zO2 c a b) 9:=⟨⟩
instance(e:SPr)(b:(List (List (List Int)))×Int×Int)(c:List (List Int))(A0 A1 A2:T):LHk (R:=SPr) (zO2 e b c) (T.ptr (T.agg [A0,A1,A2])) [0,1,2,6,7,10,13,65,66,105,106] [] (fun a=>[(9,T.ptr (T.agg [A0,A1,L 1 lM a.1])),(107,I a.2)]) (.xe 6 [13,105,106] fun d=>[(9,T.ptr (T.agg [A0,A1,L 1 lM d]))]):=⟨⟩
instance(a:SPr)(b:zC)(c:List (List Int)):LN (zO3 a b c) 9:=⟨⟩
instance(c:SPr)(d:zC)(e:List (List Int))(A0 A1 A2:T):LHk (R:=SPr) (zO3 c d e) (T.ptr (T.agg [A0,A1,A2])) [0,1,2,6,7,65] [] (fun a=>[(9,T.ptr (T.agg [A0,A1,L 1 lM a.1])),(10,I a.2.1),(66,I a.2.2)]) (.xe 2 [0,1,2,7,65] fun b=>[(9,T.ptr (T.agg [A0,A1,L 1 lM b]))]):=⟨⟩
instance t_s:FI J0 238 (∀(a:SPr)(b:zC)(c:List (List Int)),FnK J0 238 [T.ro ((Pt wH) a),T.ro ((Pt wB) b),T.ro (lM c)] (fun r=>[wH r]) (fun _=>[]) (f_s a b c)):=⟨Tryz.call238,fun a b c=>iM Tryz.func238⟩
instance:HS Tryz.f127.8 [(1,6,0,.trf 17 0 8 [0,0]),(1,6,1,.trf 17 1 8 [1,0]),(1,6,2,.trf 17 2 8 [2,0])]:=⟨⟩
instance t_b7:FI J0 127 (∀(a:SPr)(b:zC)(c:List (List Int)),FnK J0 127 [T.ro ((Pt wH) a),T.ro ((Pt wB) b),T.ro (lM c)] (fun r=>[wH r.1,I r.2]) (fun _=>[]) (zXz a b c)):=⟨Tryz.call127,fun a b c=>iM Tryz.func127⟩
end
end Go.Wk
