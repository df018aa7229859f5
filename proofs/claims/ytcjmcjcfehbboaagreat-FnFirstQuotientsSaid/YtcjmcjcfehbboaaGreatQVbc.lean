/- x -/
import Derived.Test.YtcjmcjcfehbboaaGreatQVaa
import Derived.Test.YtcjmcjcfehbboaaGreatQVag
import Derived.Test.YtcjmcjcfehbboaaGreatQVaj
import Derived.Test.YtcjmcjcfehbboaaGreatQVak
import Derived.Test.YtcjmcjcfehbboaaGreatQWT
open Go.Proofs.Tryz renaming prog→J0
open Option renaming some→jq,none→jr
open Bool renaming true→js,false→jt
namespace Go.Wk
open Go Go.Proofs Go.Ab
set_option maxRecDepth 100000
set_option maxHeartbeats 4000000
section
attribute [local irreducible] RW CW DK OkL Ok yL yM xQ wE XS.post rng wF xN ixO zQ yC xR yH zC GTo zE FnC FnK wJ wS Kp Lk BsL BuL RpL Bk Lc
instance:HS Tryz.f93.8 [(1,6,0,.trf 129 0 9 [0,0]),(1,6,1,.trf 129 1 9 [1,0]),(1,6,2,.trf 129 2 9 [2,0])]:=⟨⟩
instance(a:SPr)(b:List (List Int)):LN (zNb a b) 9:=⟨⟩
instance(c:SPr)(d:List (List Int))(A0 A1 A2:T):LHk (R:=SPr) (zNb c d) (T.ptr (T.agg [A0,A1,A2])) [0,1,2,6,7,44,45] [] (fun b=>[(9,T.ptr (T.agg [A0,L 1 lV b.1,A2])),(10,I b.2.1),(46,I b.2.2)]) (.xe 0 [44,45] fun a=>[(9,T.ptr (T.agg [A0,L 1 lV a.1,A2])),(10,I a.2)]):=⟨⟩
instance(c:List (List Int))(a:(List (List (List Int)))×Int×Int)(b:List (List Int)):LN (zNc c a b) 9:=⟨⟩
instance(e:List (List Int))(c:(List (List (List Int)))×Int×Int)(d:List (List Int))(A0 A1 A2:T):LHk (R:=SPr) (zNc e c d) (T.ptr (T.agg [A0,A1,A2])) [0,1,2,6,7,13,65,66,75,76] [] (fun a=>[(9,T.ptr (T.agg [A0,A1,L 1 lM a.1])),(10,I a.2.1),(77,I a.2.2)]) (.xe 4 [75,76] fun b=>[(9,T.ptr (T.agg [A0,A1,L 1 lM b.1])),(10,I b.2)]):=⟨⟩
instance(c:SPr)(a:(List (List (List Int)))×Int×Int)(b:List (List Int)):LN (zNd c a b) 9:=⟨⟩
instance(e:SPr)(b:(List (List (List Int)))×Int×Int)(c:List (List Int))(A0 A1 A2:T):LHk (R:=SPr) (zNd e b c) (T.ptr (T.agg [A0,A1,A2])) [0,1,2,6,7,10,13,65,66,105,106] [] (fun a=>[(9,T.ptr (T.agg [A0,A1,L 1 lM a.1])),(107,I a.2)]) (.xe 6 [13,105,106] fun d=>[(9,T.ptr (T.agg [A0,A1,L 1 lM d]))]):=⟨⟩
instance(a:SPr)(b:yS)(c:List (List Int)):LN (zNe a b c) 9:=⟨⟩
instance(c:SPr)(d:yS)(e:List (List Int))(A0 A1 A2:T):LHk (R:=SPr) (zNe c d e) (T.ptr (T.agg [A0,A1,A2])) [0,1,2,6,7,65] [] (fun a=>[(9,T.ptr (T.agg [A0,A1,L 1 lM a.1])),(10,I a.2.1),(66,I a.2.2)]) (.xe 2 [0,1,2,7,65] fun b=>[(9,T.ptr (T.agg [A0,A1,L 1 lM b]))]):=⟨⟩
instance t_l:FI J0 93 (∀(a:SPr)(b:yS)(c:List (List Int)),FnK J0 93 [T.ro ((Pt yI) a),T.ro ((Pt yF) b),T.ro (lM c)] (fun r=>[yI r]) (fun _=>[]) (f_l a b c)):=⟨Tryz.call93,fun a b c=>iM Tryz.func93⟩
end
end Go.Wk
