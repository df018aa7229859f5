/- x -/
import Derived.Test.YtcjmcjcfehbboaaGreatQVaa
import Derived.Test.YtcjmcjcfehbboaaGreatQVab
import Derived.Test.YtcjmcjcfehbboaaGreatQVaj
import Derived.Test.YtcjmcjcfehbboaaGreatQWT
open Go.Proofs.Tryz renaming prog→J0
open Option renaming some→jq,none→jr
open Bool renaming true→js,false→jt
namespace Go.Wk
open Go Go.Proofs Go.Ab
set_option maxRecDepth 100000
set_option maxHeartbeats 4000000
section
attribute [local irreducible] RW CW DK OkL Ok yL yM xQ wE XS.post rng wF xN ixO zQ yC xR yH zC GTo zE FnC FnK wJ wS Kp Lk BsL BuL RpL Bk Lc
instance:HS Tryz.f161.8 [(2,2,0,.trq 9 22 [0]),(2,3,0,.trq 11 27 [0]),(2,4,0,.tr 13 33),(1,8,0,.trf 105 0 14 [0,0]),(1,8,1,.trf 105 1 14 [1,0]),(1,8,2,.trf 105 2 14 [2,0])]:=⟨⟩
instance(a:(List Int)×Bool)(b:List Int):LN (zV2 a b) 14:=⟨⟩
instance(c:(List Int)×Bool)(d:List Int)(A0 A1 A2:T):LHk (R:=SPr) (zV2 c d) (T.ptr (T.agg [A0,A1,A2])) [1,2,3,8,9,13,15] [] (fun b=>[(14,T.ptr (T.agg [A0,L 1 lV b.1,A2])),(16,I b.2)]) (.xe 0 [] fun a=>[(14,T.ptr (T.agg [A0,L 1 lV a,A2]))]):=⟨⟩
instance(a:List Int)(b:(List (List (List Int)))×Int×Int):LN (zSO a b) 14:=⟨⟩
instance(c:List Int)(d:(List (List (List Int)))×Int×Int)(A0 A1 A2:T):LHk (R:=SPr) (zSO c d) (T.ptr (T.agg [A0,A1,A2])) [1,8,9,13,15,17,18] [] (fun b=>[(14,T.ptr (T.agg [A0,A1,L 1 lM b.1])),(19,I b.2)]) (.xe 4 [] fun a=>[(14,T.ptr (T.agg [A0,A1,L 1 lM a]))]):=⟨⟩
instance(a:Int)(b:(List Int)×Bool)(c:List Int):LN (zSP a b c) 14:=⟨⟩
instance(c:Int)(d:(List Int)×Bool)(e:List Int)(A0 A1 A2:T):LHk (R:=SPr) (zSP c d e) (T.ptr (T.agg [A0,A1,A2])) [1,8,9,13,15] [] (fun a=>[(14,T.ptr (T.agg [A0,A1,L 1 lM a.1])),(17,I a.2.1),(18,I a.2.2)]) (.xe 2 [1,9,13,15] fun b=>[(14,T.ptr (T.agg [A0,A1,L 1 lM b]))]):=⟨⟩
instance(b:List Int)(a:(List (List (List Int)))×Int×Int):LN (zSQ b a) 14:=⟨⟩
instance(d:List Int)(b:(List (List (List Int)))×Int×Int)(A0 A1 A2:T):LHk (R:=SPr) (zSQ d b) (T.ptr (T.agg [A0,A1,A2])) [1,8,9,13,15,17,18] [] (fun a=>[(14,T.ptr (T.agg [A0,A1,L 1 lM a.1])),(19,I a.2)]) (.xe 4 [] fun c=>[(14,T.ptr (T.agg [A0,A1,L 1 lM c]))]):=⟨⟩
instance(a:Int)(b:(List Int)×Bool)(c:List Int):LN (zSR a b c) 14:=⟨⟩
instance(c:Int)(d:(List Int)×Bool)(e:List Int)(A0 A1 A2:T):LHk (R:=SPr) (zSR c d e) (T.ptr (T.agg [A0,A1,A2])) [1,8,9,13,15] [] (fun a=>[(14,T.ptr (T.agg [A0,A1,L 1 lM a.1])),(17,I a.2.1),(18,I a.2.2)]) (.xe 2 [1,9,13,15] fun b=>[(14,T.ptr (T.agg [A0,A1,L 1 lM b]))]):=⟨⟩
instance t_j:FI J0 161 (∀(a b:Int)(c d:Int),FnK J0 161 [I a,I b,I c,I d] (fun r=>[yI r]) (fun _=>[]) (f_j a b c d)):=⟨Tryz.call161,fun a b c d=>iM Tryz.func161⟩
end
end Go.Wk
