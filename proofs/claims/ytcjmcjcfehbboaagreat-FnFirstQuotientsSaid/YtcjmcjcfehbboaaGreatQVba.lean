/- x -/
import Derived.Test.YtcjmcjcfehbboaaGreatQVaa
import Derived.Test.YtcjmcjcfehbboaaGreatQVaf
import Derived.Test.YtcjmcjcfehbboaaGreatQVao
import Derived.Test.YtcjmcjcfehbboaaGreatQVas
import Derived.Test.YtcjmcjcfehbboaaGreatQVau
import Derived.Test.YtcjmcjcfehbboaaGreatQVax
import Derived.Test.YtcjmcjcfehbboaaGreatQWT
open Go.Proofs.Tryz renaming prog→J0,f122→Jaz
open Option renaming some→jq,none→jr
open Bool renaming true→js,false→jt
namespace Go.Wk
open Go Go.Proofs Go.Ab
set_option maxRecDepth 100000
set_option maxHeartbeats 4000000
section
attribute [local irreducible] RW CW DK OkL Ok yL yM xQ wE XS.post rng wF xN ixO zQ yC xR yH zC GTo zE FnC FnK wJ wS Kp Lk BsL BuL RpL Bk Lc
instance t_bz:FI J0 23 (∀(a:zY),FnK J0 23 [zBS a] (fun r=>[B r]) (fun _=>[]) (zNm a)):=⟨Tryz.call23,fun a=>iM Tryz.func23⟩
instance t_bY:FI J0 150 (∀(a:SPr)(b c:List Int),FnK J0 150 [T.ro ((Pt yI) a),T.ro (lV b),T.ro (lV c)] (fun r=>[lV r]) (fun _=>[]) (zVw a b c)):=⟨Tryz.call150,fun a b c=>iM Tryz.func150⟩
instance:HS Tryz.f119.8 [(2,2,0,.tr 8 11)]:=⟨⟩
instance(c:SPr)(d:List (List Int)):LH (R:=Int×(List Int)) (zLB c d) [1,3] [] (fun b=>[(8,L 1 I b.1),(9,I b.2)]) (.xs (.xe 0 [3] fun a=>[(8,L 1 I a)]) .xr):=⟨⟩
instance t_aS:FI J0 119 (∀(a:SPr)(b:List (List Int))(c:List Int),FnK J0 119 [qPr a,T.ro (lM b),T.ro (lV c)] (fun r:Int×(List Int)=>[I r.1,lV r.2]) (fun _=>[]) (zVs a b c)):=⟨Tryz.call119,fun a b c=>iM Tryz.func119⟩
instance:HS Jaz.8 [(2,2,0,.tr 5 13),(2,14,0,.tr 9 70),(0,89,0,.tr 83 9),(2,16,0,.tr 9 89)]:=⟨⟩
instance:MkH Jaz.8 13 I:=⟨⟩
instance(c:SPr)(d:List (List Int))(e:(List (List Int))×Int):LH (R:=(List (List Int))) (zSH c d e) [1,2,5,6] [] (fun b=>[(7,T.ro (lV b.1)),(8,I b.2)]) (.xe 2 [] fun a=>[(7,T.ro (lV a))]):=⟨⟩
instance(c:SPr)(d:List (List Int)):LH (R:=(List (List Int))) (zVu c d) [1,2] [] (fun b=>[(5,L 1 (Ro lV) b.1),(6,I b.2)]) (.xe 0 [1,2] fun a=>[(5,L 1 (Ro lV) a)]):=⟨⟩
instance(a:(List (List Int))):LH (R:=(List (List Int))) (zPQ a) [5] [] (fun c=>[(9,L 1 (Ro lV) c.1),(10,I c.2)]) (.xe 4 [5] fun b=>[(9,L 1 (Ro lV) b)]):=⟨⟩
instance t_E:FI J0 122 (∀(a:SPr)(b:List (List Int)),FnK J0 122 [qPr a,T.ro (lM b)] (fun r:(List (List Int))=>[(L 1 (Ro lV)) r]) (fun _=>[]) (f_E a b)):=⟨Tryz.call122,fun a b=>iM Tryz.func122⟩
instance:HS Tryz.f69.8 [(2,2,0,.tr 7 10),(0,28,0,.tr 25 7),(2,7,0,.tr 7 28)]:=⟨⟩
instance(c:SPr)(d:List (List Int)):LH (R:=(List Int)) (zLK c d) [1,3] [] (fun a=>[(2,T.ro (lV a.1)),(7,L 1 I a.2.1),(8,I a.2.2)]) (.xe 0 [1,3] fun b=>[(7,L 1 I b)]):=⟨⟩
instance t_ay:FI J0 69 (∀(a:SPr)(b:List (List Int))(c:List Int),FnK J0 69 [qPr a,T.ro (lM b),T.ro (lV c)] (fun r=>[lV r]) (fun _=>[]) (zQh a b c)):=⟨Tryz.call69,fun a b c=>iM Tryz.func69⟩
end
end Go.Wk
