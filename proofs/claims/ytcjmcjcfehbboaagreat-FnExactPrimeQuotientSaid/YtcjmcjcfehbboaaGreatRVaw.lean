/- x -/
import Derived.Test.YtcjmcjcfehbboaaGreatRVaa
import Derived.Test.YtcjmcjcfehbboaaGreatRVae
import Derived.Test.YtcjmcjcfehbboaaGreatRVak
import Derived.Test.YtcjmcjcfehbboaaGreatRVav
import Derived.Test.YtcjmcjcfehbboaaGreatRWT
open Go.Proofs.Tryz renaming prog->J1,f122->Jbg
open Option renaming some->Wu,none->Wv
open Bool renaming true->Ww,false->Wx
namespace Go.Wk
open Go Go.Proofs Go.Ab
set_option maxRecDepth 100000
set_option maxHeartbeats 4000000
section
attribute [local irreducible] RW CW DK OkL Ok yX xC wK wY XS.post rng vP vL ixO zT yR wN yO zF GTo zI FnC FnK vB uC Kp Lk BsL BuL RpL Bk Lc
instance:HS Tryz.f119.8 [(2,2,0,.tr 8 11)]:=⟨⟩
instance(c:SPr)(d:List (List Int)):LH (R:=Int×(List Int)) (zNe c d) [1,3] [] (fun b=>[(8,L 1 I b.1),(9,I b.2)]) (.xs (.xe 0 [3] fun a=>[(8,L 1 I a)]) .xr):=⟨⟩
instance t_aB:FI J1 119 (∀(a:SPr)(b:List (List Int))(c:List Int),FnK J1 119 [qPr a,T.ro (lM b),T.ro (lV c)] (fun r:Int×(List Int)=>[I r.1,lV r.2]) (fun _=>[]) (zXO a b c)):=⟨Tryz.call119,fun a b c=>iM Tryz.func119⟩
instance:HS Jbg.8 [(2,2,0,.tr 5 13),(2,14,0,.tr 9 70),(0,89,0,.tr 83 9),(2,16,0,.tr 9 89)]:=⟨⟩
instance:MkH Jbg.8 13 I:=⟨⟩
instance(c:SPr)(d:List (List Int))(e:(List (List Int))×Int):LH (R:=(List (List Int))) (zVC c d e) [1,2,5,6] [] (fun b=>[(7,T.ro (lV b.1)),(8,I b.2)]) (.xe 2 [] fun a=>[(7,T.ro (lV a))]):=⟨⟩
instance(c:SPr)(d:List (List Int)):LH (R:=(List (List Int))) (zXQ c d) [1,2] [] (fun b=>[(5,L 1 (Ro lV) b.1),(6,I b.2)]) (.xe 0 [1,2] fun a=>[(5,L 1 (Ro lV) a)]):=⟨⟩
instance(a:(List (List Int))):LH (R:=(List (List Int))) (zRO a) [5] [] (fun c=>[(9,L 1 (Ro lV) c.1),(10,I c.2)]) (.xe 4 [5] fun b=>[(9,L 1 (Ro lV) b)]):=⟨⟩
instance t_x:FI J1 122 (∀(a:SPr)(b:List (List Int)),FnK J1 122 [qPr a,T.ro (lM b)] (fun r:(List (List Int))=>[(L 1 (Ro lV)) r]) (fun _=>[]) (f_x a b)):=⟨Tryz.call122,fun a b=>iM Tryz.func122⟩
instance:HS Tryz.f69.8 [(2,2,0,.tr 7 10),(0,28,0,.tr 25 7),(2,7,0,.tr 7 28)]:=⟨⟩
instance(c:SPr)(d:List (List Int)):LH (R:=(List Int)) (zOI c d) [1,3] [] (fun a=>[(2,T.ro (lV a.1)),(7,L 1 I a.2.1),(8,I a.2.2)]) (.xe 0 [1,3] fun b=>[(7,L 1 I b)]):=⟨⟩
instance t_Z:FI J1 69 (∀(a:SPr)(b:List (List Int))(c:List Int),FnK J1 69 [qPr a,T.ro (lM b),T.ro (lV c)] (fun r=>[lV r]) (fun _=>[]) (f_Z a b c)):=⟨Tryz.call69,fun a b c=>iM Tryz.func69⟩
end
end Go.Wk
