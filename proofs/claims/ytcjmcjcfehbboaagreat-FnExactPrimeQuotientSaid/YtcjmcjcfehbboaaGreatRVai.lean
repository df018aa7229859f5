/- x -/
import Derived.Test.YtcjmcjcfehbboaaGreatRVab
import Derived.Test.YtcjmcjcfehbboaaGreatRVad
import Derived.Test.YtcjmcjcfehbboaaGreatRVae
import Derived.Test.YtcjmcjcfehbboaaGreatRWT
open Go.Proofs.Tryz renaming prog->J1
open Option renaming some->Wu,none->Wv
open Bool renaming true->Ww,false->Wx
namespace Go.Wk
open Go Go.Proofs Go.Ab
set_option maxRecDepth 100000
set_option maxHeartbeats 4000000
section
attribute [local irreducible] RW CW DK OkL Ok yX xC wK wY XS.post rng vP vL ixO zT yR wN yO zF GTo zI FnC FnK vB uC Kp Lk BsL BuL RpL Bk Lc
instance:HS Tryz.f94.8 [(0,16,0,.tr 12 3),(2,6,0,.tr 3 16)]:=⟨⟩
instance(b:List (List Int)):LH (R:=(List Int)) (zIQ b) [6,7] [] (fun a=>[(3,L 1 I a.1),(8,I a.2)]) (.xe 0 [6,7] fun c=>[(3,L 1 I c)]):=⟨⟩
instance t_y:FI J1 94 (∀(a:List (List Int)),FnK J1 94 [T.ro (lM a)] (fun r=>[lV r]) (fun _=>[]) (f_y a)):=⟨Tryz.call94,fun a=>iM Tryz.func94⟩
instance:HS Tryz.f124.8 [(2,2,0,.tr 5 7),(0,25,0,.tr 14 5)]:=⟨⟩
instance(b:SPr)(c:List (List Int)):LH (R:=(List Int)) (zJQ b c) [1,2] [] (fun a=>[(5,L 1 I a.1),(6,I a.2)]) (.xe 0 [1,2] fun d=>[(5,L 1 I d)]):=⟨⟩
instance t_ao:FI J1 124 (∀(a:SPr)(b:List (List Int)),FnK J1 124 [qPr a,T.ro (lM b)] (fun r=>[lV r]) (fun _=>[]) (zYe a b)):=⟨Tryz.call124,fun a b=>iM Tryz.func124⟩
instance(b:List (List Int)):LH (R:=Int) (zZb b) [0] [] (fun a=>[(1,I a.1),(5,I a.2)]) (.xs (.xe 0 [0] fun c=>[(1,I c)]) .xr):=⟨⟩
instance t_a2:FI J1 39 (∀(a:List (List Int))(b:Int),FnK J1 39 [T.ro (lM a),I b] (fun r=>[I r]) (fun _=>[]) (yA9 a b)):=⟨Tryz.call39,fun a b=>iM Tryz.func39⟩
instance:HS Tryz.f40.8 [(2,2,0,.tr 3 7)]:=⟨⟩
instance(b:List (List Int)):LH (R:=(List (List Int))) (zVb b) [0] [] (fun a=>[(3,L 1 lV a.1),(4,I a.2)]) (.xe 0 [0] fun c=>[(3,L 1 lV c)]):=⟨⟩
instance t_aQ:FI J1 40 (∀(a:List (List Int)),FnK J1 40 [T.ro (lM a)] (fun r:(List (List Int))=>[lM r]) (fun _=>[]) (zX8 a)):=⟨Tryz.call40,fun a=>iM Tryz.func40⟩
instance:LH (R:=Int×(List (List Int))) zVy [] [] (fun a=>[(0,L 1 lV a.1),(1,I a.2.1),(5,I a.2.2)]) (.xe 0 [] fun b=>[(0,L 1 lV b.1),(1,I b.2)]):=⟨⟩
instance t_aI:FI J1 17 (∀(a:List (List Int))(b:Int),FnK J1 17 [L 1 lV a,I b] (fun r:Int×(List (List Int))=>[I r.1]) (fun r=>[(0,lM r.2)]) (zVz a b)):=⟨Tryz.call17,fun a b=>iM Tryz.func17⟩
instance(b:List (List Int)):LH (R:=Int) (zV1 b) [0] [] (fun a=>[(1,I a.1),(5,I a.2)]) (.xs (.xe 0 [0] fun c=>[(1,I c)]) .xr):=⟨⟩
instance t_aS:FI J1 18 (∀(a:List (List Int))(b:Int),FnK J1 18 [T.ro (lM a),I b] (fun r=>[I r]) (fun _=>[]) (zXF a b)):=⟨Tryz.call18,fun a b=>iM Tryz.func18⟩
end
end Go.Wk
