/- x -/
import Derived.Test.YtmgckbgmmpemgaaGreatSVab
import Derived.Test.YtmgckbgmmpemgaaGreatSVac
import Derived.Test.YtmgckbgmmpemgaaGreatSVar
import Derived.Test.YtmgckbgmmpemgaaGreatSVax
import Derived.Test.YtmgckbgmmpemgaaGreatSWT
open Go.Proofs.Tryz renaming prog→J0
open Option renaming some→VU,none→VV
open Bool renaming true→VW,false→VX
namespace Go.Wk
open Go Go.Proofs Go.Ab
set_option maxRecDepth 100000
set_option maxHeartbeats 4000000
section
attribute [local irreducible] RW CW DK OkL Ok yM yJ wN vO XS.post rng yQ vN ixO yG xC wV yW zI GTo zN FnC FnK vT uL Kp Lk BsL BuL RpL Bk Lc
instance:HS Tryz.f126.8 [(2,2,0,.tr 7 10)]:=⟨⟩
instance(b:SPr)(c:List Int)(d:Int):LH (R:=(List Int)) (zKI b c d) [0,1,11] [] (fun a=>[(7,L 1 I a.1),(12,I a.2)]) (.xe 0 [0,1,11] fun e=>[(7,L 1 I e)]):=⟨⟩
instance t_au:FI J0 126 (∀(a:SPr)(b:List Int)(c:Int),FnK J0 126 [T.ro ((Pt uT) a),T.ro (lV b),I c] (fun r=>[lV r]) (fun _=>[]) (zSd a b c)):=⟨Tryz.call126,fun a b c=>iM Tryz.func126⟩
instance:HS Tryz.f127.8 [(2,2,0,.tr 7 12)]:=⟨⟩
instance(b:SPr)(c:List Int)(d:Int):LH (R:=(List Int)) (zQ0 b c d) [0,1,2,9,19,20,21,32] [] (fun a=>[(7,L 1 I a.1),(33,I a.2)]) (.xe 2 [9,32] fun e=>[(7,L 1 I e)]):=⟨⟩
instance(c:SPr)(d:Int)(e:List Int)(f:List (List Int)):LH (R:=(List Int)) (zQ1 c d e f) [0,1,2,19,20] [] (fun b=>[(7,L 1 I b.1),(21,I b.2)]) (.xe 0 [0,1,2,19,20] fun a=>[(7,L 1 I a)]):=⟨⟩
instance t_y:FI J0 127 (∀(a:SPr)(b:Int)(c:List Int),FnK J0 127 [T.ro ((Pt uT) a),I b,T.ro (lV c)] (fun r=>[lV r]) (fun _=>[]) (f_y a b c)):=⟨Tryz.call127,fun a b c=>iM Tryz.func127⟩
instance:HS Tryz.f143.8 [(2,2,0,.tr 5 9),(2,3,0,.tr 6 12)]:=⟨⟩
instance(c:SPr)(d:(List Int)×(List Int)×Int):LH (R:=(List Int)) (zNW c d) [0,7,14,15] [] (fun a=>[(5,L 1 I a.1),(6,L 1 I a.2)]) (.xe 2 [7] fun b=>[(5,L 1 I b.1),(6,L 1 I b.2)]):=⟨⟩
instance(b:SPr)(c:(List Int)):LH (R:=(List Int)) (zQ2 b c) [0,14] [] (fun a=>[(5,L 1 I a.1),(6,L 1 I a.2.1),(15,I a.2.2)]) (.xe 0 [0,14] fun d=>[(6,L 1 I d)]):=⟨⟩
instance t_E:FI J0 143 (∀(a:SPr)(b:List Int),FnK J0 143 [T.ro ((Pt uT) a),T.ro (lV b)] (fun r=>[lV r]) (fun _=>[]) (f_E a b)):=⟨Tryz.call143,fun a b=>iM Tryz.func143⟩
instance:HS Tryz.f47.8 [(0,37,0,.tr 21 3),(0,77,0,.tr 66 3),(2,15,0,.tr 3 77)]:=⟨⟩
instance(b:SPr):LH (R:=(List ((List Int)×(List Int)))) (zQD b) [0,14,15] [] (fun a=>[(3,L 2 (A2 lV) a.1),(16,I a.2)]) (.xe 0 [14,15] fun c=>[(3,L 2 (A2 lV) c)]):=⟨⟩
instance(c:(List ((List Int)×(List Int)))×Int)(d:List (List Int)):LH (R:=(List ((List Int)×(List Int)))) (zQE c d) [0,6,43,44,53,54] [] (fun b=>[(3,L 2 (A2 lV) b.1),(55,I b.2)]) (.xe 4 [6,53,54] fun a=>[(3,L 2 (A2 lV) a)]):=⟨⟩
instance(c:SPr):LH (R:=(List ((List Int)×(List Int)))) (zQF c) [0,43] [] (fun b=>[(3,L 2 (A2 lV) b.1),(44,I b.2)]) (.xe 2 [0,43] fun a=>[(3,L 2 (A2 lV) a)]):=⟨⟩
instance t_u:FI J0 47 (∀(a:SPr),FnK J0 47 [T.ro ((Pt uT) a)] (fun r:(List ((List Int)×(List Int)))=>[(L 2 (A2 lV)) r]) (fun _=>[]) (f_u a)):=⟨Tryz.call47,fun a=>iM Tryz.func47⟩
end
end Go.Wk
