/- x -/
import Derived.Test.YtmgckbgmmpemgaaGreatSVac
import Derived.Test.YtmgckbgmmpemgaaGreatSVad
import Derived.Test.YtmgckbgmmpemgaaGreatSVaf
import Derived.Test.YtmgckbgmmpemgaaGreatSWT
open Go.Proofs.Tryz renaming prog→J0
open Option renaming some→VU,none→VV
open Bool renaming true→VW,false→VX
namespace Go.Wk
open Go Go.Proofs Go.Ab
set_option maxRecDepth 100000
set_option maxHeartbeats 4000000
section
attribute [local irreducible] RW CW DK OkL Ok yM yJ wN vO XS.post rng yQ vN ixO yG xC wV yW zI GTo zN FnC FnK vT uL Kp Lk BsL BuL RpL Bk Lc
instance(a:SPr):LH (R:=Bool) (zPZ a) [1,3] [] (fun b=>[(4,I b)]) (.xs (.xe 0 [] fun _=>[]) .xr):=⟨⟩
instance(a:SPr)(b:Int):LH (R:=Bool) (zQa a b) [1,3,5] [] (fun c=>[(6,I c)]) (.xs (.xe 4 [] fun _=>[]) .xr):=⟨⟩
instance(a:SPr):LH (R:=Bool) (zLI a) [1,3] [] (fun b=>[(5,I b)]) (.xs (.xe 2 [1,3] fun _=>[]) .xr):=⟨⟩
instance t_s:FI J0 61 (∀(a:SPr),FnK J0 61 [qPr a] (fun r=>[B r]) (fun _=>[]) (f_s a)):=⟨Tryz.call61,fun a=>iM Tryz.func61⟩
instance(a b:Int)(c:List (List Int)):LH (R:=Bool) (zNj a b c) [0,1,2] [] (fun d=>[(7,I d)]) (.xs (.xe 0 [0,1,2] fun _=>[]) .xr):=⟨⟩
instance t_aM:FI J0 65 (∀(a b:Int)(c:List (List Int)),FnK J0 65 [I a,I b,T.ro (lM c)] (fun r=>[B r]) (fun _=>[]) (zSa a b c)):=⟨Tryz.call65,fun a b c=>iM Tryz.func65⟩
instance:HS Tryz.f69.8 [(2,2,0,.tr 5 10)]:=⟨⟩
instance(b:zS)(c:List Int)(d:(List (List Int))×Int):LH (R:=(List (List Int))) (zQm b c d) [1,2,6] [] (fun a=>[(5,L 1 lV a.1),(7,I a.2)]) (.xe 2 [] fun e=>[(5,L 1 lV e)]):=⟨⟩
instance(b:zS)(c:List Int):LH (R:=(List (List Int))) (zQn b c) [1,2] [] (fun a=>[(5,L 1 lV a.1),(6,I a.2)]) (.xe 0 [1,2] fun d=>[(5,L 1 lV d)]):=⟨⟩
instance t_H:FI J0 69 (∀(a:zS)(b:List Int),FnK J0 69 [vG a,T.ro (lV b)] (fun r:(List (List Int))=>[lM r]) (fun _=>[]) (f_H a b)):=⟨Tryz.call69,fun a b=>iM Tryz.func69⟩
instance:HS Tryz.f100.8 [(2,2,0,.tr 7 11)]:=⟨⟩
instance(c:Int)(d:List (List Int)):LH (R:=(List Int)) (zLQ c d) [0,1] [] (fun b=>[(7,L 1 I b.1),(8,I b.2)]) (.xe 0 [0,1] fun a=>[(7,L 1 I a)]):=⟨⟩
instance t_Q:FI J0 100 (∀(a:Int)(b:List (List Int))(c:List Int),FnK J0 100 [I a,T.ro (lM b),T.ro (lV c)] (fun r=>[lV r]) (fun _=>[]) (f_Q a b c)):=⟨Tryz.call100,fun a b c=>iM Tryz.func100⟩
instance t_a5:FI J0 102 (∀(a b:Int)(c:List Int),FnK J0 102 [I a,I b,T.ro (lV c)] (fun r=>[lV r]) (fun _=>[]) (zOe a b c)):=⟨Tryz.call102,fun a b c=>iM Tryz.func102⟩
instance:HS Tryz.f90.8 [(0,16,0,.tr 12 3),(2,6,0,.tr 3 16)]:=⟨⟩
instance(b:List (List Int)):LH (R:=(List Int)) (zKU b) [6,7] [] (fun a=>[(3,L 1 I a.1),(8,I a.2)]) (.xe 0 [6,7] fun c=>[(3,L 1 I c)]):=⟨⟩
instance t_ay:FI J0 90 (∀(a:List (List Int)),FnK J0 90 [T.ro (lM a)] (fun r=>[lV r]) (fun _=>[]) (zSw a)):=⟨Tryz.call90,fun a=>iM Tryz.func90⟩
end
end Go.Wk
