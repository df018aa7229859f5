/- x -/
import Derived.Test.YtimahceaenahkaaSVad
import Derived.Test.YtimahceaenahkaaSWT
open Go.Proofs.Try renaming prog→J0
open Option renaming some→df,none→dg
open Bool renaming true→dh,false→di
namespace Go.Wk
open Go Go.Proofs Go.Ab
set_option maxRecDepth 100000
set_option maxHeartbeats 4000000
section
attribute [local irreducible] RW CW DK OkL Ok zW yB yY xP XS.post rng wA wF ixO zS yQ xC yF zC GTo zF FnC FnK xU wM Kp BsL BuL RpL Bk Lc JQ AK
instance(b:List (List Int)):LH (R:=Int) (zNP b) [0] [] (fun a=>[(1,I a.1),(5,I a.2)]) (.xs (.xe 0 [0] fun c=>[(1,I c)]) .xr):=⟨⟩
instance t_ah:FI J0 12 (∀(a:List (List Int))(b:Int),FnK J0 12 [T.ro (lM a),I b] (fun r=>[I r]) (fun _=>[]) (zMO a b)):=⟨Try.call12,fun a b=>iM Try.func12⟩
instance:HS Try.f18.8 [(2,2,0,.tr 3 7)]:=⟨⟩
instance(b:List (List Int)):LH (R:=(List (List Int))) (zOO b) [0] [] (fun a=>[(3,L 1 lV a.1),(4,I a.2)]) (.xe 0 [0] fun c=>[(3,L 1 lV c)]):=⟨⟩
instance t_M:FI J0 18 (∀(a:List (List Int)),FnK J0 18 [T.ro (lM a)] (fun r:(List (List Int))=>[lM r]) (fun _=>[]) (f_M a)):=⟨Try.call18,fun a=>iM Try.func18⟩
instance t_ap:FI J0 66 (∀(a:zL)(b c:Int),FnK J0 66 [T.ro ((Pt zO) a),I b,I c] (fun r=>[I r]) (fun _=>[]) (zLN a b c)):=⟨Try.call66,fun a b c=>iM Try.func66⟩
instance t_aF:FI J0 68 (∀(a b:Int),FnK J0 68 [I a,I b] (fun r=>[I r]) (fun _=>[]) (zNb a b)):=⟨Try.call68,fun a b=>iM Try.func68⟩
instance(a:List (List Int))(b:List (List Int)):LH (R:=Bool) (zPa a b) [0,1] [] (fun c=>[(5,I c)]) (.xs (.xe 0 [0,1] fun _=>[]) .xr):=⟨⟩
instance t_V:FI J0 24 (∀(a:List (List Int))(b:List (List Int)),FnK J0 24 [T.ro (lM a),T.ro (lM b)] (fun r=>[B r]) (fun _=>[]) (f_V a b)):=⟨Try.call24,fun a b=>iM Try.func24⟩
instance:LH (R:=Int×(List (List Int))) zPc [] [] (fun a=>[(0,L 1 lV a.1),(1,I a.2.1),(5,I a.2.2)]) (.xe 0 [] fun b=>[(0,L 1 lV b.1),(1,I b.2)]):=⟨⟩
instance t_N:FI J0 27 (∀(a:List (List Int))(b:Int),FnK J0 27 [L 1 lV a,I b] (fun r:Int×(List (List Int))=>[I r.1]) (fun r=>[(0,lM r.2)]) (f_N a b)):=⟨Try.call27,fun a b=>iM Try.func27⟩
instance(b:List (List Int)):LH (R:=Int) (zPd b) [0] [] (fun a=>[(1,I a.1),(5,I a.2)]) (.xs (.xe 0 [0] fun c=>[(1,I c)]) .xr):=⟨⟩
instance t_W:FI J0 30 (∀(a:List (List Int))(b:Int),FnK J0 30 [T.ro (lM a),I b] (fun r=>[I r]) (fun _=>[]) (f_W a b)):=⟨Try.call30,fun a b=>iM Try.func30⟩
end
end Go.Wk
