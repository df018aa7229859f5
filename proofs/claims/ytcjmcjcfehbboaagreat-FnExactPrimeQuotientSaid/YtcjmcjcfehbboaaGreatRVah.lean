/- x -/
import Derived.Test.YtcjmcjcfehbboaaGreatRVaa
import Derived.Test.YtcjmcjcfehbboaaGreatRVab
import Derived.Test.YtcjmcjcfehbboaaGreatRVac
import Derived.Test.YtcjmcjcfehbboaaGreatRVad
import Derived.Test.YtcjmcjcfehbboaaGreatRWT
open Go.Proofs.Tryz renaming prog->J1
open Option renaming some->Wu,none->Wv
open Bool renaming true->Ww,false->Wx
namespace Go.Wk
open Go Go.Proofs Go.Ab
set_option maxRecDepth 100000
set_option maxHeartbeats 4000000
section
attribute [local irreducible] RW CW DK OkL Ok yX xC wK wY XS.post rng vP vL ixO zT yR wN yO zF GTo zI FnC FnK vB uC Kp Lk BsL BuL RpL Bk Lc
instance:HS Tryz.f109.8 [(0,23,0,.trq 19 4 [1,0]),(2,8,0,.tr 6 25),(0,38,0,.tr 33 6),(2,10,0,.tr 6 38),(0,42,0,.tr 41 6),(0,43,0,.trq 40 4 [2,0]),(1,2,0,.trf 45 0 4 [0,0]),(1,2,1,.trf 45 1 4 [1,0]),(1,2,2,.trf 45 2 4 [2,0])]:=⟨⟩
instance(b:List Int):LH (R:=SPr) (zVF b) [2,3,4,5] [] (fun a=>[(6,L 1 lV a.1),(7,I a.2)]) (.xe 2 [] fun c=>[(6,L 1 lV c)]):=⟨⟩
instance(a:List Int):LN (zOA a) 4:=⟨⟩
instance(c:List Int)(A0 A1 A2:T):LHk (R:=SPr) (zOA c) (T.ptr (T.agg [A0,A1,A2])) [2,3] [] (fun b=>[(4,T.ptr (T.agg [A0,L 1 lV b.1,L 1 lM b.2.1])),(5,I b.2.2)]) (.xe 0 [3] fun a=>[(4,T.ptr (T.agg [A0,L 1 lV a.1,L 1 lM a.2]))]):=⟨⟩
instance t_J:FI J1 109 (∀(a:List Int),FnK J1 109 [T.ro (lV a)] (fun r=>[yM r]) (fun _=>[]) (f_J a)):=⟨Tryz.call109,fun a=>iM Tryz.func109⟩
instance t_a4:FI J1 172 (∀(a b:Int),FnK J1 172 [(IK .u64) a,(IK .u64) b] (fun r=>[(IK .u64) r.1,(IK .u64) r.2]) (fun _=>[]) (zVo a b)):=⟨Tryz.call172,fun a b=>iM Tryz.func172⟩
instance(a:SPr)(b:List Int):LH (R:=Int) (zNa a b) [0,1,7] [] (fun c=>[(8,I c)]) (.xs (.xe 0 [0,1,7] fun _=>[]) .xr):=⟨⟩
instance t_ah:FI J1 168 (∀(a:SPr)(b:List Int),FnK J1 168 [T.ro ((Pt yM) a),T.ro (lV b)] (fun r=>[I r]) (fun _=>[]) (zRJ a b)):=⟨Tryz.call168,fun a b=>iM Tryz.func168⟩
instance:HS Tryz.f141.8 [(0,22,0,.trq 18 4 [1,0]),(0,36,0,.tr 31 6),(2,10,0,.tr 6 36),(0,40,0,.tr 39 6),(0,41,0,.trq 38 4 [2,0]),(1,2,0,.trf 44 0 4 [0,0]),(1,2,1,.trf 44 1 4 [1,0]),(1,2,2,.trf 44 2 4 [2,0])]:=⟨⟩
instance(b:List Int):LH (R:=SPr) (zR6 b) [2,3,4,13,14] [] (fun a=>[(6,L 1 lV a.1),(7,I a.2)]) (.xe 2 [] fun c=>[(6,L 1 lV c)]):=⟨⟩
instance(a:List Int):LN (zR7 a) 4:=⟨⟩
instance(c:List Int)(A0 A1 A2:T):LHk (R:=SPr) (zR7 c) (T.ptr (T.agg [A0,A1,A2])) [2,3,13] [] (fun b=>[(4,T.ptr (T.agg [A0,L 1 lV b.1,L 1 lM b.2.1])),(14,I b.2.2)]) (.xe 0 [3,13] fun a=>[(4,T.ptr (T.agg [A0,L 1 lV a.1,L 1 lM a.2]))]):=⟨⟩
instance t_L:FI J1 141 (∀(a:List Int),FnK J1 141 [T.ro (lV a)] (fun r=>[yM r]) (fun _=>[]) (f_L a)):=⟨Tryz.call141,fun a=>iM Tryz.func141⟩
instance(a:Int)(b:List Int):LH (R:=Bool) (zNk a b) [0,1] [] (fun c=>[(5,I c)]) (.xs (.xe 0 [0,1] fun _=>[]) .xr):=⟨⟩
instance t_aE:FI J1 59 (∀(a:Int)(b:List Int),FnK J1 59 [I a,T.ro (lV b)] (fun r=>[B r]) (fun _=>[]) (zYb a b)):=⟨Tryz.call59,fun a b=>iM Tryz.func59⟩
instance(a:List (List Int))(b:List (List Int)):LH (R:=Bool) (zVw a b) [0,1] [] (fun c=>[(5,I c)]) (.xs (.xe 0 [0,1] fun _=>[]) .xr):=⟨⟩
instance t_as:FI J1 14 (∀(a:List (List Int))(b:List (List Int)),FnK J1 14 [T.ro (lM a),T.ro (lM b)] (fun r=>[B r]) (fun _=>[]) (zR3 a b)):=⟨Tryz.call14,fun a b=>iM Tryz.func14⟩
end
end Go.Wk
