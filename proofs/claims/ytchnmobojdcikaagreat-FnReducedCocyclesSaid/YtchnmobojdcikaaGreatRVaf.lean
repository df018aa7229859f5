/- x -/
import Derived.Test.YtchnmobojdcikaaGreatRVaa
import Derived.Test.YtchnmobojdcikaaGreatRVad
import Derived.Test.YtchnmobojdcikaaGreatRWT
open Go.Proofs.Tryz renaming prog->J0
open Option renaming some->iW,none->iY
open Bool renaming true->iZ,false->ja
namespace Go.Wk
open Go Go.Proofs Go.Ab
set_option maxRecDepth 100000
set_option maxHeartbeats 4000000
section
attribute [local irreducible] RW CW DK OkL Ok yB yI xF xQ XS.post rng xV xC ixO zL yE yT yD zH GTo zR FnC FnK wA wN Kp Lk BsL BuL RpL Bk Lc JQ AK
instance:HS Tryz.f289.8 [(0,23,0,.trq 19 4 [1,0]),(2,8,0,.tr 6 25),(0,38,0,.tr 33 6),(2,10,0,.tr 6 38),(0,42,0,.tr 41 6),(0,43,0,.trq 40 4 [2,0]),(1,2,0,.trf 45 0 4 [0,0]),(1,2,1,.trf 45 1 4 [1,0]),(1,2,2,.trf 45 2 4 [2,0])]:=⟨⟩
instance(b:List Int):LH (R:=SPr) (zSE b) [2,3,4,5] [] (fun a=>[(6,L 1 lV a.1),(7,I a.2)]) (.xe 2 [] fun c=>[(6,L 1 lV c)]):=⟨⟩
instance(a:List Int):LN (zLN a) 4:=⟨⟩
instance(c:List Int)(A0 A1 A2:T):LHk (R:=SPr) (zLN c) (T.ptr (T.agg [A0,A1,A2])) [2,3] [] (fun b=>[(4,T.ptr (T.agg [A0,L 1 lV b.1,L 1 lM b.2.1])),(5,I b.2.2)]) (.xe 0 [3] fun a=>[(4,T.ptr (T.agg [A0,L 1 lV a.1,L 1 lM a.2]))]):=⟨⟩
instance t_x:FI J0 289 (∀(a:List Int),FnK J0 289 [T.ro (lV a)] (fun r=>[vQ r]) (fun _=>[]) (f_x a)):=⟨Tryz.call289,fun a=>iM Tryz.func289⟩
instance:HS Tryz.f328.8 [(2,2,0,.tr 4 6),(0,22,0,.tr 19 4),(2,7,0,.tr 4 22)]:=⟨⟩
instance(c:Int×(List Int)×Int):LH (R:=(List Int)×Bool) (zWG c) [5] [] (fun a=>[(0,I a.1),(4,L 1 I a.2)]) (.xe 2 [] fun b=>[(0,I b.1),(4,L 1 I b.2)]):=⟨⟩
instance:LH (R:=(List Int)×Bool) zRs [] [] (fun a=>[(0,I a.1),(4,L 1 I a.2.1),(5,I a.2.2)]) (.xe 0 [] fun b=>[(0,I b.1),(4,L 1 I b.2)]):=⟨⟩
instance t_aj:FI J0 328 (∀(a:Int),FnK J0 328 [I a] (fun r:(List Int)×Bool=>[lV r.1,B r.2]) (fun _=>[]) (zP7 a)):=⟨Tryz.call328,fun a=>iM Tryz.func328⟩
instance(a:SPr)(b c:Int):LH (R:=Bool) (zXb a b c) [1,2,5] [] (fun d=>[(6,I d)]) (.xs (.xe 2 [] fun _=>[]) .xr):=⟨⟩
instance(a:SPr)(b:Int):LH (R:=Bool) (zXc a b) [1,2] [] (fun c=>[(5,I c)]) (.xs (.xe 0 [1,2] fun _=>[]) .xr):=⟨⟩
instance t_ay:FI J0 230 (∀(a:SPr)(b:Int),FnK J0 230 [qPr a,I b] (fun r=>[B r]) (fun _=>[]) (zXd a b)):=⟨Tryz.call230,fun a b=>iM Tryz.func230⟩
instance:HS Tryz.f256.8 [(0,25,0,.trq 21 7 [2,0]),(1,6,0,.trf 27 2 7 [2,0])]:=⟨⟩
instance(a:SPr)(b:Int):LN (zKB a b) 7:=⟨⟩
instance(c:SPr)(a:Int)(A0 A1 A2:T):LHk (R:=zB) (zKB c a) (T.ptr (T.agg [A0,A1,A2])) [2,3,6] [] (fun b=>[(7,T.ptr (T.agg [A0,I a,L 1 lM b.1])),(8,I b.2)]) (.xe 0 [2,3] fun d=>[(7,T.ptr (T.agg [A0,I a,L 1 lM d]))]):=⟨⟩
instance t_ax:FI J0 256 (∀(a:SPr)(b c:Int),FnK J0 256 [qPr a,I b,I c] (fun r=>[wC r]) (fun _=>[]) (zSC a b c)):=⟨Tryz.call256,fun a b c=>iM Tryz.func256⟩
instance(a:List (List Int))(b:List (List Int)):LH (R:=Bool) (zVy a b) [0,1] [] (fun c=>[(5,I c)]) (.xs (.xe 0 [0,1] fun _=>[]) .xr):=⟨⟩
instance t_bp:FI J0 297 (∀(a:List (List Int))(b:List (List Int)),FnK J0 297 [T.ro (lM a),T.ro (lM b)] (fun r=>[B r]) (fun _=>[]) (zYz a b)):=⟨Tryz.call297,fun a b=>iM Tryz.func297⟩
instance:HS Tryz.f188.8 [(2,2,0,.tr 5 7),(0,26,0,.tr 17 5),(2,4,0,.tr 5 26)]:=⟨⟩
instance(b:List Int)(c:Int):LH (R:=(List (List Int))) (zWo b c) [0,1] [] (fun a=>[(5,L 1 lV a.1),(6,I a.2)]) (.xe 0 [0,1] fun d=>[(5,L 1 lV d)]):=⟨⟩
instance t_R:FI J0 188 (∀(a:List Int)(b:Int),FnK J0 188 [T.ro (lV a),I b] (fun r:(List (List Int))=>[lM r]) (fun _=>[]) (f_R a b)):=⟨Tryz.call188,fun a b=>iM Tryz.func188⟩
instance t_bH:FI J0 320 (∀(a b:Int),FnK J0 320 [(IK .u64) a,(IK .u64) b] (fun r=>[(IK .u64) r.1,(IK .u64) r.2]) (fun _=>[]) (zVL a b)):=⟨Tryz.call320,fun a b=>iM Tryz.func320⟩
instance(a:List Int):LH (R:=Int) (zOd a) [0,1,7] [] (fun b=>[(8,I b)]) (.xs (.xe 0 [0,1,7] fun _=>[]) .xr):=⟨⟩
instance t_aN:FJ J0 263 266 (∀(a:List Int),FnK J0 263 [T.ro (lV a),T.lit (.func (.func 266) #[] #[])] (fun r=>[I r]) (fun _=>[]) (zYI a)):=⟨Tryz.call263,fun a=>iM Tryz.func263⟩
end
end Go.Wk
