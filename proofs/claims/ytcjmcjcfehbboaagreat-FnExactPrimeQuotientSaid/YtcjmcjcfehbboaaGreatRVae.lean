/- x -/
import Derived.Test.YtcjmcjcfehbboaaGreatRVab
import Derived.Test.YtcjmcjcfehbboaaGreatRWT
open Go.Proofs.Tryz renaming prog->J1
open Option renaming some->Wu,none->Wv
open Bool renaming true->Ww,false->Wx
namespace Go.Wk
open Go Go.Proofs Go.Ab
set_option maxRecDepth 100000
set_option maxHeartbeats 4000000
section
attribute [local irreducible] RW CW DK OkL Ok yX xC wK wY XS.post rng vP vL ixO zT yR wN yO zF GTo zI FnC FnK vB uC Kp Lk BsL BuL RpL Bk Lc
instance:HS Tryz.f87.8 [(0,24,0,.trq 23 22 [2]),(0,25,0,.trq 19 7 [2,0]),(1,6,0,.trf 28 2 7 [2,0])]:=⟨⟩
instance(d:SPr)(a b:Int):LH (R:=zS) (zNd d a b) [1,2,6,15] [] (fun c=>[(7,T.ptr (T.agg [I a,I b,L 1 lM c.1])),(16,I c.2)]) (.xe 0 [1,2,15] fun e=>[(7,T.ptr (T.agg [I a,I b,L 1 lM e]))]):=⟨⟩
instance t_S:FI J1 87 (∀(a:SPr)(b c:Int),FnK J1 87 [T.ro ((Pt yM) a),I b,I c] (fun r=>[yE r]) (fun _=>[]) (f_S a b c)):=⟨Tryz.call87,fun a b c=>iM Tryz.func87⟩
instance(a:List Int):LH (R:=Int) (zMX a) [0,1,7] [] (fun b=>[(8,I b)]) (.xs (.xe 0 [0,1,7] fun _=>[]) .xr):=⟨⟩
instance t_W:FI J1 143 (∀(a:List Int),FnK J1 143 [T.ro (lV a),T.lit (.func (.func 144) #[] #[])] (fun r=>[I r]) (fun _=>[]) (f_W a)):=⟨Tryz.call143,fun a=>iM Tryz.func143⟩
instance:HS Tryz.f63.8 [(2,2,0,.tr 5 8),(0,32,0,.tr 29 5),(2,4,0,.tr 5 32)]:=⟨⟩
instance(b:List (List Int))(c:Int):LH (R:=(List Int)) (zQq b c) [0,1] [] (fun a=>[(5,L 1 I a.1),(6,I a.2.1),(7,I a.2.2)]) (.xe 0 [0,1] fun d=>[(5,L 1 I d)]):=⟨⟩
instance t_ap:FI J1 63 (∀(a:List (List Int))(b:Int),FnK J1 63 [T.ro (lM a),I b] (fun r=>[lV r]) (fun _=>[]) (zRZ a b)):=⟨Tryz.call63,fun a b=>iM Tryz.func63⟩
instance t_a8:FI J1 123 (∀(a:List Int),FnK J1 123 [T.ro (lV a)] (fun r=>[I r]) (fun _=>[]) (zSb a)):=⟨Tryz.call123,fun a=>iM Tryz.func123⟩
instance:HS Tryz.f79.8 [(2,2,0,.tr 3 7)]:=⟨⟩
instance(b:List Int):LH (R:=(List Int)) (zUZ b) [0] [] (fun a=>[(3,L 1 I a.1),(4,I a.2)]) (.xe 0 [0] fun c=>[(3,L 1 I c)]):=⟨⟩
instance t_aH:FI J1 79 (∀(a:List Int),FnK J1 79 [T.ro (lV a)] (fun r=>[lV r]) (fun _=>[]) (zVa a)):=⟨Tryz.call79,fun a=>iM Tryz.func79⟩
instance:LH (R:=Int×(List Int)) zQn [] [] (fun a=>[(0,L 1 I a.1),(1,I a.2.1),(5,I a.2.2)]) (.xe 0 [] fun b=>[(0,L 1 I b.1),(1,I b.2)]):=⟨⟩
instance t_at:FI J1 42 (∀(a:List Int)(b:Int),FnK J1 42 [L 1 I a,I b] (fun r:Int×(List Int)=>[I r.1]) (fun r=>[(0,lV r.2)]) (zVx a b)):=⟨Tryz.call42,fun a b=>iM Tryz.func42⟩
instance(b:List Int):LH (R:=Int) (zMQ b) [0] [] (fun a=>[(1,I a.1),(5,I a.2)]) (.xs (.xe 0 [0] fun c=>[(1,I c)]) .xr):=⟨⟩
instance t_aj:FI J1 43 (∀(a:List Int)(b:Int),FnK J1 43 [T.ro (lV a),I b] (fun r=>[I r]) (fun _=>[]) (zV0 a b)):=⟨Tryz.call43,fun a b=>iM Tryz.func43⟩
end
end Go.Wk
