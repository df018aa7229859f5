/- x -/
import Derived.Test.YtcjmcjcfehbboaaGreatRVaa
import Derived.Test.YtcjmcjcfehbboaaGreatRVad
import Derived.Test.YtcjmcjcfehbboaaGreatRWT
open Go.Proofs.Tryz renaming prog->J1,call53->Jbz
open Option renaming some->Wu,none->Wv
open Bool renaming true->Ww,false->Wx
namespace Go.Wk
open Go Go.Proofs Go.Ab
set_option maxRecDepth 100000
set_option maxHeartbeats 4000000
section
attribute [local irreducible] RW CW DK OkL Ok yX xC wK wY XS.post rng vP vL ixO zT yR wN yO zF GTo zI FnC FnK vB uC Kp Lk BsL BuL RpL Bk Lc
instance:HS Tryz.f118.8 [(2,2,0,.tr 3 5),(0,19,0,.tr 12 3),(2,4,0,.tr 3 19)]:=⟨⟩
instance(b:List (List Int)):LH (R:=(List (List Int))) (zMW b) [0] [] (fun a=>[(3,L 1 lV a.1),(4,I a.2)]) (.xe 0 [0] fun c=>[(3,L 1 lV c)]):=⟨⟩
instance t_ax:FI J1 118 (∀(a:List (List Int)),FnK J1 118 [T.ro (lM a)] (fun r:(List (List Int))=>[lM r]) (fun _=>[]) (zXJ a)):=⟨Tryz.call118,fun a=>iM Tryz.func118⟩
instance t_bx:FI J1 85 (∀(a:Int),FnK J1 85 [I a] (fun r=>[B r]) (fun _=>[]) (yAM a)):=⟨Tryz.call85,fun a=>iM Tryz.func85⟩
instance(a:Int)(b:List Int):LH (R:=Bool) (zNh a b) [0,1,7,8] [] (fun c=>[(9,I c)]) (.xs (.xe 0 [0,7,8] fun _=>[]) .xr):=⟨⟩
instance t_aD:FI J1 86 (∀(a:Int)(b:List Int),FnK J1 86 [I a,T.ro (lV b)] (fun r=>[B r]) (fun _=>[]) (zXU a b)):=⟨Tryz.call86,fun a b=>iM Tryz.func86⟩
instance:HS Tryz.f90.8 [(2,10,0,.tr 6 24),(0,33,0,.tr 31 6),(2,14,0,.tr 6 33)]:=⟨⟩
instance(b:List (List Int)):LH (R:=(List Int)) (zVs b) [0,9,10] [] (fun a=>[(3,I a.1),(11,I a.2)]) (.xe 0 [9,10] fun c=>[(3,I c)]):=⟨⟩
instance(b:List (List Int)):LH (R:=(List Int)) (zVt b) [25,26] [] (fun a=>[(6,L 1 I a.1),(27,I a.2)]) (.xe 2 [25,26] fun c=>[(6,L 1 I c)]):=⟨⟩
instance t_u:FI J1 90 (∀(a:List (List Int)),FnK J1 90 [T.ro (lM a)] (fun r=>[lV r]) (fun _=>[]) (f_u a)):=⟨Tryz.call90,fun a=>iM Tryz.func90⟩
instance(b c:List Int)(d e:Int):LH (R:=(List Int)) (zMM b c d e) [1,2,3,10] [] (fun a=>[(0,L 1 I a.1),(11,I a.2)]) (.xe 0 [1,2,3,10] fun f=>[(0,L 1 I f)]):=⟨⟩
instance t_s:FI J1 53 (∀(a b:List Int)(c d:Int),FnK J1 53 [L 1 I a,T.ro (lV b),I c,I d] (fun _:(List Int)=>[]) (fun r=>[(0,lV r)]) (f_s a b c d)):=⟨Jbz,fun a b c d=>iM Tryz.func53⟩
instance:HS Tryz.f91.8 [(0,16,0,.tr 12 3),(2,6,0,.tr 3 16)]:=⟨⟩
instance(b:List (List Int)):LH (R:=(List (List Int))) (zMS b) [6,7] [] (fun a=>[(3,L 1 lV a.1),(8,I a.2)]) (.xe 0 [6,7] fun c=>[(3,L 1 lV c)]):=⟨⟩
instance t_aw:FI J1 91 (∀(a:List (List Int)),FnK J1 91 [T.ro (lM a)] (fun r:(List (List Int))=>[lM r]) (fun _=>[]) (zXH a)):=⟨Tryz.call91,fun a=>iM Tryz.func91⟩
instance:LH (R:=Int×Bool) zR4 [1] [] (fun a=>[(6,I a.1),(7,I a.2.1),(8,I a.2.2.1),(9,I a.2.2.2)]) (.xe 0 [] fun b=>[(6,I b.1),(8,I b.2)]):=⟨⟩
instance t_U:FI J1 92 (∀(a b:Int),FnK J1 92 [I a,I b] (fun r=>[I r.1,B r.2]) (fun _=>[]) (f_U a b)):=⟨Tryz.call92,fun a b=>iM Tryz.func92⟩
instance t_bj:FI J1 95 (∀(a:List Int)(b:Int),FnK J1 95 [T.ro (lV a),I b] (fun r=>[B r]) (fun _=>[]) (zXL a b)):=⟨Tryz.call95,fun a b=>iM Tryz.func95⟩
instance:HS Tryz.f114.8 [(2,2,0,.tr 9 12)]:=⟨⟩
instance(b c:Int)(d:List Int):LH (R:=(List Int)) (zV5 b c d) [0,2,3] [] (fun a=>[(9,L 1 I a.1),(10,I a.2)]) (.xe 0 [0,2,3] fun e=>[(9,L 1 I e)]):=⟨⟩
instance t_R:FI J1 114 (∀(a:Int)(b:List Int)(c:Int)(d:List Int),FnK J1 114 [I a,T.ro (lV b),I c,T.ro (lV d)] (fun r=>[lV r]) (fun _=>[]) (f_R a b c d)):=⟨Tryz.call114,fun a b c d=>iM Tryz.func114⟩
instance(a b:Int):LH (R:=Int) (zMV a b) [0,1] [] (fun c=>[(5,I c)]) (.xs (.xe 0 [0,1] fun _=>[]) .xr):=⟨⟩
instance t_ak:FI J1 113 (∀(a b:Int),FnK J1 113 [I a,I b] (fun r=>[I r]) (fun _=>[]) (zV7 a b)):=⟨Tryz.call113,fun a b=>iM Tryz.func113⟩
end
end Go.Wk
