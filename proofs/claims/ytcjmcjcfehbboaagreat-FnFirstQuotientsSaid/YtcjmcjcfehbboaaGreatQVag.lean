/- x -/
import Derived.Test.YtcjmcjcfehbboaaGreatQVab
import Derived.Test.YtcjmcjcfehbboaaGreatQVad
import Derived.Test.YtcjmcjcfehbboaaGreatQWT
open Go.Proofs.Tryz renaming prog→J0,call83→Ue,call82→Qs,f101→Jb1,call58→Jbg
open Option renaming some→jq,none→jr
open Bool renaming true→js,false→jt
namespace Go.Wk
open Go Go.Proofs Go.Ab
set_option maxRecDepth 100000
set_option maxHeartbeats 4000000
section
attribute [local irreducible] RW CW DK OkL Ok yL yM xQ wE XS.post rng wF xN ixO zQ yC xR yH zC GTo zE FnC FnK wJ wS Kp Lk BsL BuL RpL Bk Lc
instance:HS Tryz.f19.8 [(2,2,0,.tr 3 7)]:=⟨⟩
instance(a:List Int):LH (R:=zM) (zSK a) [0] [] (fun b=>[(3,T.ptr (T.agg [T.ro ((L 1 (IK .u8)) a),I 0,I b.1])),(4,I b.2)]) (.xe 0 [0] fun c=>[(3,T.ptr (T.agg [T.ro ((L 1 (IK .u8)) a),I 0,I c]))]):=⟨⟩
instance t_bg:FI J0 19 (∀(a:List Int),FnK J0 19 [T.ro ((L 1 (IK .u8)) a)] (fun r=>[(Pt (fun x=>T.agg [(Ro (L 1 (IK .u8))) x.code,I x.at_,I x.seed])) r]) (fun _=>[]) (zVz a)):=⟨Tryz.call19,fun a=>iM Tryz.func19⟩
instance t_bH:FI J0 196 (∀(a:Int),FnK J0 196 [I a] (fun r=>[Str r]) (fun _=>[]) (zQa a)):=⟨Tryz.call196,fun a=>iM Tryz.func196⟩
instance:HS Tryz.f82.8 [(2,2,0,.tr 5 7),(0,16,0,.tr 13 5),(2,4,0,.tr 5 16)]:=⟨⟩
instance(b c:Int):LH (R:=(List Int)) (zTe b c) [0,1] [] (fun a=>[(5,L 1 I a.1),(6,I a.2)]) (.xe 0 [0,1] fun d=>[(5,L 1 I d)]):=⟨⟩
instance t_av:FI J0 82 (∀(a b:Int),FnK J0 82 [I a,I b] (fun r=>[lV r]) (fun _=>[]) (zQb a b)):=⟨Qs,fun a b=>iM Tryz.func82⟩
instance:HS Tryz.f83.8 [(2,2,0,.tr 7 10),(0,32,0,.tr 29 7),(2,4,0,.tr 7 32)]:=⟨⟩
instance(c d:Int):LH (R:=(List Int)×zM) (zTf c d) [1,2] [] (fun a=>[(0,T.ptr (T.agg [T.ro ((L 1 (IK .u8)) a.1),I a.2.1,I a.2.2.1])),(7,L 1 I a.2.2.2.1),(8,I a.2.2.2.2)]) (.xe 0 [1,2] fun b=>[(0,T.ptr (T.agg [T.ro ((L 1 (IK .u8)) b.1),I b.2.1,I b.2.2.1])),(7,L 1 I b.2.2.2)]):=⟨⟩
instance t_aj:FI J0 83 (∀(a:zM)(b c:Int),FnK J0 83 [T.ptr (zW a),I b,I c] (fun r:(List Int)×zM=>[lV r.1]) (fun r=>[(0,(Pt (fun x=>T.agg [(Ro (L 1 (IK .u8))) x.code,I x.at_,I x.seed])) r.2)]) (zNl a b c)):=⟨Ue,fun a b c=>iM Tryz.func83⟩
instance t_bD:FI J0 24 (∀(a:Int),FnK J0 24 [I a] (fun r=>[B r]) (fun _=>[]) (zPD a)):=⟨Tryz.call24,fun a=>iM Tryz.func24⟩
instance:HS Tryz.f90.8 [(2,10,0,.tr 6 24),(0,33,0,.tr 31 6),(2,14,0,.tr 6 33)]:=⟨⟩
instance(b:List (List Int)):LH (R:=(List Int)) (zS8 b) [0,9,10] [] (fun a=>[(3,I a.1),(11,I a.2)]) (.xe 0 [9,10] fun c=>[(3,I c)]):=⟨⟩
instance(b:List (List Int)):LH (R:=(List Int)) (zS9 b) [25,26] [] (fun a=>[(6,L 1 I a.1),(27,I a.2)]) (.xe 2 [25,26] fun c=>[(6,L 1 I c)]):=⟨⟩
instance t_z:FI J0 90 (∀(a:List (List Int)),FnK J0 90 [T.ro (lM a)] (fun r=>[lV r]) (fun _=>[]) (f_z a)):=⟨Tryz.call90,fun a=>iM Tryz.func90⟩
instance(a:List Int):LH (R:=Int) (zFF a) [0,1,7] [] (fun b=>[(8,I b)]) (.xs (.xe 0 [0,1,7] fun _=>[]) .xr):=⟨⟩
instance t_ae:FI J0 143 (∀(a:List Int),FnK J0 143 [T.ro (lV a),T.lit (.func (.func 144) #[] #[])] (fun r=>[I r]) (fun _=>[]) (zPN a)):=⟨Tryz.call143,fun a=>iM Tryz.func143⟩
instance:HS Jb1.8 []:=⟨⟩
instance:MkN Jb1.8 9 I:=⟨⟩
instance t_b9:FI J0 101 (∀(a:SPr),FnK J0 101 [T.ro ((Pt yI) a)] (fun r=>[(Pt (fun x=>T.agg [(Ro (Pt yI)) x.p,(L 1 (Ro (Nz 1 I))) x.base])) r]) (fun _=>[]) (zY5 a)):=⟨Tryz.call101,fun a=>iM Tryz.func101⟩
instance(b:SPr):LH (R:=Int) (zL9 b) [9,10] [] (fun a=>[(3,I a.1),(11,I a.2)]) (.xe 0 [9,10] fun c=>[(3,I c)]):=⟨⟩
instance t_aY:FI J0 27 (∀(a:SPr),FnK J0 27 [T.ro ((Pt yI) a)] (fun r=>[I r]) (fun _=>[]) (zVr a)):=⟨Tryz.call27,fun a=>iM Tryz.func27⟩
instance(b:SPr)(c:List Int):LH (R:=Int) (zIK b c) [0,8,9] [] (fun a=>[(5,I a.1),(10,I a.2)]) (.xe 0 [0,8,9] fun d=>[(5,I d)]):=⟨⟩
instance t_al:FI J0 58 (∀(a:SPr)(b:List Int),FnK J0 58 [T.ro ((Pt yI) a),T.ro (lV b)] (fun r=>[I r]) (fun _=>[]) (zTu a b)):=⟨Jbg,fun a b=>iM Tryz.func58⟩
instance(b:SPr):LH (R:=Int) (zL8 b) [1] [] (fun a=>[(3,I a.1),(4,I a.2)]) (.xe 0 [1] fun c=>[(3,I c)]):=⟨⟩
instance t_aZ:FI J0 33 (∀(a:SPr),FnK J0 33 [qPr a] (fun r=>[I r]) (fun _=>[]) (zVq a)):=⟨Tryz.call33,fun a=>iM Tryz.func33⟩
end
end Go.Wk
