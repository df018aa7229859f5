/- x -/
import Derived.Test.YtchnmobojdcikaaGreatCWT
open Go.Proofs.Tryz renaming prog→J0
open Option renaming some→iz,none→iA
open Bool renaming true→iB,false→iC
namespace Go.Wk
open Go Go.Proofs Go.Ab
set_option maxRecDepth 100000
set_option maxHeartbeats 4000000
section
attribute [local irreducible] RW CW DK OkL Ok zV yA yW xK XS.post rng xN yP ixO zO yG yO yB zG GTo zP FnC FnK xQ wB Kp Lk BsL BuL RpL Bk Lc JQ AK
instance t_i:FI J0 112 (∀(a:zF)(b:Int),FnK J0 112 [T.ptr (vU a),I b] (fun r=>[I r.1]) (fun r=>[(0,(Pt (fun x=>T.agg [(Ro (L 1 (IK .u8))) x.code,I x.at_,I x.seed])) r.2)]) (f_i a b)):=⟨Tryz.call112,fun a b=>iM Tryz.func112⟩
instance:HS Tryz.f329.8 [(2,2,0,.tr 7 11)]:=⟨⟩
instance(b:List Int):LH (R:=(List Int)) (zU9 b) [0] [] (fun a=>[(2,I a.1),(7,L 1 I a.2.1),(8,I a.2.2)]) (.xe 0 [0] fun c=>[(7,L 1 I c)]):=⟨⟩
instance t_aU:FI J0 329 (∀(a:List Int)(b c:Int),FnK J0 329 [T.ro (lV a),I b,I c] (fun r=>[lV r]) (fun _=>[]) (zRb a b c)):=⟨Tryz.call329,fun a b c=>iM Tryz.func329⟩
instance(c:Int):LH (R:=Int) (zUA c) [2] [] (fun a=>[(0,I a.1),(1,I a.2.1),(7,I a.2.2)]) (.xe 0 [2] fun b=>[(7,I b)]):=⟨⟩
instance t_a9:FI J0 330 (∀(a b c:Int),FnK J0 330 [I a,I b,I c] (fun r=>[I r]) (fun _=>[]) (zUB a b c)):=⟨Tryz.call330,fun a b c=>iM Tryz.func330⟩
instance:HS Tryz.f139.8 [(2,2,0,.tr 9 13)]:=⟨⟩
instance(c:Int)(d:List Int)(e:List (List Int))(f:(List Int)×Int):LH (R:=(List Int)) (zQE c d e f) [0,1,2,10] [] (fun b=>[(9,L 1 I b.1),(11,I b.2)]) (.xe 2 [] fun a=>[(9,L 1 I a)]):=⟨⟩
instance(c:Int)(d:List Int)(e:List (List Int)):LH (R:=(List Int)) (zNT c d e) [0,1,2] [] (fun b=>[(9,L 1 I b.1),(10,I b.2)]) (.xe 0 [0,1,2] fun a=>[(9,L 1 I a)]):=⟨⟩
instance t_H:FI J0 139 (∀(a:Int)(b:List Int)(c:List (List Int))(d:Int),FnK J0 139 [I a,T.ro (lV b),T.ro (lM c),I d] (fun r=>[lV r]) (fun _=>[]) (f_H a b c d)):=⟨Tryz.call139,fun a b c d=>iM Tryz.func139⟩
instance:HS Tryz.f344.8 [(2,4,0,.tr 3 8),(0,29,0,.tr 20 3),(2,6,0,.tr 3 29),(2,6,1,.tr 3 39),(0,39,0,.tr 30 3)]:=⟨⟩
instance(c:List Int):LH (R:=ByteArray) (zUM c) [0] [] (fun b=>[(3,L 1 (IK .u8) b.1),(4,I b.2)]) (.xe 0 [0] fun a=>[(3,L 1 (IK .u8) a)]):=⟨⟩
instance t_aW:FI J0 344 (∀(a:List Int),FnK J0 344 [T.ro (lV a)] (fun r=>[Str r]) (fun _=>[]) (zRd a)):=⟨Tryz.call344,fun a=>iM Tryz.func344⟩
instance:HS Tryz.f345.8 [(2,2,0,.tr 3 6),(0,25,0,.tr 21 3),(2,7,0,.tr 3 25)]:=⟨⟩
instance(b:List Int)(c:(List Int)×Int):LH (R:=(List Int)) (zUN b c) [0,4] [] (fun a=>[(3,L 1 I a.1),(5,I a.2)]) (.xe 2 [] fun d=>[(3,L 1 I d)]):=⟨⟩
instance(b:List Int):LH (R:=(List Int)) (zPM b) [0] [] (fun a=>[(3,L 1 I a.1),(4,I a.2)]) (.xe 0 [0] fun c=>[(3,L 1 I c)]):=⟨⟩
instance t_ae:FI J0 345 (∀(a:List Int),FnK J0 345 [T.ro (lV a)] (fun r=>[lV r]) (fun _=>[]) (zUO a)):=⟨Tryz.call345,fun a=>iM Tryz.func345⟩
instance t_bL:FI J0 162 (∀(a b:Int),FnK J0 162 [I a,I b] (fun r=>[I r]) (fun _=>[]) (zUj a b)):=⟨Tryz.call162,fun a b=>iM Tryz.func162⟩
instance:HS Tryz.f226.8 [(2,2,0,.tr 5 7)]:=⟨⟩
instance t_a2:FI J0 226 (∀(a b:Int),FnK J0 226 [I a,I b] (fun r=>[lV r]) (fun _=>[]) (zK9 a b)):=⟨Tryz.call226,fun a b=>iM Tryz.func226⟩
end
end Go.Wk
