/- x -/
import Derived.Test.YtchnmobojdcikaaGreatRWT
open Go.Proofs.Tryz renaming prog->J0
open Option renaming some->iW,none->iY
open Bool renaming true->iZ,false->ja
namespace Go.Wk
open Go Go.Proofs Go.Ab
set_option maxRecDepth 100000
set_option maxHeartbeats 4000000
section
attribute [local irreducible] RW CW DK OkL Ok yB yI xF xQ XS.post rng xV xC ixO zL yE yT yD zH GTo zR FnC FnK wA wN Kp Lk BsL BuL RpL Bk Lc JQ AK
instance t_h:FI J0 112 (∀(a:zE)(b:Int),FnK J0 112 [T.ptr (wY a),I b] (fun r=>[I r.1]) (fun r=>[(0,(Pt (fun x=>T.agg [(Ro (L 1 (IK .u8))) x.code,I x.at_,I x.seed])) r.2)]) (f_h a b)):=⟨Tryz.call112,fun a b=>iM Tryz.func112⟩
instance:HS Tryz.f329.8 [(2,2,0,.tr 7 11)]:=⟨⟩
instance(b:List Int):LH (R:=(List Int)) (zWH b) [0] [] (fun a=>[(2,I a.1),(7,L 1 I a.2.1),(8,I a.2.2)]) (.xe 0 [0] fun c=>[(7,L 1 I c)]):=⟨⟩
instance t_a0:FI J0 329 (∀(a:List Int)(b c:Int),FnK J0 329 [T.ro (lV a),I b,I c] (fun r=>[lV r]) (fun _=>[]) (zSF a b c)):=⟨Tryz.call329,fun a b c=>iM Tryz.func329⟩
instance(c:Int):LH (R:=Int) (zWI c) [2] [] (fun a=>[(0,I a.1),(1,I a.2.1),(7,I a.2.2)]) (.xe 0 [2] fun b=>[(7,I b)]):=⟨⟩
instance t_bh:FI J0 330 (∀(a b c:Int),FnK J0 330 [I a,I b,I c] (fun r=>[I r]) (fun _=>[]) (zWJ a b c)):=⟨Tryz.call330,fun a b c=>iM Tryz.func330⟩
instance:HS Tryz.f318.8 [(2,2,0,.tr 7 11),(0,14,0,.tr 12 7)]:=⟨⟩
instance t_bx:FI J0 318 (∀(a:Int)(b:List Int)(c:Int),FnK J0 318 [I a,T.ro (lV b),I c] (fun r=>[lV r]) (fun _=>[]) (zOe a b c)):=⟨Tryz.call318,fun a b c=>iM Tryz.func318⟩
instance:HS Tryz.f139.8 [(2,2,0,.tr 9 13)]:=⟨⟩
instance(c:Int)(d:List Int)(e:List (List Int))(f:(List Int)×Int):LH (R:=(List Int)) (zSp c d e f) [0,1,2,10] [] (fun b=>[(9,L 1 I b.1),(11,I b.2)]) (.xe 2 [] fun a=>[(9,L 1 I a)]):=⟨⟩
instance(c:Int)(d:List Int)(e:List (List Int)):LH (R:=(List Int)) (zPk c d e) [0,1,2] [] (fun b=>[(9,L 1 I b.1),(10,I b.2)]) (.xe 0 [0,1,2] fun a=>[(9,L 1 I a)]):=⟨⟩
instance t_K:FI J0 139 (∀(a:Int)(b:List Int)(c:List (List Int))(d:Int),FnK J0 139 [I a,T.ro (lV b),T.ro (lM c),I d] (fun r=>[lV r]) (fun _=>[]) (f_K a b c d)):=⟨Tryz.call139,fun a b c d=>iM Tryz.func139⟩
instance:HS Tryz.f344.8 [(2,4,0,.tr 3 8),(0,29,0,.tr 20 3),(2,6,0,.tr 3 29),(2,6,1,.tr 3 39),(0,39,0,.tr 30 3)]:=⟨⟩
instance(c:List Int):LH (R:=ByteArray) (zWU c) [0] [] (fun b=>[(3,L 1 (IK .u8) b.1),(4,I b.2)]) (.xe 0 [0] fun a=>[(3,L 1 (IK .u8) a)]):=⟨⟩
instance t_a2:FI J0 344 (∀(a:List Int),FnK J0 344 [T.ro (lV a)] (fun r=>[Str r]) (fun _=>[]) (zSH a)):=⟨Tryz.call344,fun a=>iM Tryz.func344⟩
instance:HS Tryz.f345.8 [(2,2,0,.tr 3 6),(0,25,0,.tr 21 3),(2,7,0,.tr 3 25)]:=⟨⟩
instance(b:List Int)(c:(List Int)×Int):LH (R:=(List Int)) (zWV b c) [0,4] [] (fun a=>[(3,L 1 I a.1),(5,I a.2)]) (.xe 2 [] fun d=>[(3,L 1 I d)]):=⟨⟩
instance(b:List Int):LH (R:=(List Int)) (zRv b) [0] [] (fun a=>[(3,L 1 I a.1),(4,I a.2)]) (.xe 0 [0] fun c=>[(3,L 1 I c)]):=⟨⟩
instance t_as:FI J0 345 (∀(a:List Int),FnK J0 345 [T.ro (lV a)] (fun r=>[lV r]) (fun _=>[]) (zWW a)):=⟨Tryz.call345,fun a=>iM Tryz.func345⟩
instance t_bQ:FI J0 162 (∀(a b:Int),FnK J0 162 [I a,I b] (fun r=>[I r]) (fun _=>[]) (zWa a b)):=⟨Tryz.call162,fun a b=>iM Tryz.func162⟩
end
end Go.Wk
