/- x -/
import Derived.Test.YtchnmobojdcikaaGreatPWT
open Go.Proofs.Tryz renaming prog→J0
open Option renaming some→aB,none→aC
open Bool renaming true→aD,false→aE
namespace Go.Wk
open Go Go.Proofs Go.Ab
set_option maxRecDepth 100000
set_option maxHeartbeats 4000000
section
attribute [local irreducible] RW CW DK OkL Ok yA yB xE xH XS.post rng xK yV ixO zN yD xC zU zC GTo zO FnC FnK xV wG Kp Lk BsL BuL RpL Bk Lc JQ AK
instance t_aQ:FI J0 199 (∀(a:Int),FnK J0 199 [I a] (fun r=>[B r]) (fun _=>[]) (zKs a)):=⟨Tryz.call199,fun a=>iM Tryz.func199⟩
instance:HS Tryz.f329.8 [(2,2,0,.tr 7 11)]:=⟨⟩
instance(b:List Int):LH (R:=(List Int)) (zPQ b) [0] [] (fun a=>[(2,I a.1),(7,L 1 I a.2.1),(8,I a.2.2)]) (.xe 0 [0] fun c=>[(7,L 1 I c)]):=⟨⟩
instance t_ap:FI J0 329 (∀(a:List Int)(b c:Int),FnK J0 329 [T.ro (lV a),I b,I c] (fun r=>[lV r]) (fun _=>[]) (zNa a b c)):=⟨Tryz.call329,fun a b c=>iM Tryz.func329⟩
instance(c:Int):LH (R:=Int) (zPR c) [2] [] (fun a=>[(0,I a.1),(1,I a.2.1),(7,I a.2.2)]) (.xe 0 [2] fun b=>[(7,I b)]):=⟨⟩
instance t_aB:FI J0 330 (∀(a b c:Int),FnK J0 330 [I a,I b,I c] (fun r=>[I r]) (fun _=>[]) (zPS a b c)):=⟨Tryz.call330,fun a b c=>iM Tryz.func330⟩
instance(b:List Int):LH (R:=Int) (zML b) [0] [] (fun a=>[(3,I a.1),(4,I a.2)]) (.xe 0 [0] fun c=>[(3,I c)]):=⟨⟩
instance t_I:FI J0 123 (∀(a:List Int),FnK J0 123 [T.ro (lV a)] (fun r=>[I r]) (fun _=>[]) (f_I a)):=⟨Tryz.call123,fun a=>iM Tryz.func123⟩
instance(a:List Int):LH (R:=Bool) (zPC a) [0] [] (fun b=>[(3,I b)]) (.xs (.xe 0 [0] fun _=>[]) .xr):=⟨⟩
instance t_aa:FI J0 208 (∀(a:List Int),FnK J0 208 [T.ro (lV a)] (fun r=>[B r]) (fun _=>[]) (zHR a)):=⟨Tryz.call208,fun a=>iM Tryz.func208⟩
instance:HS Tryz.f344.8 [(2,4,0,.tr 3 8),(0,29,0,.tr 20 3),(2,6,0,.tr 3 29),(2,6,1,.tr 3 39),(0,39,0,.tr 30 3)]:=⟨⟩
instance(c:List Int):LH (R:=ByteArray) (zQd c) [0] [] (fun b=>[(3,L 1 (IK .u8) b.1),(4,I b.2)]) (.xe 0 [0] fun a=>[(3,L 1 (IK .u8) a)]):=⟨⟩
instance t_ar:FI J0 344 (∀(a:List Int),FnK J0 344 [T.ro (lV a)] (fun r=>[Str r]) (fun _=>[]) (zNc a)):=⟨Tryz.call344,fun a=>iM Tryz.func344⟩
instance:HS Tryz.f345.8 [(2,2,0,.tr 3 6),(0,25,0,.tr 21 3),(2,7,0,.tr 3 25)]:=⟨⟩
instance(b:List Int)(c:(List Int)×Int):LH (R:=(List Int)) (zU7 b c) [0,4] [] (fun a=>[(3,L 1 I a.1),(5,I a.2)]) (.xe 2 [] fun d=>[(3,L 1 I d)]):=⟨⟩
instance(b:List Int):LH (R:=(List Int)) (zSa b) [0] [] (fun a=>[(3,L 1 I a.1),(4,I a.2)]) (.xe 0 [0] fun c=>[(3,L 1 I c)]):=⟨⟩
instance t_W:FI J0 345 (∀(a:List Int),FnK J0 345 [T.ro (lV a)] (fun r=>[lV r]) (fun _=>[]) (f_W a)):=⟨Tryz.call345,fun a=>iM Tryz.func345⟩
instance(g_b:SPr→(List Int)→Int→Option (List Int))(b:SPr)(c:(List Int)×Int)(d:Int):LH (R:=(List Int)) (zPk g_b b c d) [0,6,8,9,10,15] [] (fun a=>[(1,L 1 I a.1),(16,I a.2)]) (.xe 2 [6,15] fun e=>[(1,L 1 I e)]):=⟨⟩
instance(g_b:SPr→(List Int)→Int→Option (List Int))(b:SPr)(c:List Int):LH (R:=(List Int)) (zPl g_b b c) [0,8,9] [] (fun a=>[(1,L 1 I a.1),(10,I a.2)]) (.xe 0 [0,8,9] fun d=>[(1,L 1 I d)]):=⟨⟩
theorem zXt{g_b:SPr→(List Int)→Int→Option (List Int)}[FI J0 298 (∀(x0:SPr)(x1:List Int)(x2:Int),FnK J0 298 [T.ro ((Pt xT) x0),L 1 I x1,I x2] (fun _:(List Int)=>[]) (fun r=>[(1,lV r)]) (g_b x0 x1 x2))]:∀(x0:SPr)(x1:List Int)(x2:List Int),FnK J0 246 [T.ro ((Pt xT) x0),L 1 I x1,T.ro (lV x2)] (fun _:(List Int)=>[]) (fun r=>[(1,lV r)]) (b_c g_b x0 x1 x2):=fun x0 x1 x2=>iM Tryz.func246
theorem zXu{g_b:SPr→(List Int)→Int→Option (List Int)}(H_b:∀(x0:SPr)(x1:List Int)(x2:Int) r,g_b x0 x1 x2=aB r→FnC J0 298 [T.ro ((Pt xT) x0),L 1 I x1,I x2] [] [(1,lV r)])(x0:SPr)(x1:List Int)(x2:List Int)(r:(List Int))(h:b_c g_b x0 x1 x2=aB r):FnC J0 246 [T.ro ((Pt xT) x0),L 1 I x1,T.ro (lV x2)] [] [(1,lV r)]:=by have:FI J0 298 (∀(x0:SPr)(x1:List Int)(x2:Int),FnK J0 298 [T.ro ((Pt xT) x0),L 1 I x1,I x2] (fun _:(List Int)=>[]) (fun r=>[(1,lV r)]) (g_b x0 x1 x2)):=⟨Tryz.call298,fun x0 x1 x2=>FnK.mk (H_b x0 x1 x2)⟩;exact(zXt x0 x1 x2).go h
instance(a b:List Int):LH (R:=Bool) (zUv a b) [0,1,12] [] (fun c=>[(13,I c)]) (.xs (.xe 0 [0,1,12] fun _=>[]) .xr):=⟨⟩
instance t_T:FI J0 225 (∀(a b:List Int),FnK J0 225 [T.ro (lV a),T.ro (lV b)] (fun r=>[B r]) (fun _=>[]) (f_T a b)):=⟨Tryz.call225,fun a b=>iM Tryz.func225⟩
end
end Go.Wk
