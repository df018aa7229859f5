/- x -/
import Derived.Test.YtchnmobojdcikaaGreatCWT
open Go.Proofs.Tryz renaming prog→J0,call233→Q4,call114→Jan
open Option renaming some→iz,none→iA
open Bool renaming true→iB,false→iC
namespace Go.Wk
open Go Go.Proofs Go.Ab
set_option maxRecDepth 100000
set_option maxHeartbeats 4000000
section
attribute [local irreducible] RW CW DK OkL Ok zV yA yW xK XS.post rng xN yP ixO zO yG yO yB zG GTo zP FnC FnK xQ wB Kp Lk BsL BuL RpL Bk Lc JQ AK
instance(b:ByteArray):LH (R:=Int) (zUI b) [0] [] (fun a=>[(3,I a.1),(4,I a.2)]) (.xs (.xe 0 [0] fun c=>[(3,I c)]) .xr):=⟨⟩
instance(c:ByteArray):LH (R:=Int) (zUJ c) [0] [] (fun b=>[(3,I b.1),(4,I b.2)]) (.xs (.xe 0 [0] fun a=>[(3,I a)]) .xr):=⟨⟩
instance t_au:FI J0 339 (∀(a:ByteArray),FnK J0 339 [Str a] (fun r=>[I r]) (fun _=>[]) (zWS a)):=⟨Tryz.call339,fun a=>iM Tryz.func339⟩
instance t_bj:FI J0 321 (∀(a:zN),FnK J0 321 [xG a] (fun r=>[xX r]) (fun _=>[]) (zM5 a)):=⟨Tryz.call321,fun a=>iM Tryz.func321⟩
instance t_cd:FI J0 303 (∀(a b c:Int),FnK J0 303 [I a,I b,I c] (fun r=>[I r]) (fun _=>[]) (zZX a b c)):=⟨Tryz.call303,fun a b c=>iM Tryz.func303⟩
instance t_bt:FI J0 326 (∀(a:zN)(b:Int),FnK J0 326 [xG a,I b] (fun r=>[(fun x=>T.agg [(Ro lV) x.x,(Ro lV) x.v]) r]) (fun _=>[]) (zOl a b)):=⟨Tryz.call326,fun a b=>iM Tryz.func326⟩
instance(a:List Int):LH (R:=Int) (zIK a) [0] [] (fun b=>[(3,I b)]) (.xs (.xe 0 [] fun _=>[]) .xr):=⟨⟩
instance t_K:FI J0 250 (∀(a:List Int),FnK J0 250 [T.ro (lV a)] (fun r=>[I r]) (fun _=>[]) (f_K a)):=⟨Tryz.call250,fun a=>iM Tryz.func250⟩
instance t_a0:FI J0 233 (∀(a:Int),FnK J0 233 [I a] (fun r=>[B r]) (fun _=>[]) (zQF a)):=⟨Q4,fun a=>iM Tryz.func233⟩
instance t_aZ:FI J0 114 (∀(a b c:Int),FnK J0 114 [I a,I b,I c] (fun r=>[B r]) (fun _=>[]) (zNW a b c)):=⟨Jan,fun a b c=>iM Tryz.func114⟩
instance(a:List Int):LH (R:=Bool) (zMo a) [5,6] [] (fun b=>[(7,I b)]) (.xs (.xe 0 [5,6] fun _=>[]) .xr):=⟨⟩
instance t_L:FI J0 207 (∀(a:List Int),FnK J0 207 [T.ro (lV a)] (fun r=>[B r]) (fun _=>[]) (f_L a)):=⟨Tryz.call207,fun a=>iM Tryz.func207⟩
instance(g_b:SPr→(List Int)→Int→Option (List Int))(b:SPr)(c:(List Int)×Int)(d:Int):LH (R:=(List Int)) (zTF g_b b c d) [0,6,8,9,10,15] [] (fun a=>[(1,L 1 I a.1),(16,I a.2)]) (.xe 2 [6,15] fun e=>[(1,L 1 I e)]):=⟨⟩
instance(g_b:SPr→(List Int)→Int→Option (List Int))(b:SPr)(c:List Int):LH (R:=(List Int)) (zTG g_b b c) [0,8,9] [] (fun a=>[(1,L 1 I a.1),(10,I a.2)]) (.xe 0 [0,8,9] fun d=>[(1,L 1 I d)]):=⟨⟩
theorem yCX{g_b:SPr→(List Int)→Int→Option (List Int)}[FI J0 298 (∀(x0:SPr)(x1:List Int)(x2:Int),FnK J0 298 [T.ro ((Pt vE) x0),L 1 I x1,I x2] (fun _:(List Int)=>[]) (fun r=>[(1,lV r)]) (g_b x0 x1 x2))]:∀(x0:SPr)(x1:List Int)(x2:List Int),FnK J0 246 [T.ro ((Pt vE) x0),L 1 I x1,T.ro (lV x2)] (fun _:(List Int)=>[]) (fun r=>[(1,lV r)]) (b_d g_b x0 x1 x2):=fun x0 x1 x2=>iM Tryz.func246
theorem yCY{g_b:SPr→(List Int)→Int→Option (List Int)}(H_b:∀(x0:SPr)(x1:List Int)(x2:Int) r,g_b x0 x1 x2=iz r→FnC J0 298 [T.ro ((Pt vE) x0),L 1 I x1,I x2] [] [(1,lV r)])(x0:SPr)(x1:List Int)(x2:List Int)(r:(List Int))(h:b_d g_b x0 x1 x2=iz r):FnC J0 246 [T.ro ((Pt vE) x0),L 1 I x1,T.ro (lV x2)] [] [(1,lV r)]:=by have:FI J0 298 (∀(x0:SPr)(x1:List Int)(x2:Int),FnK J0 298 [T.ro ((Pt vE) x0),L 1 I x1,I x2] (fun _:(List Int)=>[]) (fun r=>[(1,lV r)]) (g_b x0 x1 x2)):=⟨Tryz.call298,fun x0 x1 x2=>FnK.mk (H_b x0 x1 x2)⟩;exact(yCX x0 x1 x2).go h
instance(a b:List Int):LH (R:=Bool) (zTK a b) [0,1,12] [] (fun c=>[(13,I c)]) (.xs (.xe 0 [0,1,12] fun _=>[]) .xr):=⟨⟩
instance t_ah:FI J0 225 (∀(a b:List Int),FnK J0 225 [T.ro (lV a),T.ro (lV b)] (fun r=>[B r]) (fun _=>[]) (zK8 a b)):=⟨Tryz.call225,fun a b=>iM Tryz.func225⟩
instance t_ay:FI J0 220 (∀(a b:Int),FnK J0 220 [I a,I b] (fun r=>[I r]) (fun _=>[]) (zII a b)):=⟨Tryz.call220,fun a b=>iM Tryz.func220⟩
end
end Go.Wk
