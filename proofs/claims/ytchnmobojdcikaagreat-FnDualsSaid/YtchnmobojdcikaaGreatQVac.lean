/- x -/
import Derived.Test.YtchnmobojdcikaaGreatQWT
open Go.Proofs.Tryz renaming prog→J0,call233→Ux,call114→Jag
open Option renaming some→dq,none→dt
open Bool renaming true→du,false→dv
namespace Go.Wk
open Go Go.Proofs Go.Ab
set_option maxRecDepth 100000
set_option maxHeartbeats 4000000
section
attribute [local irreducible] RW CW DK OkL Ok zS zV yQ xI XS.post rng xL yO ixO zP zU yT zZ zG GTo zM FnC FnK xK xN Kp Lk BsL BuL RpL Bk Lc JQ AK
instance(b:ByteArray):LH (R:=Int) (zSf b) [0] [] (fun a=>[(3,I a.1),(4,I a.2)]) (.xs (.xe 0 [0] fun c=>[(3,I c)]) .xr):=⟨⟩
instance(c:ByteArray):LH (R:=Int) (zSg c) [0] [] (fun b=>[(3,I b.1),(4,I b.2)]) (.xs (.xe 0 [0] fun a=>[(3,I a)]) .xr):=⟨⟩
instance t_az:FI J0 339 (∀(a:ByteArray),FnK J0 339 [Str a] (fun r=>[I r]) (fun _=>[]) (zUx a)):=⟨Tryz.call339,fun a=>iM Tryz.func339⟩
instance(a:List Int):LH (R:=Int) (zHu a) [0] [] (fun b=>[(3,I b)]) (.xs (.xe 0 [] fun _=>[]) .xr):=⟨⟩
instance t_K:FI J0 250 (∀(a:List Int),FnK J0 250 [T.ro (lV a)] (fun r=>[I r]) (fun _=>[]) (f_K a)):=⟨Tryz.call250,fun a=>iM Tryz.func250⟩
instance t_a0:FI J0 233 (∀(a:Int),FnK J0 233 [I a] (fun r=>[B r]) (fun _=>[]) (zOH a)):=⟨Ux,fun a=>iM Tryz.func233⟩
instance t_aZ:FI J0 114 (∀(a b c:Int),FnK J0 114 [I a,I b,I c] (fun r=>[B r]) (fun _=>[]) (zMl a b c)):=⟨Jag,fun a b c=>iM Tryz.func114⟩
instance(a:List Int):LH (R:=Bool) (zKM a) [5,6] [] (fun b=>[(7,I b)]) (.xs (.xe 0 [5,6] fun _=>[]) .xr):=⟨⟩
instance t_X:FI J0 207 (∀(a:List Int),FnK J0 207 [T.ro (lV a)] (fun r=>[B r]) (fun _=>[]) (f_X a)):=⟨Tryz.call207,fun a=>iM Tryz.func207⟩
instance(g_b:SPr→(List Int)→Int→Option (List Int))(b:SPr)(c:(List Int)×Int)(d:Int):LH (R:=(List Int)) (zRh g_b b c d) [0,6,8,9,10,15] [] (fun a=>[(1,L 1 I a.1),(16,I a.2)]) (.xe 2 [6,15] fun e=>[(1,L 1 I e)]):=⟨⟩
instance(g_b:SPr→(List Int)→Int→Option (List Int))(b:SPr)(c:List Int):LH (R:=(List Int)) (zRi g_b b c) [0,8,9] [] (fun a=>[(1,L 1 I a.1),(10,I a.2)]) (.xe 0 [0,8,9] fun d=>[(1,L 1 I d)]):=⟨⟩
theorem zZP{g_b:SPr→(List Int)→Int→Option (List Int)}[FI J0 298 (∀(x0:SPr)(x1:List Int)(x2:Int),FnK J0 298 [T.ro ((Pt vW) x0),L 1 I x1,I x2] (fun _:(List Int)=>[]) (fun r=>[(1,lV r)]) (g_b x0 x1 x2))]:∀(x0:SPr)(x1:List Int)(x2:List Int),FnK J0 246 [T.ro ((Pt vW) x0),L 1 I x1,T.ro (lV x2)] (fun _:(List Int)=>[]) (fun r=>[(1,lV r)]) (b_c g_b x0 x1 x2):=fun x0 x1 x2=>iM Tryz.func246
theorem zZQ{g_b:SPr→(List Int)→Int→Option (List Int)}(H_b:∀(x0:SPr)(x1:List Int)(x2:Int) r,g_b x0 x1 x2=dq r→FnC J0 298 [T.ro ((Pt vW) x0),L 1 I x1,I x2] [] [(1,lV r)])(x0:SPr)(x1:List Int)(x2:List Int)(r:(List Int))(h:b_c g_b x0 x1 x2=dq r):FnC J0 246 [T.ro ((Pt vW) x0),L 1 I x1,T.ro (lV x2)] [] [(1,lV r)]:=by have:FI J0 298 (∀(x0:SPr)(x1:List Int)(x2:Int),FnK J0 298 [T.ro ((Pt vW) x0),L 1 I x1,I x2] (fun _:(List Int)=>[]) (fun r=>[(1,lV r)]) (g_b x0 x1 x2)):=⟨Tryz.call298,fun x0 x1 x2=>FnK.mk (H_b x0 x1 x2)⟩;exact(zZP x0 x1 x2).go h
instance(a b:List Int):LH (R:=Bool) (zRm a b) [0,1,12] [] (fun c=>[(13,I c)]) (.xs (.xe 0 [0,1,12] fun _=>[]) .xr):=⟨⟩
instance t_ao:FI J0 225 (∀(a b:List Int),FnK J0 225 [T.ro (lV a),T.ro (lV b)] (fun r=>[B r]) (fun _=>[]) (zJh a b)):=⟨Tryz.call225,fun a b=>iM Tryz.func225⟩
instance t_b5:FI J0 332 (∀(a b:Int),FnK J0 332 [(IK .u32) a,(IK .u32) b] (fun r=>[(IK .u32) r.1,(IK .u32) r.2]) (fun _=>[]) (zZZ a b)):=⟨Tryz.call332,fun a b=>iM Tryz.func332⟩
instance t_b3:FI J0 333 (∀(a b:Int),FnK J0 333 [(IK .u64) a,(IK .u64) b] (fun r=>[(IK .u64) r.1,(IK .u64) r.2]) (fun _=>[]) (zYX a b)):=⟨Tryz.call333,fun a b=>iM Tryz.func333⟩
instance t_aN:FI J0 220 (∀(a b:Int),FnK J0 220 [I a,I b] (fun r=>[I r]) (fun _=>[]) (zHr a b)):=⟨Tryz.call220,fun a b=>iM Tryz.func220⟩
instance t_bM:FI J0 264 (∀(a:Int),FnK J0 264 [I a] (fun r=>[B r]) (fun _=>[]) (zUl a)):=⟨Tryz.call264,fun a=>iM Tryz.func264⟩
end
end Go.Wk
