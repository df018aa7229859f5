/- x -/
import Derived.Test.YtchnmobojdcikaaGreatQVac
import Derived.Test.YtchnmobojdcikaaGreatQWT
open Go.Proofs.Tryz renaming prog→J0
open Option renaming some→dq,none→dt
open Bool renaming true→du,false→dv
namespace Go.Wk
open Go Go.Proofs Go.Ab
set_option maxRecDepth 100000
set_option maxHeartbeats 4000000
section
attribute [local irreducible] RW CW DK OkL Ok zS zV yQ xI XS.post rng xL yO ixO zP zU yT zZ zG GTo zM FnC FnK xK xN Kp Lk BsL BuL RpL Bk Lc JQ AK
instance(a:SPr)(b:List Int):LH (R:=Bool) (zNP a b) [0,15,16] [] (fun c=>[(17,I c)]) (.xs (.xe 0 [0,15,16] fun _=>[]) .xr):=⟨⟩
instance t_a1:FI J0 131 (∀(a:SPr)(b:List Int),FnK J0 131 [T.ro ((Pt vW) a),T.ro (lV b)] (fun r=>[B r]) (fun _=>[]) (zTT a b)):=⟨Tryz.call131,fun a b=>iM Tryz.func131⟩
instance(a:List Int)(b:Int):LH (R:=Bool) (zNQ a b) [1,13,14] [] (fun c=>[(15,I c)]) (.xs (.xe 0 [1,13,14] fun _=>[]) .xr):=⟨⟩
instance t_a5:FI J0 132 (∀(a:List Int)(b c:Int),FnK J0 132 [T.ro (lV a),I b,I c] (fun r=>[B r]) (fun _=>[]) (zTW a b c)):=⟨Tryz.call132,fun a b c=>iM Tryz.func132⟩
instance t_bD:FI J0 320 (∀(a b:Int),FnK J0 320 [(IK .u64) a,(IK .u64) b] (fun r=>[(IK .u64) r.1,(IK .u64) r.2]) (fun _=>[]) (zTX a b)):=⟨Tryz.call320,fun a b=>iM Tryz.func320⟩
instance(b c:List Int)(d e:Int):LH (R:=(List Int)) (zKR b c d e) [1,2,3,10] [] (fun a=>[(0,L 1 I a.1),(11,I a.2)]) (.xe 0 [1,2,3,10] fun f=>[(0,L 1 I f)]):=⟨⟩
instance t_O:FI J0 108 (∀(a b:List Int)(c d:Int),FnK J0 108 [L 1 I a,T.ro (lV b),I c,I d] (fun _:(List Int)=>[]) (fun r=>[(0,lV r)]) (f_O a b c d)):=⟨Tryz.call108,fun a b c d=>iM Tryz.func108⟩
instance(a:List (List Int))(b:List (List Int)):LH (R:=Bool) (zR1 a b) [1,2,15,16] [] (fun c=>[(17,I c)]) (.xs (.xe 0 [1,2,15,16] fun _=>[]) .xr):=⟨⟩
instance t_bn:FI J0 293 (∀(a:List (List Int))(b:List (List Int)),FnK J0 293 [T.ro (lM a),T.ro (lM b),T.lit (.func (.func 225) #[] #[])] (fun r=>[B r]) (fun _=>[]) (zWX a b)):=⟨Tryz.call293,fun a b=>iM Tryz.func293⟩
instance:LH (R:=Int×Bool) zIl [1] [] (fun a=>[(6,I a.1),(7,I a.2.1),(8,I a.2.2.1),(9,I a.2.2.2)]) (.xe 0 [] fun b=>[(6,I b.1),(8,I b.2)]):=⟨⟩
instance t_ag:FI J0 254 (∀(a b:Int),FnK J0 254 [I a,I b] (fun r=>[I r.1,B r.2]) (fun _=>[]) (zMr a b)):=⟨Tryz.call254,fun a b=>iM Tryz.func254⟩
instance(a:List Int):LH (R:=Int) (zLg a) [0,1,7] [] (fun b=>[(8,I b)]) (.xs (.xe 0 [0,1,7] fun _=>[]) .xr):=⟨⟩
instance t_aR:FJ J0 263 264 (∀(a:List Int),FnK J0 263 [T.ro (lV a),T.lit (.func (.func 264) #[] #[])] (fun r=>[I r]) (fun _=>[]) (zUm a)):=⟨Tryz.call263,fun a=>iM Tryz.func263⟩
end
end Go.Wk
