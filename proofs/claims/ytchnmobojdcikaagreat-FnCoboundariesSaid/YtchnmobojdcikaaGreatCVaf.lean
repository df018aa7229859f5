/- x -/
import Derived.Test.YtchnmobojdcikaaGreatCVac
import Derived.Test.YtchnmobojdcikaaGreatCWT
open Go.Proofs.Tryz renaming prog→J0
open Option renaming some→iz,none→iA
open Bool renaming true→iB,false→iC
namespace Go.Wk
open Go Go.Proofs Go.Ab
set_option maxRecDepth 100000
set_option maxHeartbeats 4000000
section
attribute [local irreducible] RW CW DK OkL Ok zV yA yW xK XS.post rng xN yP ixO zO yG yO yB zG GTo zP FnC FnK xQ wB Kp Lk BsL BuL RpL Bk Lc JQ AK
instance t_a7:FI J0 323 (∀(a:zN)(b c:Int),FnK J0 323 [xG a,I b,I c] (fun r=>[(fun x=>T.agg [(Ro lV) x.x,(Ro lV) x.v]) r]) (fun _=>[]) (zKA a b c)):=⟨Tryz.call323,fun a b c=>iM Tryz.func323⟩
instance(a:SPr)(b:List Int):LH (R:=Bool) (zPH a b) [0,15,16] [] (fun c=>[(17,I c)]) (.xs (.xe 0 [0,15,16] fun _=>[]) .xr):=⟨⟩
instance t_a1:FI J0 131 (∀(a:SPr)(b:List Int),FnK J0 131 [T.ro ((Pt vE) a),T.ro (lV b)] (fun r=>[B r]) (fun _=>[]) (zWq a b)):=⟨Tryz.call131,fun a b=>iM Tryz.func131⟩
instance(a:List Int)(b:Int):LH (R:=Bool) (zPI a b) [1,13,14] [] (fun c=>[(15,I c)]) (.xs (.xe 0 [1,13,14] fun _=>[]) .xr):=⟨⟩
instance t_aN:FI J0 132 (∀(a:List Int)(b c:Int),FnK J0 132 [T.ro (lV a),I b,I c] (fun r=>[B r]) (fun _=>[]) (zTT a b c)):=⟨Tryz.call132,fun a b c=>iM Tryz.func132⟩
instance(b c:List Int)(d e:Int):LH (R:=(List Int)) (zMr b c d e) [1,2,3,10] [] (fun a=>[(0,L 1 I a.1),(11,I a.2)]) (.xe 0 [1,2,3,10] fun f=>[(0,L 1 I f)]):=⟨⟩
instance t_I:FI J0 108 (∀(a b:List Int)(c d:Int),FnK J0 108 [L 1 I a,T.ro (lV b),I c,I d] (fun _:(List Int)=>[]) (fun r=>[(0,lV r)]) (f_I a b c d)):=⟨Tryz.call108,fun a b c d=>iM Tryz.func108⟩
instance(a:List (List Int))(b:List (List Int)):LH (R:=Bool) (zUc a b) [1,2,15,16] [] (fun c=>[(17,I c)]) (.xs (.xe 0 [1,2,15,16] fun _=>[]) .xr):=⟨⟩
instance t_bq:FI J0 293 (∀(a:List (List Int))(b:List (List Int)),FnK J0 293 [T.ro (lM a),T.ro (lM b),T.lit (.func (.func 225) #[] #[])] (fun r=>[B r]) (fun _=>[]) (zZW a b)):=⟨Tryz.call293,fun a b=>iM Tryz.func293⟩
instance:LH (R:=Int×Bool) zJD [1] [] (fun a=>[(6,I a.1),(7,I a.2.1),(8,I a.2.2.1),(9,I a.2.2.2)]) (.xe 0 [] fun b=>[(6,I b.1),(8,I b.2)]):=⟨⟩
instance t_ac:FI J0 254 (∀(a b:Int),FnK J0 254 [I a,I b] (fun r=>[I r.1,B r.2]) (fun _=>[]) (zOa a b)):=⟨Tryz.call254,fun a b=>iM Tryz.func254⟩
end
end Go.Wk
