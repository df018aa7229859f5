/- x -/
import Derived.Test.YtchnmobojdcikaaGreatCVad
import Derived.Test.YtchnmobojdcikaaGreatCWT
open Go.Proofs.Tryz renaming prog→J0,func263→Qz,call263→Jal
open Option renaming some→iz,none→iA
open Bool renaming true→iB,false→iC
namespace Go.Wk
open Go Go.Proofs Go.Ab
set_option maxRecDepth 100000
set_option maxHeartbeats 4000000
section
attribute [local irreducible] RW CW DK OkL Ok zV yA yW xK XS.post rng xN yP ixO zO yG yO yB zG GTo zP FnC FnK xQ wB Kp Lk BsL BuL RpL Bk Lc JQ AK
instance t_b5:FI J0 15 (∀(a:List Int),FnK J0 15 [T.ro ((L 1 (IK .u8)) a)] (fun r=>[B r]) (fun _=>[]) (zWK a)):=⟨Tryz.call15,fun a=>iM Tryz.func15⟩
instance t_bT:FI J0 269 (∀(a:SPr),FnK J0 269 [qPr a] (fun r=>[I r]) (fun _=>[]) (zW1 a)):=⟨Tryz.call269,fun a=>iM Tryz.func269⟩
instance t_bA:FI J0 320 (∀(a b:Int),FnK J0 320 [(IK .u64) a,(IK .u64) b] (fun r=>[(IK .u64) r.1,(IK .u64) r.2]) (fun _=>[]) (zTU a b)):=⟨Tryz.call320,fun a b=>iM Tryz.func320⟩
instance:HS Tryz.f105.8 [(2,10,0,.tr 6 24),(0,33,0,.tr 31 6),(2,14,0,.tr 6 33)]:=⟨⟩
instance(b:List (List Int)):LH (R:=(List Int)) (zUg b) [0,9,10] [] (fun a=>[(3,I a.1),(11,I a.2)]) (.xe 0 [9,10] fun c=>[(3,I c)]):=⟨⟩
instance(b:List (List Int)):LH (R:=(List Int)) (zUh b) [25,26] [] (fun a=>[(6,L 1 I a.1),(27,I a.2)]) (.xe 2 [25,26] fun c=>[(6,L 1 I c)]):=⟨⟩
instance t_z:FI J0 105 (∀(a:List (List Int)),FnK J0 105 [T.ro (lM a)] (fun r=>[lV r]) (fun _=>[]) (f_z a)):=⟨Tryz.call105,fun a=>iM Tryz.func105⟩
instance t_ce:FI J0 193 (∀(a:Int)(b:List (List Int)),FnK J0 193 [I a,T.ro (lM b)] (fun r=>[(fun x=>T.agg [I x.Prime,I x.wA,(Ro lM) x.Rows]) r]) (fun _=>[]) (zZZ a b)):=⟨Tryz.call193,fun a b=>iM Tryz.func193⟩
instance(a:List Int):LH (R:=Int) (zMG a) [0,1,7] [] (fun b=>[(8,I b)]) (.xs (.xe 0 [0,1,7] fun _=>[]) .xr):=⟨⟩
instance t_aH:FJ J0 263 266 (∀(a:List Int),FnK J0 263 [T.ro (lV a),T.lit (.func (.func 266) #[] #[])] (fun r=>[I r]) (fun _=>[]) (zWE a)):=⟨Jal,fun a=>iM Qz⟩
instance(a:List Int):LH (R:=Int) (zM9 a) [0,1,7] [] (fun b=>[(8,I b)]) (.xs (.xe 0 [0,1,7] fun _=>[]) .xr):=⟨⟩
instance t_aR:FJ J0 263 264 (∀(a:List Int),FnK J0 263 [T.ro (lV a),T.lit (.func (.func 264) #[] #[])] (fun r=>[I r]) (fun _=>[]) (zWA a)):=⟨Jal,fun a=>iM Qz⟩
instance(a b:List Int):LH (R:=Bool) (zYp a b) [0,1] [] (fun c=>[(5,I c)]) (.xs (.xe 0 [0,1] fun _=>[]) .xr):=⟨⟩
instance t_bw:FI J0 36 (∀(a b:List Int),FnK J0 36 [T.ro (lV a),T.ro (lV b)] (fun r=>[B r]) (fun _=>[]) (zXv a b)):=⟨Tryz.call36,fun a b=>iM Tryz.func36⟩
instance:HS Tryz.f75.8 [(2,2,0,.tr 9 11),(0,31,0,.tr 18 9)]:=⟨⟩
instance(b:Int)(c:List (List Int))(d:Int)(e:List (List Int)):LH (R:=(List (List Int))) (zMK b c d e) [0,1,2,3] [] (fun a=>[(9,L 1 lV a.1),(10,I a.2)]) (.xe 0 [0,1,2,3] fun f=>[(9,L 1 lV f)]):=⟨⟩
instance t_aY:FI J0 75 (∀(a:Int)(b:List (List Int))(c:Int)(d:List (List Int)),FnK J0 75 [I a,T.ro (lM b),I c,T.ro (lM d)] (fun r:(List (List Int))=>[lM r]) (fun _=>[]) (zXx a b c d)):=⟨Tryz.call75,fun a b c d=>iM Tryz.func75⟩
instance(a:List Int):LH (R:=Bool) (zYq a) [0] [] (fun b=>[(3,I b)]) (.xs (.xe 0 [0] fun _=>[]) .xr):=⟨⟩
instance t_bF:FI J0 91 (∀(a:List Int),FnK J0 91 [T.ro (lV a)] (fun r=>[B r]) (fun _=>[]) (yAh a)):=⟨Tryz.call91,fun a=>iM Tryz.func91⟩
end
end Go.Wk
