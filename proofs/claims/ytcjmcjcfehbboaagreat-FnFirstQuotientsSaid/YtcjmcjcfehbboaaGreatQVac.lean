/- x -/
import Derived.Test.YtcjmcjcfehbboaaGreatQWT
open Go.Proofs.Tryz renaming prog→J0
open Option renaming some→jq,none→jr
open Bool renaming true→js,false→jt
namespace Go.Wk
open Go Go.Proofs Go.Ab
set_option maxRecDepth 100000
set_option maxHeartbeats 4000000
section
attribute [local irreducible] RW CW DK OkL Ok yL yM xQ wE XS.post rng wF xN ixO zQ yC xR yH zC GTo zE FnC FnK wJ wS Kp Lk BsL BuL RpL Bk Lc
instance:HS Tryz.f64.8 [(2,2,0,.tr 7 11),(0,14,0,.tr 12 7)]:=⟨⟩
instance t_aG:FI J0 64 (∀(a:Int)(b:List Int)(c:Int),FnK J0 64 [I a,T.ro (lV b),I c] (fun r=>[lV r]) (fun _=>[]) (zHz a b c)):=⟨Tryz.call64,fun a b c=>iM Tryz.func64⟩
instance:HS Tryz.f184.8 [(2,2,0,.tr 9 13)]:=⟨⟩
instance(c:Int)(d:List Int)(e:List (List Int))(f:(List Int)×Int):LH (R:=(List Int)) (zSx c d e f) [0,1,2,10] [] (fun b=>[(9,L 1 I b.1),(11,I b.2)]) (.xe 2 [] fun a=>[(9,L 1 I a)]):=⟨⟩
instance(c:Int)(d:List Int)(e:List (List Int)):LH (R:=(List Int)) (zO3 c d e) [0,1,2] [] (fun b=>[(9,L 1 I b.1),(10,I b.2)]) (.xe 0 [0,1,2] fun a=>[(9,L 1 I a)]):=⟨⟩
instance t_at:FI J0 184 (∀(a:Int)(b:List Int)(c:List (List Int))(d:Int),FnK J0 184 [I a,T.ro (lV b),T.ro (lM c),I d] (fun r=>[lV r]) (fun _=>[]) (zUW a b c d)):=⟨Tryz.call184,fun a b c d=>iM Tryz.func184⟩
instance(b:ByteArray):LH (R:=Int) (zSU b) [0] [] (fun a=>[(3,I a.1),(4,I a.2)]) (.xs (.xe 0 [0] fun c=>[(3,I c)]) .xr):=⟨⟩
instance(c:ByteArray):LH (R:=Int) (zSV c) [0] [] (fun b=>[(3,I b.1),(4,I b.2)]) (.xs (.xe 0 [0] fun a=>[(3,I a)]) .xr):=⟨⟩
instance t_ax:FI J0 190 (∀(a:ByteArray),FnK J0 190 [Str a] (fun r=>[I r]) (fun _=>[]) (zV7 a)):=⟨Tryz.call190,fun a=>iM Tryz.func190⟩
instance t_bs:FI J0 100 (∀(a b:Int),FnK J0 100 [I a,I b] (fun r=>[I r]) (fun _=>[]) (zMV a b)):=⟨Tryz.call100,fun a b=>iM Tryz.func100⟩
instance(a:List Int):LH (R:=Int) (zHG a) [0] [] (fun b=>[(3,I b)]) (.xs (.xe 0 [] fun _=>[]) .xr):=⟨⟩
instance t_A:FI J0 111 (∀(a:List Int),FnK J0 111 [T.ro (lV a)] (fun r=>[I r]) (fun _=>[]) (f_A a)):=⟨Tryz.call111,fun a=>iM Tryz.func111⟩
end
end Go.Wk
