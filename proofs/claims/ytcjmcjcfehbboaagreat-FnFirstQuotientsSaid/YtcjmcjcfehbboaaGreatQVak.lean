/- x -/
import Derived.Test.YtcjmcjcfehbboaaGreatQVaa
import Derived.Test.YtcjmcjcfehbboaaGreatQVab
import Derived.Test.YtcjmcjcfehbboaaGreatQVad
import Derived.Test.YtcjmcjcfehbboaaGreatQVae
import Derived.Test.YtcjmcjcfehbboaaGreatQVaf
import Derived.Test.YtcjmcjcfehbboaaGreatQVag
import Derived.Test.YtcjmcjcfehbboaaGreatQWT
open Go.Proofs.Tryz renaming prog→J0,call166→Jbb
open Option renaming some→jq,none→jr
open Bool renaming true→js,false→jt
namespace Go.Wk
open Go Go.Proofs Go.Ab
set_option maxRecDepth 100000
set_option maxHeartbeats 4000000
section
attribute [local irreducible] RW CW DK OkL Ok yL yM xQ wE XS.post rng wF xN ixO zQ yC xR yH zC GTo zE FnC FnK wJ wS Kp Lk BsL BuL RpL Bk Lc
instance t_b4:FI J0 85 (∀(a:Int),FnK J0 85 [I a] (fun r=>[B r]) (fun _=>[]) (zVS a)):=⟨Tryz.call85,fun a=>iM Tryz.func85⟩
instance:HS Tryz.f166.8 [(0,62,0,.fz 43),(0,62,1,.fz 57),(0,91,0,.fz 79)]:=⟨⟩
instance t_bK:FI J0 166 (∀(a:SPr)(b:List Int)(c:Int),FnK J0 166 [T.ro ((Pt yI) a),T.ro (lV b),I c] (fun r=>[lV r]) (fun _=>[]) (zVj a b c)):=⟨Jbb,fun a b c=>iM Tryz.func166⟩
instance(a:SPr)(b:List Int):LH (R:=Int) (zWS a b) [0,1,7] [] (fun c=>[(8,I c)]) (.xs (.xe 0 [0,1,7] fun _=>[]) .xr):=⟨⟩
instance t_bL:FI J0 168 (∀(a:SPr)(b:List Int),FnK J0 168 [T.ro ((Pt yI) a),T.ro (lV b)] (fun r=>[I r]) (fun _=>[]) (zY4 a b)):=⟨Tryz.call168,fun a b=>iM Tryz.func168⟩
instance:HS Tryz.f48.8 [(0,12,0,.fz 8),(0,12,1,.fz 11)]:=⟨⟩
instance t_bF:FI J0 48 (∀(a:List Int)(b c:Int),FnK J0 48 [T.ro (lV a),I b,I c] (fun r=>[lV r]) (fun _=>[]) (zSA a b c)):=⟨Tryz.call48,fun a b c=>iM Tryz.func48⟩
instance:HS Tryz.f94.8 [(0,16,0,.tr 12 3),(2,6,0,.tr 3 16)]:=⟨⟩
instance(b:List (List Int)):LH (R:=(List Int)) (zHI b) [6,7] [] (fun a=>[(3,L 1 I a.1),(8,I a.2)]) (.xe 0 [6,7] fun c=>[(3,L 1 I c)]):=⟨⟩
instance t_D:FI J0 94 (∀(a:List (List Int)),FnK J0 94 [T.ro (lM a)] (fun r=>[lV r]) (fun _=>[]) (f_D a)):=⟨Tryz.call94,fun a=>iM Tryz.func94⟩
instance t_bX:FI J0 95 (∀(a:List Int)(b:Int),FnK J0 95 [T.ro (lV a),I b] (fun r=>[B r]) (fun _=>[]) (zVi a b)):=⟨Tryz.call95,fun a b=>iM Tryz.func95⟩
instance:HS Tryz.f141.8 [(0,22,0,.trq 18 4 [1,0]),(0,36,0,.tr 31 6),(2,10,0,.tr 6 36),(0,40,0,.tr 39 6),(0,41,0,.trq 38 4 [2,0]),(1,2,0,.trf 44 0 4 [0,0]),(1,2,1,.trf 44 1 4 [1,0]),(1,2,2,.trf 44 2 4 [2,0])]:=⟨⟩
instance(b:List Int):LH (R:=SPr) (zPJ b) [2,3,4,13,14] [] (fun a=>[(6,L 1 lV a.1),(7,I a.2)]) (.xe 2 [] fun c=>[(6,L 1 lV c)]):=⟨⟩
instance(a:List Int):LN (zPK a) 4:=⟨⟩
instance(c:List Int)(A0 A1 A2:T):LHk (R:=SPr) (zPK c) (T.ptr (T.agg [A0,A1,A2])) [2,3,13] [] (fun b=>[(4,T.ptr (T.agg [A0,L 1 lV b.1,L 1 lM b.2.1])),(14,I b.2.2)]) (.xe 0 [3,13] fun a=>[(4,T.ptr (T.agg [A0,L 1 lV a.1,L 1 lM a.2]))]):=⟨⟩
instance t_Q:FI J0 141 (∀(a:List Int),FnK J0 141 [T.ro (lV a)] (fun r=>[yI r]) (fun _=>[]) (f_Q a)):=⟨Tryz.call141,fun a=>iM Tryz.func141⟩
instance t_cb:FI J0 127 (∀(a b:Int),FnK J0 127 [I a,I b] (fun r=>[I r]) (fun _=>[]) (zYG a b)):=⟨Tryz.call127,fun a b=>iM Tryz.func127⟩
end
end Go.Wk
