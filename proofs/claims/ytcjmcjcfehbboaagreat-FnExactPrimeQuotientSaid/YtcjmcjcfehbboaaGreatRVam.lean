/- x -/
import Derived.Test.YtcjmcjcfehbboaaGreatRVaa
import Derived.Test.YtcjmcjcfehbboaaGreatRVab
import Derived.Test.YtcjmcjcfehbboaaGreatRVag
import Derived.Test.YtcjmcjcfehbboaaGreatRWT
open Go.Proofs.Tryz renaming prog->J1,call166->Jbp
open Option renaming some->Wu,none->Wv
open Bool renaming true->Ww,false->Wx
namespace Go.Wk
open Go Go.Proofs Go.Ab
set_option maxRecDepth 100000
set_option maxHeartbeats 4000000
section
attribute [local irreducible] RW CW DK OkL Ok yX xC wK wY XS.post rng vP vL ixO zT yR wN yO zF GTo zI FnC FnK vB uC Kp Lk BsL BuL RpL Bk Lc
instance(a:Int)(b:List (List Int)):LH (R:=Int) (zNi a b) [0,10,11] [] (fun c=>[(12,I c)]) (.xs (.xe 0 [0,10,11] fun _=>[]) .xr):=⟨⟩
instance t_aP:FI J1 45 (∀(a:Int)(b:List (List Int)),FnK J1 45 [I a,T.ro (lM b)] (fun r=>[I r]) (fun _=>[]) (yAN a b)):=⟨Tryz.call45,fun a b=>iM Tryz.func45⟩
instance:HS Tryz.f166.8 [(0,62,0,.fz 43),(0,62,1,.fz 57),(0,91,0,.fz 79)]:=⟨⟩
instance t_aU:FI J1 166 (∀(a:SPr)(b:List Int)(c:Int),FnK J1 166 [T.ro ((Pt yM) a),T.ro (lV b),I c] (fun r=>[lV r]) (fun _=>[]) (zRA a b c)):=⟨Jbp,fun a b c=>iM Tryz.func166⟩
instance:HS Tryz.f189.8 [(2,2,0,.tr 5 10)]:=⟨⟩
instance(b:List Int)(c:zM):LH (R:=(List Int)) (zMN b c) [3,11,12] [] (fun a=>[(5,L 1 I a.1),(13,I a.2)]) (.xe 0 [3,11,12] fun d=>[(5,L 1 I d)]):=⟨⟩
instance t_au:FI J1 189 (∀(a:List Int)(b:zM),FnK J1 189 [T.ro (lV a),zDx b] (fun r=>[lV r]) (fun _=>[]) (zXC a b)):=⟨Tryz.call189,fun a b=>iM Tryz.func189⟩
instance:HS Tryz.f48.8 [(0,12,0,.fz 8),(0,12,1,.fz 11)]:=⟨⟩
instance t_a5:FI J1 48 (∀(a:List Int)(b c:Int),FnK J1 48 [T.ro (lV a),I b,I c] (fun r=>[lV r]) (fun _=>[]) (zVu a b c)):=⟨Tryz.call48,fun a b c=>iM Tryz.func48⟩
instance t_aV:FI J1 116 (∀(a:Int)(b c:List Int)(d:Int),FnK J1 116 [I a,T.ro (lV b),T.ro (lV c),I d] (fun r=>[lV r]) (fun _=>[]) (zNn a b c d)):=⟨Tryz.call116,fun a b c d=>iM Tryz.func116⟩
instance:HS Tryz.f110.8 [(2,2,0,.tr 7 11)]:=⟨⟩
instance(c:Int)(d:List (List Int)):LH (R:=(List Int)) (zMU c d) [0,1] [] (fun b=>[(7,L 1 I b.1),(8,I b.2)]) (.xe 0 [0,1] fun a=>[(7,L 1 I a)]):=⟨⟩
instance t_al:FI J1 110 (∀(a:Int)(b:List (List Int))(c:List Int),FnK J1 110 [I a,T.ro (lM b),T.ro (lV c)] (fun r=>[lV r]) (fun _=>[]) (zV6 a b c)):=⟨Tryz.call110,fun a b c=>iM Tryz.func110⟩
instance t_bi:FI J1 112 (∀(a b:Int)(c:List Int),FnK J1 112 [I a,I b,T.ro (lV c)] (fun r=>[lV r]) (fun _=>[]) (zXI a b c)):=⟨Tryz.call112,fun a b c=>iM Tryz.func112⟩
end
end Go.Wk
