/- x -/
import Derived.Test.YtchnmobojdcikaaGreatPWT
open Go.Proofs.Tryz renaming prog→J0
open Option renaming some→aB,none→aC
open Bool renaming true→aD,false→aE
namespace Go.Wk
open Go Go.Proofs Go.Ab
set_option maxRecDepth 100000
set_option maxHeartbeats 4000000
section
attribute [local irreducible] RW CW DK OkL Ok yA yB xE xH XS.post rng xK yV ixO zN yD xC zU zC GTo zO FnC FnK xV wG Kp Lk BsL BuL RpL Bk Lc JQ AK
instance t_bw:FI J0 15 (∀(a:List Int),FnK J0 15 [T.ro ((L 1 (IK .u8)) a)] (fun r=>[B r]) (fun _=>[]) (zRN a)):=⟨Tryz.call15,fun a=>iM Tryz.func15⟩
instance t_s:FI J0 112 (∀(a:zH)(b:Int),FnK J0 112 [T.ptr (uJ a),I b] (fun r=>[I r.1]) (fun r=>[(0,(Pt (fun x=>T.agg [(Ro (L 1 (IK .u8))) x.code,I x.at_,I x.seed])) r.2)]) (f_s a b)):=⟨Tryz.call112,fun a b=>iM Tryz.func112⟩
instance:HS Tryz.f318.8 [(2,2,0,.tr 7 11),(0,14,0,.tr 12 7)]:=⟨⟩
instance t_aM:FI J0 318 (∀(a:Int)(b:List Int)(c:Int),FnK J0 318 [I a,T.ro (lV b),I c] (fun r=>[lV r]) (fun _=>[]) (zJ2 a b c)):=⟨Tryz.call318,fun a b c=>iM Tryz.func318⟩
instance:HS Tryz.f139.8 [(2,2,0,.tr 9 13)]:=⟨⟩
instance(c:Int)(d:List Int)(e:List (List Int))(f:(List Int)×Int):LH (R:=(List Int)) (zMN c d e f) [0,1,2,10] [] (fun b=>[(9,L 1 I b.1),(11,I b.2)]) (.xe 2 [] fun a=>[(9,L 1 I a)]):=⟨⟩
instance(c:Int)(d:List Int)(e:List (List Int)):LH (R:=(List Int)) (zKx c d e) [0,1,2] [] (fun b=>[(9,L 1 I b.1),(10,I b.2)]) (.xe 0 [0,1,2] fun a=>[(9,L 1 I a)]):=⟨⟩
instance t_z:FI J0 139 (∀(a:Int)(b:List Int)(c:List (List Int))(d:Int),FnK J0 139 [I a,T.ro (lV b),T.ro (lM c),I d] (fun r=>[lV r]) (fun _=>[]) (f_z a b c d)):=⟨Tryz.call139,fun a b c d=>iM Tryz.func139⟩
instance(b:ByteArray):LH (R:=Int) (zPZ b) [0] [] (fun a=>[(3,I a.1),(4,I a.2)]) (.xs (.xe 0 [0] fun c=>[(3,I c)]) .xr):=⟨⟩
instance(c:ByteArray):LH (R:=Int) (zQa c) [0] [] (fun b=>[(3,I b.1),(4,I b.2)]) (.xs (.xe 0 [0] fun a=>[(3,I a)]) .xr):=⟨⟩
instance t_ad:FI J0 339 (∀(a:ByteArray),FnK J0 339 [Str a] (fun r=>[I r]) (fun _=>[]) (zRV a)):=⟨Tryz.call339,fun a=>iM Tryz.func339⟩
instance:HS Tryz.f226.8 [(2,2,0,.tr 5 7)]:=⟨⟩
instance t_av:FI J0 226 (∀(a b:Int),FnK J0 226 [I a,I b] (fun r=>[lV r]) (fun _=>[]) (zHQ a b)):=⟨Tryz.call226,fun a b=>iM Tryz.func226⟩
end
end Go.Wk
