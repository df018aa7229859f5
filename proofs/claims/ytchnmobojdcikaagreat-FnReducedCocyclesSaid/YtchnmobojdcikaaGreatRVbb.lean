/- x -/
import Derived.Test.YtchnmobojdcikaaGreatRVaa
import Derived.Test.YtchnmobojdcikaaGreatRVab
import Derived.Test.YtchnmobojdcikaaGreatRVad
import Derived.Test.YtchnmobojdcikaaGreatRVaf
import Derived.Test.YtchnmobojdcikaaGreatRVai
import Derived.Test.YtchnmobojdcikaaGreatRVar
import Derived.Test.YtchnmobojdcikaaGreatRVau
import Derived.Test.YtchnmobojdcikaaGreatRVav
import Derived.Test.YtchnmobojdcikaaGreatRVaw
import Derived.Test.YtchnmobojdcikaaGreatRVax
import Derived.Test.YtchnmobojdcikaaGreatRVay
import Derived.Test.YtchnmobojdcikaaGreatRWT
open Go.Proofs.Tryz renaming prog->J0
open Option renaming some->iW,none->iY
open Bool renaming true->iZ,false->ja
namespace Go.Wk
open Go Go.Proofs Go.Ab
set_option maxRecDepth 100000
set_option maxHeartbeats 4000000
section
attribute [local irreducible] RW CW DK OkL Ok yB yI xF xQ XS.post rng xV xC ixO zL yE yT yD zH GTo zR FnC FnK wA wN Kp Lk BsL BuL RpL Bk Lc JQ AK
instance:HS Tryz.f221.8 [(1,4,0,.trf 29 0 6 [0,0]),(1,4,1,.trf 29 1 6 [1,0]),(1,4,2,.trf 29 2 6 [2,0]),(1,4,3,.fz 31)]:=⟨⟩
instance(c:Int):LH (R:=SPr×zE) (zWZ c) [1,4] [] (fun b=>[(0,T.ptr (T.agg [T.ro ((L 1 (IK .u8)) b.1),I b.2.1,I b.2.2.1])),(5,I b.2.2.2)]) (.xs (.xe 0 [1] fun a=>[(0,T.ptr (T.agg [T.ro ((L 1 (IK .u8)) a.1),I a.2.1,I a.2.2]))]) .xr):=⟨⟩
instance t_bl:FI J0 221 (∀(a:zE)(b:Int),FnK J0 221 [T.ptr (wY a),I b] (fun r=>[(fun x=>T.agg [(Ro lV) x.zA,(Ro lM) x.zJ,(Ro lC) x.zC]) r.1]) (fun r=>[(0,(Pt (fun x=>T.agg [(Ro (L 1 (IK .u8))) x.code,I x.at_,I x.seed])) r.2)]) (zXa a b)):=⟨Tryz.call221,fun a b=>iM Tryz.func221⟩
instance:HS Tryz.f257.8 [(2,2,0,.tr 5 10),(2,3,0,.tr 6 11),(0,30,0,.tr 18 6),(0,33,0,.fz 6),(0,33,1,.res 32 6 [])]:=⟨⟩
instance(b:List (List Int))(c:(List (List Int))):LH (R:=(List (List Int))) (zNN b c) [0,1,5] [] (fun a=>[(6,L 1 lV a.1),(7,I a.2)]) (.xe 0 [1,5] fun d=>[(6,L 1 lV d)]):=⟨⟩
instance t_aM:FI J0 257 (∀(a:Int)(b:List (List Int)),FnK J0 257 [I a,T.ro (lM b)] (fun r:(List (List Int))=>[(L 1 (Ro lV)) r]) (fun _=>[]) (zWd a b)):=⟨Tryz.call257,fun a b=>iM Tryz.func257⟩
instance t_b5:FI J0 125 (∀(a:SPr)(b:zB)(c:List (List Int)),FnK J0 125 [T.ro ((Pt vQ) a),T.ro ((Pt wC) b),T.ro (lM c)] (fun r=>[B r]) (fun _=>[]) (zYB a b c)):=⟨Tryz.call125,fun a b c=>iM Tryz.func125⟩
instance:HS Tryz.f157.8 [(0,14,0,.fz 13),(0,28,0,.tr 23 7),(2,7,0,.tr 7 28)]:=⟨⟩
instance(c:Int)(d:(List (List Int))):LH (R:=(List (List Int))) (zS2 c d) [0,2,13,14] [] (fun b=>[(7,L 1 (Ro lV) b.1),(15,I b.2)]) (.xe 0 [2,13,14] fun a=>[(7,L 1 (Ro lV) a)]):=⟨⟩
instance t_U:FI J0 157 (∀(a:Int)(b:List (List Int))(c:Int),FnK J0 157 [I a,T.ro (lM b),I c] (fun r:(List (List Int))=>[lM r]) (fun _=>[]) (f_U a b c)):=⟨Tryz.call157,fun a b c=>iM Tryz.func157⟩
instance t_cm:FI J0 169 (∀(a b:Int)(c:List (List Int)),FnK J0 169 [I a,I b,T.ro (lM c)] (fun r=>[zCD r]) (fun _=>[]) (yCl a b c)):=⟨Tryz.call169,fun a b c=>iM Tryz.func169⟩
instance(a:List (List Int))(b:List (List Int)):LH (R:=Bool) (zXl a b) [0,1] [] (fun c=>[(5,I c)]) (.xs (.xe 0 [0,1] fun _=>[]) .xr):=⟨⟩
instance t_aA:FI J0 21 (∀(a:List (List Int))(b:List (List Int)),FnK J0 21 [T.ro (lM a),T.ro (lM b)] (fun r=>[B r]) (fun _=>[]) (zLP a b)):=⟨Tryz.call21,fun a b=>iM Tryz.func21⟩
end
end Go.Wk
