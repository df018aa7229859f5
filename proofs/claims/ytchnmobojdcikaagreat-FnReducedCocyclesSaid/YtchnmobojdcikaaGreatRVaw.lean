/- x -/
import Derived.Test.YtchnmobojdcikaaGreatRVac
import Derived.Test.YtchnmobojdcikaaGreatRVaf
import Derived.Test.YtchnmobojdcikaaGreatRVag
import Derived.Test.YtchnmobojdcikaaGreatRVah
import Derived.Test.YtchnmobojdcikaaGreatRVar
import Derived.Test.YtchnmobojdcikaaGreatRVas
import Derived.Test.YtchnmobojdcikaaGreatRWT
open Go.Proofs.Tryz renaming prog->J0
open Option renaming some->iW,none->iY
open Bool renaming true->iZ,false->ja
namespace Go.Wk
open Go Go.Proofs Go.Ab
set_option maxRecDepth 100000
set_option maxHeartbeats 4000000
section
attribute [local irreducible] RW CW DK OkL Ok yB yI xF xQ XS.post rng xV xC ixO zL yE yT yD zH GTo zR FnC FnK wA wN Kp Lk BsL BuL RpL Bk Lc JQ AK
instance:HS Tryz.f317.8 [(1,2,0,.trf 20 0 4 [0,0]),(1,2,1,.trf 20 1 4 [1,0]),(1,2,2,.trf 20 2 4 [2,0])]:=⟨⟩
instance t_ca:FI J0 317 (∀(a:Int),FnK J0 317 [I a] (fun r=>[(fun x=>T.agg [(Ro lV) x.zA,(Ro lM) x.zJ,(Ro lC) x.zC]) r]) (fun _=>[]) (zZf a)):=⟨Tryz.call317,fun a=>iM Tryz.func317⟩
end
theorem yE5:∀n,(∀(x0:zO)(x1:Int)(x2:zI) r,zP1 n x0 x1 x2=iW r->FnC J0 325 [xM x0,I x1,xH x2] [wF r] [])/\(∀(x0:zO)(x1:Int)(x2:zI)(x3:zI) r,zP2 n x0 x1 x2 x3=iW r->FnC J0 322 [xM x0,I x1,xH x2,xH x3] [wF r] []):=by
  intro n
  induction n with
  |zero=>exact⟨(fun _ _ _ r h=>by simp[zP1]at h),(fun _ _ _ _ r h=>by simp[zP2]at h)⟩
  |succ n ih=>exact⟨(fun x0 x1 x2 r h=>yFD ih.2 x0 x1 x2 r (by simpa[zP1]using h)),(fun x0 x1 x2 x3 r h=>yFF ih.1 ih.2 x0 x1 x2 x3 r (by simpa[zP2]using h))⟩
theorem u_f(x0:zO)(x1:Int)(x2:zI)(r:zI)(h:f_f x0 x1 x2=iW r):FnC J0 325 [xM x0,I x1,xH x2] [wF r] []:=by obtain⟨n,hn⟩:=kE h;exact(yE5 n).1 x0 x1 x2 r hn
theorem u_c(x0:zO)(x1:Int)(x2:zI)(x3:zI)(r:zI)(h:f_c x0 x1 x2 x3=iW r):FnC J0 322 [xM x0,I x1,xH x2,xH x3] [wF r] []:=by obtain⟨n,hn⟩:=kE h;exact(yE5 n).2 x0 x1 x2 x3 r hn
instance t_f:FI J0 325 (∀(a:zO)(b:Int)(c:zI),FnK J0 325 [xM a,I b,xH c] (fun r=>[wF r]) (fun _=>[]) (f_f a b c)):=⟨Tryz.call325,fun a b c=>FnK.mk (u_f a b c)⟩
instance t_c:FI J0 322 (∀(a:zO)(b:Int)(c d:zI),FnK J0 322 [xM a,I b,xH c,xH d] (fun r=>[wF r]) (fun _=>[]) (f_c a b c d)):=⟨Tryz.call322,fun a b c d=>FnK.mk (u_c a b c d)⟩
section
attribute [local irreducible] RW CW DK OkL Ok yB yI xF xQ XS.post rng xV xC ixO zL yE yT yD zH GTo zR FnC FnK wA wN Kp Lk BsL BuL RpL Bk Lc JQ AK
instance t_bN:FI J0 306 (∀(a:SPr)(b c:List Int),FnK J0 306 [T.ro ((Pt vQ) a),T.ro (lV b),T.ro (lV c)] (fun r=>[lV r]) (fun _=>[]) (zVE a b c)):=⟨Tryz.call306,fun a b c=>iM Tryz.func306⟩
instance:HS Tryz.f101.8 [(2,2,0,.tr 7 9)]:=⟨⟩
instance t_co:FI J0 101 (∀(a:zB)(b:List (List Int))(c:List (List Int)),FnK J0 101 [T.ro ((Pt wC) a),T.ro (lM b),T.ro (lM c)] (fun r=>[lV r]) (fun _=>[]) (yCp a b c)):=⟨Tryz.call101,fun a b c=>iM Tryz.func101⟩
instance:HS Tryz.f187.8 [(0,23,0,.tr 14 5),(2,4,0,.tr 5 23)]:=⟨⟩
instance(b:List Int)(c:Int):LH (R:=(List (List Int))) (zNO b c) [0,1] [] (fun a=>[(5,L 1 lV a.1),(6,I a.2)]) (.xe 0 [0,1] fun d=>[(5,L 1 lV d)]):=⟨⟩
instance t_aw:FI J0 187 (∀(a:List Int)(b:Int),FnK J0 187 [T.ro (lV a),I b] (fun r:(List (List Int))=>[lM r]) (fun _=>[]) (zPu a b)):=⟨Tryz.call187,fun a b=>iM Tryz.func187⟩
instance(a b:List Int):LH (R:=Bool) (yAx a b) [0,1] [] (fun c=>[(5,I c)]) (.xs (.xe 0 [0,1] fun _=>[]) .xr):=⟨⟩
instance t_bF:FI J0 36 (∀(a b:List Int),FnK J0 36 [T.ro (lV a),T.ro (lV b)] (fun r=>[B r]) (fun _=>[]) (zZ0 a b)):=⟨Tryz.call36,fun a b=>iM Tryz.func36⟩
end
end Go.Wk
