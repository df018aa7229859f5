/- x -/
import Derived.Test.YtchnmobojdcikaaGreatRVaa
import Derived.Test.YtchnmobojdcikaaGreatRVab
import Derived.Test.YtchnmobojdcikaaGreatRVac
import Derived.Test.YtchnmobojdcikaaGreatRVad
import Derived.Test.YtchnmobojdcikaaGreatRVae
import Derived.Test.YtchnmobojdcikaaGreatRVaf
import Derived.Test.YtchnmobojdcikaaGreatRVag
import Derived.Test.YtchnmobojdcikaaGreatRVah
import Derived.Test.YtchnmobojdcikaaGreatRVai
import Derived.Test.YtchnmobojdcikaaGreatRWT
open Go.Proofs.Tryz renaming prog->J0
open Option renaming some->iW,none->iY
open Bool renaming true->iZ,false->ja
namespace Go.Wk
open Go Go.Proofs Go.Ab
set_option maxRecDepth 100000
set_option maxHeartbeats 4000000
section
attribute [local irreducible] RW CW DK OkL Ok yB yI xF xQ XS.post rng xV xC ixO zL yE yT yD zH GTo zR FnC FnK wA wN Kp Lk BsL BuL RpL Bk Lc JQ AK
instance:HS Tryz.f316.8 [(2,2,0,.trq 7 21 [0]),(2,3,0,.tr 9 25),(0,35,0,.tr 32 9),(2,5,0,.tr 9 35),(0,14,0,.fz 56),(0,14,1,.fz 100),(1,6,0,.trf 101 0 11 [0,0]),(1,6,1,.trf 101 1 11 [1,0]),(1,6,2,.trf 101 2 11 [2,0])]:=⟨⟩
instance(b:Int)(c:List (List Int)):LH (R:=SPr) (yCs b c) [0,1,6,7] [] (fun a=>[(9,L 1 I a.1),(10,I a.2)]) (.xe 0 [] fun d=>[(9,L 1 I d)]):=⟨⟩
instance(a:(List Int)×Bool)(b:(List Int)):LN (zYS a b) 11:=⟨⟩
instance(c:(List Int)×Bool)(d:(List Int))(A0 A1 A2:T):LHk (R:=SPr) (zYS c d) (T.ptr (T.agg [A0,A1,A2])) [0,1,6,7,9,12] [] (fun b=>[(11,T.ptr (T.agg [A0,L 1 lV b.1,A2])),(13,I b.2)]) (.xe 2 [9] fun a=>[(11,T.ptr (T.agg [A0,L 1 lV a,A2]))]):=⟨⟩
instance(b:List (List Int))(c:(List Int)×Bool)(a:(List (List (List Int)))×(List (List Int))×Int):LN (zYT b c a) 11:=⟨⟩
instance(d:List (List Int))(e:(List Int)×Bool)(b:(List (List (List Int)))×(List (List Int))×Int)(A0 A1 A2:T):LHk (R:=SPr) (zYT d e b) (T.ptr (T.agg [A0,A1,A2])) [0,1,6,7,12,14,15] [] (fun a=>[(11,T.ptr (T.agg [A0,A1,L 1 lM a.1])),(16,I a.2)]) (.xe 6 [] fun c=>[(11,T.ptr (T.agg [A0,A1,L 1 lM c]))]):=⟨⟩
instance(d:Int)(e:List (List Int))(f:(List Int)×Bool)(b:(List (List (List Int)))×(List (List Int))×Int):LH (R:=SPr) (zYU d e f b) [0,1,6,7,11,12,15,17] [] (fun a=>[(14,T.ro (lM a.1)),(18,I a.2)]) (.xe 8 [17] fun c=>[(14,T.ro (lM c))]):=⟨⟩
instance(a:Int)(b:List (List Int))(c:(List Int)×Bool):LN (zWO a b c) 11:=⟨⟩
instance(c:Int)(d:List (List Int))(e:(List Int)×Bool)(A0 A1 A2:T):LHk (R:=SPr) (zWO c d e) (T.ptr (T.agg [A0,A1,A2])) [0,1,6,7,12] [] (fun a=>[(11,T.ptr (T.agg [A0,A1,L 1 lM a.1])),(14,T.ro (lM a.2.1)),(15,I a.2.2)]) (.xe 4 [0,1,7,12] fun b=>[(11,T.ptr (T.agg [A0,A1,L 1 lM b]))]):=⟨⟩
instance t_w:FI J0 316 (∀(a:Int)(b:List (List Int))(c:Int),FnK J0 316 [I a,T.ro (lM b),I c] (fun r=>[vQ r]) (fun _=>[]) (f_w a b c)):=⟨Tryz.call316,fun a b c=>iM Tryz.func316⟩
instance:HS Tryz.f312.8 [(2,2,0,.tr 9 14),(2,6,0,.tr 9 25),(2,7,0,.tr 10 30)]:=⟨⟩
instance(b:SPr)(c:Int):LH (R:=(List Int)) (zRk b c) [1,4] [] (fun a=>[(3,I a.1),(9,L 1 I a.2.1),(10,T.ro (lV a.2.2))]) (.xe 0 [1,4] fun d=>[(9,L 1 I d)]):=⟨⟩
instance t_a9:FI J0 312 (∀(a:SPr)(b:Int)(c:List Int)(d:Int),FnK J0 312 [qPr a,I b,T.ro (lV c),I d] (fun r=>[lV r]) (fun _=>[]) (zYx a b c d)):=⟨Tryz.call312,fun a b c d=>iM Tryz.func312⟩
instance:HS Tryz.f189.8 [(2,2,0,.tr 7 11)]:=⟨⟩
instance(c:Int)(d:List (List Int)):LH (R:=(List Int)) (zNK c d) [0,1] [] (fun b=>[(7,L 1 I b.1),(8,I b.2)]) (.xe 0 [0,1] fun a=>[(7,L 1 I a)]):=⟨⟩
instance t_aq:FI J0 189 (∀(a:Int)(b:List (List Int))(c:List Int),FnK J0 189 [I a,T.ro (lM b),T.ro (lV c)] (fun r=>[lV r]) (fun _=>[]) (zNL a b c)):=⟨Tryz.call189,fun a b c=>iM Tryz.func189⟩
instance t_bL:FI J0 273 (∀(a:SPr)(b:Int)(c:List Int),FnK J0 273 [T.ro ((Pt vQ) a),I b,T.ro (lV c)] (fun r=>[B r]) (fun _=>[]) (zV3 a b c)):=⟨Tryz.call273,fun a b c=>iM Tryz.func273⟩
end
theorem yE4:∀n,(∀(x0:SPr)(x1:List Int)(x2:Int) r,zV8 n x0 x1 x2=iW r->FnC J0 298 [T.ro ((Pt vQ) x0),L 1 I x1,I x2] [] [(1,lV r)])/\(∀(x0:SPr)(x1:List Int)(x2:List Int) r,zSr n x0 x1 x2=iW r->FnC J0 246 [T.ro ((Pt vQ) x0),L 1 I x1,T.ro (lV x2)] [] [(1,lV r)]):=by
  intro n
  induction n with
  |zero=>exact⟨(fun _ _ _ r h=>by simp[zV8]at h),(fun _ _ _ r h=>by simp[zSr]at h)⟩
  |succ n ih=>exact⟨(fun x0 x1 x2 r h=>yFB ih.2 x0 x1 x2 r (by simpa[zV8]using h)),(fun x0 x1 x2 r h=>yF5 ih.1 x0 x1 x2 r (by simpa[zSr]using h))⟩
theorem u_b(x0:SPr)(x1:List Int)(x2:Int)(r:(List Int))(h:f_b x0 x1 x2=iW r):FnC J0 298 [T.ro ((Pt vQ) x0),L 1 I x1,I x2] [] [(1,lV r)]:=by obtain⟨n,hn⟩:=kE h;exact(yE4 n).1 x0 x1 x2 r hn
theorem u_d(x0:SPr)(x1:List Int)(x2:List Int)(r:(List Int))(h:f_d x0 x1 x2=iW r):FnC J0 246 [T.ro ((Pt vQ) x0),L 1 I x1,T.ro (lV x2)] [] [(1,lV r)]:=by obtain⟨n,hn⟩:=kE h;exact(yE4 n).2 x0 x1 x2 r hn
instance t_b:FI J0 298 (∀(a:SPr)(b:List Int)(c:Int),FnK J0 298 [T.ro ((Pt vQ) a),L 1 I b,I c] (fun _:(List Int)=>[]) (fun r=>[(1,lV r)]) (f_b a b c)):=⟨Tryz.call298,fun a b c=>FnK.mk (u_b a b c)⟩
instance t_d:FI J0 246 (∀(a:SPr)(b c:List Int),FnK J0 246 [T.ro ((Pt vQ) a),L 1 I b,T.ro (lV c)] (fun _:(List Int)=>[]) (fun r=>[(1,lV r)]) (f_d a b c)):=⟨Tryz.call246,fun a b c=>FnK.mk (u_d a b c)⟩
end Go.Wk
