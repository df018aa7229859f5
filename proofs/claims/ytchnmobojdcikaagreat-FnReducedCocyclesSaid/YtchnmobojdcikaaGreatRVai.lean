/- x -/
import Derived.Test.YtchnmobojdcikaaGreatRVaa
import Derived.Test.YtchnmobojdcikaaGreatRVae
import Derived.Test.YtchnmobojdcikaaGreatRWT
open Go.Proofs.Tryz renaming prog->J0
open Option renaming some->iW,none->iY
open Bool renaming true->iZ,false->ja
namespace Go.Wk
open Go Go.Proofs Go.Ab
set_option maxRecDepth 100000
set_option maxHeartbeats 4000000
section
attribute [local irreducible] RW CW DK OkL Ok yB yI xF xQ XS.post rng xV xC ixO zL yE yT yD zH GTo zR FnC FnK wA wN Kp Lk BsL BuL RpL Bk Lc JQ AK
instance(a:SPr):LH (R:=Bool) (zSn a) [1,3] [] (fun b=>[(4,I b)]) (.xs (.xe 0 [] fun _=>[]) .xr):=⟨⟩
instance(a:SPr)(b:Int):LH (R:=Bool) (zPh a b) [1,3,5] [] (fun c=>[(6,I c)]) (.xs (.xe 4 [] fun _=>[]) .xr):=⟨⟩
instance(a:SPr):LH (R:=Bool) (zLG a) [1,3] [] (fun b=>[(5,I b)]) (.xs (.xe 2 [1,3] fun _=>[]) .xr):=⟨⟩
instance t_p:FI J0 83 (∀(a:SPr),FnK J0 83 [qPr a] (fun r=>[B r]) (fun _=>[]) (f_p a)):=⟨Tryz.call83,fun a=>iM Tryz.func83⟩
end
theorem yE3:∀n,(∀(x0:SPr)(x1:Int)(x2:List Int) r,zPi n x0 x1 x2=iW r->FnC J0 299 [qPr x0,I x1,T.ro (lV x2)] [lV r] [])/\(∀(x0:SPr)(x1:Int)(x2:List Int)(x3:List Int) r,zPj n x0 x1 x2 x3=iW r->FnC J0 247 [qPr x0,I x1,T.ro (lV x2),T.ro (lV x3)] [lV r] []):=by
  intro n
  induction n with
  |zero=>exact⟨(fun _ _ _ r h=>by simp[zPi]at h),(fun _ _ _ _ r h=>by simp[zPj]at h)⟩
  |succ n ih=>exact⟨(fun x0 x1 x2 r h=>yF3 ih.2 x0 x1 x2 r (by simpa[zPi]using h)),(fun x0 x1 x2 x3 r h=>yF9 ih.1 ih.2 x0 x1 x2 x3 r (by simpa[zPj]using h))⟩
theorem u_e(x0:SPr)(x1:Int)(x2:List Int)(r:(List Int))(h:f_e x0 x1 x2=iW r):FnC J0 299 [qPr x0,I x1,T.ro (lV x2)] [lV r] []:=by obtain⟨n,hn⟩:=kE h;exact(yE3 n).1 x0 x1 x2 r hn
theorem u_a(x0:SPr)(x1:Int)(x2:List Int)(x3:List Int)(r:(List Int))(h:f_a x0 x1 x2 x3=iW r):FnC J0 247 [qPr x0,I x1,T.ro (lV x2),T.ro (lV x3)] [lV r] []:=by obtain⟨n,hn⟩:=kE h;exact(yE3 n).2 x0 x1 x2 x3 r hn
instance t_e:FI J0 299 (∀(a:SPr)(b:Int)(c:List Int),FnK J0 299 [qPr a,I b,T.ro (lV c)] (fun r=>[lV r]) (fun _=>[]) (f_e a b c)):=⟨Tryz.call299,fun a b c=>FnK.mk (u_e a b c)⟩
instance t_a:FI J0 247 (∀(a:SPr)(b:Int)(c d:List Int),FnK J0 247 [qPr a,I b,T.ro (lV c),T.ro (lV d)] (fun r=>[lV r]) (fun _=>[]) (f_a a b c d)):=⟨Tryz.call247,fun a b c d=>FnK.mk (u_a a b c d)⟩
section
attribute [local irreducible] RW CW DK OkL Ok yB yI xF xQ XS.post rng xV xC ixO zL yE yT yD zH GTo zR FnC FnK wA wN Kp Lk BsL BuL RpL Bk Lc JQ AK
instance(a b:Int)(c:List (List Int)):LH (R:=Bool) (zRm a b c) [0,1,2] [] (fun d=>[(7,I d)]) (.xs (.xe 0 [0,1,2] fun _=>[]) .xr):=⟨⟩
instance t_bb:FI J0 296 (∀(a b:Int)(c:List (List Int)),FnK J0 296 [I a,I b,T.ro (lM c)] (fun r=>[B r]) (fun _=>[]) (zYy a b c)):=⟨Tryz.call296,fun a b c=>iM Tryz.func296⟩
end
end Go.Wk
