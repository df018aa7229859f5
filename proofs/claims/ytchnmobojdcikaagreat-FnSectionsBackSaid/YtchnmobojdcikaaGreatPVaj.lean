/- x -/
import Derived.Test.YtchnmobojdcikaaGreatPVab
import Derived.Test.YtchnmobojdcikaaGreatPVae
import Derived.Test.YtchnmobojdcikaaGreatPVaf
import Derived.Test.YtchnmobojdcikaaGreatPWT
open Go.Proofs.Tryz renaming prog→J0
open Option renaming some→aB,none→aC
open Bool renaming true→aD,false→aE
namespace Go.Wk
open Go Go.Proofs Go.Ab
set_option maxRecDepth 100000
set_option maxHeartbeats 4000000
section
attribute [local irreducible] RW CW DK OkL Ok yA yB xE xH XS.post rng xK yV ixO zN yD xC zU zC GTo zO FnC FnK xV wG Kp Lk BsL BuL RpL Bk Lc JQ AK
instance(a:SPr):LH (R:=Bool) (zMM a) [1,3] [] (fun b=>[(4,I b)]) (.xs (.xe 0 [] fun _=>[]) .xr):=⟨⟩
instance(a:SPr)(b:Int):LH (R:=Bool) (zKt a b) [1,3,5] [] (fun c=>[(6,I c)]) (.xs (.xe 4 [] fun _=>[]) .xr):=⟨⟩
instance(a:SPr):LH (R:=Bool) (zHO a) [1,3] [] (fun b=>[(5,I b)]) (.xs (.xe 2 [1,3] fun _=>[]) .xr):=⟨⟩
instance t_h:FI J0 83 (∀(a:SPr),FnK J0 83 [qPr a] (fun r=>[B r]) (fun _=>[]) (f_h a)):=⟨Tryz.call83,fun a=>iM Tryz.func83⟩
end
theorem zWy:∀n,(∀(x0:SPr)(x1:List Int)(x2:Int) r,zPm n x0 x1 x2=aB r→FnC J0 298 [T.ro ((Pt xT) x0),L 1 I x1,I x2] [] [(1,lV r)])∧(∀(x0:SPr)(x1:List Int)(x2:List Int) r,zMQ n x0 x1 x2=aB r→FnC J0 246 [T.ro ((Pt xT) x0),L 1 I x1,T.ro (lV x2)] [] [(1,lV r)]):=by
  intro n
  induction n with
  |zero=>exact⟨(fun _ _ _ r h=>by simp[zPm]at h),(fun _ _ _ r h=>by simp[zMQ]at h)⟩
  |succ n ih=>exact⟨(fun x0 x1 x2 r h=>zX0 ih.2 x0 x1 x2 r (by simpa[zPm]using h)),(fun x0 x1 x2 r h=>zXu ih.1 x0 x1 x2 r (by simpa[zMQ]using h))⟩
theorem u_b(x0:SPr)(x1:List Int)(x2:Int)(r:(List Int))(h:f_b x0 x1 x2=aB r):FnC J0 298 [T.ro ((Pt xT) x0),L 1 I x1,I x2] [] [(1,lV r)]:=by obtain⟨n,hn⟩:=zAu h;exact(zWy n).1 x0 x1 x2 r hn
theorem u_c(x0:SPr)(x1:List Int)(x2:List Int)(r:(List Int))(h:f_c x0 x1 x2=aB r):FnC J0 246 [T.ro ((Pt xT) x0),L 1 I x1,T.ro (lV x2)] [] [(1,lV r)]:=by obtain⟨n,hn⟩:=zAu h;exact(zWy n).2 x0 x1 x2 r hn
instance t_b:FI J0 298 (∀(a:SPr)(b:List Int)(c:Int),FnK J0 298 [T.ro ((Pt xT) a),L 1 I b,I c] (fun _:(List Int)=>[]) (fun r=>[(1,lV r)]) (f_b a b c)):=⟨Tryz.call298,fun a b c=>FnK.mk (u_b a b c)⟩
instance t_c:FI J0 246 (∀(a:SPr)(b c:List Int),FnK J0 246 [T.ro ((Pt xT) a),L 1 I b,T.ro (lV c)] (fun _:(List Int)=>[]) (fun r=>[(1,lV r)]) (f_c a b c)):=⟨Tryz.call246,fun a b c=>FnK.mk (u_c a b c)⟩
end Go.Wk
