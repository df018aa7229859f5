/- x -/
import Derived.Test.YtmgckbgmmpemgaaGreatSVac
import Derived.Test.YtmgckbgmmpemgaaGreatSVad
import Derived.Test.YtmgckbgmmpemgaaGreatSVae
import Derived.Test.YtmgckbgmmpemgaaGreatSWT
open Go.Proofs.Tryz renaming prog→J0
open Option renaming some→VU,none→VV
open Bool renaming true→VW,false→VX
namespace Go.Wk
open Go Go.Proofs Go.Ab
set_option maxRecDepth 100000
set_option maxHeartbeats 4000000
theorem zW9:∀n,(∀(x0:SPr)(x1:Int)(x2:List Int) r,zLJ n x0 x1 x2=VU r→FnC J0 138 [qPr x0,I x1,T.ro (lV x2)] [lV r] [])∧(∀(x0:SPr)(x1:Int)(x2:List Int)(x3:List Int) r,zLK n x0 x1 x2 x3=VU r→FnC J0 139 [qPr x0,I x1,T.ro (lV x2),T.ro (lV x3)] [lV r] []):=by
  intro n
  induction n with
  |zero=>exact⟨(fun _ _ _ r h=>by simp[zLJ]at h),(fun _ _ _ _ r h=>by simp[zLK]at h)⟩
  |succ n ih=>exact⟨(fun x0 x1 x2 r h=>zXk ih.2 x0 x1 x2 r (by simpa[zLJ]using h)),(fun x0 x1 x2 x3 r h=>zXm ih.1 ih.2 x0 x1 x2 x3 r (by simpa[zLK]using h))⟩
theorem u_g(x0:SPr)(x1:Int)(x2:List Int)(r:(List Int))(h:f_g x0 x1 x2=VU r):FnC J0 138 [qPr x0,I x1,T.ro (lV x2)] [lV r] []:=by obtain⟨n,hn⟩:=zAm h;exact(zW9 n).1 x0 x1 x2 r hn
theorem u_c(x0:SPr)(x1:Int)(x2:List Int)(x3:List Int)(r:(List Int))(h:f_c x0 x1 x2 x3=VU r):FnC J0 139 [qPr x0,I x1,T.ro (lV x2),T.ro (lV x3)] [lV r] []:=by obtain⟨n,hn⟩:=zAm h;exact(zW9 n).2 x0 x1 x2 x3 r hn
instance t_g:FI J0 138 (∀(a:SPr)(b:Int)(c:List Int),FnK J0 138 [qPr a,I b,T.ro (lV c)] (fun r=>[lV r]) (fun _=>[]) (f_g a b c)):=⟨Tryz.call138,fun a b c=>FnK.mk (u_g a b c)⟩
instance t_c:FI J0 139 (∀(a:SPr)(b:Int)(c d:List Int),FnK J0 139 [qPr a,I b,T.ro (lV c),T.ro (lV d)] (fun r=>[lV r]) (fun _=>[]) (f_c a b c d)):=⟨Tryz.call139,fun a b c d=>FnK.mk (u_c a b c d)⟩
section
attribute [local irreducible] RW CW DK OkL Ok yM yJ wN vO XS.post rng yQ vN ixO yG xC wV yW zI GTo zN FnC FnK vT uL Kp Lk BsL BuL RpL Bk Lc
instance t_bf:FI J0 106 (∀(a:SPr)(b:Int)(c:List Int),FnK J0 106 [T.ro ((Pt uT) a),I b,T.ro (lV c)] (fun r=>[B r]) (fun _=>[]) (zQu a b c)):=⟨Tryz.call106,fun a b c=>iM Tryz.func106⟩
instance(a:zD):LH (R:=Bool) (zKK a) [1,22,23] [] (fun b=>[(24,I b)]) (.xs (.xe 0 [1,22,23] fun _=>[]) .xr):=⟨⟩
instance t_aj:FI J0 45 (∀(a:zD),FnK J0 45 [vZ a] (fun r=>[B r]) (fun _=>[]) (zSg a)):=⟨Tryz.call45,fun a=>iM Tryz.func45⟩
instance:HS Tryz.f88.8 [(2,2,0,.tr 5 10)]:=⟨⟩
instance(b:List Int)(c:zD):LH (R:=(List Int)) (zKN b c) [3,11,12] [] (fun a=>[(5,L 1 I a.1),(13,I a.2)]) (.xe 0 [3,11,12] fun d=>[(5,L 1 I d)]):=⟨⟩
instance t_av:FI J0 88 (∀(a:List Int)(b:zD),FnK J0 88 [T.ro (lV a),vZ b] (fun r=>[lV r]) (fun _=>[]) (zSj a b)):=⟨Tryz.call88,fun a b=>iM Tryz.func88⟩
instance t_bk:FI J0 48 (∀(a:List (List Int))(b:List (List Int)),FnK J0 48 [T.ro (lM a),T.ro (lM b)] (fun r=>[B r]) (fun _=>[]) (zSk a b)):=⟨Tryz.call48,fun a b=>iM Tryz.func48⟩
end
end Go.Wk
