/- x -/
import Derived.Test.YtimahceaenahkaaSWT
open Go.Proofs.Try renaming prog→J0,underlying22→Kx,underlying3→Qc
open Option renaming some→df,none→dg
open Bool renaming true→dh,false→di
namespace Go.Wk
open Go Go.Proofs Go.Ab
set_option maxRecDepth 100000
set_option maxHeartbeats 4000000
section
attribute [local irreducible] RW CW DK OkL Ok zW yB yY xP XS.post rng wA wF ixO zS yQ xC yF zC GTo zF FnC FnK xU wM Kp BsL BuL RpL Bk Lc JQ AK
instance t_aI:FI J0 49 (∀(a:Int),FnK J0 49 [I a] (fun r=>[B r]) (fun _=>[]) (zOP a)):=⟨Try.call49,fun a=>iM Try.func49⟩
instance(b:List Int):LH (R:=Int) (zKZ b) [0] [] (fun a=>[(3,I a.1),(4,I a.2)]) (.xe 0 [0] fun c=>[(3,I c)]):=⟨⟩
instance t_P:FI J0 50 (∀(a:List Int),FnK J0 50 [T.ro (lV a)] (fun r=>[I r]) (fun _=>[]) (f_P a)):=⟨Try.call50,fun a=>iM Try.func50⟩
instance t_aC:FI J0 58 (∀(a:Int),FnK J0 58 [I a] (fun r=>[B r]) (fun _=>[]) (zMU a)):=⟨Try.call58,fun a=>iM Try.func58⟩
instance(a:List Int):LH (R:=Bool) (zI8 a) [5,6] [] (fun b=>[(7,I b)]) (.xs (.xe 0 [5,6] fun _=>[]) .xr):=⟨⟩
instance t_ad:FI J0 75 (∀(a:List Int),FnK J0 75 [T.ro (lV a)] (fun r=>[B r]) (fun _=>[]) (zOT a)):=⟨Try.call75,fun a=>iM Try.func75⟩
instance(b:SPr):LH (R:=Int) (zPg b) [9,10] [] (fun a=>[(3,I a.1),(11,I a.2)]) (.xe 0 [9,10] fun c=>[(3,I c)]):=⟨⟩
instance t_R:FI J0 21 (∀(a:SPr),FnK J0 21 [T.ro ((Pt wH) a)] (fun r=>[I r]) (fun _=>[]) (f_R a)):=⟨Try.call21,fun a=>iM Try.func21⟩
instance:HS Try.f80.8 [(2,2,0,.tr 5 12)]:=⟨⟩
instance(b:SPr):LH (R:=(List Int)) (zBW b) [0] [] (fun a=>[(1,I a.1),(5,L 1 I a.2.1),(6,I a.2.2)]) (.xe 0 [0] fun c=>[(5,L 1 I c)]):=⟨⟩
instance t_l:FI J0 80 (∀(a:SPr)(b:Int),FnK J0 80 [T.ro ((Pt wH) a),I b] (fun r=>[lV r]) (fun _=>[]) (f_l a b)):=⟨Try.call80,fun a b=>iM Try.func80⟩
end
theorem zR3(x1:Int)(r:(List Int))(h:zL1 x1=df r):FnC J0 90 [T.lit (.slice dg 0 0),I x1] [lV r] []:=by
 refine fB Try.func90 (fun St W w0 v=>?_);refine sR (oP (zBm 1 rfl) ?_);refine rN (CW.seq (sR (zZ ?_)));refine zCi ?_;refine rN (cn h (fun hc h=>?_) (fun hc h=>?_))
 ·refine CW.region ?_
  cases h
 ·refine CW.skip (nA (CW.seq (sR (zZ ?_))))
  refine zZ ?_;refine oP (zFW Kx rfl rfl) ?_;refine zZ ?_;refine oP (zFV Kx rfl rfl) ?_;obtain⟨v1,cu,h⟩:=bd h;refine zGa ?_;obtain⟨v2,eD,h⟩:=bd h;refine zGa ?_;refine xX ?_;refine rN (sR (zZ ?_));refine zPB ?_;refine rN (cn h (fun hc h=>?_) (fun hc h=>?_))
  ·refine CW.region (zZ ?_)
   refine zZ ?_;refine oP (zFW Kx rfl rfl) ?_;refine oP (zMq elt_22 rfl rfl rfl) ?_;refine zZ ?_;obtain⟨v3,hv3,h⟩:=bd h;refine oP (zOe (f:=I) (z:=0) elt_22 Qc (rfl) hv3 rfl rfl rfl) ?_;refine zZ ?_;refine oP (zFV Kx rfl rfl) ?_;obtain⟨v4,bS,h⟩:=bd h;refine oP (zP6 (f:=I) elt_22 bS rfl rfl (.inl rfl) rfl) ?_;refine xX ?_;refine RW.ghost (zF.tr 0 25 _ rfl rfl (zQ (yO (Enc.clean (f:=I)))) rfl) ?_;refine rN (sR (zZ ?_));refine xX ?_;refine RW.ghost (zF.tr 4 0 _ rfl rfl (zQ (yO (Enc.clean (f:=I)))) rfl) ?_;refine rN (CW.ret ?_);obtain rfl:=sI h;exact rT
  ·refine CW.skip (nA (sR (zZ ?_)))
   refine xX ?_;refine rN (CW.ghost (zF.nil 4 1 rfl) ?_);refine CW.ret ?_;obtain rfl:=sI h;exact rT
instance t_an:FI J0 90 (∀(a:Int),FnK J0 90 [T.lit (.slice dg 0 0),I a] (fun r=>[lV r]) (fun _=>[]) (zL1 a)):=⟨Try.call90,fun a=>FnK.mk (zR3 a)⟩
end Go.Wk
