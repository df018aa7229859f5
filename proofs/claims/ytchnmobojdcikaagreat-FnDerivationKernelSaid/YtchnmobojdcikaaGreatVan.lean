/- x -/
import Derived.Test.YtchnmobojdcikaaGreatVaj
import Derived.Test.YtchnmobojdcikaaGreatVak
import Derived.Test.YtchnmobojdcikaaGreatVal
import Derived.Test.YtchnmobojdcikaaGreatWT
open Go.Proofs.Tryz renaming prog→J0,underlying24→Ld,underlying3→Hr
open Option renaming some→dS,none→dT
open Bool renaming true→dU,false→dV
namespace Go.Wk
open Go Go.Proofs Go.Ab
set_option maxRecDepth 100000
set_option maxHeartbeats 4000000
section
attribute [local irreducible] RW CW DK OkL Ok zU zY yO yZ XS.post rng xC yL ixO zL zX yM zV zE GTo zK FnC FnK xJ xQ Kp Lk BsL BuL RpL Bk Lc JQ AK
instance:HS Tryz.f242.8 [(2,6,0,.tr 7 16),(0,23,0,.tr 22 7),(0,24,0,.trq 21 5 [2,0]),(1,4,0,.trf 27 2 5 [2,0])]:=⟨⟩
instance(a:Int):LN (zJE a) 5:=⟨⟩
instance(a:Int)(A0 A1 A2:T):LHk (R:=zJ) (zJE a) (T.ptr (T.agg [A0,A1,A2])) [1,4,11] [] (fun b=>[(5,T.ptr (T.agg [A0,I a,L 1 lV b.1])),(12,I b.2)]) (.xe 0 [1,11] fun c=>[(5,T.ptr (T.agg [A0,I a,L 1 lV c]))]):=⟨⟩
instance t_a5:FI J0 242 (∀(a b:Int),FnK J0 242 [I a,I b] (fun r=>[sB r]) (fun _=>[]) (zWx a b)):=⟨Tryz.call242,fun a b=>iM Tryz.func242⟩
instance(a:List (List Int))(b:List (List Int)):LH (R:=Bool) (zTR a b) [1,2,15,16] [] (fun c=>[(17,I c)]) (.xs (.xe 0 [1,2,15,16] fun _=>[]) .xr):=⟨⟩
instance t_b0:FI J0 293 (∀(a:List (List Int))(b:List (List Int)),FnK J0 293 [T.ro (lM a),T.ro (lM b),T.lit (.func (.func 225) #[] #[])] (fun r=>[B r]) (fun _=>[]) (zZD a b)):=⟨Tryz.call293,fun a b=>iM Tryz.func293⟩
instance t_b7:FI J0 235 (∀(a:List (List Int))(b:List (List Int)),FnK J0 235 [T.ro (lM a),T.ro (lM b)] (fun r=>[B r]) (fun _=>[]) (zTS a b)):=⟨Tryz.call235,fun a b=>iM Tryz.func235⟩
end
theorem yCV(x1:Int)(r:(List Int))(h:zTV x1=dS r):FnC J0 219 [T.lit (.slice dT 0 0),I x1] [lV r] []:=by
 refine fB Tryz.func219 (fun St W w0 v=>?_);refine sR (oP (zA9 1 rfl) ?_);refine rN (CW.seq (sR (xZ ?_)));refine zEH ?_;refine rN (cn h (fun hc h=>?_) (fun hc h=>?_))
 ·refine CW.region ?_
  cases h
 ·refine CW.skip (nA (CW.seq (sR (xZ ?_))))
  refine xZ ?_;refine oP (zL6 Ld rfl rfl) ?_;refine xZ ?_;refine oP (zL5 Ld rfl rfl) ?_;obtain⟨v1,hv1,h⟩:=bd h;refine zXF ?_;obtain⟨v2,ch,h⟩:=bd h;refine zXF ?_;refine uD ?_;refine rN (sR (xZ ?_));refine zXI ?_;refine rN (cn h (fun hc h=>?_) (fun hc h=>?_))
  ·refine CW.region (xZ ?_)
   refine xZ ?_;refine oP (zL6 Ld rfl rfl) ?_;refine oP (zVx elt_24 rfl rfl rfl) ?_;refine xZ ?_;obtain⟨v3,pM,h⟩:=bd h;refine oP (zNy (f:=I) (z:=0) elt_24 Hr (rfl) pM rfl rfl rfl) ?_;refine xZ ?_;refine oP (zL5 Ld rfl rfl) ?_;obtain⟨v4,mG,h⟩:=bd h;refine oP (zSj (f:=I) elt_24 mG rfl rfl (.inl rfl) rfl) ?_;refine uD ?_;refine RW.ghost (zK.tr 0 25 _ rfl rfl (wL (vE (Enc.clean (f:=I)))) rfl) ?_;refine rN (sR (xZ ?_));refine uD ?_;refine RW.ghost (zK.tr 4 0 _ rfl rfl (wL (vE (Enc.clean (f:=I)))) rfl) ?_;refine rN (CW.ret ?_);obtain rfl:=sI h;exact rT
  ·refine CW.skip (nA (sR (xZ ?_)))
   refine uD ?_;refine rN (CW.ghost (zK.nil 4 1 rfl) ?_);refine CW.ret ?_;obtain rfl:=sI h;exact rT
instance t_b1:FI J0 219 (∀(a:Int),FnK J0 219 [T.lit (.slice dT 0 0),I a] (fun r=>[lV r]) (fun _=>[]) (zTV a)):=⟨Tryz.call219,fun a=>FnK.mk (yCV a)⟩
section
attribute [local irreducible] RW CW DK OkL Ok zU zY yO yZ XS.post rng xC yL ixO zL zX yM zV zE GTo zK FnC FnK xJ xQ Kp Lk BsL BuL RpL Bk Lc JQ AK
instance:HS Tryz.f105.8 [(2,10,0,.tr 6 24),(0,33,0,.tr 31 6),(2,14,0,.tr 6 33)]:=⟨⟩
instance(b:List (List Int)):LH (R:=(List Int)) (zTW b) [0,9,10] [] (fun a=>[(3,I a.1),(11,I a.2)]) (.xe 0 [9,10] fun c=>[(3,I c)]):=⟨⟩
instance(b:List (List Int)):LH (R:=(List Int)) (zTX b) [25,26] [] (fun a=>[(6,L 1 I a.1),(27,I a.2)]) (.xe 2 [25,26] fun c=>[(6,L 1 I c)]):=⟨⟩
instance t_E:FI J0 105 (∀(a:List (List Int)),FnK J0 105 [T.ro (lM a)] (fun r=>[lV r]) (fun _=>[]) (f_E a)):=⟨Tryz.call105,fun a=>iM Tryz.func105⟩
instance:HS Tryz.f253.8 [(0,16,0,.tr 12 3),(2,6,0,.tr 3 16)]:=⟨⟩
instance(b:List (List Int)):LH (R:=(List (List Int))) (zMF b) [6,7] [] (fun a=>[(3,L 1 lV a.1),(8,I a.2)]) (.xe 0 [6,7] fun c=>[(3,L 1 lV c)]):=⟨⟩
instance t_a6:FI J0 253 (∀(a:List (List Int)),FnK J0 253 [T.ro (lM a)] (fun r:(List (List Int))=>[lM r]) (fun _=>[]) (zUa a)):=⟨Tryz.call253,fun a=>iM Tryz.func253⟩
instance t_br:FI J0 29 (∀(a:SPr),FnK J0 29 [qPr a] (fun r=>[I r.1,I r.2]) (fun _=>[]) (zIG a)):=⟨Tryz.call29,fun a=>iM Tryz.func29⟩
instance:HS Tryz.f130.8 [(2,2,0,.tr 5 7),(0,24,0,.tr 15 5),(2,4,0,.tr 5 24),(0,43,0,.fz 42),(0,48,0,.tr 46 5)]:=⟨⟩
instance(c:SPr):LH (R:=(List Int)×zD) (zUU c) [3] [] (fun a=>[(0,T.ptr (T.agg [T.ro ((L 1 (IK .u8)) a.1),I a.2.1,I a.2.2.1])),(5,L 1 I a.2.2.2.1),(6,I a.2.2.2.2)]) (.xe 0 [] fun b=>[(0,T.ptr (T.agg [T.ro ((L 1 (IK .u8)) b.1),I b.2.1,I b.2.2.1])),(5,L 1 I b.2.2.2)]):=⟨⟩
instance t_bM:FI J0 130 (∀(a:zD)(b:SPr),FnK J0 130 [T.ptr (wO a),qPr b] (fun r:(List Int)×zD=>[lV r.1]) (fun r=>[(0,(Pt (fun x=>T.agg [(Ro (L 1 (IK .u8))) x.code,I x.at_,I x.seed])) r.2)]) (zUV a b)):=⟨Tryz.call130,fun a b=>iM Tryz.func130⟩
instance:HS Tryz.f33.8 [(2,2,0,.tr 6 11),(2,4,0,.tr 9 19)]:=⟨⟩
instance t_cW:FI J0 33 (∀(a:List Int),FnK J0 33 [T.ro ((L 1 (IK .u8)) a)] (fun r:SPr×zB×(List Int)×(List Int)=>[(fun x=>T.agg [(Ro lV) x.zA,(Ro lM) x.zN,(Ro lC) x.zC]) r.1,(fun x=>T.agg [I x.Prime,I x.Dim,(Ro lC) x.zG]) r.2.1,lV r.2.2.1,lV r.2.2.2]) (fun _=>[]) (zZX a)):=⟨Tryz.call33,fun a=>iM Tryz.func33⟩
instance t_cO:FI J0 245 (∀(a:SPr),FnK J0 245 [qPr a] (fun r=>[lV r]) (fun _=>[]) (zZR a)):=⟨Tryz.call245,fun a=>iM Tryz.func245⟩
instance:HS Tryz.f142.8 [(2,2,0,.tr 5 8)]:=⟨⟩
instance(b:SPr):LH (R:=(List Int)) (zUx b) [2] [] (fun a=>[(1,I a.1),(5,L 1 I a.2.1),(6,I a.2.2)]) (.xe 0 [2] fun c=>[(5,L 1 I c)]):=⟨⟩
instance t_bc:FI J0 142 (∀(a:SPr)(b:Int),FnK J0 142 [qPr a,I b] (fun r=>[lV r]) (fun _=>[]) (zO5 a b)):=⟨Tryz.call142,fun a b=>iM Tryz.func142⟩
instance t_cQ:FI J0 46 (∀(a:List Int),FnK J0 46 [T.ro ((L 1 (IK .u8)) a)] (fun r=>[(fun x=>T.agg [(Ro lV) x.zA,(Ro lM) x.zN,(Ro lC) x.zC]) r.1,(fun x=>T.agg [I x.Prime,I x.Dim,(Ro lC) x.zG]) r.2]) (fun _=>[]) (zZZ a)):=⟨Tryz.call46,fun a=>iM Tryz.func46⟩
instance:HS Tryz.f249.8 [(2,3,0,.tr 8 21),(2,4,0,.tr 9 22),(2,5,0,.fz 8),(2,10,0,.tr 11 42),(0,60,0,.tr 43 9),(2,13,0,.tr 9 60),(2,17,0,.tr 14 76),(0,95,0,.fz 83),(0,105,0,.tr 96 9),(2,15,0,.tr 9 105),(2,19,0,.fz 8)]:=⟨⟩
instance(b:SPr)(c:zB)(d:List (List Int))(e:(List Int)×Int):LH (R:=(List Int)) (zUj b c d e) [2,3,4,7,8,9,10] [] (fun a=>[(11,T.ro (lV a.1)),(12,I a.2)]) (.xe 2 [] fun f=>[(11,T.ro (lV f))]):=⟨⟩
instance(c:SPr)(d:zB)(e:List (List Int))(f:Nat)(g:(List Int)×Int):LH (R:=(List Int)) (zUk c d e f g) [2,3,4,7,8,10] [] (fun a=>[(9,L 1 I a.1),(13,I a.2)]) (.xe 4 [] fun b=>[(9,L 1 I b)]):=⟨⟩
instance(c:SPr)(d:zB)(e:List (List Int))(f:Nat):LH (R:=(List Int)) (zUl c d e f) [2,3,4,7,8] [8] (fun b=>[(9,L 1 I b.1),(10,I b.2)]) (.xe 0 [2,3,4,7,8] fun a=>[(9,L 1 I a)]):=⟨⟩
instance t_G:FI J0 249 (∀(a:SPr)(b:zB)(c:List (List Int)),FnK J0 249 [qPr a,xD b,T.ro (lM c)] (fun r=>[lV r]) (fun _=>[]) (f_G a b c)):=⟨Tryz.call249,fun a b c=>iM Tryz.func249⟩
instance:HS Tryz.f150.8 [(2,3,0,.tr 6 17),(2,8,0,.tr 9 24),(2,10,0,.tr 10 34),(0,39,0,.tr 38 10),(0,40,0,.tr 37 6),(2,6,0,.tr 6 40)]:=⟨⟩
instance(c:SPr)(d:zB)(e:Int):LH (R:=(List (List Int))) (zJJ c d e) [2,3,5] [] (fun a=>[(6,L 1 lV a.1),(7,I a.2.1),(8,I a.2.2)]) (.xe 0 [2,5] fun b=>[(6,L 1 lV b.1),(7,I b.2)]):=⟨⟩
instance t_as:FI J0 150 (∀(a:SPr)(b:zB),FnK J0 150 [qPr a,xD b] (fun r:(List (List Int))=>[lM r]) (fun _=>[]) (zMY a b)):=⟨Tryz.call150,fun a b=>iM Tryz.func150⟩
instance t_cw:FI J0 259 (∀(a:SPr)(b:zB)(c:List (List Int)),FnK J0 259 [qPr a,xD b,T.ro (lM c)] (fun r=>[B r]) (fun _=>[]) (zWz a b c)):=⟨Tryz.call259,fun a b c=>iM Tryz.func259⟩
end
end Go.Wk
