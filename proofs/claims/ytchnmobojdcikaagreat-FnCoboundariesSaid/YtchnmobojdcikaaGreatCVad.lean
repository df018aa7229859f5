/- x -/
import Derived.Test.YtchnmobojdcikaaGreatCWT
open Go.Proofs.Tryz renaming prog→J0,underlying24→Li,underlying3→Ht
open Option renaming some→iz,none→iA
open Bool renaming true→iB,false→iC
namespace Go.Wk
open Go Go.Proofs Go.Ab
set_option maxRecDepth 100000
set_option maxHeartbeats 4000000
section
attribute [local irreducible] RW CW DK OkL Ok zV yA yW xK XS.post rng xN yP ixO zO yG yO yB zG GTo zP FnC FnK xQ wB Kp Lk BsL BuL RpL Bk Lc JQ AK
instance:HS Tryz.f110.8 [(2,2,0,.tr 3 7)]:=⟨⟩
instance(a:List Int):LH (R:=zF) (zU7 a) [0] [] (fun b=>[(3,T.ptr (T.agg [T.ro ((L 1 (IK .u8)) a),I 0,I b.1])),(4,I b.2)]) (.xe 0 [0] fun c=>[(3,T.ptr (T.agg [T.ro ((L 1 (IK .u8)) a),I 0,I c]))]):=⟨⟩
instance t_bc:FI J0 110 (∀(a:List Int),FnK J0 110 [T.ro ((L 1 (IK .u8)) a)] (fun r=>[(Pt (fun x=>T.agg [(Ro (L 1 (IK .u8))) x.code,I x.at_,I x.seed])) r]) (fun _=>[]) (zU8 a)):=⟨Tryz.call110,fun a=>iM Tryz.func110⟩
instance:HS Tryz.f107.8 [(2,2,0,.tr 3 5),(0,17,0,.tr 12 3),(2,4,0,.tr 3 17)]:=⟨⟩
instance(b:List (List Int)):LH (R:=(List Int)) (zMB b) [0] [] (fun a=>[(3,L 1 I a.1),(4,I a.2)]) (.xe 0 [0] fun c=>[(3,L 1 I c)]):=⟨⟩
instance t_aq:FI J0 107 (∀(a:List (List Int)),FnK J0 107 [T.ro (lM a)] (fun r=>[lV r]) (fun _=>[]) (zQV a)):=⟨Tryz.call107,fun a=>iM Tryz.func107⟩
instance t_bg:FI J0 160 (∀(a:zC)(b:Int),FnK J0 160 [T.ro ((Pt xV) a),I b] (fun r=>[(fun x=>T.agg [I x.Prime,I x.wA,(Ro lM) x.Rows]) r]) (fun _=>[]) (zNZ a b)):=⟨Tryz.call160,fun a b=>iM Tryz.func160⟩
instance t_cj:FI J0 332 (∀(a b:Int),FnK J0 332 [(IK .u32) a,(IK .u32) b] (fun r=>[(IK .u32) r.1,(IK .u32) r.2]) (fun _=>[]) (yDj a b)):=⟨Tryz.call332,fun a b=>iM Tryz.func332⟩
instance t_ch:FI J0 333 (∀(a b:Int),FnK J0 333 [(IK .u64) a,(IK .u64) b] (fun r=>[(IK .u64) r.1,(IK .u64) r.2]) (fun _=>[]) (yCg a b)):=⟨Tryz.call333,fun a b=>iM Tryz.func333⟩
instance:HS Tryz.f135.8 [(0,20,0,.tr 16 3),(2,8,0,.tr 3 20)]:=⟨⟩
instance(b:(List Int)×Int)(c:Int):LH (R:=(List Int)) (zTV b c) [4,6,7,8,13] [] (fun a=>[(3,L 1 I a.1),(14,I a.2)]) (.xe 2 [4,13] fun d=>[(3,L 1 I d)]):=⟨⟩
instance(b:List Int):LH (R:=(List Int)) (zTW b) [6,7] [] (fun a=>[(3,L 1 I a.1),(8,I a.2)]) (.xe 0 [6,7] fun c=>[(3,L 1 I c)]):=⟨⟩
instance t_U:FI J0 135 (∀(a:List Int),FnK J0 135 [T.ro (lV a)] (fun r=>[lV r]) (fun _=>[]) (f_U a)):=⟨Tryz.call135,fun a=>iM Tryz.func135⟩
instance:HS Tryz.f242.8 [(2,6,0,.tr 7 16),(0,23,0,.tr 22 7),(0,24,0,.trq 21 5 [2,0]),(1,4,0,.trf 27 2 5 [2,0])]:=⟨⟩
instance(a:Int):LN (zJC a) 5:=⟨⟩
instance(a:Int)(A0 A1 A2:T):LHk (R:=zT) (zJC a) (T.ptr (T.agg [A0,A1,A2])) [1,4,11] [] (fun b=>[(5,T.ptr (T.agg [A0,I a,L 1 lV b.1])),(12,I b.2)]) (.xe 0 [1,11] fun c=>[(5,T.ptr (T.agg [A0,I a,L 1 lV c]))]):=⟨⟩
instance t_aA:FI J0 242 (∀(a b:Int),FnK J0 242 [I a,I b] (fun r=>[zCm r]) (fun _=>[]) (zWu a b)):=⟨Tryz.call242,fun a b=>iM Tryz.func242⟩
instance t_bU:FI J0 236 (∀(a:SPr),FnK J0 236 [T.ro ((Pt vE) a)] (fun r=>[I r]) (fun _=>[]) (zW2 a)):=⟨Tryz.call236,fun a=>iM Tryz.func236⟩
end
theorem yCZ(x1:Int)(r:(List Int))(h:zUf x1=iz r):FnC J0 219 [T.lit (.slice iA 0 0),I x1] [lV r] []:=by
 refine fB Tryz.func219 (fun St W w0 v=>?_);refine sR (oP (zJf 1 rfl) ?_);refine rN (CW.seq (sR (uA ?_)));refine zGr ?_;refine rN (cn h (fun hc h=>?_) (fun hc h=>?_))
 ·refine CW.region ?_
  cases h
 ·refine CW.skip (nA (CW.seq (sR (uA ?_))))
  refine uA ?_;refine oP (zLp Li rfl rfl) ?_;refine uA ?_;refine oP (zLo Li rfl rfl) ?_;obtain⟨v1,hv1,h⟩:=bd h;refine zXO ?_;obtain⟨v2,pi,h⟩:=bd h;refine zXO ?_;refine jV ?_;refine rN (sR (uA ?_));refine yAH ?_;refine rN (cn h (fun hc h=>?_) (fun hc h=>?_))
  ·refine CW.region (uA ?_)
   refine uA ?_;refine oP (zLp Li rfl rfl) ?_;refine oP (zVy elt_24 rfl rfl rfl) ?_;refine uA ?_;obtain⟨v3,pH,h⟩:=bd h;refine oP (zNa (f:=I) (z:=0) elt_24 Ht (rfl) pH rfl rfl rfl) ?_;refine uA ?_;refine oP (zLo Li rfl rfl) ?_;obtain⟨v4,mV,h⟩:=bd h;refine oP (zXK (f:=I) elt_24 mV rfl rfl (.inl rfl) rfl) ?_;refine jV ?_;refine RW.ghost (zP.tr 0 25 _ rfl rfl (tV (tQ (Enc.clean (f:=I)))) rfl) ?_;refine rN (sR (uA ?_));refine jV ?_;refine RW.ghost (zP.tr 4 0 _ rfl rfl (tV (tQ (Enc.clean (f:=I)))) rfl) ?_;refine rN (CW.ret ?_);obtain rfl:=sI h;exact rT
  ·refine CW.skip (nA (sR (uA ?_)))
   refine jV ?_;refine rN (CW.ghost (zP.nil 4 1 rfl) ?_);refine CW.ret ?_;obtain rfl:=sI h;exact rT
instance t_bs:FI J0 219 (∀(a:Int),FnK J0 219 [T.lit (.slice iA 0 0),I a] (fun r=>[lV r]) (fun _=>[]) (zUf a)):=⟨Tryz.call219,fun a=>FnK.mk (yCZ a)⟩
section
attribute [local irreducible] RW CW DK OkL Ok zV yA yW xK XS.post rng xN yP ixO zO yG yO yB zG GTo zP FnC FnK xQ wB Kp Lk BsL BuL RpL Bk Lc JQ AK
instance:HS Tryz.f255.8 [(2,6,0,.tr 6 19),(0,31,0,.tr 30 6),(0,32,0,.tr 29 3),(2,9,0,.tr 3 32)]:=⟨⟩
instance(b:List (List Int)):LH (R:=(List (List Int))) (zMv b) [0,7,8] [] (fun a=>[(3,L 1 lV a.1),(9,I a.2)]) (.xe 0 [0,7,8] fun c=>[(3,L 1 lV c)]):=⟨⟩
instance t_ar:FI J0 255 (∀(a:List (List Int)),FnK J0 255 [T.ro (lM a)] (fun r:(List (List Int))=>[lM r]) (fun _=>[]) (zUi a)):=⟨Tryz.call255,fun a=>iM Tryz.func255⟩
instance t_bW:FI J0 266 (∀(a:Int),FnK J0 266 [I a] (fun r=>[B r]) (fun _=>[]) (zWD a)):=⟨Tryz.call266,fun a=>iM Tryz.func266⟩
instance t_bV:FI J0 264 (∀(a:Int),FnK J0 264 [I a] (fun r=>[B r]) (fun _=>[]) (zW9 a)):=⟨Tryz.call264,fun a=>iM Tryz.func264⟩
instance:HS Tryz.f62.8 [(2,2,0,.tr 9 11),(0,37,0,.tr 18 9)]:=⟨⟩
instance(c:Int)(d:List Int)(e:Int)(f:List Int):LH (R:=(List Int)) (zMJ c d e f) [0,1,2,3] [] (fun b=>[(9,L 1 I b.1),(10,I b.2)]) (.xe 0 [0,1,2,3] fun a=>[(9,L 1 I a)]):=⟨⟩
instance t_aX:FI J0 62 (∀(a:Int)(b:List Int)(c:Int)(d:List Int),FnK J0 62 [I a,T.ro (lV b),I c,T.ro (lV d)] (fun r=>[lV r]) (fun _=>[]) (zXw a b c d)):=⟨Tryz.call62,fun a b c d=>iM Tryz.func62⟩
end
end Go.Wk
