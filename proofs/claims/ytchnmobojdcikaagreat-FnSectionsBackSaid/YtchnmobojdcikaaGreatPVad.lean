/- x -/
import Derived.Test.YtchnmobojdcikaaGreatPWT
open Go.Proofs.Tryz renaming prog→J0,underlying24→Kz,underlying3→H2,call233→Up,call114→Ja1
open Option renaming some→aB,none→aC
open Bool renaming true→aD,false→aE
namespace Go.Wk
open Go Go.Proofs Go.Ab
set_option maxRecDepth 100000
set_option maxHeartbeats 4000000
section
attribute [local irreducible] RW CW DK OkL Ok yA yB xE xH XS.post rng xK yV ixO zN yD xC zU zC GTo zO FnC FnK xV wG Kp Lk BsL BuL RpL Bk Lc JQ AK
instance:HS Tryz.f110.8 [(2,2,0,.tr 3 7)]:=⟨⟩
instance(a:List Int):LH (R:=zH) (zPO a) [0] [] (fun b=>[(3,T.ptr (T.agg [T.ro ((L 1 (IK .u8)) a),I 0,I b.1])),(4,I b.2)]) (.xe 0 [0] fun c=>[(3,T.ptr (T.agg [T.ro ((L 1 (IK .u8)) a),I 0,I c]))]):=⟨⟩
instance t_aE:FI J0 110 (∀(a:List Int),FnK J0 110 [T.ro ((L 1 (IK .u8)) a)] (fun r=>[(Pt (fun x=>T.agg [(Ro (L 1 (IK .u8))) x.code,I x.at_,I x.seed])) r]) (fun _=>[]) (zPP a)):=⟨Tryz.call110,fun a=>iM Tryz.func110⟩
instance t_at:FI J0 233 (∀(a:Int),FnK J0 233 [I a] (fun r=>[B r]) (fun _=>[]) (zMO a)):=⟨Up,fun a=>iM Tryz.func233⟩
instance t_af:FI J0 114 (∀(a b c:Int),FnK J0 114 [I a,I b,I c] (fun r=>[B r]) (fun _=>[]) (zHP a b c)):=⟨Ja1,fun a b c=>iM Tryz.func114⟩
instance(a:List Int):LH (R:=Bool) (zMP a) [5,6] [] (fun b=>[(7,I b)]) (.xs (.xe 0 [5,6] fun _=>[]) .xr):=⟨⟩
instance t_V:FI J0 207 (∀(a:List Int),FnK J0 207 [T.ro (lV a)] (fun r=>[B r]) (fun _=>[]) (f_V a)):=⟨Tryz.call207,fun a=>iM Tryz.func207⟩
instance t_aS:FI J0 160 (∀(a:zG)(b:Int),FnK J0 160 [T.ro ((Pt xU) a),I b] (fun r=>[(fun x=>T.agg [I x.Prime,I x.qE,(Ro lM) x.Rows]) r]) (fun _=>[]) (zMS a b)):=⟨Tryz.call160,fun a b=>iM Tryz.func160⟩
instance t_bL:FI J0 332 (∀(a b:Int),FnK J0 332 [(IK .u32) a,(IK .u32) b] (fun r=>[(IK .u32) r.1,(IK .u32) r.2]) (fun _=>[]) (zX1 a b)):=⟨Tryz.call332,fun a b=>iM Tryz.func332⟩
instance t_bI:FI J0 333 (∀(a b:Int),FnK J0 333 [(IK .u64) a,(IK .u64) b] (fun r=>[(IK .u64) r.1,(IK .u64) r.2]) (fun _=>[]) (zWz a b)):=⟨Tryz.call333,fun a b=>iM Tryz.func333⟩
instance:HS Tryz.f135.8 [(0,20,0,.tr 16 3),(2,8,0,.tr 3 20)]:=⟨⟩
instance(b:(List Int)×Int)(c:Int):LH (R:=(List Int)) (zP0 b c) [4,6,7,8,13] [] (fun a=>[(3,L 1 I a.1),(14,I a.2)]) (.xe 2 [4,13] fun d=>[(3,L 1 I d)]):=⟨⟩
instance(b:List Int):LH (R:=(List Int)) (zP1 b) [6,7] [] (fun a=>[(3,L 1 I a.1),(8,I a.2)]) (.xe 0 [6,7] fun c=>[(3,L 1 I c)]):=⟨⟩
instance t_O:FI J0 135 (∀(a:List Int),FnK J0 135 [T.ro (lV a)] (fun r=>[lV r]) (fun _=>[]) (f_O a)):=⟨Tryz.call135,fun a=>iM Tryz.func135⟩
instance:HS Tryz.f242.8 [(2,6,0,.tr 7 16),(0,23,0,.tr 22 7),(0,24,0,.trq 21 5 [2,0]),(1,4,0,.trf 27 2 5 [2,0])]:=⟨⟩
instance(a:Int):LN (zHe a) 5:=⟨⟩
instance(a:Int)(A0 A1 A2:T):LHk (R:=yE) (zHe a) (T.ptr (T.agg [A0,A1,A2])) [1,4,11] [] (fun b=>[(5,T.ptr (T.agg [A0,I a,L 1 lV b.1])),(12,I b.2)]) (.xe 0 [1,11] fun c=>[(5,T.ptr (T.agg [A0,I a,L 1 lV c]))]):=⟨⟩
instance t_ah:FI J0 242 (∀(a b:Int),FnK J0 242 [I a,I b] (fun r=>[zDD r]) (fun _=>[]) (zR6 a b)):=⟨Tryz.call242,fun a b=>iM Tryz.func242⟩
instance t_aY:FI J0 220 (∀(a b:Int),FnK J0 220 [I a,I b] (fun r=>[I r]) (fun _=>[]) (zMT a b)):=⟨Tryz.call220,fun a b=>iM Tryz.func220⟩
instance t_bo:FI J0 236 (∀(a:SPr),FnK J0 236 [T.ro ((Pt xT) a)] (fun r=>[I r]) (fun _=>[]) (zRC a)):=⟨Tryz.call236,fun a=>iM Tryz.func236⟩
end
theorem zXv(x1:Int)(r:(List Int))(h:zP9 x1=aB r):FnC J0 219 [T.lit (.slice aC 0 0),I x1] [lV r] []:=by
 refine fB Tryz.func219 (fun St W w0 v=>?_);refine sR (oP (zLd 1 rfl) ?_);refine rN (CW.seq (sR (tH ?_)));refine zIE ?_;refine rN (cn h (fun hc h=>?_) (fun hc h=>?_))
 ·refine CW.region ?_
  cases h
 ·refine CW.skip (nA (CW.seq (sR (tH ?_))))
  refine tH ?_;refine oP (zI8 Kz rfl rfl) ?_;refine tH ?_;refine oP (zI7 Kz rfl rfl) ?_;obtain⟨v1,hv1,h⟩:=bd h;refine zSC ?_;obtain⟨v2,cR,h⟩:=bd h;refine zSC ?_;refine zAK ?_;refine rN (sR (tH ?_));refine zVm ?_;refine rN (cn h (fun hc h=>?_) (fun hc h=>?_))
  ·refine CW.region (tH ?_)
   refine tH ?_;refine oP (zI8 Kz rfl rfl) ?_;refine oP (zQC elt_24 rfl rfl rfl) ?_;refine tH ?_;obtain⟨v3,cj,h⟩:=bd h;refine oP (zNY (f:=I) (z:=0) elt_24 H2 (rfl) cj rfl rfl rfl) ?_;refine tH ?_;refine oP (zI7 Kz rfl rfl) ?_;obtain⟨v4,pM,h⟩:=bd h;refine oP (zVd (f:=I) elt_24 pM rfl rfl (.inl rfl) rfl) ?_;refine zAK ?_;refine RW.ghost (zO.tr 0 25 _ rfl rfl (zAZ (zDT (Enc.clean (f:=I)))) rfl) ?_;refine rN (sR (tH ?_));refine zAK ?_;refine RW.ghost (zO.tr 4 0 _ rfl rfl (zAZ (zDT (Enc.clean (f:=I)))) rfl) ?_;refine rN (CW.ret ?_);obtain rfl:=sI h;exact rT
  ·refine CW.skip (nA (sR (tH ?_)))
   refine zAK ?_;refine rN (CW.ghost (zO.nil 4 1 rfl) ?_);refine CW.ret ?_;obtain rfl:=sI h;exact rT
instance t_aV:FI J0 219 (∀(a:Int),FnK J0 219 [T.lit (.slice aC 0 0),I a] (fun r=>[lV r]) (fun _=>[]) (zP9 a)):=⟨Tryz.call219,fun a=>FnK.mk (zXv a)⟩
section
attribute [local irreducible] RW CW DK OkL Ok yA yB xE xH XS.post rng xK yV ixO zN yD xC zU zC GTo zO FnC FnK xV wG Kp Lk BsL BuL RpL Bk Lc JQ AK
instance(a b:List Int):LH (R:=Bool) (zTb a b) [0,1] [] (fun c=>[(5,I c)]) (.xs (.xe 0 [0,1] fun _=>[]) .xr):=⟨⟩
instance t_aO:FI J0 36 (∀(a b:List Int),FnK J0 36 [T.ro (lV a),T.ro (lV b)] (fun r=>[B r]) (fun _=>[]) (zQi a b)):=⟨Tryz.call36,fun a b=>iM Tryz.func36⟩
end
end Go.Wk
