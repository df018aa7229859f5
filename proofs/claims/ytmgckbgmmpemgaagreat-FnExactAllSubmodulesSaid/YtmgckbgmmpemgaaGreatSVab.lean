/- x -/
import Derived.Test.YtmgckbgmmpemgaaGreatSWT
open Go.Proofs.Tryz renaming prog→J0,underlying22→L2,call99→Qy
open Option renaming some→VU,none→VV
open Bool renaming true→VW,false→VX
namespace Go.Wk
open Go Go.Proofs Go.Ab
set_option maxRecDepth 100000
set_option maxHeartbeats 4000000
section
attribute [local irreducible] RW CW DK OkL Ok yM yJ wN vO XS.post rng yQ vN ixO yG xC wV yW zI GTo zN FnC FnK vT uL Kp Lk BsL BuL RpL Bk Lc
instance t_a9:FI J0 17 (∀(a:List Int)(b:Int),FnK J0 17 [T.ro (lV a),I b] (fun r=>[I r]) (fun _=>[]) (zPT a b)):=⟨Tryz.call17,fun a b=>iM Tryz.func17⟩
instance:HS Tryz.f23.8 [(2,2,0,.tr 3 7)]:=⟨⟩
instance(b:List Int):LH (R:=(List Int)) (zPU b) [0] [] (fun a=>[(3,L 1 I a.1),(4,I a.2)]) (.xe 0 [0] fun c=>[(3,L 1 I c)]):=⟨⟩
instance t_ap:FI J0 23 (∀(a:List Int),FnK J0 23 [T.ro (lV a)] (fun r=>[lV r]) (fun _=>[]) (zNS a)):=⟨Tryz.call23,fun a=>iM Tryz.func23⟩
instance:HS Tryz.f70.8 [(2,2,0,.tr 7 12),(2,6,0,.tr 9 18),(0,41,0,.tr 27 9),(0,44,0,.tr 42 9),(2,4,0,.tr 7 44)]:=⟨⟩
instance(b:Int)(c:(List Int)×Int):LH (R:=Int) (zUZ b c) [0,1,2,7,8] [] (fun a=>[(9,L 1 I a.1),(10,I a.2.1),(11,I a.2.2)]) (.xe 2 [7] fun d=>[(9,L 1 I d)]):=⟨⟩
instance(c d:Int):LH (R:=Int) (zS3 c d) [0,1,2] [] (fun b=>[(7,L 1 I b.1),(8,I b.2)]) (.xe 0 [0,1] fun a=>[(7,L 1 I a)]):=⟨⟩
instance t_Z:FI J0 70 (∀(a b c:Int),FnK J0 70 [I a,I b,I c] (fun r=>[I r]) (fun _=>[]) (f_Z a b c)):=⟨Tryz.call70,fun a b c=>iM Tryz.func70⟩
instance:HS Tryz.f99.8 [(2,2,0,.tr 3 5),(0,17,0,.tr 12 3),(2,4,0,.tr 3 17)]:=⟨⟩
instance(b:List (List Int)):LH (R:=(List Int)) (zRa b) [0] [] (fun a=>[(3,L 1 I a.1),(4,I a.2)]) (.xe 0 [0] fun c=>[(3,L 1 I c)]):=⟨⟩
instance t_an:FI J0 99 (∀(a:List (List Int)),FnK J0 99 [T.ro (lM a)] (fun r=>[lV r]) (fun _=>[]) (zRb a)):=⟨Qy,fun a=>iM Tryz.func99⟩
end
theorem u_J(x0:List Int)(r:(List Int))(h:f_J x0=VU r):FnC J0 89 [T.ro (lV x0)] [lV r] []:=by
 refine fB Tryz.func89 (fun St W w0 v=>?_);refine sR (oP (zAQ 1 rfl) ?_);refine rN (CW.seq (sR (zB ?_)));refine RW.isnil L2 (tS rfl rfl) (.inl rfl) rfl rfl (fun b1 VN=>?_);refine rN (CW.cond _ rfl (fun hc=>?_) (fun hc=>?_));have hx:=VN hc;subst hx;have h:VU ([])=VU r:=by simpa[xC,f_J]using h
 refine sR (oP (zAQ 1 rfl) ?_);refine rN (CW.ret (rA ?_));obtain rfl:=sI h;exact rT;refine CW.skip (nA (sR (oP (zGJ elt_22 rfl) ?_)));refine zB ?_;obtain⟨v2,eg,h⟩:=bd h;refine oP (zLh (f:=I) (g:=I) elt_22 (fun _=>rfl) (fun _=>rfl) inferInstance eg rfl (tS rfl rfl) rfl) ?_;refine zH ?_;refine RW.ghost (zN.tr 2 7 _ rfl rfl (zC (zE (Enc.clean (f:=I)))) rfl) ?_;refine rN (CW.ret ?_);obtain rfl:=sI h;exact rT
instance t_J:FI J0 89 (∀(a:List Int),FnK J0 89 [T.ro (lV a)] (fun r=>[lV r]) (fun _=>[]) (f_J a)):=⟨Tryz.call89,fun a=>FnK.mk (u_J a)⟩
section
attribute [local irreducible] RW CW DK OkL Ok yM yJ wN vO XS.post rng yQ vN ixO yG xC wV yW zI GTo zN FnC FnK vT uL Kp Lk BsL BuL RpL Bk Lc
instance t_bB:FI J0 131 (∀(a b:Int),FnK J0 131 [(IK .u64) a,(IK .u64) b] (fun r=>[(IK .u64) r.1,(IK .u64) r.2]) (fun _=>[]) (zWB a b)):=⟨Tryz.call131,fun a b=>iM Tryz.func131⟩
instance(a b:List Int):LH (R:=Bool) (zQK a b) [0,1] [] (fun c=>[(5,I c)]) (.xs (.xe 0 [0,1] fun _=>[]) .xr):=⟨⟩
instance t_aC:FI J0 30 (∀(a b:List Int),FnK J0 30 [T.ro (lV a),T.ro (lV b)] (fun r=>[B r]) (fun _=>[]) (zQL a b)):=⟨Tryz.call30,fun a b=>iM Tryz.func30⟩
instance:LH (R:=Int×(List Int)) zNm [] [] (fun a=>[(0,L 1 I a.1),(1,I a.2.1),(5,I a.2.2)]) (.xe 0 [] fun b=>[(0,L 1 I b.1),(1,I b.2)]):=⟨⟩
instance t_ac:FI J0 33 (∀(a:List Int)(b:Int),FnK J0 33 [L 1 I a,I b] (fun r:Int×(List Int)=>[I r.1]) (fun r=>[(0,lV r.2)]) (zNY a b)):=⟨Tryz.call33,fun a b=>iM Tryz.func33⟩
instance(b:List Int):LH (R:=Int) (zKP b) [0] [] (fun a=>[(1,I a.1),(5,I a.2)]) (.xs (.xe 0 [0] fun c=>[(1,I c)]) .xr):=⟨⟩
instance t_ad:FI J0 60 (∀(a:List Int)(b:Int),FnK J0 60 [T.ro (lV a),I b] (fun r=>[I r]) (fun _=>[]) (zQQ a b)):=⟨Tryz.call60,fun a b=>iM Tryz.func60⟩
end
end Go.Wk
