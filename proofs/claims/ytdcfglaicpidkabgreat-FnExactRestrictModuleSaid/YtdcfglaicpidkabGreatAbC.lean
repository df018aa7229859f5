/- The program and the reference return the same modules restricted to submodules, for all arguments (FnExactRestrictModule). This file is a part of the proof. -/
import Derived.Test.YtdcfglaicpidkabGreatAbB
namespace Go.Ab
open Go
section
variable {P:Program} {Γ:Ctx} {pn:Pins} {E E':Env} {Q:Exit → Env → Prop} {ops:Array Oper} {o:Oper} {os:List Oper} {id d:Nat} {wr:Wr} {chg:Chg} {hs:List Nat} {E0:Env} {acc:List Stp} {x y:Operand} {ty:TypeId} {ps:String} {af:Array Edge} {gd:Option (Nat × Bool)}
class SliI (P:Program) (t:TypeId) (e:outParam TypeId):Prop where
 h:P.underlying t = some (.slice e)
class VarI (P:Program) (t:TypeId) (b:outParam Bool) (n:outParam Nat):Prop where
 h:∀ u:T,u.single = b → u.size = n → VarT P t u
theorem hE {rd:List (Nat × T)} {s:Nat} {t:T} (h:E.Has rd) (hr:envL rd s = some t):E s = some t:=h.le s t hr
theorem hO {rd:List (Nat × T)} {t:T} (h:E.Has rd) (hr:opT (envL rd) x = some t):opT E x = some t:=by
 cases x <;> simp only [opT] at hr ⊢
 ·exact h.le _ _ hr
 all_goals exact hr
mutual
def cleanB:T → Bool
 | .ro _ | .lit _ | .any => true
 | .agg xs | .tup xs => cleanBs xs
 | .ptr t => cleanB t
 | .sl _ [] => true
 | _ => false
def cleanBs:List T → Bool
 | [] => true
 | x :: xs => cleanB x && cleanBs xs
end
mutual
theorem cleanB_ok:{t:T} → cleanB t = true → Clean t
 | .ro _,_ | .lit _,_ | .any,_ => by simp [Clean,AllR]
 | .agg xs,h | .tup xs,h => by simp only [cleanB] at h;simpa only [Clean,AllR] using cleanBs_ok h
 | .ptr t,h => by simp only [cleanB] at h;exact cleanP (cleanB_ok h)
 | .sl _ [],_ => by simp [Clean,AllR,AllRs]
 | .sl _ (_ :: _),h => by simp [cleanB] at h
 | .same _ _,h | .addr _ _,h | .sub _ _ _ _ _,h => by simp [cleanB] at h
theorem cleanBs_ok:{xs:List T} → cleanBs xs = true → Cleans xs
 | [],_ => trivial
 | x :: xs,h => by simp only [cleanBs,Bool.and_eq_true] at h;exact ⟨cleanB_ok h.1,cleanBs_ok h.2⟩
end
theorem y_ix {α:Type} {t e:TypeId} {ti:TypeInfo} {r k:Nat} {q:List Nat} {f:α → T} {xs:List α} {v:α} {i:Int} [ht:RowT P t e ti k] (hx:locT E x = some (r,q,L k f xs)) (hy:opT E y = some (I i)) (hv:ixO xs i = some v) (sd:Nat.blt d Γ.N = true) :
  Ok P Γ ⟨some d,.indexAddr t x y,ty,ps,af,gd⟩ E (E.app [(d,some (.addr r (i.toNat :: q)))] [(d,0)]):=x_ix ht hv hx hy sd
theorem y_ixr {α:Type} {t e:TypeId} {ti:TypeInfo} {r k:Nat} {q:List Nat} {f:α → T} {xs:List α} {v:α} {i:Int} [ht:RowT P t e ti k] (hx:locT E x = some (r,q,.ro (L k f xs))) (hy:opT E y = some (I i)) (hv:ixO xs i = some v) (sd:Nat.blt d Γ.N = true) :
  Ok P Γ ⟨some d,.indexAddr t x y,ty,ps,af,gd⟩ E (E.app [(d,some (.ro (.ptr (f v))))] [(d,0)]):=x_ixr ht hv hx hy sd
theorem y_ldr {t:TypeId} {u:T} {b:Bool} {n:Nat} [i:VarI P t b n] (hx:opT E x = some (.ro (.ptr u))) (h1:u.single = b) (h2:u.size = n) (sd:Nat.blt d Γ.N = true):Ok P Γ ⟨some d,.load t x,ty,ps,af,gd⟩ E (E.app [(d,some (roT u))] [(d,0)]):=x_ldr (i.h u h1 h2) hx sd
theorem y_ld {t:TypeId} {u tr:T} {r:Nat} {q:List Nat} {b:Bool} {n:Nat} [i:VarI P t b n] (hx:opT E x = some (.addr r q)) (hr:E r = some tr) (hg:tr.get q.reverse = some u) (h1:u.single = b) (h2:u.size = n) (sd:(Nat.blt d Γ.N && tr.locd q.reverse && (r != d) && T.okB [(d,0)] (cpT r u q)) = true) :
  Ok P Γ ⟨some d,.load t x,ty,ps,af,gd⟩ E (E.app [(d,some (cpT r u q))] [(d,0)]):=x_ld (i.h u h1 h2) hx hr hg sd
theorem y_ldp {t:TypeId} {u tr t0:T} {r:Nat} {q:List Nat} {b:Bool} {n:Nat} [i:VarI P t b n] (hx:locT E x = some (r,q,.ptr t0)) (hr:E r = some tr) (hg:tr.get (0 :: q).reverse = some u) (h1:u.single = b) (h2:u.size = n) (sd:(Nat.blt d Γ.N && tr.locd (0 :: q).reverse && (r != d) && T.okB [(d,0)] (cpT r u (0 :: q))) = true) :
  Ok P Γ ⟨some d,.load t x,ty,ps,af,gd⟩ E (E.app [(d,some (cpT r u (0 :: q)))] [(d,0)]):=x_ldp (i.h u h1 h2) hx hr hg sd
theorem y_len {α:Type} {t e:TypeId} {r k:Nat} {q:List Nat} {f:α → T} {xs:List α} [i:SliI P t e] (hx:locT E x = some (r,q,L k f xs)) (sd:Nat.blt d Γ.N = true) :
  Ok P Γ ⟨some d,.call { callee:=.builtin .len,args:=#[x],argTypes:=#[t] },ty,ps,af,gd⟩ E (E.app [(d,some (I (xs.length:Int)))] [(d,0)]):=x_len i.h hx sd
theorem y_lenr {α:Type} {t e:TypeId} {r k:Nat} {q:List Nat} {f:α → T} {xs:List α} [i:SliI P t e] (hx:locT E x = some (r,q,.ro (L k f xs))) (sd:Nat.blt d Γ.N = true) :
  Ok P Γ ⟨some d,.call { callee:=.builtin .len,args:=#[x],argTypes:=#[t] },ty,ps,af,gd⟩ E (E.app [(d,some (I (xs.length:Int)))] [(d,0)]):=x_lenr i.h hx sd
theorem a_mv (k:RW P Γ pn ops os (E.app wr chg) Q) (h:Ok P Γ o E (E.app wr chg):=by exact x_mv rfl rfl) (hg:o.guard = none:=by rfl) (hp:pn.ok o.dst = true:=by rfl):RW P Γ pn ops (o :: os) E Q:=oP h k hg hp
theorem g_mv {g s:Nat} {b:Bool} (k:RW P Γ pn ops os (E.app wr chg) Q) (hg:o.guard = some (g,b):=by rfl) (hgo:(ops[g]?).bind (·.dst) = some s:=by rfl) (hb:E s = some (.lit (.bool b)):=by rfl) (h:Ok P Γ o E (E.app wr chg):=by exact x_mv rfl rfl) (hp:pn.ok o.dst = true:=by rfl):RW P Γ pn ops (o :: os) E Q:=RW.cons (IxOk.guard g b s h hg hgo hb) k hp
theorem a_as (k:RW P Γ pn ops os (E.app wr chg) Q) (h:Ok P Γ o E (E.app wr chg):=by exact x_as rfl rfl) (hg:o.guard = none:=by rfl) (hp:pn.ok o.dst = true:=by rfl):RW P Γ pn ops (o :: os) E Q:=oP h k hg hp
theorem a_ldr (k:RW P Γ pn ops os (E.app wr chg) Q) (h:Ok P Γ o E (E.app wr chg):=by exact y_ldr rfl rfl rfl rfl) (hg:o.guard = none:=by rfl) (hp:pn.ok o.dst = true:=by rfl):RW P Γ pn ops (o :: os) E Q:=oP h k hg hp
theorem g_ldr {g s:Nat} {b:Bool} (k:RW P Γ pn ops os (E.app wr chg) Q) (hg:o.guard = some (g,b):=by rfl) (hgo:(ops[g]?).bind (·.dst) = some s:=by rfl) (hb:E s = some (.lit (.bool b)):=by rfl) (h:Ok P Γ o E (E.app wr chg):=by exact y_ldr rfl rfl rfl rfl) (hp:pn.ok o.dst = true:=by rfl):RW P Γ pn ops (o :: os) E Q:=RW.cons (IxOk.guard g b s h hg hgo hb) k hp
theorem a_ixr (k:RW P Γ pn ops os (E.app wr chg) Q) (h:Ok P Γ o E (E.app wr chg):=by exact y_ixr (by first | exact locB rfl rfl | exact locA rfl rfl (by first | rfl | exact getc (by assumption) rfl | exact getc (by assumption) (getc (by assumption) rfl) | exact geta rfl (getc (by assumption) rfl) | exact getp (getc (by assumption) rfl) | exact getp (geta rfl (getc (by assumption) rfl)) | exact getp (geta rfl (getc (by assumption) (getc (by assumption) rfl)))) rfl) rfl (by assumption) rfl) (hg:o.guard = none:=by rfl) (hp:pn.ok o.dst = true:=by rfl):RW P Γ pn ops (o :: os) E Q:=oP h k hg hp
theorem a_lenr (k:RW P Γ pn ops os (E.app wr chg) Q) (h:Ok P Γ o E (E.app wr chg):=by exact y_lenr (by first | exact locB rfl rfl | exact locA rfl rfl (by first | rfl | exact getc (by assumption) rfl | exact getc (by assumption) (getc (by assumption) rfl) | exact geta rfl (getc (by assumption) rfl) | exact getp (getc (by assumption) rfl) | exact getp (geta rfl (getc (by assumption) rfl)) | exact getp (geta rfl (getc (by assumption) (getc (by assumption) rfl)))) rfl) rfl) (hg:o.guard = none:=by rfl) (hp:pn.ok o.dst = true:=by rfl):RW P Γ pn ops (o :: os) E Q:=oP h k hg hp
theorem g_lenr {g s:Nat} {b:Bool} (k:RW P Γ pn ops os (E.app wr chg) Q) (hg:o.guard = some (g,b):=by rfl) (hgo:(ops[g]?).bind (·.dst) = some s:=by rfl) (hb:E s = some (.lit (.bool b)):=by rfl) (h:Ok P Γ o E (E.app wr chg):=by exact y_lenr (by first | exact locB rfl rfl | exact locA rfl rfl (by first | rfl | exact getc (by assumption) rfl | exact getc (by assumption) (getc (by assumption) rfl) | exact geta rfl (getc (by assumption) rfl) | exact getp (getc (by assumption) rfl) | exact getp (geta rfl (getc (by assumption) rfl)) | exact getp (geta rfl (getc (by assumption) (getc (by assumption) rfl)))) rfl) rfl) (hp:pn.ok o.dst = true:=by rfl):RW P Γ pn ops (o :: os) E Q:=RW.cons (IxOk.guard g b s h hg hgo hb) k hp
theorem a_add (k:RW P Γ pn ops os (E.app wr chg) Q) (h:Ok P Γ o E (E.app wr chg):=by exact x_add (by assumption) rfl rfl rfl) (hg:o.guard = none:=by rfl) (hp:pn.ok o.dst = true:=by rfl):RW P Γ pn ops (o :: os) E Q:=oP h k hg hp
theorem g_add {g s:Nat} {b:Bool} (k:RW P Γ pn ops os (E.app wr chg) Q) (hg:o.guard = some (g,b):=by rfl) (hgo:(ops[g]?).bind (·.dst) = some s:=by rfl) (hb:E s = some (.lit (.bool b)):=by rfl) (h:Ok P Γ o E (E.app wr chg):=by exact x_add (by assumption) rfl rfl rfl) (hp:pn.ok o.dst = true:=by rfl):RW P Γ pn ops (o :: os) E Q:=RW.cons (IxOk.guard g b s h hg hgo hb) k hp
theorem a_lss (k:RW P Γ pn ops os (E.app wr chg) Q) (h:Ok P Γ o E (E.app wr chg):=by exact x_lss rfl rfl rfl) (hg:o.guard = none:=by rfl) (hp:pn.ok o.dst = true:=by rfl):RW P Γ pn ops (o :: os) E Q:=oP h k hg hp
theorem g_lss {g s:Nat} {b:Bool} (k:RW P Γ pn ops os (E.app wr chg) Q) (hg:o.guard = some (g,b):=by rfl) (hgo:(ops[g]?).bind (·.dst) = some s:=by rfl) (hb:E s = some (.lit (.bool b)):=by rfl) (h:Ok P Γ o E (E.app wr chg):=by exact x_lss rfl rfl rfl) (hp:pn.ok o.dst = true:=by rfl):RW P Γ pn ops (o :: os) E Q:=RW.cons (IxOk.guard g b s h hg hgo hb) k hp
theorem a_pick (k:RW P Γ pn ops os (E.app wr chg) Q) (h:Ok P Γ o E (E.app wr chg):=by exact x_pick rfl rfl rfl) (hg:o.guard = none:=by rfl) (hp:pn.ok o.dst = true:=by rfl):RW P Γ pn ops (o :: os) E Q:=oP h k hg hp
theorem a_fa (k:RW P Γ pn ops os (E.app wr chg) Q) (h:Ok P Γ o E (E.app wr chg):=by exact x_fa inferInstance (by first | exact locB rfl rfl | exact locA rfl rfl (by first | rfl | exact getc (by assumption) rfl | exact getc (by assumption) (getc (by assumption) rfl) | exact geta rfl (getc (by assumption) rfl) | exact getp (getc (by assumption) rfl) | exact getp (geta rfl (getc (by assumption) rfl)) | exact getp (geta rfl (getc (by assumption) (getc (by assumption) rfl)))) rfl) rfl rfl rfl) (hg:o.guard = none:=by rfl) (hp:pn.ok o.dst = true:=by rfl):RW P Γ pn ops (o :: os) E Q:=oP h k hg hp
theorem g_fa {g s:Nat} {b:Bool} (k:RW P Γ pn ops os (E.app wr chg) Q) (hg:o.guard = some (g,b):=by rfl) (hgo:(ops[g]?).bind (·.dst) = some s:=by rfl) (hb:E s = some (.lit (.bool b)):=by rfl) (h:Ok P Γ o E (E.app wr chg):=by exact x_fa inferInstance (by first | exact locB rfl rfl | exact locA rfl rfl (by first | rfl | exact getc (by assumption) rfl | exact getc (by assumption) (getc (by assumption) rfl) | exact geta rfl (getc (by assumption) rfl) | exact getp (getc (by assumption) rfl) | exact getp (geta rfl (getc (by assumption) rfl)) | exact getp (geta rfl (getc (by assumption) (getc (by assumption) rfl)))) rfl) rfl rfl rfl) (hp:pn.ok o.dst = true:=by rfl):RW P Γ pn ops (o :: os) E Q:=RW.cons (IxOk.guard g b s h hg hgo hb) k hp
theorem a_ld (k:RW P Γ pn ops os (E.app wr chg) Q) (h:Ok P Γ o E (E.app wr chg):=by first | exact y_ld rfl rfl rfl rfl rfl rfl | exact y_ld rfl rfl (by first | rfl | exact getc (by assumption) rfl | exact getc (by assumption) (getc (by assumption) rfl) | exact geta rfl (getc (by assumption) rfl) | exact getp (getc (by assumption) rfl) | exact getp (geta rfl (getc (by assumption) rfl)) | exact getp (geta rfl (getc (by assumption) (getc (by assumption) rfl)))) (by rfl) (by rfl) (by rfl)) (hg:o.guard = none:=by rfl) (hp:pn.ok o.dst = true:=by rfl):RW P Γ pn ops (o :: os) E Q:=oP h k hg hp
theorem g_ld {g s:Nat} {b:Bool} (k:RW P Γ pn ops os (E.app wr chg) Q) (hg:o.guard = some (g,b):=by rfl) (hgo:(ops[g]?).bind (·.dst) = some s:=by rfl) (hb:E s = some (.lit (.bool b)):=by rfl) (h:Ok P Γ o E (E.app wr chg):=by first | exact y_ld rfl rfl rfl rfl rfl rfl | exact y_ld rfl rfl (by first | rfl | exact getc (by assumption) rfl | exact getc (by assumption) (getc (by assumption) rfl) | exact geta rfl (getc (by assumption) rfl) | exact getp (getc (by assumption) rfl) | exact getp (geta rfl (getc (by assumption) rfl)) | exact getp (geta rfl (getc (by assumption) (getc (by assumption) rfl)))) (by rfl) (by rfl) (by rfl)) (hp:pn.ok o.dst = true:=by rfl):RW P Γ pn ops (o :: os) E Q:=RW.cons (IxOk.guard g b s h hg hgo hb) k hp
theorem a_ldp (k:RW P Γ pn ops os (E.app wr chg) Q) (h:Ok P Γ o E (E.app wr chg):=by first | exact y_ldp (by first | exact locB rfl rfl | exact locA rfl rfl (by first | rfl | exact getc (by assumption) rfl | exact getc (by assumption) (getc (by assumption) rfl) | exact geta rfl (getc (by assumption) rfl) | exact getp (getc (by assumption) rfl) | exact getp (geta rfl (getc (by assumption) rfl)) | exact getp (geta rfl (getc (by assumption) (getc (by assumption) rfl)))) rfl) rfl rfl rfl rfl rfl | exact y_ldp (by first | exact locB rfl rfl | exact locA rfl rfl (by first | rfl | exact getc (by assumption) rfl | exact getc (by assumption) (getc (by assumption) rfl) | exact geta rfl (getc (by assumption) rfl) | exact getp (getc (by assumption) rfl) | exact getp (geta rfl (getc (by assumption) rfl)) | exact getp (geta rfl (getc (by assumption) (getc (by assumption) rfl)))) rfl) rfl (by first | rfl | exact getc (by assumption) rfl | exact getc (by assumption) (getc (by assumption) rfl) | exact geta rfl (getc (by assumption) rfl) | exact getp (getc (by assumption) rfl) | exact getp (geta rfl (getc (by assumption) rfl)) | exact getp (geta rfl (getc (by assumption) (getc (by assumption) rfl)))) (by rfl) (by rfl) (by rfl)) (hg:o.guard = none:=by rfl) (hp:pn.ok o.dst = true:=by rfl):RW P Γ pn ops (o :: os) E Q:=oP h k hg hp
theorem g_ldp {g s:Nat} {b:Bool} (k:RW P Γ pn ops os (E.app wr chg) Q) (hg:o.guard = some (g,b):=by rfl) (hgo:(ops[g]?).bind (·.dst) = some s:=by rfl) (hb:E s = some (.lit (.bool b)):=by rfl) (h:Ok P Γ o E (E.app wr chg):=by first | exact y_ldp (by first | exact locB rfl rfl | exact locA rfl rfl (by first | rfl | exact getc (by assumption) rfl | exact getc (by assumption) (getc (by assumption) rfl) | exact geta rfl (getc (by assumption) rfl) | exact getp (getc (by assumption) rfl) | exact getp (geta rfl (getc (by assumption) rfl)) | exact getp (geta rfl (getc (by assumption) (getc (by assumption) rfl)))) rfl) rfl rfl rfl rfl rfl | exact y_ldp (by first | exact locB rfl rfl | exact locA rfl rfl (by first | rfl | exact getc (by assumption) rfl | exact getc (by assumption) (getc (by assumption) rfl) | exact geta rfl (getc (by assumption) rfl) | exact getp (getc (by assumption) rfl) | exact getp (geta rfl (getc (by assumption) rfl)) | exact getp (geta rfl (getc (by assumption) (getc (by assumption) rfl)))) rfl) rfl (by first | rfl | exact getc (by assumption) rfl | exact getc (by assumption) (getc (by assumption) rfl) | exact geta rfl (getc (by assumption) rfl) | exact getp (getc (by assumption) rfl) | exact getp (geta rfl (getc (by assumption) rfl)) | exact getp (geta rfl (getc (by assumption) (getc (by assumption) rfl)))) (by rfl) (by rfl) (by rfl)) (hp:pn.ok o.dst = true:=by rfl):RW P Γ pn ops (o :: os) E Q:=RW.cons (IxOk.guard g b s h hg hgo hb) k hp
theorem a_sub (k:RW P Γ pn ops os (E.app wr chg) Q) (h:Ok P Γ o E (E.app wr chg):=by exact x_sub (by assumption) rfl rfl rfl) (hg:o.guard = none:=by rfl) (hp:pn.ok o.dst = true:=by rfl):RW P Γ pn ops (o :: os) E Q:=oP h k hg hp
theorem g_sub {g s:Nat} {b:Bool} (k:RW P Γ pn ops os (E.app wr chg) Q) (hg:o.guard = some (g,b):=by rfl) (hgo:(ops[g]?).bind (·.dst) = some s:=by rfl) (hb:E s = some (.lit (.bool b)):=by rfl) (h:Ok P Γ o E (E.app wr chg):=by exact x_sub (by assumption) rfl rfl rfl) (hp:pn.ok o.dst = true:=by rfl):RW P Γ pn ops (o :: os) E Q:=RW.cons (IxOk.guard g b s h hg hgo hb) k hp
theorem a_not (k:RW P Γ pn ops os (E.app wr chg) Q) (h:Ok P Γ o E (E.app wr chg):=by exact x_not rfl rfl) (hg:o.guard = none:=by rfl) (hp:pn.ok o.dst = true:=by rfl):RW P Γ pn ops (o :: os) E Q:=oP h k hg hp
theorem g_not {g s:Nat} {b:Bool} (k:RW P Γ pn ops os (E.app wr chg) Q) (hg:o.guard = some (g,b):=by rfl) (hgo:(ops[g]?).bind (·.dst) = some s:=by rfl) (hb:E s = some (.lit (.bool b)):=by rfl) (h:Ok P Γ o E (E.app wr chg):=by exact x_not rfl rfl) (hp:pn.ok o.dst = true:=by rfl):RW P Γ pn ops (o :: os) E Q:=RW.cons (IxOk.guard g b s h hg hgo hb) k hp
theorem a_neq (k:RW P Γ pn ops os (E.app wr chg) Q) (h:Ok P Γ o E (E.app wr chg):=by exact x_neq rfl rfl rfl) (hg:o.guard = none:=by rfl) (hp:pn.ok o.dst = true:=by rfl):RW P Γ pn ops (o :: os) E Q:=oP h k hg hp
theorem g_neq {g s:Nat} {b:Bool} (k:RW P Γ pn ops os (E.app wr chg) Q) (hg:o.guard = some (g,b):=by rfl) (hgo:(ops[g]?).bind (·.dst) = some s:=by rfl) (hb:E s = some (.lit (.bool b)):=by rfl) (h:Ok P Γ o E (E.app wr chg):=by exact x_neq rfl rfl rfl) (hp:pn.ok o.dst = true:=by rfl):RW P Γ pn ops (o :: os) E Q:=RW.cons (IxOk.guard g b s h hg hgo hb) k hp
theorem a_eql (k:RW P Γ pn ops os (E.app wr chg) Q) (h:Ok P Γ o E (E.app wr chg):=by exact x_eql rfl rfl rfl) (hg:o.guard = none:=by rfl) (hp:pn.ok o.dst = true:=by rfl):RW P Γ pn ops (o :: os) E Q:=oP h k hg hp
theorem g_eql {g s:Nat} {b:Bool} (k:RW P Γ pn ops os (E.app wr chg) Q) (hg:o.guard = some (g,b):=by rfl) (hgo:(ops[g]?).bind (·.dst) = some s:=by rfl) (hb:E s = some (.lit (.bool b)):=by rfl) (h:Ok P Γ o E (E.app wr chg):=by exact x_eql rfl rfl rfl) (hp:pn.ok o.dst = true:=by rfl):RW P Γ pn ops (o :: os) E Q:=RW.cons (IxOk.guard g b s h hg hgo hb) k hp
theorem a_gtr (k:RW P Γ pn ops os (E.app wr chg) Q) (h:Ok P Γ o E (E.app wr chg):=by exact x_gtr rfl rfl rfl) (hg:o.guard = none:=by rfl) (hp:pn.ok o.dst = true:=by rfl):RW P Γ pn ops (o :: os) E Q:=oP h k hg hp
theorem g_gtr {g s:Nat} {b:Bool} (k:RW P Γ pn ops os (E.app wr chg) Q) (hg:o.guard = some (g,b):=by rfl) (hgo:(ops[g]?).bind (·.dst) = some s:=by rfl) (hb:E s = some (.lit (.bool b)):=by rfl) (h:Ok P Γ o E (E.app wr chg):=by exact x_gtr rfl rfl rfl) (hp:pn.ok o.dst = true:=by rfl):RW P Γ pn ops (o :: os) E Q:=RW.cons (IxOk.guard g b s h hg hgo hb) k hp
theorem a_geq (k:RW P Γ pn ops os (E.app wr chg) Q) (h:Ok P Γ o E (E.app wr chg):=by exact x_geq rfl rfl rfl) (hg:o.guard = none:=by rfl) (hp:pn.ok o.dst = true:=by rfl):RW P Γ pn ops (o :: os) E Q:=oP h k hg hp
theorem a_leq (k:RW P Γ pn ops os (E.app wr chg) Q) (h:Ok P Γ o E (E.app wr chg):=by exact x_leq rfl rfl rfl) (hg:o.guard = none:=by rfl) (hp:pn.ok o.dst = true:=by rfl):RW P Γ pn ops (o :: os) E Q:=oP h k hg hp
theorem g_leq {g s:Nat} {b:Bool} (k:RW P Γ pn ops os (E.app wr chg) Q) (hg:o.guard = some (g,b):=by rfl) (hgo:(ops[g]?).bind (·.dst) = some s:=by rfl) (hb:E s = some (.lit (.bool b)):=by rfl) (h:Ok P Γ o E (E.app wr chg):=by exact x_leq rfl rfl rfl) (hp:pn.ok o.dst = true:=by rfl):RW P Γ pn ops (o :: os) E Q:=RW.cons (IxOk.guard g b s h hg hgo hb) k hp
theorem a_far (k:RW P Γ pn ops os (E.app wr chg) Q) (h:Ok P Γ o E (E.app wr chg):=by exact x_far inferInstance rfl rfl rfl rfl) (hg:o.guard = none:=by rfl) (hp:pn.ok o.dst = true:=by rfl):RW P Γ pn ops (o :: os) E Q:=oP h k hg hp
theorem a_nilc (k:RW P Γ pn ops os (E.app wr chg) Q) (h:Ok P Γ o E (E.app wr chg):=by first | exact x_nilc rfl (isPtr_ro rfl) rfl | exact x_nilc rfl (isPtr_addr rfl) rfl | exact x_nilc rfl (isPtr_own (by first | exact locB rfl rfl | exact locA rfl rfl (by first | rfl | exact getc (by assumption) rfl | exact getc (by assumption) (getc (by assumption) rfl) | exact geta rfl (getc (by assumption) rfl) | exact getp (getc (by assumption) rfl) | exact getp (geta rfl (getc (by assumption) rfl)) | exact getp (geta rfl (getc (by assumption) (getc (by assumption) rfl)))) rfl)) rfl) (hg:o.guard = none:=by rfl) (hp:pn.ok o.dst = true:=by rfl):RW P Γ pn ops (o :: os) E Q:=oP h k hg hp
theorem a_ix (k:RW P Γ pn ops os (E.app wr chg) Q) (h:Ok P Γ o E (E.app wr chg):=by exact y_ix (by first | exact locB rfl rfl | exact locA rfl rfl (by first | rfl | exact getc (by assumption) rfl | exact getc (by assumption) (getc (by assumption) rfl) | exact geta rfl (getc (by assumption) rfl) | exact getp (getc (by assumption) rfl) | exact getp (geta rfl (getc (by assumption) rfl)) | exact getp (geta rfl (getc (by assumption) (getc (by assumption) rfl)))) rfl) rfl (by assumption) rfl) (hg:o.guard = none:=by rfl) (hp:pn.ok o.dst = true:=by rfl):RW P Γ pn ops (o :: os) E Q:=oP h k hg hp
theorem g_ix {g s:Nat} {b:Bool} (k:RW P Γ pn ops os (E.app wr chg) Q) (hg:o.guard = some (g,b):=by rfl) (hgo:(ops[g]?).bind (·.dst) = some s:=by rfl) (hb:E s = some (.lit (.bool b)):=by rfl) (h:Ok P Γ o E (E.app wr chg):=by exact y_ix (by first | exact locB rfl rfl | exact locA rfl rfl (by first | rfl | exact getc (by assumption) rfl | exact getc (by assumption) (getc (by assumption) rfl) | exact geta rfl (getc (by assumption) rfl) | exact getp (getc (by assumption) rfl) | exact getp (geta rfl (getc (by assumption) rfl)) | exact getp (geta rfl (getc (by assumption) (getc (by assumption) rfl)))) rfl) rfl (by assumption) rfl) (hp:pn.ok o.dst = true:=by rfl):RW P Γ pn ops (o :: os) E Q:=RW.cons (IxOk.guard g b s h hg hgo hb) k hp
theorem a_len (k:RW P Γ pn ops os (E.app wr chg) Q) (h:Ok P Γ o E (E.app wr chg):=by exact y_len (by first | exact locB rfl rfl | exact locA rfl rfl (by first | rfl | exact getc (by assumption) rfl | exact getc (by assumption) (getc (by assumption) rfl) | exact geta rfl (getc (by assumption) rfl) | exact getp (getc (by assumption) rfl) | exact getp (geta rfl (getc (by assumption) rfl)) | exact getp (geta rfl (getc (by assumption) (getc (by assumption) rfl)))) rfl) rfl) (hg:o.guard = none:=by rfl) (hp:pn.ok o.dst = true:=by rfl):RW P Γ pn ops (o :: os) E Q:=oP h k hg hp
theorem g_len {g s:Nat} {b:Bool} (k:RW P Γ pn ops os (E.app wr chg) Q) (hg:o.guard = some (g,b):=by rfl) (hgo:(ops[g]?).bind (·.dst) = some s:=by rfl) (hb:E s = some (.lit (.bool b)):=by rfl) (h:Ok P Γ o E (E.app wr chg):=by exact y_len (by first | exact locB rfl rfl | exact locA rfl rfl (by first | rfl | exact getc (by assumption) rfl | exact getc (by assumption) (getc (by assumption) rfl) | exact geta rfl (getc (by assumption) rfl) | exact getp (getc (by assumption) rfl) | exact getp (geta rfl (getc (by assumption) rfl)) | exact getp (geta rfl (getc (by assumption) (getc (by assumption) rfl)))) rfl) rfl) (hp:pn.ok o.dst = true:=by rfl):RW P Γ pn ops (o :: os) E Q:=RW.cons (IxOk.guard g b s h hg hgo hb) k hp
theorem a_mul (k:RW P Γ pn ops os (E.app wr chg) Q) (h:Ok P Γ o E (E.app wr chg):=by exact x_mul (by assumption) rfl rfl rfl) (hg:o.guard = none:=by rfl) (hp:pn.ok o.dst = true:=by rfl):RW P Γ pn ops (o :: os) E Q:=oP h k hg hp
theorem a_rem (k:RW P Γ pn ops os (E.app wr chg) Q) (h:Ok P Γ o E (E.app wr chg):=by exact x_rem (by assumption) rfl rfl rfl) (hg:o.guard = none:=by rfl) (hp:pn.ok o.dst = true:=by rfl):RW P Γ pn ops (o :: os) E Q:=oP h k hg hp
theorem a_quo (k:RW P Γ pn ops os (E.app wr chg) Q) (h:Ok P Γ o E (E.app wr chg):=by exact x_quo (by assumption) rfl rfl rfl) (hg:o.guard = none:=by rfl) (hp:pn.ok o.dst = true:=by rfl):RW P Γ pn ops (o :: os) E Q:=oP h k hg hp
theorem a_alloc (k:RW P Γ pn ops os (E.app wr chg) Q) (h:Ok P Γ o E (E.app wr chg):=by exact x_alloc inferInstance rfl) (hg:o.guard = none:=by rfl) (hp:pn.ok o.dst = true:=by rfl):RW P Γ pn ops (o :: os) E Q:=oP h k hg hp
theorem a_ext (k:RW P Γ pn ops os (E.app wr chg) Q) (h:Ok P Γ o E (E.app wr chg):=by exact x_ext rfl rfl rfl) (hg:o.guard = none:=by rfl) (hp:pn.ok o.dst = true:=by rfl):RW P Γ pn ops (o :: os) E Q:=oP h k hg hp
theorem a_box (k:RW P Γ pn ops os (E.app wr chg) Q) (h:Ok P Γ o E (E.app wr chg):=by exact x_box rfl (cleanB_ok rfl) rfl) (hg:o.guard = none:=by rfl) (hp:pn.ok o.dst = true:=by rfl):RW P Γ pn ops (o :: os) E Q:=oP h k hg hp
theorem a_mvT (k:RW P Γ pn ops os (E.app wr chg) Q) (h:Ok P Γ o E (E.app wr chg):=by exact x_mvT rfl rfl) (hg:o.guard = none:=by rfl) (hp:pn.ok o.dst = true:=by rfl):RW P Γ pn ops (o :: os) E Q:=oP h k hg hp
theorem d_mv (rd:List (Nat × T)) (k:DK P Γ pn ops id hs E0 Q os (E.app wr chg) (⟨rd,[(wr,chg)]⟩ :: acc)) (hrd:E.Has rd:=by repeat (first | exact trivial | refine ⟨rfl,?_⟩)) (h:∀ E':Env,E'.Has rd → Ok P Γ o E' (E'.app wr chg):=by intro E' h;exact x_mv (hO h rfl) rfl) (hg:o.guard = none:=by rfl):DK P Γ pn ops id hs E0 Q (o :: os) E acc:=dG rd [(wr,chg)] hrd (fun E' h' => IxOk.op (h E' h') hg) k
theorem e_mv {g s:Nat} {b:Bool} (rd:List (Nat × T)) (k:DK P Γ pn ops id hs E0 Q os (E.app wr chg) (⟨rd,[(wr,chg)]⟩ :: acc)) (hrd:E.Has rd:=by repeat (first | exact trivial | refine ⟨rfl,?_⟩)) (hg:o.guard = some (g,b):=by rfl) (hgo:(ops[g]?).bind (·.dst) = some s:=by rfl) (hb:envL rd s = some (.lit (.bool b)):=by rfl) (h:∀ E':Env,E'.Has rd → Ok P Γ o E' (E'.app wr chg):=by intro E' h;exact x_mv (hO h rfl) rfl):DK P Γ pn ops id hs E0 Q (o :: os) E acc:=dG rd [(wr,chg)] hrd (fun E' h' => IxOk.guard g b s (h E' h') hg hgo (hE h' hb)) k
theorem d_as (rd:List (Nat × T)) (k:DK P Γ pn ops id hs E0 Q os (E.app wr chg) (⟨rd,[(wr,chg)]⟩ :: acc)) (hrd:E.Has rd:=by repeat (first | exact trivial | refine ⟨rfl,?_⟩)) (h:∀ E':Env,E'.Has rd → Ok P Γ o E' (E'.app wr chg):=by intro E' h;exact x_as (hO h rfl) rfl) (hg:o.guard = none:=by rfl):DK P Γ pn ops id hs E0 Q (o :: os) E acc:=dG rd [(wr,chg)] hrd (fun E' h' => IxOk.op (h E' h') hg) k
theorem d_ldr (rd:List (Nat × T)) (k:DK P Γ pn ops id hs E0 Q os (E.app wr chg) (⟨rd,[(wr,chg)]⟩ :: acc)) (hrd:E.Has rd:=by repeat (first | exact trivial | refine ⟨rfl,?_⟩)) (h:∀ E':Env,E'.Has rd → Ok P Γ o E' (E'.app wr chg):=by intro E' h;exact y_ldr (hO h rfl) rfl rfl rfl) (hg:o.guard = none:=by rfl):DK P Γ pn ops id hs E0 Q (o :: os) E acc:=dG rd [(wr,chg)] hrd (fun E' h' => IxOk.op (h E' h') hg) k
theorem e_ldr {g s:Nat} {b:Bool} (rd:List (Nat × T)) (k:DK P Γ pn ops id hs E0 Q os (E.app wr chg) (⟨rd,[(wr,chg)]⟩ :: acc)) (hrd:E.Has rd:=by repeat (first | exact trivial | refine ⟨rfl,?_⟩)) (hg:o.guard = some (g,b):=by rfl) (hgo:(ops[g]?).bind (·.dst) = some s:=by rfl) (hb:envL rd s = some (.lit (.bool b)):=by rfl) (h:∀ E':Env,E'.Has rd → Ok P Γ o E' (E'.app wr chg):=by intro E' h;exact y_ldr (hO h rfl) rfl rfl rfl):DK P Γ pn ops id hs E0 Q (o :: os) E acc:=dG rd [(wr,chg)] hrd (fun E' h' => IxOk.guard g b s (h E' h') hg hgo (hE h' hb)) k
theorem d_ixr (rd:List (Nat × T)) (k:DK P Γ pn ops id hs E0 Q os (E.app wr chg) (⟨rd,[(wr,chg)]⟩ :: acc)) (hrd:E.Has rd:=by repeat (first | exact trivial | refine ⟨rfl,?_⟩)) (h:∀ E':Env,E'.Has rd → Ok P Γ o E' (E'.app wr chg):=by intro E' h;exact y_ixr (by first | exact locB (hE h rfl) rfl | exact locA (hE h rfl) (hE h rfl) (by first | rfl | exact getc (by assumption) rfl | exact getc (by assumption) (getc (by assumption) rfl) | exact geta rfl (getc (by assumption) rfl) | exact getp (getc (by assumption) rfl) | exact getp (geta rfl (getc (by assumption) rfl)) | exact getp (geta rfl (getc (by assumption) (getc (by assumption) rfl)))) rfl) (hO h rfl) (by assumption) rfl) (hg:o.guard = none:=by rfl):DK P Γ pn ops id hs E0 Q (o :: os) E acc:=dG rd [(wr,chg)] hrd (fun E' h' => IxOk.op (h E' h') hg) k
theorem e_ixr {g s:Nat} {b:Bool} (rd:List (Nat × T)) (k:DK P Γ pn ops id hs E0 Q os (E.app wr chg) (⟨rd,[(wr,chg)]⟩ :: acc)) (hrd:E.Has rd:=by repeat (first | exact trivial | refine ⟨rfl,?_⟩)) (hg:o.guard = some (g,b):=by rfl) (hgo:(ops[g]?).bind (·.dst) = some s:=by rfl) (hb:envL rd s = some (.lit (.bool b)):=by rfl) (h:∀ E':Env,E'.Has rd → Ok P Γ o E' (E'.app wr chg):=by intro E' h;exact y_ixr (by first | exact locB (hE h rfl) rfl | exact locA (hE h rfl) (hE h rfl) (by first | rfl | exact getc (by assumption) rfl | exact getc (by assumption) (getc (by assumption) rfl) | exact geta rfl (getc (by assumption) rfl) | exact getp (getc (by assumption) rfl) | exact getp (geta rfl (getc (by assumption) rfl)) | exact getp (geta rfl (getc (by assumption) (getc (by assumption) rfl)))) rfl) (hO h rfl) (by assumption) rfl):DK P Γ pn ops id hs E0 Q (o :: os) E acc:=dG rd [(wr,chg)] hrd (fun E' h' => IxOk.guard g b s (h E' h') hg hgo (hE h' hb)) k
theorem e_lenr {g s:Nat} {b:Bool} (rd:List (Nat × T)) (k:DK P Γ pn ops id hs E0 Q os (E.app wr chg) (⟨rd,[(wr,chg)]⟩ :: acc)) (hrd:E.Has rd:=by repeat (first | exact trivial | refine ⟨rfl,?_⟩)) (hg:o.guard = some (g,b):=by rfl) (hgo:(ops[g]?).bind (·.dst) = some s:=by rfl) (hb:envL rd s = some (.lit (.bool b)):=by rfl) (h:∀ E':Env,E'.Has rd → Ok P Γ o E' (E'.app wr chg):=by intro E' h;exact y_lenr (by first | exact locB (hE h rfl) rfl | exact locA (hE h rfl) (hE h rfl) (by first | rfl | exact getc (by assumption) rfl | exact getc (by assumption) (getc (by assumption) rfl) | exact geta rfl (getc (by assumption) rfl) | exact getp (getc (by assumption) rfl) | exact getp (geta rfl (getc (by assumption) rfl)) | exact getp (geta rfl (getc (by assumption) (getc (by assumption) rfl)))) rfl) rfl):DK P Γ pn ops id hs E0 Q (o :: os) E acc:=dG rd [(wr,chg)] hrd (fun E' h' => IxOk.guard g b s (h E' h') hg hgo (hE h' hb)) k
theorem d_add (rd:List (Nat × T)) (k:DK P Γ pn ops id hs E0 Q os (E.app wr chg) (⟨rd,[(wr,chg)]⟩ :: acc)) (hrd:E.Has rd:=by repeat (first | exact trivial | refine ⟨rfl,?_⟩)) (h:∀ E':Env,E'.Has rd → Ok P Γ o E' (E'.app wr chg):=by intro E' h;exact x_add (by assumption) (hO h rfl) (hO h rfl) rfl) (hg:o.guard = none:=by rfl):DK P Γ pn ops id hs E0 Q (o :: os) E acc:=dG rd [(wr,chg)] hrd (fun E' h' => IxOk.op (h E' h') hg) k
theorem d_pick (rd:List (Nat × T)) (k:DK P Γ pn ops id hs E0 Q os (E.app wr chg) (⟨rd,[(wr,chg)]⟩ :: acc)) (hrd:E.Has rd:=by repeat (first | exact trivial | refine ⟨rfl,?_⟩)) (h:∀ E':Env,E'.Has rd → Ok P Γ o E' (E'.app wr chg):=by intro E' h;exact x_pick (hO h rfl) (hO h rfl) rfl) (hg:o.guard = none:=by rfl):DK P Γ pn ops id hs E0 Q (o :: os) E acc:=dG rd [(wr,chg)] hrd (fun E' h' => IxOk.op (h E' h') hg) k
theorem d_fa (rd:List (Nat × T)) (k:DK P Γ pn ops id hs E0 Q os (E.app wr chg) (⟨rd,[(wr,chg)]⟩ :: acc)) (hrd:E.Has rd:=by repeat (first | exact trivial | refine ⟨rfl,?_⟩)) (h:∀ E':Env,E'.Has rd → Ok P Γ o E' (E'.app wr chg):=by intro E' h;exact x_fa inferInstance (by first | exact locB (hE h rfl) rfl | exact locA (hE h rfl) (hE h rfl) (by first | rfl | exact getc (by assumption) rfl | exact getc (by assumption) (getc (by assumption) rfl) | exact geta rfl (getc (by assumption) rfl) | exact getp (getc (by assumption) rfl) | exact getp (geta rfl (getc (by assumption) rfl)) | exact getp (geta rfl (getc (by assumption) (getc (by assumption) rfl)))) rfl) rfl rfl rfl) (hg:o.guard = none:=by rfl):DK P Γ pn ops id hs E0 Q (o :: os) E acc:=dG rd [(wr,chg)] hrd (fun E' h' => IxOk.op (h E' h') hg) k
theorem e_fa {g s:Nat} {b:Bool} (rd:List (Nat × T)) (k:DK P Γ pn ops id hs E0 Q os (E.app wr chg) (⟨rd,[(wr,chg)]⟩ :: acc)) (hrd:E.Has rd:=by repeat (first | exact trivial | refine ⟨rfl,?_⟩)) (hg:o.guard = some (g,b):=by rfl) (hgo:(ops[g]?).bind (·.dst) = some s:=by rfl) (hb:envL rd s = some (.lit (.bool b)):=by rfl) (h:∀ E':Env,E'.Has rd → Ok P Γ o E' (E'.app wr chg):=by intro E' h;exact x_fa inferInstance (by first | exact locB (hE h rfl) rfl | exact locA (hE h rfl) (hE h rfl) (by first | rfl | exact getc (by assumption) rfl | exact getc (by assumption) (getc (by assumption) rfl) | exact geta rfl (getc (by assumption) rfl) | exact getp (getc (by assumption) rfl) | exact getp (geta rfl (getc (by assumption) rfl)) | exact getp (geta rfl (getc (by assumption) (getc (by assumption) rfl)))) rfl) rfl rfl rfl):DK P Γ pn ops id hs E0 Q (o :: os) E acc:=dG rd [(wr,chg)] hrd (fun E' h' => IxOk.guard g b s (h E' h') hg hgo (hE h' hb)) k
theorem d_ld (rd:List (Nat × T)) (k:DK P Γ pn ops id hs E0 Q os (E.app wr chg) (⟨rd,[(wr,chg)]⟩ :: acc)) (hrd:E.Has rd:=by repeat (first | exact trivial | refine ⟨rfl,?_⟩)) (h:∀ E':Env,E'.Has rd → Ok P Γ o E' (E'.app wr chg):=by intro E' h;first | exact y_ld (hO h rfl) (hE h rfl) rfl rfl rfl rfl | exact y_ld (hO h rfl) (hE h rfl) (by first | rfl | exact getc (by assumption) rfl | exact getc (by assumption) (getc (by assumption) rfl) | exact geta rfl (getc (by assumption) rfl) | exact getp (getc (by assumption) rfl) | exact getp (geta rfl (getc (by assumption) rfl)) | exact getp (geta rfl (getc (by assumption) (getc (by assumption) rfl)))) (by rfl) (by rfl) (by rfl)) (hg:o.guard = none:=by rfl):DK P Γ pn ops id hs E0 Q (o :: os) E acc:=dG rd [(wr,chg)] hrd (fun E' h' => IxOk.op (h E' h') hg) k
theorem e_ld {g s:Nat} {b:Bool} (rd:List (Nat × T)) (k:DK P Γ pn ops id hs E0 Q os (E.app wr chg) (⟨rd,[(wr,chg)]⟩ :: acc)) (hrd:E.Has rd:=by repeat (first | exact trivial | refine ⟨rfl,?_⟩)) (hg:o.guard = some (g,b):=by rfl) (hgo:(ops[g]?).bind (·.dst) = some s:=by rfl) (hb:envL rd s = some (.lit (.bool b)):=by rfl) (h:∀ E':Env,E'.Has rd → Ok P Γ o E' (E'.app wr chg):=by intro E' h;first | exact y_ld (hO h rfl) (hE h rfl) rfl rfl rfl rfl | exact y_ld (hO h rfl) (hE h rfl) (by first | rfl | exact getc (by assumption) rfl | exact getc (by assumption) (getc (by assumption) rfl) | exact geta rfl (getc (by assumption) rfl) | exact getp (getc (by assumption) rfl) | exact getp (geta rfl (getc (by assumption) rfl)) | exact getp (geta rfl (getc (by assumption) (getc (by assumption) rfl)))) (by rfl) (by rfl) (by rfl)):DK P Γ pn ops id hs E0 Q (o :: os) E acc:=dG rd [(wr,chg)] hrd (fun E' h' => IxOk.guard g b s (h E' h') hg hgo (hE h' hb)) k
theorem d_ldp (rd:List (Nat × T)) (k:DK P Γ pn ops id hs E0 Q os (E.app wr chg) (⟨rd,[(wr,chg)]⟩ :: acc)) (hrd:E.Has rd:=by repeat (first | exact trivial | refine ⟨rfl,?_⟩)) (h:∀ E':Env,E'.Has rd → Ok P Γ o E' (E'.app wr chg):=by intro E' h;first | exact y_ldp (by first | exact locB (hE h rfl) rfl | exact locA (hE h rfl) (hE h rfl) (by first | rfl | exact getc (by assumption) rfl | exact getc (by assumption) (getc (by assumption) rfl) | exact geta rfl (getc (by assumption) rfl) | exact getp (getc (by assumption) rfl) | exact getp (geta rfl (getc (by assumption) rfl)) | exact getp (geta rfl (getc (by assumption) (getc (by assumption) rfl)))) rfl) (hE h rfl) rfl rfl rfl rfl | exact y_ldp (by first | exact locB (hE h rfl) rfl | exact locA (hE h rfl) (hE h rfl) (by first | rfl | exact getc (by assumption) rfl | exact getc (by assumption) (getc (by assumption) rfl) | exact geta rfl (getc (by assumption) rfl) | exact getp (getc (by assumption) rfl) | exact getp (geta rfl (getc (by assumption) rfl)) | exact getp (geta rfl (getc (by assumption) (getc (by assumption) rfl)))) rfl) (hE h rfl) (by first | rfl | exact getc (by assumption) rfl | exact getc (by assumption) (getc (by assumption) rfl) | exact geta rfl (getc (by assumption) rfl) | exact getp (getc (by assumption) rfl) | exact getp (geta rfl (getc (by assumption) rfl)) | exact getp (geta rfl (getc (by assumption) (getc (by assumption) rfl)))) (by rfl) (by rfl) (by rfl)) (hg:o.guard = none:=by rfl):DK P Γ pn ops id hs E0 Q (o :: os) E acc:=dG rd [(wr,chg)] hrd (fun E' h' => IxOk.op (h E' h') hg) k
theorem e_ldp {g s:Nat} {b:Bool} (rd:List (Nat × T)) (k:DK P Γ pn ops id hs E0 Q os (E.app wr chg) (⟨rd,[(wr,chg)]⟩ :: acc)) (hrd:E.Has rd:=by repeat (first | exact trivial | refine ⟨rfl,?_⟩)) (hg:o.guard = some (g,b):=by rfl) (hgo:(ops[g]?).bind (·.dst) = some s:=by rfl) (hb:envL rd s = some (.lit (.bool b)):=by rfl) (h:∀ E':Env,E'.Has rd → Ok P Γ o E' (E'.app wr chg):=by intro E' h;first | exact y_ldp (by first | exact locB (hE h rfl) rfl | exact locA (hE h rfl) (hE h rfl) (by first | rfl | exact getc (by assumption) rfl | exact getc (by assumption) (getc (by assumption) rfl) | exact geta rfl (getc (by assumption) rfl) | exact getp (getc (by assumption) rfl) | exact getp (geta rfl (getc (by assumption) rfl)) | exact getp (geta rfl (getc (by assumption) (getc (by assumption) rfl)))) rfl) (hE h rfl) rfl rfl rfl rfl | exact y_ldp (by first | exact locB (hE h rfl) rfl | exact locA (hE h rfl) (hE h rfl) (by first | rfl | exact getc (by assumption) rfl | exact getc (by assumption) (getc (by assumption) rfl) | exact geta rfl (getc (by assumption) rfl) | exact getp (getc (by assumption) rfl) | exact getp (geta rfl (getc (by assumption) rfl)) | exact getp (geta rfl (getc (by assumption) (getc (by assumption) rfl)))) rfl) (hE h rfl) (by first | rfl | exact getc (by assumption) rfl | exact getc (by assumption) (getc (by assumption) rfl) | exact geta rfl (getc (by assumption) rfl) | exact getp (getc (by assumption) rfl) | exact getp (geta rfl (getc (by assumption) rfl)) | exact getp (geta rfl (getc (by assumption) (getc (by assumption) rfl)))) (by rfl) (by rfl) (by rfl)):DK P Γ pn ops id hs E0 Q (o :: os) E acc:=dG rd [(wr,chg)] hrd (fun E' h' => IxOk.guard g b s (h E' h') hg hgo (hE h' hb)) k
theorem d_sub (rd:List (Nat × T)) (k:DK P Γ pn ops id hs E0 Q os (E.app wr chg) (⟨rd,[(wr,chg)]⟩ :: acc)) (hrd:E.Has rd:=by repeat (first | exact trivial | refine ⟨rfl,?_⟩)) (h:∀ E':Env,E'.Has rd → Ok P Γ o E' (E'.app wr chg):=by intro E' h;exact x_sub (by assumption) (hO h rfl) (hO h rfl) rfl) (hg:o.guard = none:=by rfl):DK P Γ pn ops id hs E0 Q (o :: os) E acc:=dG rd [(wr,chg)] hrd (fun E' h' => IxOk.op (h E' h') hg) k
theorem e_sub {g s:Nat} {b:Bool} (rd:List (Nat × T)) (k:DK P Γ pn ops id hs E0 Q os (E.app wr chg) (⟨rd,[(wr,chg)]⟩ :: acc)) (hrd:E.Has rd:=by repeat (first | exact trivial | refine ⟨rfl,?_⟩)) (hg:o.guard = some (g,b):=by rfl) (hgo:(ops[g]?).bind (·.dst) = some s:=by rfl) (hb:envL rd s = some (.lit (.bool b)):=by rfl) (h:∀ E':Env,E'.Has rd → Ok P Γ o E' (E'.app wr chg):=by intro E' h;exact x_sub (by assumption) (hO h rfl) (hO h rfl) rfl):DK P Γ pn ops id hs E0 Q (o :: os) E acc:=dG rd [(wr,chg)] hrd (fun E' h' => IxOk.guard g b s (h E' h') hg hgo (hE h' hb)) k
theorem d_not (rd:List (Nat × T)) (k:DK P Γ pn ops id hs E0 Q os (E.app wr chg) (⟨rd,[(wr,chg)]⟩ :: acc)) (hrd:E.Has rd:=by repeat (first | exact trivial | refine ⟨rfl,?_⟩)) (h:∀ E':Env,E'.Has rd → Ok P Γ o E' (E'.app wr chg):=by intro E' h;exact x_not (hO h rfl) rfl) (hg:o.guard = none:=by rfl):DK P Γ pn ops id hs E0 Q (o :: os) E acc:=dG rd [(wr,chg)] hrd (fun E' h' => IxOk.op (h E' h') hg) k
theorem d_neq (rd:List (Nat × T)) (k:DK P Γ pn ops id hs E0 Q os (E.app wr chg) (⟨rd,[(wr,chg)]⟩ :: acc)) (hrd:E.Has rd:=by repeat (first | exact trivial | refine ⟨rfl,?_⟩)) (h:∀ E':Env,E'.Has rd → Ok P Γ o E' (E'.app wr chg):=by intro E' h;exact x_neq (hO h rfl) (hO h rfl) rfl) (hg:o.guard = none:=by rfl):DK P Γ pn ops id hs E0 Q (o :: os) E acc:=dG rd [(wr,chg)] hrd (fun E' h' => IxOk.op (h E' h') hg) k
theorem e_neq {g s:Nat} {b:Bool} (rd:List (Nat × T)) (k:DK P Γ pn ops id hs E0 Q os (E.app wr chg) (⟨rd,[(wr,chg)]⟩ :: acc)) (hrd:E.Has rd:=by repeat (first | exact trivial | refine ⟨rfl,?_⟩)) (hg:o.guard = some (g,b):=by rfl) (hgo:(ops[g]?).bind (·.dst) = some s:=by rfl) (hb:envL rd s = some (.lit (.bool b)):=by rfl) (h:∀ E':Env,E'.Has rd → Ok P Γ o E' (E'.app wr chg):=by intro E' h;exact x_neq (hO h rfl) (hO h rfl) rfl):DK P Γ pn ops id hs E0 Q (o :: os) E acc:=dG rd [(wr,chg)] hrd (fun E' h' => IxOk.guard g b s (h E' h') hg hgo (hE h' hb)) k
theorem d_eql (rd:List (Nat × T)) (k:DK P Γ pn ops id hs E0 Q os (E.app wr chg) (⟨rd,[(wr,chg)]⟩ :: acc)) (hrd:E.Has rd:=by repeat (first | exact trivial | refine ⟨rfl,?_⟩)) (h:∀ E':Env,E'.Has rd → Ok P Γ o E' (E'.app wr chg):=by intro E' h;exact x_eql (hO h rfl) (hO h rfl) rfl) (hg:o.guard = none:=by rfl):DK P Γ pn ops id hs E0 Q (o :: os) E acc:=dG rd [(wr,chg)] hrd (fun E' h' => IxOk.op (h E' h') hg) k
theorem e_eql {g s:Nat} {b:Bool} (rd:List (Nat × T)) (k:DK P Γ pn ops id hs E0 Q os (E.app wr chg) (⟨rd,[(wr,chg)]⟩ :: acc)) (hrd:E.Has rd:=by repeat (first | exact trivial | refine ⟨rfl,?_⟩)) (hg:o.guard = some (g,b):=by rfl) (hgo:(ops[g]?).bind (·.dst) = some s:=by rfl) (hb:envL rd s = some (.lit (.bool b)):=by rfl) (h:∀ E':Env,E'.Has rd → Ok P Γ o E' (E'.app wr chg):=by intro E' h;exact x_eql (hO h rfl) (hO h rfl) rfl):DK P Γ pn ops id hs E0 Q (o :: os) E acc:=dG rd [(wr,chg)] hrd (fun E' h' => IxOk.guard g b s (h E' h') hg hgo (hE h' hb)) k
theorem d_far (rd:List (Nat × T)) (k:DK P Γ pn ops id hs E0 Q os (E.app wr chg) (⟨rd,[(wr,chg)]⟩ :: acc)) (hrd:E.Has rd:=by repeat (first | exact trivial | refine ⟨rfl,?_⟩)) (h:∀ E':Env,E'.Has rd → Ok P Γ o E' (E'.app wr chg):=by intro E' h;exact x_far inferInstance (hO h rfl) rfl rfl rfl) (hg:o.guard = none:=by rfl):DK P Γ pn ops id hs E0 Q (o :: os) E acc:=dG rd [(wr,chg)] hrd (fun E' h' => IxOk.op (h E' h') hg) k
theorem e_far {g s:Nat} {b:Bool} (rd:List (Nat × T)) (k:DK P Γ pn ops id hs E0 Q os (E.app wr chg) (⟨rd,[(wr,chg)]⟩ :: acc)) (hrd:E.Has rd:=by repeat (first | exact trivial | refine ⟨rfl,?_⟩)) (hg:o.guard = some (g,b):=by rfl) (hgo:(ops[g]?).bind (·.dst) = some s:=by rfl) (hb:envL rd s = some (.lit (.bool b)):=by rfl) (h:∀ E':Env,E'.Has rd → Ok P Γ o E' (E'.app wr chg):=by intro E' h;exact x_far inferInstance (hO h rfl) rfl rfl rfl):DK P Γ pn ops id hs E0 Q (o :: os) E acc:=dG rd [(wr,chg)] hrd (fun E' h' => IxOk.guard g b s (h E' h') hg hgo (hE h' hb)) k
theorem d_nilc (rd:List (Nat × T)) (k:DK P Γ pn ops id hs E0 Q os (E.app wr chg) (⟨rd,[(wr,chg)]⟩ :: acc)) (hrd:E.Has rd:=by repeat (first | exact trivial | refine ⟨rfl,?_⟩)) (h:∀ E':Env,E'.Has rd → Ok P Γ o E' (E'.app wr chg):=by intro E' h;first | exact x_nilc (hO h rfl) (isPtr_ro (hO h rfl)) rfl | exact x_nilc (hO h rfl) (isPtr_addr (hO h rfl)) rfl | exact x_nilc (hO h rfl) (isPtr_own (by first | exact locB (hE h rfl) rfl | exact locA (hE h rfl) (hE h rfl) (by first | rfl | exact getc (by assumption) rfl | exact getc (by assumption) (getc (by assumption) rfl) | exact geta rfl (getc (by assumption) rfl) | exact getp (getc (by assumption) rfl) | exact getp (geta rfl (getc (by assumption) rfl)) | exact getp (geta rfl (getc (by assumption) (getc (by assumption) rfl)))) rfl)) rfl) (hg:o.guard = none:=by rfl):DK P Γ pn ops id hs E0 Q (o :: os) E acc:=dG rd [(wr,chg)] hrd (fun E' h' => IxOk.op (h E' h') hg) k
theorem e_nilc {g s:Nat} {b:Bool} (rd:List (Nat × T)) (k:DK P Γ pn ops id hs E0 Q os (E.app wr chg) (⟨rd,[(wr,chg)]⟩ :: acc)) (hrd:E.Has rd:=by repeat (first | exact trivial | refine ⟨rfl,?_⟩)) (hg:o.guard = some (g,b):=by rfl) (hgo:(ops[g]?).bind (·.dst) = some s:=by rfl) (hb:envL rd s = some (.lit (.bool b)):=by rfl) (h:∀ E':Env,E'.Has rd → Ok P Γ o E' (E'.app wr chg):=by intro E' h;first | exact x_nilc (hO h rfl) (isPtr_ro (hO h rfl)) rfl | exact x_nilc (hO h rfl) (isPtr_addr (hO h rfl)) rfl | exact x_nilc (hO h rfl) (isPtr_own (by first | exact locB (hE h rfl) rfl | exact locA (hE h rfl) (hE h rfl) (by first | rfl | exact getc (by assumption) rfl | exact getc (by assumption) (getc (by assumption) rfl) | exact geta rfl (getc (by assumption) rfl) | exact getp (getc (by assumption) rfl) | exact getp (geta rfl (getc (by assumption) rfl)) | exact getp (geta rfl (getc (by assumption) (getc (by assumption) rfl)))) rfl)) rfl):DK P Γ pn ops id hs E0 Q (o :: os) E acc:=dG rd [(wr,chg)] hrd (fun E' h' => IxOk.guard g b s (h E' h') hg hgo (hE h' hb)) k
theorem d_ix (rd:List (Nat × T)) (k:DK P Γ pn ops id hs E0 Q os (E.app wr chg) (⟨rd,[(wr,chg)]⟩ :: acc)) (hrd:E.Has rd:=by repeat (first | exact trivial | refine ⟨rfl,?_⟩)) (h:∀ E':Env,E'.Has rd → Ok P Γ o E' (E'.app wr chg):=by intro E' h;exact y_ix (by first | exact locB (hE h rfl) rfl | exact locA (hE h rfl) (hE h rfl) (by first | rfl | exact getc (by assumption) rfl | exact getc (by assumption) (getc (by assumption) rfl) | exact geta rfl (getc (by assumption) rfl) | exact getp (getc (by assumption) rfl) | exact getp (geta rfl (getc (by assumption) rfl)) | exact getp (geta rfl (getc (by assumption) (getc (by assumption) rfl)))) rfl) (hO h rfl) (by assumption) rfl) (hg:o.guard = none:=by rfl):DK P Γ pn ops id hs E0 Q (o :: os) E acc:=dG rd [(wr,chg)] hrd (fun E' h' => IxOk.op (h E' h') hg) k
theorem d_len (rd:List (Nat × T)) (k:DK P Γ pn ops id hs E0 Q os (E.app wr chg) (⟨rd,[(wr,chg)]⟩ :: acc)) (hrd:E.Has rd:=by repeat (first | exact trivial | refine ⟨rfl,?_⟩)) (h:∀ E':Env,E'.Has rd → Ok P Γ o E' (E'.app wr chg):=by intro E' h;exact y_len (by first | exact locB (hE h rfl) rfl | exact locA (hE h rfl) (hE h rfl) (by first | rfl | exact getc (by assumption) rfl | exact getc (by assumption) (getc (by assumption) rfl) | exact geta rfl (getc (by assumption) rfl) | exact getp (getc (by assumption) rfl) | exact getp (geta rfl (getc (by assumption) rfl)) | exact getp (geta rfl (getc (by assumption) (getc (by assumption) rfl)))) rfl) rfl) (hg:o.guard = none:=by rfl):DK P Γ pn ops id hs E0 Q (o :: os) E acc:=dG rd [(wr,chg)] hrd (fun E' h' => IxOk.op (h E' h') hg) k
theorem d_mul (rd:List (Nat × T)) (k:DK P Γ pn ops id hs E0 Q os (E.app wr chg) (⟨rd,[(wr,chg)]⟩ :: acc)) (hrd:E.Has rd:=by repeat (first | exact trivial | refine ⟨rfl,?_⟩)) (h:∀ E':Env,E'.Has rd → Ok P Γ o E' (E'.app wr chg):=by intro E' h;exact x_mul (by assumption) (hO h rfl) (hO h rfl) rfl) (hg:o.guard = none:=by rfl):DK P Γ pn ops id hs E0 Q (o :: os) E acc:=dG rd [(wr,chg)] hrd (fun E' h' => IxOk.op (h E' h') hg) k
theorem d_rem (rd:List (Nat × T)) (k:DK P Γ pn ops id hs E0 Q os (E.app wr chg) (⟨rd,[(wr,chg)]⟩ :: acc)) (hrd:E.Has rd:=by repeat (first | exact trivial | refine ⟨rfl,?_⟩)) (h:∀ E':Env,E'.Has rd → Ok P Γ o E' (E'.app wr chg):=by intro E' h;exact x_rem (by assumption) (hO h rfl) (hO h rfl) rfl) (hg:o.guard = none:=by rfl):DK P Γ pn ops id hs E0 Q (o :: os) E acc:=dG rd [(wr,chg)] hrd (fun E' h' => IxOk.op (h E' h') hg) k
theorem d_neg (rd:List (Nat × T)) (k:DK P Γ pn ops id hs E0 Q os (E.app wr chg) (⟨rd,[(wr,chg)]⟩ :: acc)) (hrd:E.Has rd:=by repeat (first | exact trivial | refine ⟨rfl,?_⟩)) (h:∀ E':Env,E'.Has rd → Ok P Γ o E' (E'.app wr chg):=by intro E' h;exact x_neg (by assumption) (hO h rfl) rfl) (hg:o.guard = none:=by rfl):DK P Γ pn ops id hs E0 Q (o :: os) E acc:=dG rd [(wr,chg)] hrd (fun E' h' => IxOk.op (h E' h') hg) k
theorem d_alloc (rd:List (Nat × T)) (k:DK P Γ pn ops id hs E0 Q os (E.app wr chg) (⟨rd,[(wr,chg)]⟩ :: acc)) (hrd:E.Has rd:=by repeat (first | exact trivial | refine ⟨rfl,?_⟩)) (h:∀ E':Env,E'.Has rd → Ok P Γ o E' (E'.app wr chg):=by intro E' h;exact x_alloc inferInstance rfl) (hg:o.guard = none:=by rfl):DK P Γ pn ops id hs E0 Q (o :: os) E acc:=dG rd [(wr,chg)] hrd (fun E' h' => IxOk.op (h E' h') hg) k
theorem d_ext (rd:List (Nat × T)) (k:DK P Γ pn ops id hs E0 Q os (E.app wr chg) (⟨rd,[(wr,chg)]⟩ :: acc)) (hrd:E.Has rd:=by repeat (first | exact trivial | refine ⟨rfl,?_⟩)) (h:∀ E':Env,E'.Has rd → Ok P Γ o E' (E'.app wr chg):=by intro E' h;exact x_ext (hE h rfl) rfl rfl) (hg:o.guard = none:=by rfl):DK P Γ pn ops id hs E0 Q (o :: os) E acc:=dG rd [(wr,chg)] hrd (fun E' h' => IxOk.op (h E' h') hg) k
theorem d_mvT (rd:List (Nat × T)) (k:DK P Γ pn ops id hs E0 Q os (E.app wr chg) (⟨rd,[(wr,chg)]⟩ :: acc)) (hrd:E.Has rd:=by repeat (first | exact trivial | refine ⟨rfl,?_⟩)) (h:∀ E':Env,E'.Has rd → Ok P Γ o E' (E'.app wr chg):=by intro E' h;exact x_mvT (hE h rfl) rfl) (hg:o.guard = none:=by rfl):DK P Γ pn ops id hs E0 Q (o :: os) E acc:=dG rd [(wr,chg)] hrd (fun E' h' => IxOk.op (h E' h') hg) k
theorem cA {f:FuncId} {xs:List Operand} {ats:Array TypeId} {us res:List T} (hcall:CallsF P f) (hc:FnC P f us res []) (k:RW P Γ pn ops os (E.app (cWr d res []) (cChg d [])) Q) (hargs:ArgsOk E [] 0 xs us:=by repeat (first | exact trivial | refine ⟨agC _ rfl (by first | rfl | exact cloO inferInstance | exact cloS rfl (by first | rfl | exact getc (by assumption) rfl | exact getc (by assumption) (getc (by assumption) rfl) | exact geta rfl (getc (by assumption) rfl) | exact getp (getc (by assumption) rfl) | exact getp (geta rfl (getc (by assumption) rfl)) | exact getp (geta rfl (getc (by assumption) (getc (by assumption) rfl)))) inferInstance | exact cloSR rfl (by first | rfl | exact getc (by assumption) rfl | exact getc (by assumption) (getc (by assumption) rfl) | exact geta rfl (getc (by assumption) rfl) | exact getp (getc (by assumption) rfl) | exact getp (geta rfl (getc (by assumption) rfl)) | exact getp (geta rfl (getc (by assumption) (getc (by assumption) rfl))))) rfl,?_⟩)) (hres:ResOk res:=by repeat (first | exact resN | refine resC inferInstance ?_)) (sd:Nat.blt d Γ.N = true:=by rfl) (hg:gd = none:=by rfl) (hp:pn.ok (some d) = true:=by rfl) :
  RW P Γ pn ops (⟨some d,.call { callee:=.value (.func f),args:=xs.toArray,argTypes:=ats },ty,ps,af,gd⟩ :: os) E Q:=oP (x_call hcall hc hargs hres sd) k hg hp
theorem dC {f:FuncId} {xs:List Operand} {ats:Array TypeId} {us res:List T} (rd:List (Nat × T)) (hcall:CallsF P f) (hc:FnC P f us res []) (k:DK P Γ pn ops id hs E0 Q os (E.app (cWr d res []) (cChg d [])) (⟨rd,[(cWr d res [],cChg d [])]⟩ :: acc)) (hrd:E.Has rd:=by repeat (first | exact trivial | refine ⟨rfl,?_⟩)) (hargs:∀ E':Env,E'.Has rd → ArgsOk E' [] 0 xs us:=by intro E' h;repeat (first | exact trivial | refine ⟨agC _ (hO h rfl) (by first | rfl | exact cloO inferInstance | exact cloS (hE h rfl) (by first | rfl | exact getc (by assumption) rfl | exact getc (by assumption) (getc (by assumption) rfl) | exact geta rfl (getc (by assumption) rfl) | exact getp (getc (by assumption) rfl) | exact getp (geta rfl (getc (by assumption) rfl)) | exact getp (geta rfl (getc (by assumption) (getc (by assumption) rfl)))) inferInstance | exact cloSR (hE h rfl) (by first | rfl | exact getc (by assumption) rfl | exact getc (by assumption) (getc (by assumption) rfl) | exact geta rfl (getc (by assumption) rfl) | exact getp (getc (by assumption) rfl) | exact getp (geta rfl (getc (by assumption) rfl)) | exact getp (geta rfl (getc (by assumption) (getc (by assumption) rfl))))) rfl,?_⟩)) (hres:ResOk res:=by repeat (first | exact resN | refine resC inferInstance ?_)) (sd:Nat.blt d Γ.N = true:=by rfl) (hg:gd = none:=by rfl) :
  DK P Γ pn ops id hs E0 Q (⟨some d,.call { callee:=.value (.func f),args:=xs.toArray,argTypes:=ats },ty,ps,af,gd⟩ :: os) E acc :=
 dG rd [(cWr d res [],cChg d [])] hrd (fun E' h' => IxOk.op (x_call hcall hc (hargs E' h') hres sd) hg) k
theorem sk2 {g s:Nat} {b b':Bool} (k:RW P Γ pn ops os (E.app [(d,some (.tup []))] [(d,0)]) Q) (hd:o.dst = some d:=by rfl) (hg:o.guard = some (g,b):=by rfl) (hgo:(ops[g]?).bind (·.dst) = some s:=by rfl) (hb:E s = some (.lit (.bool b')):=by rfl) (hbb:(b == b') = false:=by rfl) (sd:Nat.blt d Γ.N = true:=by rfl) (hp:pn.ok o.dst = true:=by rfl) :
  RW P Γ pn ops (o :: os) E Q:=RW.cons (IxOk.skip2 g b b' s hd sd hbb hg hgo hb) k hp
theorem dsk2 {g s:Nat} {b b':Bool} (k:DK P Γ pn ops id hs E0 Q os (E.app [(d,some (.tup []))] [(d,0)]) (⟨[(s,.lit (.bool b'))],[([(d,some (.tup []))],[(d,0)])]⟩ :: acc)) (hd:o.dst = some d:=by rfl) (hg:o.guard = some (g,b):=by rfl) (hgo:(ops[g]?).bind (·.dst) = some s:=by rfl) (hb:E s = some (.lit (.bool b')):=by rfl) (hbb:(b == b') = false:=by rfl) (sd:Nat.blt d Γ.N = true:=by rfl) :
  DK P Γ pn ops id hs E0 Q (o :: os) E acc:=dG [(s,.lit (.bool b'))] [([(d,some (.tup []))],[(d,0)])] ⟨hb,trivial⟩ (fun _E' h => IxOk.skip2 g b b' s hd sd hbb hg hgo h.1) k
theorem dsk3 {g s:Nat} {b:Bool} (k:DK P Γ pn ops id hs E0 Q os (E.app [(d,some (.tup []))] [(d,0)]) (⟨[(s,.tup [])],[([(d,some (.tup []))],[(d,0)])]⟩ :: acc)) (hd:o.dst = some d:=by rfl) (hg:o.guard = some (g,b):=by rfl) (hgo:(ops[g]?).bind (·.dst) = some s:=by rfl) (hb:E s = some (.tup []):=by rfl) (sd:Nat.blt d Γ.N = true:=by rfl) :
  DK P Γ pn ops id hs E0 Q (o :: os) E acc:=dG [(s,.tup [])] [([(d,some (.tup []))],[(d,0)])] ⟨hb,trivial⟩ (fun _E' h => IxOk.skip3 g b s hd sd hg hgo h.1) k
theorem dNA (hm:P.follows .mixedOrders = true) (hQ:Q .normal E) (hf:fwdFrom 0 ops.toList = true:=by rfl) (ha:ancFrom (ancs ops.toList) (ancs ops.toList) ops.toList = true:=by rfl) (hp:pairsFrom acc.reverse 0 (ancs ops.toList) acc.reverse = true:=by rfl)
  (hpn:ops.toList.all (fun o => pn.ok o.dst) = true:=by rfl) (hh0:holdB hs E0 = true:=by rfl) (hw:acc.reverse.all (wrS hs) = true:=by rfl):DK P Γ pn ops id hs E0 Q [] E acc:=dN _ hm hQ hf ha hp hpn hh0 hw
theorem cn {c1 c2:Code} {α:Type} {b:Bool} {u v z:α} (h:cond b u v = z) (ht:b = true → u = z → CW P Γ pn c1 E Q) (hf:b = false → v = z → CW P Γ pn c2 E Q) (hb:opT E x = some (.lit (.bool b)):=by rfl):CW P Γ pn (.cond x c1 c2) E Q :=
 CW.cond b hb (fun hc => ht hc (cT hc h)) fun hc => hf hc (cF hc h)
theorem fB {f:FuncId} {fn:Func} {c:Code} {us res:List T} {rws:List (Nat × T)} (hf:P.funcs[f]? = some fn) (h:∀ (St:Stb) (W:Nat → Prop) (w0:World) (v:Nat → Value),CW P ⟨St,W,w0,fn.ntmps⟩ (pinsOf v (rws.map (·.1))) c (envL (argE 0 us)) (RetG ⟨St,W,w0,fn.ntmps⟩ P fn.results us res rws)) (hb:fn.body = some c:=by rfl) (hn:us.length ≤ fn.ntmps:=by exact Nat.le_of_ble_eq_true rfl)
  (ht:Tops us:=by repeat (first | exact trivial | refine ⟨by first | exact Top.of_clean _ (Enc.clean _) | simp [Top,Tops],?_⟩)) (hr:rws.all (fun x => decide (x.1 < us.length)) = true:=by rfl):FnC P f us res rws :=
 FnC.of_bodyG hf hb hn ht hr (by rintro ⟨St,W,w0,N⟩ v hN;subst hN;exact h St W w0 v)
def tmpsOf:List ResultVar → Option (List Nat)
 | [] => some []
 | .tmp s :: l => (tmpsOf l).map (s :: ·)
 | .cell _ _ :: _ => none
theorem tmpsOf_ok:∀ (rs:List ResultVar) (ss:List Nat) (res:List T),tmpsOf rs = some ss → ss.map E = res.map some → res.all T.okTup = true → ∃ nd:Nds,RsOk P E rs nd ∧ nd.map (·.2.2) = res ∧ nd.map (·.1) = ss
 | [],ss,res,h,hE,_ => by
  simp [tmpsOf] at h;subst h
  cases res with
  | nil => exact ⟨[],trivial,rfl,rfl⟩
  | cons _ _ => simp at hE
 | .tmp s :: rs,ss,res,h,hE,ht => by
  simp only [tmpsOf,Option.map_eq_some_iff] at h
  obtain ⟨ss',h,rfl⟩:=h
  cases res with
  | nil => simp at hE
  | cons t res =>
   simp only [List.map_cons,List.cons.injEq] at hE
   simp only [List.all_cons,Bool.and_eq_true] at ht
   obtain ⟨nd,h1,h2,h3⟩:=tmpsOf_ok rs ss' res h hE.2 ht.2
   exact ⟨(s,[],t) :: nd,⟨⟨rfl,rfl,hE.1,ht.1⟩,h1⟩,by simp [h2],by simp [h3]⟩
 | .cell _ _ :: _,_,_,h,_,_ => by simp [tmpsOf] at h
theorem rT {rs:Array ResultVar} {us res:List T} {rws:List (Nat × T)} {e:Exit} {ss:List Nat} (hs:tmpsOf rs.toList = some ss:=by rfl) (hE:ss.map E = res.map some:=by rfl) (ht:res.all T.okTup = true:=by rfl) (hl:ss.all (fun s => Nat.ble us.length s) = true:=by rfl) (hn:nodupB ss = true:=by rfl)
  (hw:LOk E us rws:=by repeat (first | exact trivial | refine ⟨⟨rfl,_,rfl⟩,?_⟩)) (he:e = .ret ∨ e = .normal:=by first | exact .inl rfl | exact .inr rfl):RetG Γ P rs us res rws e E:=by
 obtain ⟨nd,h1,h2,h3⟩:=tmpsOf_ok (P:=P) rs.toList ss res hs hE ht
 refine ⟨E,Ghost.refl,he,nd,h1,h2,fun x hx => ?_,by rw [h3];exact nodupB_ok hn,hw⟩
 have:x.1 ∈ ss:=by rw [← h3];exact List.mem_map.2 ⟨x,hx,rfl⟩
 exact Nat.le_of_ble_eq_true (List.all_eq_true.1 hl _ this)
theorem eN {σ ρ:Type} {en:σ → Env} {Q1:ρ → Exit → Env → Prop} {y:σ} {x:σ ⊕ ρ} (h:some (Sum.inl y) = some x) (q:Ghost Γ E (en y):=by exact .has (by repeat (first | exact trivial | refine ⟨rfl,?_⟩))):Round Γ en Q1 x .normal E:=by
 obtain rfl:=sI h;exact ⟨rfl,q⟩
theorem rTg {rs:Array ResultVar} {us res:List T} {rws:List (Nat × T)} {e:Exit} (hg:Ghost Γ E E') (h:RetG Γ P rs us res rws e E'):RetG Γ P rs us res rws e E:=by
 obtain ⟨E2,h1,h2⟩:=h;exact ⟨E2,hg.trans h1,h2⟩
theorem eX {σ ρ:Type} {en:σ → Env} {Q1:ρ → Exit → Env → Prop} {y:ρ} {x:σ ⊕ ρ} {e:Exit} (h:some (Sum.inr y) = some x) (q:Q1 y e E:=by first | exact ⟨rfl,.has (by repeat (first | exact trivial | refine ⟨rfl,?_⟩))⟩ | exact ⟨rfl,rT⟩) (hne:e ≠ .normal:=by first | exact neX | exact neR):Round Γ en Q1 x e E:=by
 obtain rfl:=sI h;exact ⟨hne,q⟩
end
end Go.Ab

namespace Go.Ab
open Go
section
variable {Γ:Ctx} {E:Env}
theorem Ghost.frzG (s:Nat) (t:T) {t':T} (hs:E s = some t) (h:frzT t = t'):Ghost Γ E (E.app [(s,some t')] [(s,1)]):=h ▸ Ghost.freeze s t hs
theorem fzO {α:Type} {k:Nat} {f g:α → T} {xs:List α} (h:StripTo f g):frzT (L k f xs) = .ro (L k g xs):=by
 simp only [frzT,strip,strips_of h.h xs]
theorem fzP {t u:T} (h:strip t = u):frzT (.ptr t) = .ro (.ptr u):=by simp only [frzT,strip,h]
end
end Go.Ab
namespace Go.Ab
open Go
theorem getHole {α:Type} {k:Nat} {f:α → T} {xs:List α} {i j:Int} {a b:α} {X:T} (hi:ixO xs i = some a) (hj:ixO xs j = some b) (hne:(i != j) = true) :
  (if [i.toNat] = [] then X else (L k f xs).set [i.toNat].reverse T.any).get [j.toNat].reverse = some (f b):=by
 have h1:=(ixO_some hi)
 have h2:=(ixO_some hj)
 have h3:i ≠ j:=by simpa using hne
 have h4:i.toNat ≠ j.toNat:=by omega
 simp only [List.cons_ne_nil,if_false,List.reverse_cons,List.reverse_nil,List.nil_append]
 simp [T.set,T.get,h1.2,h2.2,List.getElem?_set_ne h4]
theorem argClS {E:Env} {rs:List Nat} {s r:Nat} {q:List Nat} {tr u:T} (hr:E r = some tr) (hg:tr.get q.reverse = some u) (h4:notSame u = true) (hn:rs.contains r = false):argCl E rs (.tmp s) (.same r q) = true:=by
 simp only [argCl,cloOk,follow_at hr hg h4,hn,Bool.not_false]
end Go.Ab

namespace Go.Ab
open Go
section
variable {P:Program} {Γ:Ctx} {pn:Pins} {E E' E0:Env} {Q:Exit → Env → Prop} {ops:Array Oper} {o:Oper} {os:List Oper} {id d:Nat} {hs:List Nat} {acc:List Stp} {x y:Operand} {ty:TypeId} {ps:String} {af:Array Edge} {gd:Option (Nat × Bool)}
theorem dGk {rd:List (Nat × T)} {l:Apps} (k:DK P Γ pn ops id hs E0 Q os (E.apps l) (⟨rd,l⟩ :: acc)) (hrd:E.Has rd) (hst:∀ E':Env,E'.Has rd → IxOk P Γ ops o E' (E'.apps l)):DK P Γ pn ops id hs E0 Q (o :: os) E acc:=dG rd l hrd hst k
theorem d_mvS (s:Nat) (k:DK P Γ pn ops id hs E0 Q os (E.app [(d,some (.same s []))] [(d,0)]) (⟨[],[([(d,some (.same s []))],[(d,0)])]⟩ :: acc)) (hs':hs.contains s = true:=by rfl) (sd:(Nat.blt d Γ.N && s != d) = true:=by rfl) (hg:gd = none:=by rfl) :
  DK P Γ pn ops id hs E0 Q (⟨some d,.move (.tmp s),ty,ps,af,gd⟩ :: os) E acc :=
 dGS [] [([(d,some (.same s []))],[(d,0)])] trivial (fun E' _ hh => by
  obtain ⟨k,xs,he⟩:=hh s hs'
  simp only [Bool.and_eq_true] at sd
  have h1:=x_mv (P:=P) (Γ:=Γ) (d:=d) (ty:=ty) (ps:=ps) (af:=af) (gd:=gd) (x:=.tmp s) (t:=.sl k xs) (E:=E') he (by
   simp only [mvB,sd.1,T.okTup,neD,opCp,cpT,T.okB,Bool.true_and,Bool.and_true]
   have:s ≠ d:=by simpa using sd.2
   simp [this,Ne.symm this,refOk])
  exact IxOk.op h1 hg) k
theorem y_ixG {t e:TypeId} {ti:TypeInfo} {r k:Nat} {q:List Nat} {ys:List T} {i:Int} [ht:RowT P t e ti k] (hx:locT E x = some (r,q,.sl k ys)) (hy:opT E y = some (I i)) (h:0 ≤ i ∧ i.toNat < ys.length) (sd:Nat.blt d Γ.N = true) :
  Ok P Γ ⟨some d,.indexAddr t x y,ty,ps,af,gd⟩ E (E.app [(d,some (.addr r (i.toNat :: q)))] [(d,0)]) :=
 fun _ => ok_ix x y t e ti r q k ys .i64 i rfl rfl (blt_lt sd) ht.un ht.info ht.size hx hy h.1 h.2
theorem Ghost.red (d1 d2 r:Nat) (q q':List Nat) (h1:E d1 = some (.same r q)) (h2:E d2 = some (.same r q')) (hq:q = q'):Ghost Γ E (E.app [(d2,some (.same d1 []))] []):=by
 subst hq
 rintro a w ⟨S,hS,hdf,G,hrep⟩
 refine ⟨S,hS,hdf,G,?_⟩
 have hk:Keep [] G w G w:=⟨fun _ _ _ => rfl,fun _ _ _ => rfl,fun _ _ _ _ _ _ h _ => ⟨h,rfl⟩,fun _ _ _ h _ => h,fun b cs e h => ⟨cs,h,rfl⟩⟩
 refine rep_step hrep rfl hk hrep.mem (fun s _ => ⟨fun n hn => by simp at hn,rfl⟩) fun s t hs => ?_
 simp only [Wr.find] at hs
 split at hs
 ·rename_i e;subst e
  simp at hs;subst hs
  obtain ⟨g1,g2,_⟩:=hrep.ent d2 _ h2
  obtain ⟨_,g4,_⟩:=hrep.ent d1 _ h1
  simp only [R] at g2 g4
  exact ⟨by rw [g1];rfl,by simp only [R];rw [g2,g4],by simp [Top]⟩
 ·cases hs
theorem Ghost.red2 (d1 d2 r:Nat) (q:List Nat) (h1:E d1 = some (.same r q)) (h2:E d2 = some (.same d1 [])):Ghost Γ E (E.app [(d2,some (.same r q))] []):=by
 rintro a w ⟨S,hS,hdf,G,hrep⟩
 refine ⟨S,hS,hdf,G,?_⟩
 have hk:Keep [] G w G w:=⟨fun _ _ _ => rfl,fun _ _ _ => rfl,fun _ _ _ _ _ _ h _ => ⟨h,rfl⟩,fun _ _ _ h _ => h,fun b cs e h => ⟨cs,h,rfl⟩⟩
 refine rep_step hrep rfl hk hrep.mem (fun s _ => ⟨fun n hn => by simp at hn,rfl⟩) fun s t hs => ?_
 simp only [Wr.find] at hs
 split at hs
 ·rename_i e;subst e
  simp at hs;subst hs
  obtain ⟨g1,g2,_⟩:=hrep.ent d2 _ h2
  obtain ⟨_,g4,_⟩:=hrep.ent d1 _ h1
  simp only [R] at g2 g4
  exact ⟨by rw [g1];rfl,by simp only [R];rw [g2,g4],by simp [Top]⟩
 ·cases hs
theorem slG {k n:Nat} {ys:List T} {u:T} (h:ys[n]? = some u):(T.sl k ys).get [n] = some u:=by simp [T.get,h]
theorem slS {k n:Nat} {ys:List T} {u v:T} (h:ys[n]? = some u):(T.sl k ys).set [n] v = .sl k (ys.set n v):=by simp [T.set,h]
theorem mpG {α:Type} {f:α → T} {xs:List α} {i:Int} {a:α} (h:ixO xs i = some a):(xs.map f)[i.toNat]? = some (f a):=by simp [(ixO_some h).2]
theorem stE {ys:List T} {n:Nat} {u v:T} (h:ys[n]? = some u):(ys.set n v)[n]? = some v:=by
 have:=(List.getElem?_eq_some_iff.1 h).1
 simp [this]
theorem stN {ys:List T} {n m:Nat} {u v:T} (h:ys[m]? = some u) (hne:n ≠ m):(ys.set n v)[m]? = some u:=by
 rw [List.getElem?_set_ne hne];exact h
theorem toNat_ne {α:Type} {xs:List α} {i j:Int} {a b:α} (ha:ixO xs i = some a) (hb:ixO xs j = some b) (h:(i == j) = false):i.toNat ≠ j.toNat:=by
 have h1:=(ixO_some ha).1
 have h2:=(ixO_some hb).1
 have:i ≠ j:=by simpa using h
 omega
theorem ixLen {α:Type} {xs:List α} {i:Int} {a:α} (h:ixO xs i = some a) {ys:List T} (hl:ys.length = xs.length):0 ≤ i ∧ i.toNat < ys.length:=by
 obtain ⟨h1,h2⟩:=ixO_some h
 exact ⟨h1,by rw [hl];exact (List.getElem?_eq_some_iff.1 h2).1⟩
def swapL {α:Type} (xs:List α) (j i:Int) (a b:α):List α:=(xs.set j.toNat a).set i.toNat b
theorem sw_ne {α:Type} {f:α → T} {xs:List α} {i j:Int} {a b:α} (hne:i.toNat ≠ j.toNat) :
  ((((xs.map f).set i.toNat .any).set j.toNat .any).set j.toNat (f a)).set i.toNat (f b) = (swapL xs j i a b).map f:=by
 rw [List.set_set,List.set_comm _ _ hne,List.set_set]
 simp [swapL,List.map_set]
theorem sw_eq {α:Type} {f:α → T} {xs:List α} {i j:Int} {a b:α} (ha:ixO xs i = some a) (hb:ixO xs j = some b) (h:i = j) :
  ((((xs.map f).set i.toNat .any).set j.toNat (f a)).set j.toNat .any).set i.toNat (f a) = (swapL xs j i a b).map f:=by
 subst h
 have:a = b:=by rw [ha] at hb;exact Option.some.inj hb
 subst this
 simp [swapL,List.map_set]
theorem CW.midA {c1 c2:Code} (l:List (Nat × T)) (h1:CW P Γ pn c1 E fun e E' => e = .normal ∧ Ghost Γ E' (envL l)) (h2:CW P Γ pn c2 (envL l) Q):CW P Γ pn c1 E (Andthen P Γ pn c2 Q) :=
 CW.mono h1 fun e E' h => by
  obtain ⟨rfl,hg⟩:=h
  exact CW.ghost hg h2
section
variable {β:Type} {g:β → T} {k2 k:Nat} {xs:List (List β)} {i j:Int} {a b:List β} {t:TypeId} {ti:TypeInfo} {A U V r:Nat}
abbrev neB (A U V r:Nat):Bool:=U != r && V != r && U != V && A != r && A != U && A != V
theorem neB_spec (h:neB A U V r = true):U ≠ r ∧ V ≠ r ∧ U ≠ V ∧ A ≠ r ∧ A ≠ U ∧ A ≠ V:=by
 simp only [neB,Bool.and_eq_true,bne_iff_ne] at h
 exact ⟨h.1.1.1.1.1,h.1.1.1.1.2,h.1.1.1.2,h.1.1.2,h.1.2,h.2⟩
theorem sw1n [he:Enc g] (hi:P.info? t = some ti) (hsz:(ti.size == 1 && Nat.blt 0 ti.size) = true) (ha:ixO xs i = some a) (hb:ixO xs j = some b) (hn:i.toNat ≠ j.toNat)
  (kk:DK P Γ pn ops id hs E0 Q os (E.apps [([(U,some (L k2 g a)),(r,some (.sl k ((xs.map (L k2 g)).set i.toNat .any)))],[(U,1),(r,2)]),([(V,some (L k2 g b)),(r,some (.sl k (((xs.map (L k2 g)).set i.toNat .any).set j.toNat .any)))],[(V,1),(r,2)]),([(r,some (.sl k ((((xs.map (L k2 g)).set i.toNat .any).set j.toNat .any).set j.toNat (L k2 g a)))),(U,some (.same r [j.toNat]))],[(r,1),(U,1)])])
   (⟨[(A,.addr r [j.toNat]),(U,.same r [i.toNat]),(V,.same r [j.toNat]),(r,L k (L k2 g) xs)],[([(U,some (L k2 g a)),(r,some (.sl k ((xs.map (L k2 g)).set i.toNat .any)))],[(U,1),(r,2)]),([(V,some (L k2 g b)),(r,some (.sl k (((xs.map (L k2 g)).set i.toNat .any).set j.toNat .any)))],[(V,1),(r,2)]),([(r,some (.sl k ((((xs.map (L k2 g)).set i.toNat .any).set j.toNat .any).set j.toNat (L k2 g a)))),(U,some (.same r [j.toNat]))],[(r,1),(U,1)])]⟩ :: acc))
  (hA:E A = some (.addr r [j.toNat]):=by rfl) (hU:E U = some (.same r [i.toNat]):=by rfl) (hV:E V = some (.same r [j.toNat]):=by rfl) (hr:E r = some (L k (L k2 g) xs):=by rfl) (hne:neB A U V r = true:=by rfl) (hg:gd = none:=by rfl) :
  DK P Γ pn ops id hs E0 Q (⟨none,.store t (.tmp A) (.tmp U),ty,ps,af,gd⟩ :: os) E acc:=by
 obtain ⟨n1,n2,n3,n4,n5,n6⟩:=neB_spec hne
 refine dGk kk ⟨hA,hU,hV,hr,trivial⟩ (fun E' h => ?_)
 obtain ⟨h1,h2,h3,h4,_⟩:=h
 refine IxOk.gh (Ghost.trq (u:=L k2 g a) U r [i.toNat] h2 h4 (slG (mpG ha)) (cleanL he.clean) (by simp [T.single,okTups1,T.okB,n1]) (slS (mpG ha))) ?_
 refine IxOk.gh (Ghost.trq (u:=L k2 g b) V r [j.toNat] (tr:=.sl k ((xs.map (L k2 g)).set i.toNat .any)) (by simp [Env.app,Wr.find,n1,n3,h3,T.okB,refOk,Ne.symm n2]) (by simp [Env.app,Wr.find,n1]) (slG (stN (mpG hb) hn)) (cleanL he.clean) (by simp [T.single,okTups1,T.okB,n2]) (slS (stN (mpG hb) hn))) ?_
 refine IxOk.opE (E1:=_) (x_st (tr:=.sl k (((xs.map (L k2 g)).set i.toNat .any).set j.toNat .any)) (u:=L k2 g a) (u0:=.any) (r:=r) (q:=[j.toNat]) hi (by simpa [T.size] using hsz) ?_ ?_ (slG (stE (stN (mpG hb) hn))) (slS (stE (stN (mpG hb) hn))) ?_ (cleanL he.clean) ?_) rfl hg
 ·simp [opT,Env.app,Wr.find,h1,n1,n2,Ne.symm n4,Ne.symm n5,Ne.symm n6,T.okB,refOk]
 ·simp [Env.app,Wr.find,n2]
 ·simp [Env.app,Wr.find,Ne.symm n1,Ne.symm n3,T.okB]
 ·simp [T.single,T.locd,sameFl,T.okTup,Ne.symm n1]
theorem sw2n [he:Enc g] (hi:P.info? t = some ti) (hsz:(ti.size == 1 && Nat.blt 0 ti.size) = true) (ha:ixO xs i = some a) (_hb:ixO xs j = some b) (hn:i.toNat ≠ j.toNat)
  (kk:DK P Γ pn ops id hs E0 Q os (E.apps [([(r,some (L k (L k2 g) (swapL xs j i a b))),(V,some (.same r [i.toNat]))],[(r,1),(V,1)])]) (⟨[(A,.addr r [i.toNat]),(V,L k2 g b),(r,.sl k ((((xs.map (L k2 g)).set i.toNat .any).set j.toNat .any).set j.toNat (L k2 g a)))],[([(r,some (L k (L k2 g) (swapL xs j i a b))),(V,some (.same r [i.toNat]))],[(r,1),(V,1)])]⟩ :: acc))
  (hA:E A = some (.addr r [i.toNat]):=by rfl) (hV:E V = some (L k2 g b):=by rfl) (hr:E r = some (.sl k ((((xs.map (L k2 g)).set i.toNat .any).set j.toNat .any).set j.toNat (L k2 g a))):=by rfl) (hne:(r != V) = true:=by rfl) (hg:gd = none:=by rfl) :
  DK P Γ pn ops id hs E0 Q (⟨none,.store t (.tmp A) (.tmp V),ty,ps,af,gd⟩ :: os) E acc:=by
 refine dGk kk ⟨hA,hV,hr,trivial⟩ (fun E' h => ?_)
 obtain ⟨h1,h3,h4,_⟩:=h
 have hh:((((xs.map (L k2 g)).set i.toNat .any).set j.toNat .any).set j.toNat (L k2 g a))[i.toNat]? = some .any:=stN (stN (stE (mpG ha)) (Ne.symm hn)) (Ne.symm hn)
 refine IxOk.opE (x_st (u:=L k2 g b) (q:=[i.toNat]) (E:=E') hi (by simpa [T.size] using hsz) h1 h4 (slG hh) ((slS hh).trans (congrArg (T.sl k) (sw_ne hn))) h3 (cleanL he.clean) ?_) rfl hg
 simp only [T.single,T.locd,sameFl,T.okTup,hne,List.reverse_cons,List.reverse_nil,List.nil_append,Bool.and_self]
theorem sw1e [he:Enc g] (hi:P.info? t = some ti) (hsz:(ti.size == 1 && Nat.blt 0 ti.size) = true) (ha:ixO xs i = some a) (hij:i = j)
  (kk:DK P Γ pn ops id hs E0 Q os (E.apps [([(V,some (.same U []))],[]),([(U,some (L k2 g a)),(r,some (.sl k ((xs.map (L k2 g)).set i.toNat .any)))],[(U,1),(r,2)]),([(r,some (.sl k (((xs.map (L k2 g)).set i.toNat .any).set j.toNat (L k2 g a)))),(U,some (.same r [j.toNat]))],[(r,1),(U,1)])])
   (⟨[(A,.addr r [j.toNat]),(U,.same r [i.toNat]),(V,.same r [j.toNat]),(r,L k (L k2 g) xs)],[([(V,some (.same U []))],[]),([(U,some (L k2 g a)),(r,some (.sl k ((xs.map (L k2 g)).set i.toNat .any)))],[(U,1),(r,2)]),([(r,some (.sl k (((xs.map (L k2 g)).set i.toNat .any).set j.toNat (L k2 g a)))),(U,some (.same r [j.toNat]))],[(r,1),(U,1)])]⟩ :: acc))
  (hA:E A = some (.addr r [j.toNat]):=by rfl) (hU:E U = some (.same r [i.toNat]):=by rfl) (hV:E V = some (.same r [j.toNat]):=by rfl) (hr:E r = some (L k (L k2 g) xs):=by rfl) (hne:neB A U V r = true:=by rfl) (hg:gd = none:=by rfl) :
  DK P Γ pn ops id hs E0 Q (⟨none,.store t (.tmp A) (.tmp U),ty,ps,af,gd⟩ :: os) E acc:=by
 obtain ⟨n1,n2,n3,n4,n5,n6⟩:=neB_spec hne
 refine dGk kk ⟨hA,hU,hV,hr,trivial⟩ (fun E' h => ?_)
 subst hij
 obtain ⟨h1,h2,h3,h4,_⟩:=h
 refine IxOk.gh (Ghost.red U V r _ _ h2 h3 rfl) ?_
 refine IxOk.gh (Ghost.trq (u:=L k2 g a) U r [i.toNat] (tr:=L k (L k2 g) xs) (by simp [Env.app,Wr.find,Ne.symm n3,h2,T.okB,refOk]) (by simp [Env.app,Wr.find,n2,h4,T.okB]) (slG (mpG ha)) (cleanL he.clean) (by simp [T.single,okTups1,T.okB,n1]) (slS (mpG ha))) ?_
 refine IxOk.opE (x_st (tr:=.sl k ((xs.map (L k2 g)).set i.toNat .any)) (u:=L k2 g a) (u0:=.any) (r:=r) (q:=[i.toNat]) hi (by simpa [T.size] using hsz) ?_ ?_ (slG (stE (mpG ha))) (slS (stE (mpG ha))) ?_ (cleanL he.clean) ?_) rfl hg
 ·simp [opT,Env.app,Wr.find,h1,n1,Ne.symm n4,Ne.symm n5,Ne.symm n6,T.okB,refOk]
 ·simp [Env.app,Wr.find,n1]
 ·simp [Env.app,Wr.find]
 ·simp [T.single,T.locd,sameFl,T.okTup,Ne.symm n1]
theorem sw2e [he:Enc g] (hi:P.info? t = some ti) (hsz:(ti.size == 1 && Nat.blt 0 ti.size) = true) (ha:ixO xs i = some a) (hb:ixO xs j = some b) (hij:i = j)
  (kk:DK P Γ pn ops id hs E0 Q os (E.apps [([(V,some (.same r [j.toNat]))],[]),([(V,some (L k2 g a)),(r,some (.sl k ((((xs.map (L k2 g)).set i.toNat .any).set j.toNat (L k2 g a)).set j.toNat .any)))],[(V,1),(r,2)]),([(r,some (L k (L k2 g) (swapL xs j i a b))),(V,some (.same r [i.toNat]))],[(r,1),(V,1)])])
   (⟨[(A,.addr r [i.toNat]),(V,.same U []),(U,.same r [j.toNat]),(r,.sl k (((xs.map (L k2 g)).set i.toNat .any).set j.toNat (L k2 g a)))],[([(V,some (.same r [j.toNat]))],[]),([(V,some (L k2 g a)),(r,some (.sl k ((((xs.map (L k2 g)).set i.toNat .any).set j.toNat (L k2 g a)).set j.toNat .any)))],[(V,1),(r,2)]),([(r,some (L k (L k2 g) (swapL xs j i a b))),(V,some (.same r [i.toNat]))],[(r,1),(V,1)])]⟩ :: acc))
  (hA:E A = some (.addr r [i.toNat]):=by rfl) (hV:E V = some (.same U []):=by rfl) (hU:E U = some (.same r [j.toNat]):=by rfl) (hr:E r = some (.sl k (((xs.map (L k2 g)).set i.toNat .any).set j.toNat (L k2 g a))):=by rfl) (hne:neB A U V r = true:=by rfl) (hg:gd = none:=by rfl) :
  DK P Γ pn ops id hs E0 Q (⟨none,.store t (.tmp A) (.tmp V),ty,ps,af,gd⟩ :: os) E acc:=by
 obtain ⟨n1,n2,n3,n4,n5,n6⟩:=neB_spec hne
 refine dGk kk ⟨hA,hV,hU,hr,trivial⟩ (fun E' h => ?_)
 obtain ⟨h1,h3,h2,h4,_⟩:=h
 have hsw:=sw_eq (f:=L k2 g) ha hb hij
 subst hij
 have g1:(((xs.map (L k2 g)).set i.toNat .any).set i.toNat (L k2 g a))[i.toNat]? = some (L k2 g a):=stE (stE (mpG ha))
 refine IxOk.gh (Ghost.red2 U V r _ h2 h3) ?_
 refine IxOk.gh (Ghost.trq (u:=L k2 g a) V r [i.toNat] (tr:=.sl k (((xs.map (L k2 g)).set i.toNat .any).set i.toNat (L k2 g a))) (by simp [Env.app,Wr.find]) (by simp [Env.app,Wr.find,n2,h4,T.okB]) (slG g1) (cleanL he.clean) (by simp [T.single,okTups1,T.okB,n2]) (slS g1)) ?_
 refine IxOk.opE (x_st (tr:=.sl k ((((xs.map (L k2 g)).set i.toNat .any).set i.toNat (L k2 g a)).set i.toNat .any)) (u:=L k2 g a) (u0:=.any) (r:=r) (q:=[i.toNat]) hi (by simpa [T.size] using hsz) ?_ ?_ (slG (stE g1)) ((slS (stE g1)).trans (congrArg (T.sl k) hsw)) ?_ (cleanL he.clean) ?_) rfl hg
 ·simp [opT,Env.app,Wr.find,h1,n2,Ne.symm n4,Ne.symm n6,T.okB,refOk]
 ·simp [Env.app,Wr.find,n2]
 ·simp [Env.app,Wr.find]
 ·simp [T.single,T.locd,sameFl,T.okTup,Ne.symm n2]
end
end
end Go.Ab

namespace Go.Ab
open Go Go.ChangeShapes
end Go.Ab

namespace Go.Ab
open Go
end Go.Ab

namespace Go.Ab
open Go
end Go.Ab

namespace Go.Ab
open Go
end Go.Ab
