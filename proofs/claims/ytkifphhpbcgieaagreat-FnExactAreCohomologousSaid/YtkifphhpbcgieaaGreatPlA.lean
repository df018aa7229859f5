/- The program and the reference agree which cocycles are cohomologous, for all arguments (FnExactAreCohomologous). This file is a part of the proof. -/
import Derived.Test.YtkifphhpbcgieaaGreatAbB
import Derived.Test.YtkifphhpbcgieaaGreatWF
namespace Go.Pc
abbrev Vec:=List Int
structure Lvl where
 o:Int
 w:Vec
 cs:List Vec
abbrev Pcp:=List Lvl
def zeros (n:Nat):Vec:=List.replicate n 0
def iter {α:Type}:Nat → (α → α) → α → α
 | 0,_,x => x
 | n + 1,f,x => iter n f (f x)
theorem vG {α:Type} (f:α → α):∀ (n:Nat) (x:α),iter (n + 1) f x = f (iter n f x)
 | 0,_ => rfl
 | n + 1,x => by rw [iter,vG f n (f x)];rfl
theorem zD1 {α:Type} (f:α → α) (a:Nat):∀ (b:Nat) (x:α),iter (a + b) f x = iter a f (iter b f x)
 | 0,_ => rfl
 | b + 1,x => by
  show iter (a + b) f (f x) = _
  rw [zD1 f a b (f x)];rfl
def img {α:Type} (m:α → α → α):List α → Vec → α → α
 | c :: cs,x :: xs,acc => img m cs xs (iter x.toNat (fun v => m v c) acc)
 | _,_,acc => acc
def V:Pcp → Vec → Prop
 | [],v => v = []
 | l :: P,v => match v with
  | [] => False
  | a :: x => (0 ≤ a ∧ a < l.o) ∧ V P x
def mul:Pcp → Vec → Vec → Vec
 | l :: P,a :: x,b :: y =>
  let r:=mul P (iter b.toNat (fun v => img (mul P) l.cs v (zeros P.length)) x) y
  if a + b ≥ l.o then (a + b - l.o) :: mul P l.w r else (a + b) :: r
 | _,_,_ => []
def Ok:Pcp → Prop
 | [] => True
 | l :: P => 1 < l.o ∧ V P l.w ∧ l.cs.length = P.length ∧ (∀ c ∈ l.cs,V P c) ∧ Ok P
structure Mon {α:Type} (S:α → Prop) (m:α → α → α) (e:α):Prop where
 cl:∀ {a b},S a → S b → S (m a b)
 ein:S e
 assoc:∀ {a b c},S a → S b → S c → m (m a b) c = m a (m b c)
 onel:∀ {a},S a → m e a = a
 oner:∀ {a},S a → m a e = a
structure Grp {α:Type} (S:α → Prop) (m:α → α → α) (e:α):Prop extends Mon S m e where
 inv:∀ {a},S a → ∃ b,S b ∧ m a b = e
theorem Grp.invl {α:Type} {S:α → Prop} {m:α → α → α} {e:α} (h:Grp S m e) {a:α} (ha:S a):∃ b,S b ∧ m a b = e ∧ m b a = e:=by
 obtain ⟨b,hb,h1⟩:=h.inv ha
 obtain ⟨c,hc,h2⟩:=h.inv hb
 refine ⟨b,hb,h1,?_⟩
 have:a = c:=by
  rw [← h.oner ha,← h2,← h.assoc ha hb hc,h1,h.onel hc]
 rw [this];exact h2
theorem Grp.cancel_l {α:Type} {S:α → Prop} {m:α → α → α} {e:α} (h:Grp S m e) {a b c:α} (ha:S a) (hb:S b) (hc:S c) (hh:m a b = m a c):b = c:=by
 obtain ⟨d,hd,_,h2⟩:=h.invl ha
 rw [← h.onel hb,← h.onel hc,← h2,h.assoc hd ha hb,h.assoc hd ha hc,hh]
section
variable {α:Type} {S:α → Prop} {m:α → α → α} {e:α}
def pw (m:α → α → α) (e:α) (x:α) (k:Nat):α:=iter k (fun v => m v x) e
theorem uR (h:Mon S m e) {x:α} (hx:S x):∀ k,S (pw m e x k)
 | 0 => h.ein
 | k + 1 => by rw [pw,vG];exact h.cl (uR h hx k) hx
theorem wY {f:α → α} (hf:∀ a,S a → S (f a)):∀ (k:Nat) {x:α},S x → S (iter k f x)
 | 0,_,hx => hx
 | k + 1,_,hx => wY hf k (hf _ hx)
theorem zD2 (h:Mon S m e) {x a:α} (hx:S x) (ha:S a):∀ k,iter k (fun v => m v x) a = m a (pw m e x k)
 | 0 => (h.oner ha).symm
 | k + 1 => by
  rw [vG,zD2 h hx ha k]
  show _ = m a (iter (k + 1) (fun v => m v x) e)
  rw [vG]
  exact h.assoc ha (uR h hx k) hx
theorem zFL (h:Mon S m e) {x:α} (hx:S x) (a b:Nat):pw m e x (a + b) = m (pw m e x a) (pw m e x b):=by
 rw [Nat.add_comm,pw,zD1,← zD2 h hx (uR h hx a) b];rfl
theorem zPr (h:Mon S m e) {x:α} (hx:S x):pw m e x 1 = x:=h.onel hx
theorem zPs (h:Mon S m e) {x:α} (hx:S x) (k:Nat):pw m e x (k + 1) = m x (pw m e x k):=by
 rw [Nat.add_comm,zFL h hx 1 k,zPr h hx]
theorem sX (h:∀ {a b},S a → S b → S (m a b)):∀ (cs:List α) (x:Vec) {a:α},(∀ c ∈ cs,S c) → S a → S (img m cs x a)
 | c :: cs,x :: xs,_,hc,ha => by
  simp only [img]
  exact sX h cs xs (fun c h => hc c (by simp [h])) (wY (fun a ha => h ha (hc c (by simp))) _ ha)
 | [],_,_,_,ha => by simpa [img] using ha
 | _ :: _,[],_,_,ha => by simpa [img] using ha
theorem zEg (h:Mon S m e) (cs:List α) (x:Vec) {a:α} (hc:∀ c ∈ cs,S c) (ha:S a):S (img m cs x a):=sX h.cl cs x hc ha
theorem zD3 (h:Mon S m e):∀ (cs:List α) (x:Vec) {a:α},(∀ c ∈ cs,S c) → S a → img m cs x a = m a (img m cs x e)
 | c :: cs,x :: xs,a,hc,ha => by
  have h1:S c:=hc c (by simp)
  have h2:∀ c ∈ cs,S c:=fun c h => hc c (by simp [h])
  simp only [img]
  rw [zD2 h h1 ha,zD3 h cs xs h2 (h.cl ha (uR h h1 _)),zD2 h h1 h.ein,zD3 h cs xs h2 (h.cl h.ein (uR h h1 _)),h.onel (uR h h1 _),
   h.assoc ha (uR h h1 _) (zEg h cs xs h2 h.ein)]
 | [],_,a,_,ha => by simp [img,h.oner ha]
 | _ :: _,[],a,_,ha => by simp [img,h.oner ha]
theorem tY (h:Mon S m e) {c:α} {cs:List α} {x:Int} {xs:Vec} (hc:S c) (hcs:∀ c ∈ cs,S c):img m (c :: cs) (x :: xs) e = m (pw m e c x.toNat) (img m cs xs e):=by
 simp only [img]
 rw [zD3 h cs xs hcs (wY (fun a ha => h.cl ha hc) _ h.ein)]
 rfl
theorem zAF (m:α → α → α):∀ (cs:List α) (n:Nat) (a:α),img m cs (zeros n) a = a
 | [],_,_ => by simp [img]
 | _ :: _,0,_ => by simp [zeros,img]
 | c :: cs,n + 1,a => by
  simp only [zeros,List.replicate_succ,img,Int.toNat_zero,iter]
  exact zAF m cs n a
theorem zFM (h:Mon S m e) {g:α} (hg:S g):∀ (cs ds:List α) (x:Vec),(∀ c ∈ cs,S c) → (∀ c ∈ ds,S c) → cs.length = ds.length → (∀ (k:Nat) c d,cs[k]? = some c → ds[k]? = some d → m c g = m g d) → m (img m cs x e) g = m g (img m ds x e)
 | [],[],x,_,_,_,_ => by simp [img,h.onel hg,h.oner hg]
 | c :: cs,d :: ds,[],_,_,_,_ => by simp [img,h.onel hg,h.oner hg]
 | c :: cs,d :: ds,x :: xs,hc,hd,hl,hp => by
  have hc0:S c:=hc c (by simp)
  have hd0:S d:=hd d (by simp)
  have hcs:∀ c ∈ cs,S c:=fun c h => hc c (by simp [h])
  have hds:∀ c ∈ ds,S c:=fun c h => hd c (by simp [h])
  have key:∀ k,m (pw m e c k) g = m g (pw m e d k):=by
   intro k
   induction k with
   | zero => simp [pw,iter,h.onel hg,h.oner hg]
   | succ k ih =>
    have h0:m c g = m g d:=hp 0 c d rfl rfl
    rw [pw,vG,pw,vG]
    show m (m (pw m e c k) c) g = m g (m (pw m e d k) d)
    rw [h.assoc (uR h hc0 k) hc0 hg,h0,← h.assoc (uR h hc0 k) hg hd0,ih,h.assoc hg (uR h hd0 k) hd0]
  rw [tY h hc0 hcs,tY h hd0 hds,h.assoc (uR h hc0 _) (zEg h _ _ hcs h.ein) hg,zFM h hg cs ds xs hcs hds (by simpa using hl) (fun k c d h1 h2 => hp (k + 1) c d (by simpa using h1) (by simpa using h2)),
   ← h.assoc (uR h hc0 _) hg (zEg h _ _ hds h.ein),key,h.assoc hg (uR h hd0 _) (zEg h _ _ hds h.ein)]
theorem zM7 {β:Type} {T:β → Prop} {n:β → β → β} {f:β} (h:Mon S m e) (h':Mon T n f) (φ:α → β) (hin:∀ a,S a → T (φ a)) (h1:φ e = f) (hm:∀ a b,S a → S b → φ (m a b) = n (φ a) (φ b)):∀ (cs:List α) (x:Vec),(∀ c ∈ cs,S c) → φ (img m cs x e) = img n (cs.map φ) x f
 | [],_,_ => by simp [img,h1]
 | c :: cs,[],_ => by simp [img,h1]
 | c :: cs,x :: xs,hc => by
  have hc0:S c:=hc c (by simp)
  have hcs:∀ c ∈ cs,S c:=fun c h => hc c (by simp [h])
  have key:∀ k,φ (pw m e c k) = pw n f (φ c) k:=by
   intro k
   induction k with
   | zero => simp [pw,iter,h1]
   | succ k ih =>
    rw [pw,vG,pw,vG]
    show φ (m (pw m e c k) c) = n (pw n f (φ c) k) (φ c)
    rw [hm _ _ (uR h hc0 k) hc0,ih]
  rw [tY h hc0 hcs,List.map_cons,tY h' (hin c hc0) (by simp only [List.mem_map];rintro _ ⟨c,hc',rfl⟩;exact hin c (hcs c hc')),hm _ _ (uR h hc0 _) (zEg h _ _ hcs h.ein),key,zM7 h h' φ hin h1 hm cs xs hcs]
end
theorem wH:∀ {P:Pcp},Ok P → V P (zeros P.length)
 | [],_ => rfl
 | l :: P,h => by
  simp only [Ok] at h
  simp only [List.length_cons,zeros,List.replicate_succ,V]
  exact ⟨by omega,wH h.2.2.2.2⟩
theorem xL:∀ {P:Pcp},Ok P → ∀ {x y:Vec},V P x → V P y → V P (mul P x y)
 | [],_,_,_,hx,hy => by simp [mul,V]
 | l :: P,h,[],_,hx,_ => by simp [V] at hx
 | l :: P,h,_ :: _,[],_,hy => by simp [V] at hy
 | l :: P,h,a :: x,b :: y,hx,hy => by
  simp only [Ok] at h
  simp only [V] at hx hy
  have h1:∀ v,V P v → V P (img (mul P) l.cs v (zeros P.length)):=fun v hv => sX (xL h.2.2.2.2) l.cs v h.2.2.2.1 (wH h.2.2.2.2)
  have h2:=xL h.2.2.2.2 (wY h1 b.toNat hx.2) hy.2
  simp only [mul]
  split
  ·exact ⟨by omega,xL h.2.2.2.2 h.2.1 h2⟩
  ·exact ⟨by omega,h2⟩
def Rel {α:Type} (m:α → α → α) (e:α):Pcp → List α → Prop
 | [],s => s = []
 | l :: P,s => match s with
  | [] => False
  | g :: s => pw m e g l.o.toNat = img m s l.w e ∧ (∀ (k:Nat) c d,s[k]? = some c → l.cs[k]? = some d → m c g = m g (img m s d e)) ∧ Rel m e P s
section
variable {α:Type} {S:α → Prop} {m:α → α → α} {e:α}
theorem zWn (h:Mon S m e):∀ (P:Pcp) (s:List α),Ok P → (∀ g ∈ s,S g) → Rel m e P s → ∀ x y,V P x → V P y → img m s (mul P x y) e = m (img m s x e) (img m s y e)
 | [],s,_,_,hr,x,y,hx,hy => by
  simp only [Rel] at hr
  subst hr
  simp [img,h.onel h.ein]
 | l :: P,[],_,_,hr,_,_,_,_ => by simp [Rel] at hr
 | l :: P,g :: s,_,_,_,[],_,hx,_ => by simp [V] at hx
 | l :: P,g :: s,_,_,_,_ :: _,[],_,hy => by simp [V] at hy
 | l :: P,g :: s,hk,hs,hr,a :: x,b :: y,hx,hy => by
  simp only [Ok] at hk
  simp only [Rel] at hr
  simp only [V] at hx hy
  obtain ⟨ho,hw,hcl,hcs,hkP⟩:=hk
  obtain ⟨hr1,hr2,hr3⟩:=hr
  have hg:S g:=hs g (by simp)
  have hss:∀ c ∈ s,S c:=fun c hc => hs c (by simp [hc])
  have hlen:s.length = P.length:=by
   clear hr1 hr2 hx hy hw hcl hcs hs hss
   induction P generalizing s with
   | nil => simp only [Rel] at hr3;simp [hr3]
   | cons l P ih =>
    cases s with
    | nil => simp [Rel] at hr3
    | cons c s => simp only [Rel] at hr3;simp only [Ok] at hkP;simp [ih s hkP.2.2.2.2 hr3.2.2]
  have ih:=zWn h P s hkP hss hr3
  have hφ:∀ v,S (img m s v e):=fun v => zEg h s v hss h.ein
  have hmP:∀ {a b},V P a → V P b → V P (mul P a b):=xL hkP
  have hσin:∀ v,V P v → V P (img (mul P) l.cs v (zeros P.length)):=fun v hv => sX hmP l.cs v hcs (wH hkP)
  have hσ:∀ v,V P v → m (img m s v e) g = m g (img m s (img (mul P) l.cs v (zeros P.length)) e):=by
   intro v hv
   have key:∀ (cs:List Vec) (v:Vec) (acc:Vec),(∀ c ∈ cs,V P c) → V P acc → img m s (img (mul P) cs v acc) e = img m (cs.map fun c => img m s c e) v (img m s acc e):=by
    intro cs
    induction cs with
    | nil => intro v acc _ _;simp [img]
    | cons c cs ihc =>
     intro v acc hc hacc
     cases v with
     | nil => simp [img]
     | cons z v =>
      have hc0:V P c:=hc c (by simp)
      have it:∀ k acc,V P acc → img m s (iter k (fun v => mul P v c) acc) e = iter k (fun v => m v (img m s c e)) (img m s acc e):=by
       intro k
       induction k with
       | zero => intro acc _;rfl
       | succ k ihk =>
        intro acc hacc
        simp only [iter]
        rw [ihk _ (hmP hacc hc0),ih _ _ hacc hc0]
      simp only [img,List.map_cons]
      rw [ihc v _ (fun c h => hc c (by simp [h])) (wY (fun a ha => hmP ha hc0) _ hacc),it _ _ hacc]
   rw [key l.cs v (zeros P.length) hcs (wH hkP),zAF]
   refine zFM h hg s _ v hss (by simp only [List.mem_map];rintro _ ⟨c,_,rfl⟩;exact hφ c) (by simp [hlen,hcl]) ?_
   intro k c d hc hd
   simp only [List.getElem?_map,Option.map_eq_some_iff] at hd
   obtain ⟨d',hd',rfl⟩:=hd
   exact hr2 k c d' hc hd'
  have hσk:∀ k v,V P v → m (img m s v e) (pw m e g k) = m (pw m e g k) (img m s (iter k (fun v => img (mul P) l.cs v (zeros P.length)) v) e):=by
   intro k
   induction k with
   | zero => intro v _;simp [pw,iter,h.onel (hφ v),h.oner (hφ v)]
   | succ k ihk =>
    intro v hv
    rw [zPs h hg,← h.assoc (hφ v) hg (uR h hg k),hσ v hv,h.assoc hg (hφ _) (uR h hg k),ihk _ (hσin v hv),← h.assoc hg (uR h hg k) (hφ _)]
    rfl
  have hpa:=uR h hg a.toNat
  have hpb:=uR h hg b.toNat
  have hit:V P (iter b.toNat (fun v => img (mul P) l.cs v (zeros P.length)) x):=wY hσin _ hx.2
  have hmain:m (img m (g :: s) (a :: x) e) (img m (g :: s) (b :: y) e) = m (pw m e g (a.toNat + b.toNat)) (img m s (mul P (iter b.toNat (fun v => img (mul P) l.cs v (zeros P.length)) x) y) e):=by
   rw [tY h hg hss,tY h hg hss,h.assoc hpa (hφ x) (h.cl hpb (hφ y)),← h.assoc (hφ x) hpb (hφ y),hσk _ _ hx.2,h.assoc hpb (hφ _) (hφ y),← ih _ _ hit hy.2,← h.assoc hpa hpb (hφ _),zFL h hg]
  rw [hmain]
  simp only [mul]
  split
  ·rename_i hge
   rw [tY h hg hss,ih _ _ hw (hmP hit hy.2),← hr1,← h.assoc (uR h hg _) (uR h hg _) (hφ _),← zFL h hg]
   congr 2
   omega
  ·rw [tY h hg hss]
   congr 2
   omega
end
def wI (n j:Nat):Vec:=(zeros n).set j 1
def sig (P:Pcp) (l:Lvl) (v:Vec):Vec:=img (mul P) l.cs v (zeros P.length)
def vA:Pcp → Prop
 | [] => True
 | l :: P => vA P ∧ Rel (mul P) (zeros P.length) P l.cs ∧ sig P l l.w = l.w ∧ ∀ j,j < P.length → mul P l.w (iter l.o.toNat (sig P l) (wI P.length j)) = mul P (wI P.length j) l.w
theorem zHu (n:Nat):wI (n + 1) 0 = 1 :: zeros n:=rfl
theorem zNt (n j:Nat):wI (n + 1) (j + 1) = 0 :: wI n j:=rfl
def xR (n:Nat):List Vec:=(List.range n).map (wI n)
theorem zKU (n:Nat):xR (n + 1) = (1 :: zeros n) :: (xR n).map (0 :: ·):=by
 simp only [xR,List.range_succ_eq_map,List.map_cons,List.map_map,zHu]
 congr 1
theorem zDc:∀ {P:Pcp},Ok P → ∀ {j:Nat},j < P.length → V P (wI P.length j)
 | [],_,_,hj => by simp at hj
 | l :: P,h,0,_ => by
  simp only [Ok] at h
  rw [List.length_cons,zHu];simp only [V];exact ⟨by omega,wH h.2.2.2.2⟩
 | l :: P,h,j + 1,hj => by
  simp only [Ok] at h
  rw [List.length_cons,zNt];simp only [V];exact ⟨by omega,zDc h.2.2.2.2 (by simpa using hj)⟩
theorem zEh {l:Lvl} {P:Pcp} (h:Ok (l :: P)) {v:Vec} (_hv:V P v):V P (sig P l v):=by
 simp only [Ok] at h
 exact sX (xL h.2.2.2.2) l.cs v h.2.2.2.1 (wH h.2.2.2.2)
theorem yT (l:Lvl) (P:Pcp) (a b:Int) (x y:Vec):mul (l :: P) (a :: x) (b :: y) = if a + b ≥ l.o then (a + b - l.o) :: mul P l.w (mul P (iter b.toNat (sig P l) x) y) else (a + b) :: mul P (iter b.toNat (sig P l) x) y:=rfl
theorem zNu {n k:Nat} {c:Vec} (h:(xR n)[k]? = some c):k < n ∧ c = wI n k:=by
 simp only [xR,List.getElem?_map,Option.map_eq_some_iff] at h
 obtain ⟨j,hj,rfl⟩:=h
 obtain ⟨hk,rfl⟩:=List.getElem?_eq_some_iff.1 hj
 simp at hk
 exact ⟨hk,by simp⟩
theorem normal:∀ (P:Pcp),Ok P → (∀ Q,Q <:+ P → Mon (V Q) (mul Q) (zeros Q.length)) → ∀ x,V P x → img (mul P) (xR P.length) x (zeros P.length) = x
 | [],_,_,x,hx => by simp only [V] at hx;subst hx;simp [xR,img,zeros]
 | l :: P,_,_,[],hx => by simp [V] at hx
 | l :: P,h,hM,a :: x,hx => by
  have hMl:=hM (l :: P) (List.suffix_refl _)
  have hMP:=hM P (List.suffix_cons _ _)
  have h':=h
  simp only [Ok] at h
  simp only [V] at hx
  rw [List.length_cons,zKU]
  have hz:V P (zeros P.length):=wH h.2.2.2.2
  have hu0:V (l :: P) (1 :: zeros P.length):=by simp only [V];exact ⟨by omega,hz⟩
  have hus:∀ c ∈ (xR P.length).map (0 :: ·),V (l :: P) c:=by
   intro c hc
   simp only [xR,List.map_map,List.mem_map,List.mem_range] at hc
   obtain ⟨j,hj,rfl⟩:=hc
   simp only [Function.comp,V]
   exact ⟨by omega,zDc h.2.2.2.2 hj⟩
  have hzl:V (l :: P) (zeros (P.length + 1)):=wH (P:=l :: P) h'
  rw [show zeros (P.length + 1) = zeros (l :: P).length from rfl]
  rw [tY hMl hu0 hus]
  have sz:∀ k:Nat,iter k (sig P l) (zeros P.length) = zeros P.length:=by
   intro k
   induction k with
   | zero => rfl
   | succ k ih => simp only [iter];rw [show sig P l (zeros P.length) = zeros P.length from zAF _ _ _ _];exact ih
  have h1:∀ k:Nat,(k:Int) < l.o → pw (mul (l :: P)) (zeros (l :: P).length) (1 :: zeros P.length) k = (k:Int) :: zeros P.length:=by
   intro k
   induction k with
   | zero => intro _;rfl
   | succ k ih =>
    intro hk
    rw [pw,vG]
    show mul (l :: P) (pw (mul (l :: P)) (zeros (l :: P).length) (1 :: zeros P.length) k) (1 :: zeros P.length) = _
    rw [ih (by omega),yT,if_neg (by omega)]
    rw [sz,hMP.onel hz]
    rfl
  have h2:∀ (cs:List Vec) (y acc:Vec),(∀ c ∈ cs,V P c) → V P acc → img (mul (l :: P)) (cs.map (0 :: ·)) y (0 :: acc) = 0 :: img (mul P) cs y acc:=by
   intro cs
   induction cs with
   | nil => intro y acc _ _;simp [img]
   | cons c cs ih =>
    intro y acc hc hacc
    cases y with
    | nil => simp [img]
    | cons z y =>
     have hc0:V P c:=hc c (by simp)
     have it:∀ (k:Nat) (acc:Vec),V P acc → iter k (fun v => mul (l :: P) v (0 :: c)) (0 :: acc) = 0 :: iter k (fun v => mul P v c) acc:=by
      intro k
      induction k with
      | zero => intro _ _;rfl
      | succ k ihk =>
       intro acc hacc
       simp only [iter]
       rw [yT,if_neg (by omega)]
       exact ihk _ (xL h.2.2.2.2 hacc hc0)
     simp only [List.map_cons,img]
     rw [it _ _ hacc,ih _ _ (fun c h => hc c (by simp [h])) (wY (fun a ha => xL h.2.2.2.2 ha hc0) _ hacc)]
  have hun:∀ c ∈ xR P.length,V P c:=by
   intro c hc
   simp only [xR,List.mem_map,List.mem_range] at hc
   obtain ⟨j,hj,rfl⟩:=hc
   exact zDc h.2.2.2.2 hj
  rw [h1 a.toNat (by omega),show zeros (l :: P).length = 0 :: zeros P.length from rfl,h2 _ _ _ hun hz,normal P h.2.2.2.2 (fun Q hQ => hM Q (hQ.trans (List.suffix_cons _ _))) x hx.2,yT,if_neg (by omega)]
  simp only [Int.toNat_zero,iter]
  rw [hMP.onel hx.2]
  congr 1
  omega
theorem zM8:∀ (P:Pcp),Ok P → vA P → Grp (V P) (mul P) (zeros P.length)
 | [],_,_ => by
  refine ⟨⟨fun _ _ => rfl,rfl,fun _ _ _ => rfl,?_,?_⟩,fun ha => ⟨[],rfl,rfl⟩⟩ <;>
  ·intro a ha
   simp only [V] at ha;subst ha;rfl
 | l :: P,h,hc => by
  have h':=h
  simp only [Ok] at h
  simp only [vA] at hc
  obtain ⟨ho,hw,hcl,hcs,hP⟩:=h
  obtain ⟨hcP,hrel,hfix,hinn⟩:=hc
  have N:=zM8 P hP hcP
  have hM:∀ Q,Q <:+ P → Mon (V Q) (mul Q) (zeros Q.length):=by
   intro Q hQ
   obtain ⟨t,ht⟩:=hQ
   have:Ok Q ∧ vA Q:=by
    clear N hw hcl hcs hrel hfix hinn h'
    induction t generalizing P with
    | nil => simp at ht;subst ht;exact ⟨hP,hcP⟩
    | cons a t ih =>
     simp at ht;subst ht
     simp only [Ok] at hP
     simp only [vA] at hcP
     exact ih (t ++ Q) hP.2.2.2.2 hcP.1 rfl
   have hlt:SizeOf.sizeOf Q ≤ SizeOf.sizeOf P:=by
    rw [← ht]
    clear N hw hcl hcs hrel hfix hinn h' hP hcP ht this
    induction t with
    | nil => simp
    | cons a t ih => simp only [List.cons_append,List.cons.sizeOf_spec];omega
   exact (zM8 Q this.1 this.2).toMon
  have hz:V P (zeros P.length):=wH hP
  have σin:∀ v,V P v → V P (sig P l v):=fun _ hv => zEh h' hv
  have σhom:∀ x y,V P x → V P y → sig P l (mul P x y) = mul P (sig P l x) (sig P l y):=fun x y hx hy => zWn N.toMon P l.cs hP hcs hrel x y hx hy
  have σz:sig P l (zeros P.length) = zeros P.length:=zAF _ _ _ _
  have itin:∀ (k:Nat) v,V P v → V P (iter k (sig P l) v):=fun k v hv => wY σin k hv
  have ithom:∀ (k:Nat) x y,V P x → V P y → iter k (sig P l) (mul P x y) = mul P (iter k (sig P l) x) (iter k (sig P l) y):=by
   intro k
   induction k with
   | zero => intro _ _ _ _;rfl
   | succ k ih => intro x y hx hy;simp only [iter];rw [σhom x y hx hy,ih _ _ (σin x hx) (σin y hy)]
  have itz:∀ k:Nat,iter k (sig P l) (zeros P.length) = zeros P.length:=by
   intro k
   induction k with
   | zero => rfl
   | succ k ih => simp only [iter];rw [σz];exact ih
  have itw:∀ k:Nat,iter k (sig P l) l.w = l.w:=by
   intro k
   induction k with
   | zero => rfl
   | succ k ih => simp only [iter];rw [hfix];exact ih
  have hun:∀ c ∈ xR P.length,V P c:=by
   intro c hc
   simp only [xR,List.mem_map,List.mem_range] at hc
   obtain ⟨j,hj,rfl⟩:=hc
   exact zDc hP hj
  have inner:∀ x,V P x → mul P x l.w = mul P l.w (iter l.o.toNat (sig P l) x):=by
   intro x hx
   have hnf:=normal P hP hM x hx
   have hmap:=zM7 N.toMon N.toMon (iter l.o.toNat (sig P l)) (fun a ha => itin _ a ha) (itz _) (fun a b ha hb => ithom _ a b ha hb) (xR P.length) x hun
   rw [← hnf,hmap]
   refine zFM N.toMon hw _ _ x hun (by simp only [List.mem_map];rintro _ ⟨c,hc,rfl⟩;exact itin _ c (hun c hc)) (by simp) ?_
   intro k c d hc hd
   rw [List.getElem?_map,Option.map_eq_some_iff] at hd
   obtain ⟨c',hc',rfl⟩:=hd
   rw [hc] at hc'
   simp at hc';subst hc'
   obtain ⟨hk,rfl⟩:=zNu hc
   exact (hinn k hk).symm
  have e:∀ (x y z:Vec) (b c:Int),V P x → V P y → V P z → 0 ≤ b → 0 ≤ c →
    mul P (iter c.toNat (sig P l) (mul P (iter b.toNat (sig P l) x) y)) z = mul P (iter (b + c).toNat (sig P l) x) (mul P (iter c.toNat (sig P l) y) z) ∧
    mul P (iter c.toNat (sig P l) (mul P l.w (mul P (iter b.toNat (sig P l) x) y))) z = mul P l.w (mul P (iter (b + c).toNat (sig P l) x) (mul P (iter c.toNat (sig P l) y) z)) ∧
    (l.o ≤ b + c → mul P (iter (b + c - l.o).toNat (sig P l) x) (mul P l.w (mul P (iter c.toNat (sig P l) y) z)) = mul P l.w (mul P (iter (b + c).toNat (sig P l) x) (mul P (iter c.toNat (sig P l) y) z))):=by
   intro x y z b c hx hy hz hb hcc
   have hbx:=itin b.toNat x hx
   have hcy:=itin c.toNat y hy
   have hbc:iter c.toNat (sig P l) (iter b.toNat (sig P l) x) = iter (b + c).toNat (sig P l) x:=by
    rw [← zD1];congr 1;omega
   have hbcx:=itin (b + c).toNat x hx
   have e1:mul P (iter c.toNat (sig P l) (mul P (iter b.toNat (sig P l) x) y)) z = mul P (iter (b + c).toNat (sig P l) x) (mul P (iter c.toNat (sig P l) y) z):=by
    rw [ithom _ _ _ hbx hy,hbc,N.assoc hbcx hcy hz]
   refine ⟨e1,?_,?_⟩
   ·rw [ithom _ _ _ hw (N.cl hbx hy),itw,N.assoc hw (itin _ _ (N.cl hbx hy)) hz,e1]
   ·intro hge
    have hcyz:=N.cl hcy hz
    rw [← N.assoc (itin _ x hx) hw hcyz,inner _ (itin _ x hx),← zD1,N.assoc hw (itin _ x hx) hcyz]
    congr 3
    omega
  refine ⟨⟨fun ha hb => xL h' ha hb,wH h',?_,?_,?_⟩,?_⟩
  ·intro A B C hA hB hC
   match A,B,C,hA,hB,hC with
   | a :: x,b :: y,c :: z,hA,hB,hC =>
    simp only [V] at hA hB hC
    obtain ⟨e1,e2,e3⟩:=e x y z b c hA.2 hB.2 hC.2 hB.1.1 hC.1.1
    by_cases c1:a + b ≥ l.o <;> by_cases c2:b + c ≥ l.o
    ·rw [yT,if_pos c1,yT l P b c,if_pos c2,yT,yT,e2,e3 c2]
     by_cases c3:a + b - l.o + c ≥ l.o
     ·rw [if_pos c3,if_pos (by omega)];congr 1;omega
     ·rw [if_neg c3,if_neg (by omega)];congr 1;omega
    ·rw [yT,if_pos c1,yT l P b c,if_neg c2,yT,yT,e2,if_neg (by omega),if_pos (by omega)]
     congr 1;omega
    ·rw [yT,if_neg c1,yT l P b c,if_pos c2,yT,yT,e1,e3 c2,if_pos (by omega),if_neg (by omega)]
     congr 1;omega
    ·rw [yT,if_neg c1,yT l P b c,if_neg c2,yT,yT,e1]
     by_cases c3:a + b + c ≥ l.o
     ·rw [if_pos c3,if_pos (by omega)];congr 1;omega
     ·rw [if_neg c3,if_neg (by omega)];congr 1;omega
  ·intro A hA
   match A,hA with
   | a :: x,hA =>
    simp only [V] at hA
    show mul (l :: P) (0 :: zeros P.length) (a :: x) = _
    rw [yT,if_neg (by omega),itz,N.onel hA.2,Int.zero_add]
  ·intro A hA
   match A,hA with
   | a :: x,hA =>
    simp only [V] at hA
    show mul (l :: P) (a :: x) (0 :: zeros P.length) = _
    rw [yT,if_neg (by omega)]
    simp only [Int.toNat_zero,iter]
    rw [N.oner hA.2,Int.add_zero]
  ·intro A hA
   match A,hA with
   | a :: x,hA =>
    simp only [V] at hA
    by_cases ha:a = 0
    ·obtain ⟨y,hy,h1⟩:=N.inv hA.2
     refine ⟨0 :: y,by simp only [V];exact ⟨by omega,hy⟩,?_⟩
     rw [yT,if_neg (by omega)]
     simp only [Int.toNat_zero,iter]
     rw [h1,ha];rfl
    ·have hx1:=itin (l.o - a).toNat x hA.2
     obtain ⟨y,hy,h1⟩:=N.inv (N.cl hw hx1)
     refine ⟨(l.o - a) :: y,by simp only [V];exact ⟨by omega,hy⟩,?_⟩
     rw [yT,if_pos (by omega),← N.assoc hw hx1 hy,h1,show a + (l.o - a) - l.o = 0 by omega]
     rfl
termination_by P => P
end Go.Pc

namespace Go.Pl
open Go Go.Ab
theorem bs {α β:Type} (x:α) (f:α → Option β):(some x).bind f = f x:=by simp only [Option.bind_some]
theorem zK {α:Type} (x y:α):cond true x y = x:=by simp only [cond_true]
theorem zF {α:Type} (x y:α):cond false x y = y:=by simp only [cond_false]
theorem zD {n:Int} (h1:-9223372036854775808 ≤ n) (h2:n ≤ 9223372036854775807):rng n = some n:=by
 unfold rng
 rw [if_pos]
 simp only [inR,Bool.and_eq_true,decide_eq_true_eq]
 omega
theorem vD {α:Type} (xs:List α) (i:Nat):ixO xs (i:Int) = xs[i]?:=by
 unfold ixO;rw [if_pos (by omega)];simp
theorem zBb {α:Type} {xs:List α} {i:Nat} (h:i < xs.length):ixO xs (i:Int) = some xs[i]:=by
 rw [vD];exact List.getElem?_eq_getElem h
theorem yV {n:Nat} (h:n ≤ 68719476736):yS (n:Int) = some n:=by
 unfold yS;rw [if_pos (by omega)];simp
theorem yL {α:Type} {xs ys:List α} (h:xs.length + ys.length ≤ 68719476736):xM xs ys = some (xs ++ ys):=by
 unfold xM;rw [if_pos h]
theorem zQ {σ ρ:Type} {body:σ → Option (σ ⊕ ρ)} {r:ρ} (S:Nat → σ) (n:Nat) (h:∀ i,i < n → body (S i) = some (.inl (S (i + 1)))) (he:body (S n) = some (.inr r)):zH body (S 0) = some r:=by
 have key:∀ k i,i + k = n → zH body (S i) = some r:=by
  intro k
  induction k with
  | zero => intro i hi;rw [xF,show i = n from by omega,he]
  | succ k ih => intro i hi;rw [xF,h i (by omega)];exact ih (i + 1) (by omega)
 exact key n 0 (by omega)
theorem vT {σ ρ:Type} {body:σ → Option (σ ⊕ ρ)} {Q:ρ → Prop} (I:Nat → σ → Prop) (n:Nat) (h:∀ i s,i < n → I i s → (∃ s',body s = some (.inl s') ∧ I (i + 1) s') ∨ ∃ r,body s = some (.inr r) ∧ Q r)
  (he:∀ s,I n s → ∃ r,body s = some (.inr r) ∧ Q r) {s:σ} (h0:I 0 s):∃ r,zH body s = some r ∧ Q r:=by
 have key:∀ k i s,i + k = n → I i s → ∃ r,zH body s = some r ∧ Q r:=by
  intro k
  induction k with
  | zero =>
   intro i s hi hs
   obtain rfl:i = n:=by omega
   obtain ⟨r,h1,h2⟩:=he s hs
   exact ⟨r,by rw [xF,h1],h2⟩
  | succ k ih =>
   intro i s hi hs
   rcases h i s (by omega) hs with ⟨s',h1,h2⟩ | ⟨r,h1,h2⟩
   ·rw [xF,h1];exact ih (i + 1) s' (by omega) h2
   ·exact ⟨r,by rw [xF,h1],h2⟩
 exact key n 0 s (by omega) h0
def zM9 {ρ:Type}:Option ρ → Unit ⊕ ρ
 | none => .inl ()
 | some r => .inr r
theorem cs (i:Nat):(i:Int) + 1 = ((i + 1:Nat):Int):=by omega
theorem zNv {ρ:Type} {body:Int → Option (Int ⊕ (Unit ⊕ ρ))} (n:Nat) (t:Nat → Option ρ) (i0:Nat) (hn:i0 ≤ n)
  (h:∀ i,i0 ≤ i → i < n → (∀ j,i0 ≤ j → j < i → t j = none) → body (i:Int) = some (match t i with | none => .inl ((i + 1:Nat):Int) | some r => .inr (.inr r)))
  (he:(∀ j,i0 ≤ j → j < n → t j = none) → body (n:Int) = some (.inr (.inl ()))) :
  zH body (i0:Int) = some (zM9 ((List.range' i0 (n - i0)).findSome? t)):=by
 have key:∀ k i,i0 ≤ i → i + k = n → (∀ j,i0 ≤ j → j < i → t j = none) → zH body (i:Int) = some (zM9 ((List.range' i k).findSome? t)):=by
  intro k
  induction k with
  | zero =>
   intro i hi hk hp
   obtain rfl:i = n:=by omega
   rw [xF,he hp];rfl
  | succ k ih =>
   intro i hi hk hp
   rw [xF,h i hi (by omega) hp,List.range'_succ,List.findSome?_cons]
   cases ht:t i with
   | some r => rfl
   | none =>
    simp only
    exact ih (i + 1) (by omega) (by omega) fun j h1 h2 => by
     rcases Nat.lt_or_ge j i with h3 | h3
     ·exact hp j h1 h3
     ·rw [show j = i from by omega];exact ht
 exact key (n - i0) i0 (Nat.le_refl _) (by omega) fun j h1 h2 => by omega
theorem zPt {n:Nat} {b:Nat → Bool}:zM9 ((List.range' 0 n).findSome? (fun i => if b i then none else some false)) = if (List.range n).all b then .inl () else .inr false:=by
 have key:∀ l:List Nat,zM9 (l.findSome? (fun i => if b i then none else some false)) = if l.all b then .inl () else .inr false:=by
  intro l
  induction l with
  | nil => rfl
  | cons x l ih =>
   rw [List.findSome?_cons,List.all_cons]
   cases hb:b x
   ·rfl
   ·simpa using ih
 rw [key,List.range_eq_range']
theorem zNw {body:Int → Option (Int ⊕ (Unit ⊕ Bool))} (n:Nat) (b:Nat → Bool)
  (h:∀ i,i < n → (∀ j,j < i → b j = true) → body (i:Int) = some (if b i then .inl ((i + 1:Nat):Int) else .inr (.inr false)))
  (he:(∀ j,j < n → b j = true) → body (n:Int) = some (.inr (.inl ()))) :
  zH body 0 = some (if (List.range n).all b then .inl () else .inr false):=by
 have:=zNv (body:=body) n (fun i => if b i then none else some false) 0 (Nat.zero_le _) (fun i _ hi hp => by
  rw [h i hi fun j hj => by
   have:=hp j (Nat.zero_le _) hj
   split at this
   ·assumption
   ·cases this]
  cases b i <;> rfl) (fun hp => he fun j hj => by
   have:=hp j (Nat.zero_le _) hj
   split at this
   ·assumption
   ·cases this)
 rw [Nat.sub_zero] at this
 exact this.trans (congrArg some (zPt (n:=n) (b:=b)))
theorem zPu {α:Type} {xs:List α} {z:α} {i:Nat} (h:i < xs.length):(xs.take i ++ List.replicate (xs.length - i) z).set i xs[i] = xs.take (i + 1) ++ List.replicate (xs.length - (i + 1)) z:=by
 have h1:(xs.take i).length = i:=by rw [List.length_take];omega
 rw [List.set_append_right _ _ (by omega),h1,Nat.sub_self,show xs.length - i = (xs.length - (i + 1)) + 1 from by omega,List.replicate_succ,List.set_cons_zero,List.take_succ_eq_append_getElem h]
 simp only [List.append_assoc,List.singleton_append]
theorem zIq {α:Type} {f:α → Option α} {body:List α × Int → Option ((List α × Int) ⊕ List α)} {x0:List α} {z:α}
  (hb:∀ s,body s = cond (decide (s.2 < (x0.length:Int))) ((ixO x0 s.2).bind fun v2 => (f v2).bind fun r3 => (ixO s.1 s.2).bind fun _ => (rng (s.2 + 1)).bind fun v5 => some (.inl (s.1.set s.2.toNat r3,v5))) (some (.inr s.1)))
  (hl:x0.length ≤ 68719476736) (hf:∀ x ∈ x0,f x = some x):zH body (List.replicate x0.length z,0) = some x0:=by
 have:=zQ (body:=body) (r:=x0) (fun i => (x0.take i ++ List.replicate (x0.length - i) z,(i:Int))) x0.length (fun i hi => by
  rw [hb]
  simp only [decide_eq_true (show ((i:Int)) < (x0.length:Int) from by omega),zK]
  rw [zBb hi,vD]
  simp only [bs,hf _ (List.getElem_mem hi)]
  rw [List.getElem?_eq_getElem (by simp;omega),bs,zD (by omega) (by omega),bs]
  simp only [Int.toNat_natCast,zPu hi,cs]) (by
  rw [hb]
  simp only [decide_eq_false (show ¬ ((x0.length:Int)) < (x0.length:Int) from by omega),zF,List.take_length,Nat.sub_self,List.replicate_zero,List.append_nil])
 simpa using this
theorem zRX {α:Type} [BEq α] {t:α → α → Option Bool} {body:Int → Option (Int ⊕ (Unit ⊕ Bool))} {x y:List α}
  (hb:∀ i,body i = cond (decide (i < (x.length:Int))) ((ixO x i).bind fun v1 => (ixO y i).bind fun v2 => (t v1 v2).bind fun r3 => cond (!r3) (some (.inr (.inr false))) ((rng (i + 1)).bind fun v4 => some (.inl v4))) (some (.inr (.inl ()))))
  (hl:x.length ≤ 68719476736) (hxy:x.length = y.length) (ht:∀ u ∈ x,∀ v ∈ y,t u v = some (u == v)):zH body 0 = some (if x == y then .inl () else .inr false):=by
 have h:=zNw (body:=body) x.length (fun i => match x[i]?,y[i]? with | some u,some v => u == v | _,_ => true) (fun i hi _ => by
  have hi':i < y.length:=by omega
  rw [hb]
  simp only [decide_eq_true (show ((i:Int)) < (x.length:Int) from by omega),zK]
  rw [zBb hi,zBb hi']
  simp only [bs,ht _ (List.getElem_mem hi) _ (List.getElem_mem hi'),List.getElem?_eq_getElem hi,List.getElem?_eq_getElem hi']
  cases x[i] == y[i]
  ·rfl
  ·simp only [Bool.not_true,zF,if_true]
   rw [zD (by omega) (by omega),cs];rfl) (fun _ => by
  rw [hb]
  simp only [decide_eq_false (show ¬ ((x.length:Int)) < (x.length:Int) from by omega),zF])
 rw [h]
 congr 2
 have key:∀ (x y:List α),x.length = y.length → ((List.range x.length).all (fun i => match x[i]?,y[i]? with | some u,some v => u == v | _,_ => true)) = (x == y):=by
  intro x
  induction x with
  | nil => intro y hy;cases y with | nil => rfl | cons _ _ => simp at hy
  | cons u x ih =>
   intro y hy
   cases y with
   | nil => simp at hy
   | cons v y =>
    rw [List.length_cons,List.range_succ_eq_map,List.all_cons,List.all_map]
    simp only [List.getElem?_cons_zero,Function.comp_def,List.getElem?_cons_succ]
    rw [ih y (by simpa using hy)]
    rfl
 rw [key x y hxy]
theorem zHv {α:Type} [BEq α] {t:α → α → Option Bool} {f:Option Bool} {body:Int → Option (Int ⊕ (Unit ⊕ Bool))} {x y:List α}
  (hf:f = cond ((x.length:Int) != (y.length:Int)) (some false) ((zH body 0).bind fun r => match r with | .inl _ => some true | .inr r => some r))
  (hb:∀ i,body i = cond (decide (i < (x.length:Int))) ((ixO x i).bind fun v1 => (ixO y i).bind fun v2 => (t v1 v2).bind fun r3 => cond (!r3) (some (.inr (.inr false))) ((rng (i + 1)).bind fun v4 => some (.inl v4))) (some (.inr (.inl ()))))
  (hl:x.length ≤ 68719476736) (ht:∀ u ∈ x,∀ v ∈ y,t u v = some (u == v)):f = some (x == y):=by
 rw [hf]
 by_cases hxy:x.length = y.length
 ·rw [zRX hb hl hxy ht]
  have:((x.length:Int) != (y.length:Int)) = false:=by simp [hxy]
  rw [this]
  cases x == y <;> rfl
 ·have:((x.length:Int) != (y.length:Int)) = true:=by simp;omega
  rw [this]
  have h2:(x == y) = false:=by
   have key:∀ (x y:List α),x.length ≠ y.length → (x == y) = false:=by
    intro x
    induction x with
    | nil => intro y hy;cases y with | nil => simp at hy | cons _ _ => rfl
    | cons u x ih =>
     intro y hy
     cases y with
     | nil => rfl
     | cons v y =>
      show (u == v && x == y) = false
      rw [ih y (by simpa using hy),Bool.and_false]
   exact key x y hxy
  rw [h2];rfl
end Go.Pl

namespace Go.Pl
open Go Go.Ab
def sm {α:Type} (c:α → Nat):List α → Nat
 | [] => 0
 | x :: xs => c x + sm c xs
theorem zEi {α:Type} (c:α → Nat):∀ xs ys:List α,sm c (xs ++ ys) = sm c xs + sm c ys
 | [],ys => by simp [sm]
 | x :: xs,ys => by simp only [List.cons_append,sm,zEi c xs ys];omega
theorem zMA {α:Type} (c:α → Nat) {xs:List α} {i:Nat} (h:i < xs.length):sm c (xs.take (i + 1)) = sm c (xs.take i) + c xs[i]:=by
 rw [List.take_succ_eq_append_getElem h,zEi];simp [sm]
theorem zFN {α:Type} (c:α → Nat) (xs:List α) (i:Nat):sm c (xs.take i) ≤ sm c xs:=by
 have:=zEi c (xs.take i) (xs.drop i)
 rw [List.take_append_drop] at this;omega
theorem zPv {α:Type} (c:α → Nat) {xs:List α} {x:α} (h:x ∈ xs):c x ≤ sm c xs:=by
 obtain ⟨i,hi,rfl⟩:=List.mem_iff_getElem.1 h
 have:=zMA c hi
 have:=zFN c xs (i + 1)
 omega
def szR (c:Nat) (b:Int):Int:=if (c:Int) ≤ b then b - c else -1
theorem zTx {α:Type} {c:α → Nat} {t:α → Int → Option Int} {f:Option Int} {body:Int × Int → Option ((Int × Int) ⊕ (Int ⊕ Int))} {xs:List α} {b:Int}
  (hf:f = (rng (b - (xs.length:Int))).bind fun v1 => cond (decide (v1 < 0)) (some (-1)) ((zH body (v1,0)).bind fun r => match r with | .inl r => some r | .inr r => some r))
  (hb:∀ s,body s = cond (decide (s.2 < (xs.length:Int))) ((ixO xs s.2).bind fun v2 => (t v2 s.1).bind fun r3 => cond (decide (r3 < 0)) (some (.inr (.inr (-1)))) ((rng (s.2 + 1)).bind fun v4 => some (.inl (r3,v4)))) (some (.inr (.inl s.1))))
  (hl:xs.length ≤ 9223372036854775807) (b0:0 ≤ b) (b1:b ≤ 1048576) (ht:∀ x ∈ xs,∀ b',0 ≤ b' → b' ≤ 1048576 → t x b' = some (szR (c x) b')):f = some (szR (xs.length + sm c xs) b):=by
 rw [hf,zD (by omega) (by omega),bs]
 by_cases h0:b - (xs.length:Int) < 0
 ·rw [decide_eq_true h0,zK,szR,if_neg (by omega)]
 ·rw [decide_eq_false h0,zF]
  obtain ⟨r,h1,h2⟩:=vT (body:=body) (Q:=fun r => (match r with | .inl r => some r | .inr r => some r) = some (szR (xs.length + sm c xs) b)) (fun i s => s.2 = (i:Int) ∧ 0 ≤ s.1 ∧ s.1 = b - xs.length - sm c (xs.take i)) xs.length (fun i s hi ⟨e1,e2,e3⟩ => by
   rw [hb,e1,decide_eq_true (by omega),zK,zBb hi,bs,ht _ (List.getElem_mem hi) _ e2 (by omega),bs]
   have h3:=zMA c hi
   have h4:=zFN c xs (i + 1)
   unfold szR
   by_cases h5:(c xs[i]:Int) ≤ s.1
   ·rw [if_pos h5,decide_eq_false (by omega),zF,zD (by omega) (by omega),bs,cs]
    exact .inl ⟨_,rfl,rfl,by simp only;omega,by simp only;omega⟩
   ·rw [if_neg h5]
    refine .inr ⟨.inr (-1),rfl,?_⟩
    simp only
    rw [if_neg (by omega)]) (fun s ⟨e1,e2,e3⟩ => by
   rw [hb,e1,decide_eq_false (by omega),zF]
   rw [List.take_length] at e3
   refine ⟨_,rfl,?_⟩
   simp only
   rw [szR,if_pos (by omega),e3]
   congr 1;omega) (s:=(b - (xs.length:Int),0)) ⟨rfl,by simp only;omega,by simp [sm]⟩
  rw [h1,bs,h2]
end Go.Pl

namespace Go.Pl
open Go Go.Ab Go.Wk
abbrev VI (n:Int):Prop:=(Lit.int .i64 n).wf = true
abbrev VL {α:Type} (V:α → Prop) (xs:List α):Prop:=xs.length ≤ maxLen ∧ ∀ x ∈ xs,V x
abbrev c1 (x:List Int):Nat:=x.length
abbrev c2 (x:List (List Int)):Nat:=x.length + sm c1 x
abbrev c3 (x:List (List (List Int))):Nat:=x.length + sm c2 x
theorem zJ2 {x:List Int} {b:Int} (hl:x.length ≤ 9223372036854775807) (b0:0 ≤ b) (b1:b ≤ 1048576):zQh x b = some (szR (c1 x) b):=by
 unfold zQh szR
 rw [zD (by omega) (by omega),bs]
 by_cases h:(c1 x:Int) ≤ b
 ·rw [decide_eq_false (by simp only [c1] at h;omega),zF,if_pos h]
 ·rw [decide_eq_true (by simp only [c1] at h;omega),zK,if_neg h]
theorem zCn {x:List (List Int)} {b:Int} (h:VL (VL VI) x) (b0:0 ≤ b) (b1:b ≤ 1048576):zNK x b = some (szR (c2 x) b) :=
 zTx (c:=c1) rfl (fun _ => rfl) h.1 b0 b1 fun y hy _ h1 h2 => zJ2 (h.2 y hy).1 h1 h2
theorem zFO {x:List (List (List Int))} {b:Int} (h:VL (VL (VL VI)) x) (b0:0 ≤ b) (b1:b ≤ 1048576):zSu x b = some (szR (c3 x) b) :=
 zTx (c:=c2) rfl (fun _ => rfl) h.1 b0 b1 fun y hy _ h1 h2 => zCn (h.2 y hy) h1 h2
abbrev S1 (x:List Int):Prop:=c1 x ≤ 1048576
abbrev S2 (x:List (List Int)):Prop:=c2 x ≤ 1048576
abbrev S3 (x:List (List (List Int))):Prop:=c3 x ≤ 1048576
theorem S2.mem {x:List (List Int)} (h:S2 x) {y:List Int} (hy:y ∈ x):S1 y:=by
 have:=zPv c1 hy
 simp only [S2,S1,c2] at h ⊢;omega
theorem S3.mem {x:List (List (List Int))} (h:S3 x) {y:List (List Int)} (hy:y ∈ x):S2 y:=by
 have:=zPv c2 hy
 simp only [S3,S2,c3] at h ⊢;omega
theorem S1.len {x:List Int} (h:S1 x):x.length ≤ 1048576:=h
theorem S2.len {x:List (List Int)} (h:S2 x):x.length ≤ 1048576:=by simp only [S2,c2] at h;omega
theorem S3.len {x:List (List (List Int))} (h:S3 x):x.length ≤ 1048576:=by simp only [S3,c3] at h;omega
theorem zJ3 {x:List Int} (h:S1 x):zNL x = some x:=by
 unfold zNL
 rw [yV (Nat.le_trans h (by decide)),bs,zIq (body:=zQi x) (f:=some) (fun _ => rfl) (Nat.le_trans h (by decide)) (fun _ _ => rfl),bs]
theorem zCo {x:List (List Int)} (h:S2 x):f_J x = some x:=by
 unfold f_J
 rw [yV (Nat.le_trans h.len (by decide)),bs,zIq (body:=zUB x) (f:=zNL) (fun _ => rfl) (Nat.le_trans h.len (by decide)) (fun _ hx => zJ3 (h.mem hx)),bs]
theorem zFP {x:List (List (List Int))} (h:S3 x):zQk x = some x:=by
 unfold zQk
 rw [yV (Nat.le_trans h.len (by decide)),bs,zIq (body:=zQj x) (f:=f_J) (fun _ => rfl) (Nat.le_trans h.len (by decide)) (fun _ hx => zCo (h.mem hx)),bs]
theorem zJ4 {x y:List Int} (h:S1 x):zRf x y = some (x == y) :=
 zHv (t:=fun u v => some (u == v)) (body:=zRe x y) rfl (fun _ => rfl) (Nat.le_trans h.len (by decide)) fun _ _ _ _ => rfl
theorem zCp {x y:List (List Int)} (h:S2 x):zLG x y = some (x == y) :=
 zHv (t:=zRf) (body:=zRg x y) rfl (fun _ => rfl) (Nat.le_trans h.len (by decide)) fun _ hu _ _ => zJ4 (h.mem hu)
theorem zFQ {x y:List (List (List Int))} (h:S3 x):zSB x y = some (x == y) :=
 zHv (t:=zLG) (body:=zRh x y) rfl (fun _ => rfl) (Nat.le_trans h.len (by decide)) fun _ hu _ _ => zCp (h.mem hu)
def zMB (x:SPr):Prop:=VL VI x.zA ∧ VL (VL VI) x.zW ∧ VL (VL (VL VI)) x.zC
def zRY (x:zE):Prop:=VI x.Prime ∧ VI x.Dim ∧ VL (VL (VL VI)) x.zL
def zJ5 (x:SPr):Nat:=c1 x.zA + c2 x.zW + c3 x.zC
def zRZ (x:zE):Nat:=c3 x.zL
def zD4 (x:SPr):Prop:=S1 x.zA ∧ S2 x.zW ∧ S3 x.zC
def zIr (x:zE):Prop:=S3 x.zL
theorem zJ6 {a b:Nat} {n:Int}:(szR a n < 0 ∧ szR (a + b) n = -1) ∨ (0 ≤ szR a n ∧ szR a n ≤ n ∧ szR b (szR a n) = szR (a + b) n ∧ (a:Int) ≤ n) ∨ n < 0:=by
 unfold szR
 by_cases h:(a:Int) ≤ n
 ·rw [if_pos h]
  refine .inr (.inl ⟨by omega,by omega,?_,h⟩)
  by_cases h2:(b:Int) ≤ n - a
  ·rw [if_pos h2,if_pos (by omega)];omega
  ·rw [if_neg h2,if_neg (by omega)]
 ·rw [if_neg h]
  by_cases h3:n < 0
  ·exact .inr (.inr h3)
  ·exact .inl ⟨by omega,by rw [if_neg (by omega)]⟩
theorem zFR {x:SPr} {b:Int} (h:zMB x) (b0:0 ≤ b) (b1:b ≤ 1048576):zSv x b = some (szR (zJ5 x) b):=by
 obtain ⟨h1,h2,h3⟩:=h
 unfold zSv zJ5
 rw [zJ2 h1.1 b0 b1,bs]
 rcases zJ6 (a:=c1 x.zA) (b:=c2 x.zW + c3 x.zC) (n:=b) with ⟨g1,g2⟩ | ⟨g1,g2,g3,g4⟩ | g1
 ·rw [decide_eq_true g1,zK,Nat.add_assoc,g2]
 ·rw [decide_eq_false (by omega),zF,zCn h2 g1 (by omega),bs,Nat.add_assoc,← g3]
  generalize szR (c1 x.zA) b = b' at g1 g2
  rcases zJ6 (a:=c2 x.zW) (b:=c3 x.zC) (n:=b') with ⟨k1,k2⟩ | ⟨k1,k2,k3,k4⟩ | k1
  ·rw [decide_eq_true k1,zK,k2]
  ·rw [decide_eq_false (by omega),zF,zFO h3 k1 (by omega),bs,← k3]
   generalize szR (c2 x.zW) b' = b'' at k1 k2
   unfold szR
   by_cases h4:(c3 x.zC:Int) ≤ b''
   ·rw [if_pos h4,decide_eq_false (by omega),zF]
   ·rw [if_neg h4];rfl
  ·omega
 ·omega
theorem zPw {x:zE} {b:Int} (h:zRY x) (b0:0 ≤ b) (b1:b ≤ 1048576):zSw x b = some (szR (zRZ x) b):=by
 obtain ⟨_,_,h3⟩:=h
 unfold zSw zRZ
 rw [zFO h3 b0 b1,bs]
 unfold szR
 by_cases h4:(c3 x.zL:Int) ≤ b
 ·rw [if_pos h4,decide_eq_false (by omega),zF]
 ·rw [if_neg h4];rfl
theorem zEU {c:Nat} {b:Int} (b0:0 ≤ b) (b1:b ≤ 1048576):(decide (szR c b < 0) = true) ∨ (decide (szR c b < 0) = false ∧ 0 ≤ szR c b ∧ szR c b ≤ 1048576 ∧ c ≤ 1048576):=by
 unfold szR
 by_cases h:(c:Int) ≤ b
 ·rw [if_pos h];exact .inr ⟨decide_eq_false (by omega),by omega,by omega,by omega⟩
 ·rw [if_neg h];exact .inl rfl
theorem zD4.of {x:SPr} (h:zJ5 x ≤ 1048576):zD4 x:=by
 unfold zJ5 at h
 exact ⟨by simp only [S1];omega,by simp only [S2];omega,by simp only [S3];omega⟩
theorem zIr.of {x:zE} (h:zRZ x ≤ 1048576):zIr x:=h
theorem zFS {x:SPr} (h:zD4 x):zNM x = some x:=by
 unfold zNM
 rw [zJ3 h.1,bs,zCo h.2.1,bs,zFP h.2.2,bs]
theorem zPx {x:zE} (h:zIr x):zNN x = some x:=by
 unfold zNN
 rw [zFP h,bs]
theorem zPy {x:zE} (h:zIr x):zSC x x = some true:=by
 unfold zSC
 rw [zFQ h,bs]
 simp
theorem zFT {x:SPr} (h:zD4 x):zSD x x = some true:=by
 unfold zSD
 rw [zJ4 h.1,bs,zCp h.2.1,bs,zFQ h.2.2,bs]
 simp
end Go.Pl

namespace Go.Pl
open Go Go.Ab Go.Wk
def IsB (o:Option Bool) (P:Prop):Prop:=(o = some true ∧ P) ∨ (o = some false ∧ ¬ P)
theorem IsB.iff {o:Option Bool} {P Q:Prop} (h:IsB o P) (hpq:P ↔ Q):IsB o Q:=by
 rcases h with ⟨h1,h2⟩ | ⟨h1,h2⟩
 ·exact .inl ⟨h1,hpq.1 h2⟩
 ·exact .inr ⟨h1,fun h => h2 (hpq.2 h)⟩
theorem IsB.of_bool {b:Bool} {P:Prop} (h:b = true ↔ P):IsB (some b) P:=by
 cases b
 ·exact .inr ⟨rfl,fun hp => by have:=h.2 hp;cases this⟩
 ·exact .inl ⟨rfl,h.1 rfl⟩
theorem chk {ρ:Type} {body:Int → Option (Int ⊕ (Unit ⊕ ρ))} (n i0:Nat) (hn:i0 ≤ n) (P:Nat → Prop) (bad:Nat → ρ)
  (h:∀ i,i0 ≤ i → i < n → (∀ j,i0 ≤ j → j < i → P j) → (body (i:Int) = some (.inl ((i + 1:Nat):Int)) ∧ P i) ∨ (body (i:Int) = some (.inr (.inr (bad i))) ∧ ¬ P i))
  (he:body (n:Int) = some (.inr (.inl ()))) :
  (zH body (i0:Int) = some (.inl ()) ∧ ∀ j,i0 ≤ j → j < n → P j) ∨ ∃ i,i0 ≤ i ∧ i < n ∧ zH body (i0:Int) = some (.inr (bad i)) ∧ ¬ P i:=by
 have key:∀ k i,i0 ≤ i → i + k = n → (∀ j,i0 ≤ j → j < i → P j) → (zH body (i:Int) = some (.inl ()) ∧ ∀ j,i0 ≤ j → j < n → P j) ∨ ∃ q,i0 ≤ q ∧ q < n ∧ zH body (i:Int) = some (.inr (bad q)) ∧ ¬ P q:=by
  intro k
  induction k with
  | zero =>
   intro i hi hk hp
   obtain rfl:i = n:=by omega
   exact .inl ⟨by rw [xF,he],hp⟩
  | succ k ih =>
   intro i hi hk hp
   rcases h i hi (by omega) hp with ⟨h1,h2⟩ | ⟨h1,h2⟩
   ·have:=ih (i + 1) (by omega) (by omega) fun j a b => by
     rcases Nat.lt_or_ge j i with c | c
     ·exact hp j a c
     ·rw [show j = i from by omega];exact h2
    rw [xF,h1]
    exact this
   ·exact .inr ⟨i,hi,by omega,by rw [xF,h1],h2⟩
 exact key (n - i0) i0 (Nat.le_refl _) (by omega) fun j a b => by omega
theorem tV {f:Option Bool} {body:Int → Option (Int ⊕ (Unit ⊕ Bool))} (n:Nat) (P:Nat → Prop)
  (hf:f = (zH body 0).bind fun r => match r with | .inl _ => some true | .inr r => some r)
  (h:∀ i,i < n → (∀ j,j < i → P j) → (body (i:Int) = some (.inl ((i + 1:Nat):Int)) ∧ P i) ∨ (body (i:Int) = some (.inr (.inr false)) ∧ ¬ P i))
  (he:body (n:Int) = some (.inr (.inl ()))):IsB f (∀ i,i < n → P i):=by
 rcases chk n 0 (Nat.zero_le _) P (fun _ => false) (fun i _ hi hp => h i hi fun j hj => hp j (Nat.zero_le _) hj) he with ⟨h1,h2⟩ | ⟨i,_,hi,h1,h2⟩
 ·refine .inl ⟨?_,fun i hi => h2 i (Nat.zero_le _) hi⟩
  rw [hf];rw [show ((0:Nat):Int) = 0 from rfl] at h1;rw [h1,bs]
 ·refine .inr ⟨?_,fun hp => h2 (hp i hi)⟩
  rw [hf];rw [show ((0:Nat):Int) = 0 from rfl] at h1;rw [h1,bs]
theorem vW {o:Option Bool} {P:Prop} {ρ:Type} {bad:ρ} {i:Nat} {g:Option (Int ⊕ (Unit ⊕ ρ))} (h:IsB o P) (hi:i < 9223372036854775807)
  (hg:g = o.bind fun r => cond (!r) (some (.inr (.inr bad))) ((rng ((i:Int) + 1)).bind fun v => some (.inl v))):(g = some (.inl ((i + 1:Nat):Int)) ∧ P) ∨ (g = some (.inr (.inr bad)) ∧ ¬ P):=by
 subst hg
 rcases h with ⟨h1,h2⟩ | ⟨h1,h2⟩
 ·refine .inl ⟨?_,h2⟩
  rw [h1,bs,Bool.not_true,zF,zD (by omega) (by omega),bs,cs]
 ·refine .inr ⟨?_,h2⟩
  rw [h1,bs,Bool.not_false,zK]
theorem yR {i n:Nat} (h:i < n):decide ((i:Int) < (n:Int)) = true:=decide_eq_true (by omega)
theorem xC {n:Nat}:decide ((n:Int) < (n:Int)) = false:=decide_eq_false (by omega)
theorem jF (x a b:Int):IsB (zLC x a b) (a ≤ x ∧ x ≤ b):=by
 unfold zLC
 by_cases h:x ≥ a
 ·rw [decide_eq_true h,zK];exact IsB.of_bool (by simp;omega)
 ·rw [decide_eq_false h,zF];exact .inr ⟨rfl,by omega⟩
theorem zBM (x a b:Int):IsB (zQl x a b) (a ≤ x ∧ x ≤ b):=jF x a b
def Prime (p:Int):Prop:=p = 2 ∨ p = 3 ∨ p = 5 ∨ p = 7
theorem zBc (x:Int):IsB (zNO x) (Prime x):=by
 unfold zNO Prime
 by_cases h2:x = 2
 ·subst h2;exact .inl ⟨rfl,.inl rfl⟩
 ·rw [show (x == 2) = false from by simpa using h2,zF]
  by_cases h3:x = 3
  ·subst h3;exact .inl ⟨rfl,.inr (.inl rfl)⟩
  ·rw [show (x == 3) = false from by simpa using h3,zF]
   by_cases h5:x = 5
   ·subst h5;exact .inl ⟨rfl,.inr (.inr (.inl rfl))⟩
   ·rw [show (x == 5) = false from by simpa using h5,zF]
    exact IsB.of_bool (by simp;omega)
theorem zFU (x:Int):IsB (zSx x) (Prime x):=zBc x
abbrev at0 (v:List Int) (i:Nat):Int:=v.getD i 0
theorem yG {v:List Int} {i:Nat} (h:i < v.length):ixO v (i:Int) = some (at0 v i):=by
 rw [zBb h,at0,List.getD_eq_getElem?_getD,List.getElem?_eq_getElem h];rfl
def zWo (os v:List Int):Prop:=v.length = os.length ∧ ∀ i,i < v.length → 0 ≤ at0 v i ∧ at0 v i ≤ at0 os i - 1
def Exp (os v:List Int) (k:Nat):Prop:=zWo os v ∧ ∀ i,i ≤ k → at0 v i = 0
def Os (os:List Int):Prop:=os.length ≤ 9 ∧ ∀ i,i < os.length → Prime (at0 os i)
theorem Prime.pos {p:Int} (h:Prime p):2 ≤ p ∧ p ≤ 7:=by unfold Prime at h;omega
theorem zEj {x:SPr} {v:List Int} (ho:Os x.zA):IsB (zS5 x v) (zWo x.zA v):=by
 unfold zS5
 by_cases h:v.length = x.zA.length
 ·rw [show ((v.length:Int) != (x.zA.length:Int)) = false from by simp [h],zF]
  have h6:=ho.1
  refine (tV v.length (fun i => 0 ≤ at0 v i ∧ at0 v i ≤ at0 x.zA i - 1) rfl (fun i hi _ => ?_) ?_).iff ⟨fun g => ⟨h,g⟩,fun g => g.2⟩
  ·have hp:=(ho.2 i (by omega)).pos
   refine vW (jF _ _ _) (by omega) ?_
   unfold zNb
   rw [yR hi,zK,yG hi,bs,yG (by omega),bs,zD (by omega) (by omega),bs]
  ·unfold zNb
   rw [xC,zF]
 ·rw [show ((v.length:Int) != (x.zA.length:Int)) = true from by simp;omega,zK]
  exact .inr ⟨rfl,fun g => h g.1⟩
theorem zJ7 {v:List Int} (hl:v.length ≤ 9):IsB (f_A v) (∀ i,i < v.length → at0 v i = 0):=by
 refine tV v.length (fun i => at0 v i = 0) rfl (fun i hi _ => ?_) ?_
 ·refine vW (o:=some (at0 v i == 0)) (IsB.of_bool (by simp)) (by omega) ?_
  unfold zKp
  rw [yR hi,zK,yG hi,bs,bs];rfl
 ·unfold zKp
  rw [xC,zF]
theorem zBu {x:SPr} {k:Nat} {v:List Int} (ho:Os x.zA) (hk:k < x.zA.length):IsB (zQ7 x k v) (Exp x.zA v k):=by
 have h6:=ho.1
 unfold zQ7
 rcases zEj (v:=v) ho with ⟨h1,h2⟩ | ⟨h1,h2⟩
 ·have hl:=h2.1
  rw [h1,bs,zK,zD (by omega) (by omega),bs]
  have hs:zT v 0 ((k:Int) + 1) = some (v.take (k + 1)):=by
   unfold zT
   rw [if_pos (by omega)]
   simp only [Int.toNat_zero,List.drop_zero,Nat.sub_zero]
   congr 2
  rw [hs,bs]
  have hb:=zJ7 (v:=v.take (k + 1)) (by rw [List.length_take];omega)
  have hiff:(∀ i,i < (v.take (k + 1)).length → at0 (v.take (k + 1)) i = 0) ↔ Exp x.zA v k:=by
   have e:∀ i,i ≤ k → at0 (v.take (k + 1)) i = at0 v i:=fun i hi => by
    simp only [at0,List.getD_eq_getElem?_getD,List.getElem?_take]
    rw [if_pos (by omega)]
   rw [List.length_take,Nat.min_eq_left (by omega)]
   exact ⟨fun g => ⟨h2,fun i hi => by rw [← e i hi];exact g i (by omega)⟩,fun g i hi => by rw [e i (by omega)];exact g.2 i (by omega)⟩
  rcases hb.iff hiff with ⟨g1,g2⟩ | ⟨g1,g2⟩
  ·rw [g1,bs];exact .inl ⟨rfl,g2⟩
  ·rw [g1,bs];exact .inr ⟨rfl,g2⟩
 ·rw [h1,bs,zF]
  exact .inr ⟨rfl,fun g => h2 g.1⟩
theorem zBN {os v:List Int} {k:Nat} (ho:Os os) (hk:k < os.length):IsB (zQm os v k) (Exp os v k):=by
 have h6:=ho.1
 unfold zQm
 by_cases h:v.length = os.length
 ·rw [show ((v.length:Int) != (os.length:Int)) = false from by simp [h],zF]
  refine (tV v.length (fun i => (0 ≤ at0 v i ∧ at0 v i ≤ at0 os i - 1) ∧ (i ≤ k → at0 v i = 0)) rfl (fun i hi _ => ?_) ?_).iff ⟨fun g => ⟨⟨h,fun i hi => (g i hi).1⟩,fun i hi => (g i (by omega)).2 hi⟩,fun g i hi => ⟨g.1.2 i hi,fun hk => g.2 i hk⟩⟩
  ·have hp:=(ho.2 i (by omega)).pos
   unfold zMX
   rw [yR hi,zK,yG hi,bs,yG (by omega),bs,zD (by omega) (by omega),bs]
   rcases zBM (at0 v i) 0 (at0 os i - 1) with ⟨h1,h2⟩ | ⟨h1,h2⟩
   ·rw [h1,bs,Bool.not_true,zF]
    by_cases h3:(i:Int) ≤ (k:Int)
    ·rw [decide_eq_true h3,zK,bs]
     by_cases h4:at0 v i = 0
     ·rw [show (at0 v i != 0) = false from by simp only [h4];rfl,zF,zD (by omega) (by omega),bs,cs]
      exact .inl ⟨rfl,h2,fun _ => h4⟩
     ·rw [show (at0 v i != 0) = true from by simpa using h4,zK]
      exact .inr ⟨rfl,fun g => h4 (g.2 (by omega))⟩
    ·rw [decide_eq_false h3,zF,zD (by omega) (by omega),bs,cs]
     exact .inl ⟨rfl,h2,fun g => absurd (by omega) h3⟩
   ·rw [h1,bs,Bool.not_false,zK]
    exact .inr ⟨rfl,fun g => h2 g.1⟩
  ·unfold zMX
   rw [xC,zF]
 ·rw [show ((v.length:Int) != (os.length:Int)) = true from by simp;omega,zK]
  exact .inr ⟨rfl,fun g => h g.1.1⟩
end Go.Pl

namespace Go.Pl
open Go Go.Ab Go.Wk
theorem zWW {σ ρ:Type} {body:σ → Option (σ ⊕ (Unit ⊕ ρ))} (S:Nat → σ) (n i0:Nat) (hn:i0 ≤ n) (P:Nat → Prop) (bad:Nat → ρ)
  (h:∀ i,i0 ≤ i → i < n → (∀ j,i0 ≤ j → j < i → P j) → (body (S i) = some (.inl (S (i + 1))) ∧ P i) ∨ (body (S i) = some (.inr (.inr (bad i))) ∧ ¬ P i))
  (he:body (S n) = some (.inr (.inl ()))) :
  (zH body (S i0) = some (.inl ()) ∧ ∀ j,i0 ≤ j → j < n → P j) ∨ ∃ i,i0 ≤ i ∧ i < n ∧ zH body (S i0) = some (.inr (bad i)) ∧ ¬ P i:=by
 have key:∀ k i,i0 ≤ i → i + k = n → (∀ j,i0 ≤ j → j < i → P j) → (zH body (S i) = some (.inl ()) ∧ ∀ j,i0 ≤ j → j < n → P j) ∨ ∃ q,i0 ≤ q ∧ q < n ∧ zH body (S i) = some (.inr (bad q)) ∧ ¬ P q:=by
  intro k
  induction k with
  | zero =>
   intro i hi hk hp
   obtain rfl:i = n:=by omega
   exact .inl ⟨by rw [xF,he],hp⟩
  | succ k ih =>
   intro i hi hk hp
   rcases h i hi (by omega) hp with ⟨h1,h2⟩ | ⟨h1,h2⟩
   ·have:=ih (i + 1) (by omega) (by omega) fun j a b => by
     rcases Nat.lt_or_ge j i with c | c
     ·exact hp j a c
     ·rw [show j = i from by omega];exact h2
    rw [xF,h1]
    exact this
   ·exact .inr ⟨i,hi,by omega,by rw [xF,h1],h2⟩
 exact key (n - i0) i0 (Nat.le_refl _) (by omega) fun j a b => by omega
theorem jX {a b:Int} (h:a = b):(a != b) = false:=by simp [h]
theorem qE {a b:Int} (h:a ≠ b):(a != b) = true:=by simp [h]
def pr (os:List Int):Nat → Int
 | 0 => 1
 | i + 1 => pr os i * at0 os i
def cp (os:List Int):Nat → Int
 | 0 => 1
 | i + 1 => if cp os i ≤ 729 then cp os i * at0 os i else cp os i
theorem zFV {os:List Int}:∀ {i:Nat},(∀ j,j < i → Prime (at0 os j)) → 1 ≤ pr os i
 | 0,_ => by simp [pr]
 | i + 1,h => by
  have h1:=zFV (os:=os) (i:=i) fun j hj => h j (by omega)
  have h2:=(h i (by omega)).pos
  simp only [pr]
  have:(1:Int) * 1 ≤ pr os i * at0 os i:=Int.mul_le_mul h1 (by omega) (by omega) (by omega)
  omega
theorem zMC {os:List Int} {i:Nat} (h:∀ j,j ≤ i → Prime (at0 os j)):pr os i ≤ pr os (i + 1):=by
 have h1:=zFV (os:=os) (i:=i) fun j hj => h j (by omega)
 have h2:=(h i (Nat.le_refl _)).pos
 simp only [pr]
 have:pr os i * 1 ≤ pr os i * at0 os i:=Int.mul_le_mul_of_nonneg_left (by omega) (by omega)
 omega
theorem zMD {os:List Int} {n:Nat} (h:∀ j,j < n → Prime (at0 os j)):∀ k,k ≤ n → pr os (n - k) ≤ pr os n
 | 0,_ => Int.le_refl _
 | k + 1,hk => by
  have h1:=zMD h k (by omega)
  have h2:=zMC (os:=os) (i:=n - (k + 1)) fun j hj => h j (by omega)
  rw [show n - (k + 1) + 1 = n - k from by omega] at h2
  omega
theorem zPz {os:List Int}:∀ {i:Nat},(∀ j,j < i → Prime (at0 os j)) → (cp os i = pr os i ∧ pr os i ≤ 729 ∨ 729 < cp os i ∧ cp os i ≤ 5103 ∧ 729 < pr os i)
 | 0,_ => by simp [cp,pr]
 | i + 1,h => by
  have h0:∀ j,j < i → Prime (at0 os j):=fun j hj => h j (by omega)
  have h2:=(h i (by omega)).pos
  have h3:=zMC (os:=os) (i:=i) fun j hj => h j (by omega)
  have hpp:=zFV h0
  simp only [cp]
  rcases zPz h0 with ⟨h1,h4⟩ | ⟨h1,h4,h5⟩
  ·rw [h1,if_pos h4]
   have h6:pr os i * at0 os i ≤ 729 * 7:=Int.mul_le_mul h4 h2.2 (by omega) (by omega)
   simp only [pr] at h3 ⊢
   generalize pr os i * at0 os i = b at h3 h6 ⊢
   simp only [true_and];omega
  ·rw [if_neg (by omega)]
   omega
def zFW (x:SPr) (i:Nat):Prop:=Exp x.zA (x.zW.getD i []) i ∧ (x.zC.getD i []).length + i + 1 = x.zA.length ∧ ∀ j,j < (x.zC.getD i []).length → Exp x.zA ((x.zC.getD i []).getD j []) i
structure Pres (x:SPr):Prop where
 os:Os x.zA
 pl:x.zW.length = x.zA.length
 cl:x.zC.length = x.zA.length
 tl:∀ i,i < x.zA.length → zFW x i
structure zFX (x:SPr):Prop extends Pres x where
 n6:x.zA.length ≤ 6
 pr:pr x.zA x.zA.length ≤ 729
theorem yF {α:Type} {v:List α} {i:Nat} (d:α) (h:i < v.length):ixO v (i:Int) = some (v.getD i d):=by
 rw [zBb h,List.getD_eq_getElem?_getD,List.getElem?_eq_getElem h];rfl
theorem zKV {x:SPr} (ho:Os x.zA) (hp:x.zW.length = x.zA.length) (hc:x.zC.length = x.zA.length) {i:Nat} (hi:i < x.zA.length) :
  (zLE x i = some (.inl ((i + 1:Nat):Int)) ∧ zFW x i) ∨ (zLE x i = some (.inr (.inr false)) ∧ ¬ zFW x i):=by
 have h6:=ho.1
 unfold zLE
 rw [yR hi,zK,yF [] (by omega),bs]
 rcases zBu (v:=x.zW.getD i []) ho hi with ⟨h1,h2⟩ | ⟨h1,h2⟩
 ·rw [h1,bs,Bool.not_true,zF,yF [] (by omega),bs,zD (by omega) (by omega),bs,zD (by omega) (by omega),bs]
  by_cases hl:(x.zC.getD i []).length + i + 1 = x.zA.length
  ·rw [jX (by omega),zF,bs]
   rcases chk (body:=zQ8 x i (x.zC.getD i [])) (x.zC.getD i []).length 0 (Nat.zero_le _) (fun j => Exp x.zA ((x.zC.getD i []).getD j []) i) (fun _ => false) (fun j _ hj _ => by
     refine vW (zBu ho hi) (by omega) ?_
     unfold zQ8
     rw [yR hj,zK,yF [] hj,bs]) (by
     unfold zQ8
     rw [xC,zF]) with ⟨g1,g2⟩ | ⟨j,_,hj,g1,g2⟩
   ·rw [show ((0:Nat):Int) = 0 from rfl] at g1
    rw [g1,bs]
    simp only
    rw [zD (by omega) (by omega),bs,cs]
    exact .inl ⟨rfl,h2,hl,fun j hj => g2 j (Nat.zero_le _) hj⟩
   ·rw [show ((0:Nat):Int) = 0 from rfl] at g1
    rw [g1,bs]
    exact .inr ⟨rfl,fun g => g2 (g.2.2 j hj)⟩
  ·rw [qE (by omega),zK]
   exact .inr ⟨rfl,fun g => hl g.2.1⟩
 ·rw [h1,bs,Bool.not_false,zK]
  exact .inr ⟨rfl,fun g => h2 g.1⟩
theorem zKW {x:SPr} (ho:Os x.zA) (hp:x.zW.length = x.zA.length) (hc:x.zC.length = x.zA.length) {i:Nat} (hi:i < x.zA.length) :
  (zL9 x i = some (.inl ((i + 1:Nat):Int)) ∧ zFW x i) ∨ (zL9 x i = some (.inr (.inr false)) ∧ ¬ zFW x i):=by
 have h6:=ho.1
 unfold zL9
 rw [yR hi,zK,yF [] (by omega),bs]
 rcases zBN (v:=x.zW.getD i []) ho hi with ⟨h1,h2⟩ | ⟨h1,h2⟩
 ·rw [h1,bs,Bool.not_true,zF,yF [] (by omega),bs,zD (by omega) (by omega),bs,zD (by omega) (by omega),bs]
  by_cases hl:(x.zC.getD i []).length + i + 1 = x.zA.length
  ·rw [jX (by omega),zF]
   rcases chk (body:=zQo x i) (x.zC.getD i []).length 0 (Nat.zero_le _) (fun j => Exp x.zA ((x.zC.getD i []).getD j []) i) (fun _ => false) (fun j _ hj _ => by
     refine vW (zBN ho hi) (by omega) ?_
     unfold zQo
     rw [yF [] (by omega),bs,yR hj,zK,bs,yF [] hj,bs]) (by
     unfold zQo
     rw [yF [] (by omega),bs,xC,zF]) with ⟨g1,g2⟩ | ⟨j,_,hj,g1,g2⟩
   ·rw [show ((0:Nat):Int) = 0 from rfl] at g1
    rw [g1,bs]
    simp only
    rw [zD (by omega) (by omega),bs,cs]
    exact .inl ⟨rfl,h2,hl,fun j hj => g2 j (Nat.zero_le _) hj⟩
   ·rw [show ((0:Nat):Int) = 0 from rfl] at g1
    rw [g1,bs]
    exact .inr ⟨rfl,fun g => g2 (g.2.2 j hj)⟩
  ·rw [qE (by omega),zK]
   exact .inr ⟨rfl,fun g => hl g.2.1⟩
 ·rw [h1,bs,Bool.not_false,zK]
  exact .inr ⟨rfl,fun g => h2 g.1⟩
theorem zJ8 {x:SPr} (h6:x.zA.length ≤ 6) :
  (zH (zLD x) (1,0) = some (.inl ()) ∧ Os x.zA ∧ pr x.zA x.zA.length ≤ 729) ∨ (zH (zLD x) (1,0) = some (.inr false) ∧ ¬ (Os x.zA ∧ pr x.zA x.zA.length ≤ 729)):=by
 rcases zWW (body:=zLD x) (fun i => (pr x.zA i,(i:Int))) x.zA.length 0 (Nat.zero_le _) (fun i => Prime (at0 x.zA i) ∧ pr x.zA (i + 1) ≤ 729) (fun _ => false) (fun i _ hi hpre => by
   have hp:∀ j,j < i → Prime (at0 x.zA j):=fun j hj => (hpre j (Nat.zero_le _) hj).1
   have hpp:=zFV hp
   have hle:pr x.zA i ≤ 729:=by
    cases i with
    | zero => simp [pr]
    | succ i => exact (hpre i (Nat.zero_le _) (by omega)).2
   unfold zLD
   rw [yR hi,zK,yG hi,bs]
   rcases zBc (at0 x.zA i) with ⟨h1,h2⟩ | ⟨h1,h2⟩
   ·have h3:=h2.pos
    have h4:pr x.zA i * at0 x.zA i ≤ 729 * 7:=Int.mul_le_mul hle h3.2 (by omega) (by omega)
    have h5:1 * 1 ≤ pr x.zA i * at0 x.zA i:=Int.mul_le_mul hpp (by omega) (by omega) (by omega)
    simp only
    rw [h1,bs,Bool.not_true,zF,zD (by omega) (by omega),bs]
    by_cases h7:pr x.zA i * at0 x.zA i > 729
    ·rw [decide_eq_true h7,zK]
     exact .inr ⟨rfl,fun g => by have:=g.2;simp only [pr] at this;omega⟩
    ·rw [decide_eq_false h7,zF,bs,zD (by omega) (by omega),bs,cs]
     exact .inl ⟨rfl,h2,by simp only [pr];omega⟩
   ·rw [h1,bs,Bool.not_false,zK]
    exact .inr ⟨rfl,fun g => h2 g.1⟩) (by
   unfold zLD
   rw [xC,zF]) with ⟨g1,g2⟩ | ⟨i,_,hi,g1,g2⟩
 ·refine .inl ⟨g1,⟨by omega,fun i hi => (g2 i (Nat.zero_le _) hi).1⟩,?_⟩
  cases hn:x.zA.length with
  | zero => simp [pr]
  | succ n => exact (g2 n (Nat.zero_le _) (by omega)).2
 ·refine .inr ⟨g1,fun ⟨h1,h2⟩ => g2 ⟨h1.2 i hi,?_⟩⟩
  have:=zMD (os:=x.zA) (n:=x.zA.length) h1.2 (x.zA.length - (i + 1)) (by omega)
  rw [show x.zA.length - (x.zA.length - (i + 1)) = i + 1 from by omega] at this
  omega
theorem zIs {os:List Int} (ho:Os os):zSy os = some (cp os os.length):=by
 have h6:=ho.1
 unfold zSy
 rw [show (1,0) = (fun i => (cp os i,(i:Int))) 0 from rfl,zQ (body:=zKm os) (r:=cp os os.length) (fun i => (cp os i,(i:Int))) os.length (fun i hi => by
  have hp:=(ho.2 i hi).pos
  have hc:=zPz (os:=os) (i:=i) fun j hj => ho.2 j (by omega)
  have hpp:=zFV (os:=os) (i:=i) fun j hj => ho.2 j (by omega)
  unfold zKm
  rw [yR hi,zK]
  simp only [cp]
  by_cases h:cp os i ≤ 729
  ·have h4:cp os i * at0 os i ≤ 729 * 7:=Int.mul_le_mul h hp.2 (by omega) (by omega)
   have h5:1 * 1 ≤ cp os i * at0 os i:=Int.mul_le_mul (by omega) (by omega) (by omega) (by omega)
   rw [decide_eq_true h,zK,yG hi,bs,zD (by omega) (by omega),bs,zD (by omega) (by omega),bs,cs,if_pos h]
  ·rw [decide_eq_false h,zF,zD (by omega) (by omega),bs,cs,if_neg h]) (by
  unfold zKm
  rw [xC,zF]),bs]
theorem zC1 {x:SPr} (hl:x.zA.length ≤ 1048576):IsB (f_q x) (zFX x):=by
 unfold f_q
 by_cases h6:x.zA.length ≤ 6
 ·rw [decide_eq_false (by omega),zF]
  by_cases hp:x.zW.length = x.zA.length
  ·rw [jX (by omega),zF]
   by_cases hc:x.zC.length = x.zA.length
   ·rw [jX (by omega),zF]
    rcases zJ8 h6 with ⟨h1,h2,h3⟩ | ⟨h1,h2⟩
    ·rw [h1,bs]
     exact (tV (f:=(zH (zLE x) 0).bind fun r => match r with | .inl _ => some true | .inr r => some r) x.zA.length (zFW x) rfl (fun i hi _ => zKV h2 hp hc hi) (by
      unfold zLE
      rw [xC,zF])).iff ⟨fun g => ⟨⟨h2,hp,hc,g⟩,h6,h3⟩,fun g => g.tl⟩
    ·rw [h1,bs]
     exact .inr ⟨rfl,fun g => h2 ⟨g.os,g.pr⟩⟩
   ·rw [qE (by omega),zK]
    exact .inr ⟨rfl,fun g => hc g.cl⟩
  ·rw [qE (by omega),zK]
   exact .inr ⟨rfl,fun g => hp g.pl⟩
 ·rw [decide_eq_true (by omega),zK]
  exact .inr ⟨rfl,fun g => h6 g.n6⟩
theorem zC2 {x:SPr} (hl:x.zA.length ≤ 1048576):IsB (f_v x) (zFX x):=by
 unfold f_v
 by_cases h6:x.zA.length ≤ 6
 ·rw [decide_eq_false (by omega),zF]
  by_cases hp:x.zW.length = x.zA.length
  ·rw [jX (by omega),zF]
   by_cases hc:x.zC.length = x.zA.length
   ·rw [jX (by omega),zF]
    rcases chk (body:=zQn x) x.zA.length 0 (Nat.zero_le _) (fun i => Prime (at0 x.zA i)) (fun _ => false) (fun i _ hi _ => by
      refine vW (zFU _) (by omega) ?_
      unfold zQn
      rw [yR hi,zK,yG hi,bs]) (by
      unfold zQn
      rw [xC,zF]) with ⟨g1,g2⟩ | ⟨i,_,hi,g1,g2⟩
    ·rw [show ((0:Nat):Int) = 0 from rfl] at g1
     have ho:Os x.zA:=⟨by omega,fun i hi => g2 i (Nat.zero_le _) hi⟩
     have hcp:=zPz (os:=x.zA) (i:=x.zA.length) ho.2
     rw [g1,bs]
     simp only
     rw [zIs ho,bs]
     by_cases h7:cp x.zA x.zA.length > 729
     ·rw [decide_eq_true h7,zK]
      exact .inr ⟨rfl,fun g => by have:=g.pr;omega⟩
     ·rw [decide_eq_false h7,zF]
      exact (tV (f:=(zH (zL9 x) 0).bind fun r => match r with | .inl _ => some true | .inr r => some r) x.zA.length (zFW x) rfl (fun i hi _ => zKW ho hp hc hi) (by
       unfold zL9
       rw [xC,zF])).iff ⟨fun g => ⟨⟨ho,hp,hc,g⟩,h6,by omega⟩,fun g => g.tl⟩
    ·rw [show ((0:Nat):Int) = 0 from rfl] at g1
     rw [g1,bs]
     exact .inr ⟨rfl,fun g => g2 (g.os.2 i hi)⟩
   ·rw [qE (by omega),zK]
    exact .inr ⟨rfl,fun g => hc g.cl⟩
  ·rw [qE (by omega),zK]
   exact .inr ⟨rfl,fun g => hp g.pl⟩
 ·rw [decide_eq_true (by omega),zK]
  exact .inr ⟨rfl,fun g => h6 g.n6⟩
end Go.Pl

namespace Go.Pl
open Go Go.Ab Go.Wk Go.Pc
def lvl (x:SPr) (i:Nat):Lvl:=⟨at0 x.zA i,(x.zW.getD i []).drop (i + 1),(x.zC.getD i []).map (·.drop (i + 1))⟩
def suf (x:SPr) (k:Nat):Pcp:=(List.range' k (x.zA.length - k)).map (lvl x)
theorem xI (x:SPr) (k:Nat):(suf x k).length = x.zA.length - k:=by simp [suf]
theorem yK {x:SPr} {k:Nat} (h:k < x.zA.length):suf x k = lvl x k :: suf x (k + 1):=by
 unfold suf
 rw [show x.zA.length - k = (x.zA.length - (k + 1)) + 1 from by omega,List.range'_succ,List.map_cons]
theorem uB {x:SPr} {k:Nat} (h:x.zA.length ≤ k):suf x k = []:=by
 unfold suf;rw [show x.zA.length - k = 0 from by omega];rfl
theorem zAG {os v:List Int} {k:Nat} (h:Exp os v k) (hk:k < os.length):v = zeros (k + 1) ++ v.drop (k + 1):=by
 have h1:=h.1.1
 apply List.ext_getElem?
 intro i
 rw [List.getElem?_append]
 simp only [zeros,List.length_replicate,List.getElem?_replicate,List.getElem?_drop]
 split
 ·rename_i hi
  have h2:=h.2 i (by omega)
  rw [List.getElem?_eq_getElem (by omega)]
  rw [at0,List.getD_eq_getElem?_getD,List.getElem?_eq_getElem (by omega)] at h2
  simpa using h2
 ·rw [show k + 1 + (i - (k + 1)) = i from by omega]
theorem zUn {x:SPr}:∀ (d k:Nat) (v:List Int),k + d = x.zA.length → v.length = d → (∀ i,i < d → 0 ≤ at0 v i ∧ at0 v i ≤ at0 x.zA (k + i) - 1) → V (suf x k) v
 | 0,k,v,hk,hv,_ => by
  rw [uB (by omega)]
  simpa [V] using hv
 | d + 1,k,v,hk,hv,h => by
  rw [yK (by omega)]
  match v,hv with
  | a :: v,hv =>
   have h0:=h 0 (by omega)
   simp only [at0,List.getD_cons_zero,Nat.add_zero] at h0
   refine ⟨⟨h0.1,by simp only [lvl,at0];omega⟩,zUn d (k + 1) v (by omega) (by simpa using hv) fun i hi => ?_⟩
   have:=h (i + 1) (by omega)
   simp only [at0,List.getD_cons_succ] at this
   rw [show k + 1 + i = k + (i + 1) from by omega]
   exact this
theorem zHw {x:SPr} {v:List Int} {k:Nat} (h:Exp x.zA v k) (hk:k < x.zA.length):V (suf x (k + 1)) (v.drop (k + 1)):=by
 have h1:=h.1.1
 refine zUn (x.zA.length - (k + 1)) (k + 1) _ (by omega) (by rw [List.length_drop];omega) fun i hi => ?_
 have:=h.1.2 (k + 1 + i) (by omega)
 have e:at0 (v.drop (k + 1)) i = at0 v (k + 1 + i):=by simp only [at0,List.getD_eq_getElem?_getD,List.getElem?_drop]
 rw [e];exact this
theorem Pres.ok {x:SPr} (h:Pres x):∀ (d k:Nat),k + d = x.zA.length → Pc.Ok (suf x k)
 | 0,k,hk => by rw [uB (by omega)];simp only [Pc.Ok]
 | d + 1,k,hk => by
  rw [yK (by omega)]
  obtain ⟨t1,t2,t3⟩:=h.tl k (by omega)
  refine ⟨by simp only [lvl];have:=(h.os.2 k (by omega)).pos;omega,zHw t1 (by omega),?_,fun c hc => ?_,Pres.ok h d (k + 1) (by omega)⟩
  ·rw [xI];simp only [lvl,List.length_map];omega
  ·simp only [lvl,List.mem_map] at hc
   obtain ⟨u,hu,rfl⟩:=hc
   obtain ⟨j,hj,rfl⟩:=List.mem_iff_getElem.1 hu
   have:=t3 j hj
   rw [List.getD_eq_getElem?_getD,List.getElem?_eq_getElem hj] at this
   exact zHw this (by omega)
theorem Pres.okAt {x:SPr} (h:Pres x) {k:Nat} (hk:k ≤ x.zA.length):Pc.Ok (suf x k):=h.ok (x.zA.length - k) k (by omega)
theorem zR (n:Nat):(zeros n).length = n:=by simp [zeros]
theorem zEB (k:Nat):zeros (k + 1) = zeros k ++ [0]:=by simp [zeros,List.replicate_succ']
theorem zCF {k:Nat} {a b:Int} {v:Vec}:(zeros k ++ a :: v).set k b = zeros k ++ b :: v:=by
 rw [List.set_append_right _ _ (by rw [zR];omega),zR,Nat.sub_self,List.set_cons_zero]
theorem zBO {k:Nat} {a:Int} {v:Vec}:ixO (zeros k ++ a :: v) (k:Int) = some a:=by
 rw [vD,List.getElem?_append_right (by rw [zR];omega),zR,Nat.sub_self];rfl
theorem zBd {k:Nat} {v:Vec}:zeros k ++ 0 :: v = zeros (k + 1) ++ v:=by rw [zEB,List.append_assoc];rfl
theorem tK {v:List Int} (h:v.length ≤ 1000000):f_t v = some v:=by
 unfold f_t
 rw [yL (by simp;omega),bs,List.nil_append]
end Go.Pl

namespace Go.Pl
open Go Go.Ab Go.Wk Go.Pc
theorem zAH {m:Vec → Vec → Vec}:∀ (cs:List Vec) (x:Vec) (i:Nat) (acc:Vec),i < cs.length → i < x.length →
  img m (cs.take (i + 1)) (x.take (i + 1)) acc = iter (at0 x i).toNat (fun v => m v (cs.getD i [])) (img m (cs.take i) (x.take i) acc)
 | [],_,_,_,h,_ => by simp at h
 | _ :: _,[],_,_,_,h => by simp at h
 | c :: cs,a :: x,0,acc,_,_ => by simp only [Nat.zero_add,List.take_succ_cons,List.take_zero,img,at0,List.getD_cons_zero]
 | c :: cs,a :: x,i + 1,acc,h,h' => by
  simp only [List.take_succ_cons,img,at0,List.getD_cons_succ]
  exact zAH cs x i _ (by simpa using h) (by simpa using h')
theorem vB {α β:Type} {body:α × Int → Option ((α × Int) ⊕ α)} {S:β → Prop} (e:β → α) (g:β → β) (n:Int) (hn:0 ≤ n) (hS:∀ a,S a → S (g a))
  (h:∀ a (i:Nat),S a → (i:Int) < n → body (e a,(i:Int)) = some (.inl (e (g a),((i + 1:Nat):Int)))) (he:∀ a,S a → body (e a,n) = some (.inr (e a))) {a:β} (ha:S a) :
  zH body (e a,0) = some (e (iter n.toNat g a)):=by
 have hit:∀ k,S (iter k g a):=fun k => wY (S:=S) hS k ha
 exact zQ (body:=body) (r:=e (iter n.toNat g a)) (fun i => (e (iter i g a),(i:Int))) n.toNat (fun i hi => by
  rw [h _ i (hit i) (by omega),vG]) (by
  rw [show ((n.toNat:Nat):Int) = n from by omega]
  exact he _ (hit _))
theorem zJ9 {k i:Nat} {v:Vec} (h:i < v.length):ixO (zeros k ++ v) ((k + i:Nat):Int) = some (at0 v i):=by
 rw [vD,List.getElem?_append_right (by rw [zR];omega),zR,show k + i - k = i from by omega,List.getElem?_eq_getElem h,at0,List.getD_eq_getElem?_getD,List.getElem?_eq_getElem h];rfl
theorem zDd {x:SPr} (ho:Os x.zA):∀ (d k:Nat) (v:List Int),k + d = x.zA.length → V (suf x k) v → v.length = d ∧ ∀ i,i < d → 0 ≤ at0 v i ∧ at0 v i < at0 x.zA (k + i) ∧ at0 v i ≤ 6
 | 0,k,v,hk,hv => by
  rw [uB (by omega)] at hv
  simp only [V] at hv
  subst hv
  exact ⟨rfl,fun i hi => by omega⟩
 | d + 1,k,v,hk,hv => by
  rw [yK (by omega)] at hv
  match v,hv with
  | a :: v,hv =>
   obtain ⟨h1,h2⟩:=zDd ho d (k + 1) v (by omega) hv.2
   refine ⟨by simp [h1],fun i hi => ?_⟩
   cases i with
   | zero =>
    have h3:=hv.1
    simp only [lvl] at h3
    have:=(ho.2 k (by omega)).pos
    simp only [at0,List.getD_cons_zero,Nat.add_zero] at h3 this ⊢
    omega
   | succ i =>
    have:=h2 i (by omega)
    simp only [at0,List.getD_cons_succ] at this ⊢
    rw [show k + (i + 1) = k + 1 + i from by omega]
    exact this
theorem zD5 {x:SPr} (h:Pres x) {k i:Nat} (hk:k < x.zA.length) (hi:i < x.zA.length - (k + 1)) :
  ∃ c,ixO x.zC (k:Int) = some (x.zC.getD k []) ∧ ixO (x.zC.getD k []) (i:Int) = some (zeros (k + 1) ++ c) ∧ V (suf x (k + 1)) c ∧ (lvl x k).cs.getD i [] = c:=by
 obtain ⟨t1,t2,t3⟩:=h.tl k hk
 have hc:=h.cl
 have ht:=t3 i (by omega)
 refine ⟨((x.zC.getD k []).getD i []).drop (k + 1),yF [] (by omega),?_,zHw ht hk,?_⟩
 ·rw [yF [] (by omega),← zAG ht hk]
 ·simp only [lvl,List.getD_eq_getElem?_getD,List.getElem?_map]
  rw [List.getElem?_eq_getElem (l:=x.zC[k]?.getD []) (by rw [List.getD_eq_getElem?_getD] at t2;omega)]
  rfl
def FAt (x:SPr) (k:Nat) (g:SPr → Int → List Int → List Int → Option (List Int)):Prop :=
 ∀ a b,V (suf x k) a → V (suf x k) b → g x k (zeros k ++ a) (zeros k ++ b) = some (zeros k ++ mul (suf x k) a b)
def FIm (x:SPr) (k:Nat) (g:SPr → Int → List Int → Option (List Int)):Prop :=
 ∀ v,V (suf x (k + 1)) v → g x k (zeros (k + 1) ++ v) = some (zeros (k + 1) ++ sig (suf x (k + 1)) (lvl x k) v)
theorem zKX {x:SPr} (h:Pres x) {k:Nat} (hk:k < x.zA.length) {g:SPr → Int → List Int → List Int → Option (List Int)} (hg:FAt x (k + 1) g):FIm x k (b_e g):=by
 intro v hv
 have h6:=h.os.1
 have ok:=h.okAt (k:=k + 1) (by omega)
 obtain ⟨hvl,hvr⟩:=zDd h.os (x.zA.length - (k + 1)) (k + 1) v (by omega) hv
 have hlen:=xI x (k + 1)
 have hcl:(lvl x k).cs.length = x.zA.length - (k + 1):=by
  have:=h.okAt (k:=k) (by omega)
  rw [yK hk] at this
  rw [this.2.2.1,hlen]
 have hcs:∀ c ∈ (lvl x k).cs,V (suf x (k + 1)) c:=by
  have:=h.okAt (k:=k) (by omega)
  rw [yK hk] at this
  exact this.2.2.2.1
 have hA:∀ i,V (suf x (k + 1)) (img (mul (suf x (k + 1))) ((lvl x k).cs.take i) (v.take i) (zeros (suf x (k + 1)).length)):=fun i =>
  sX (xL ok) _ _ (fun c hc => hcs c (List.mem_of_mem_take hc)) (wH ok)
 unfold b_e
 rw [yV (by omega),bs,zD (by omega) (by omega),bs,cs]
 have hz:List.replicate x.zA.length (0:Int) = zeros (k + 1) ++ zeros (suf x (k + 1)).length:=by
  rw [hlen];simp only [zeros,List.replicate_append_replicate];congr 1;omega
 rw [hz]
 have:=zQ (body:=zQq g x k (zeros (k + 1) ++ v)) (r:=zeros (k + 1) ++ sig (suf x (k + 1)) (lvl x k) v)
  (fun i => (zeros (k + 1) ++ img (mul (suf x (k + 1))) ((lvl x k).cs.take i) (v.take i) (zeros (suf x (k + 1)).length),((k + 1 + i:Nat):Int))) (x.zA.length - (k + 1)) (fun i hi => by
  have hr:=hvr i hi
  obtain ⟨c,c1,c2,c3,c4⟩:=zD5 h hk hi
  unfold zQq
  rw [decide_eq_true (by simp only;omega),zK]
  rw [vB (S:=V (suf x (k + 1))) (body:=zQp g x k (zeros (k + 1) ++ v) (zeros (k + 1) ++ img (mul (suf x (k + 1))) ((lvl x k).cs.take i) (v.take i) (zeros (suf x (k + 1)).length),((k + 1 + i:Nat):Int))) (fun u => zeros (k + 1) ++ u) (fun u => mul (suf x (k + 1)) u c) (at0 v i) hr.1 (fun u hu => xL ok hu c3) (fun u q hu hq => by
   unfold zQp
   simp only
   rw [zJ9 (by omega),bs,decide_eq_true hq,zK,zD (by omega) (by omega),bs,c1,bs,zD (by omega) (by omega),bs,zD (by omega) (by omega),bs,
    show (((k + 1 + i:Nat):Int) - (k:Int) - 1) = (i:Int) from by omega,c2,bs,cs,hg u c hu c3,bs,zD (by omega) (by omega),bs,cs]) (fun u hu => by
   unfold zQp
   simp only
   rw [zJ9 (by omega),bs,decide_eq_false (by omega),zF]) (hA i),bs,zD (by omega) (by omega),bs,cs]
  rw [zAH _ _ _ _ (by omega) (by omega),c4]
  rfl) (by
  unfold zQq
  rw [decide_eq_false (by simp only;omega),zF,List.take_of_length_le (by omega),List.take_of_length_le (by omega)]
  rfl)
 simp only [List.take_zero,img] at this
 rw [this,bs]
theorem zSa {x:SPr} (h:Pres x) {k:Nat} (hk:k < x.zA.length) {g:SPr → Int → List Int → List Int → Option (List Int)} {gi:SPr → Int → List Int → Option (List Int)} (hg:FAt x (k + 1) g) (hi:FIm x k gi):FAt x k (b_a gi g):=by
 intro a b ha hb
 have h6:=h.os.1
 have hp:=(h.os.2 k hk).pos
 have ok:=h.okAt (k:=k + 1) (by omega)
 have ok0:=h.okAt (k:=k) (by omega)
 obtain ⟨hal,har⟩:=zDd h.os (x.zA.length - k) k a (by omega) ha
 obtain ⟨hbl,hbr⟩:=zDd h.os (x.zA.length - k) k b (by omega) hb
 rw [yK hk] at ha hb ok0
 obtain ⟨a0,a,rfl⟩:∃ a0 a',a = a0 :: a':=by cases a with | nil => simp at hal;omega | cons p q => exact ⟨p,q,rfl⟩
 obtain ⟨b0,b,rfl⟩:∃ a0 a',b = a0 :: a':=by cases b with | nil => simp at hbl;omega | cons p q => exact ⟨p,q,rfl⟩
 obtain ⟨⟨a1,a2⟩,ha⟩:=ha
 obtain ⟨⟨b1,b2⟩,hb⟩:=hb
 have hor:(lvl x k).o = at0 x.zA k:=rfl
 rw [hor] at a2 b2
 unfold b_a
 rw [decide_eq_false (by omega),zF,tK (by simp [zR] at hal ⊢;omega),bs,tK (by simp [zR] at hbl ⊢;omega),bs,zBO,bs,zBO,bs,Int.toNat_natCast,zCF,zCF,zBd,zBd]
 have hsig:∀ u,V (suf x (k + 1)) u → V (suf x (k + 1)) (sig (suf x (k + 1)) (lvl x k) u):=fun u hu => zEh ok0 hu
 have hit:V (suf x (k + 1)) (iter b0.toNat (sig (suf x (k + 1)) (lvl x k)) a):=wY hsig _ ha
 rw [vB (S:=V (suf x (k + 1))) (fun u => zeros (k + 1) ++ u) (sig (suf x (k + 1)) (lvl x k)) b0 b1 hsig (fun u q hu hq => by
   unfold zSz
   simp only
   rw [zBO,bs,decide_eq_true hq,zK,hi u hu,bs,zD (by omega) (by omega),bs,cs]) (fun u hu => by
   unfold zSz
   simp only
   rw [zBO,bs,decide_eq_false (by omega),zF]) ha,bs,zD (by omega) (by omega),bs,cs,hg _ _ hit hb,bs,bs,bs,zD (by omega) (by omega),bs,yG hk,bs]
 have hm:=xL ok hit hb
 have hml:=(zDd h.os (x.zA.length - (k + 1)) (k + 1) _ (by omega) hm).1
 have own:∀ u,V (suf x (k + 1)) u → f_t (zeros (k + 1) ++ u) = some (zeros (k + 1) ++ u):=fun u hu => tK (by
  have:=(zDd h.os (x.zA.length - (k + 1)) (k + 1) _ (by omega) hu).1
  rw [List.length_append,zR];omega)
 rw [yK hk,yT,hor]
 by_cases hge:a0 + b0 ≥ at0 x.zA k
 ·have t1:=(h.tl k hk).1
  have hw:=zHw t1 hk
  have hwl:=h.pl
  rw [decide_eq_true hge,zK,if_pos hge,bs,zD (by omega) (by omega),bs,bs,yF [] (by omega),bs,zAG t1 hk,hg _ _ hw hm,bs,own _ (xL ok hw hm),bs]
  rw [← zBd,zBO,bs,zCF]
  rfl
 ·rw [decide_eq_false hge,zF,if_neg hge,own _ hm,bs,← zBd,zBO,bs,zCF]
theorem zEk {x:SPr} (h:Pres x):∀ (d k:Nat),k + d = x.zA.length → (∀ m,2 * d + 1 ≤ m → FAt x k (zLB m)) ∧ (1 ≤ d → ∀ m,2 * d ≤ m → FIm x k (zLA m))
 | 0,k,hk => by
  refine ⟨fun m hm a b ha hb => ?_,fun h => by omega⟩
  have h6:=h.os.1
  obtain ⟨m,rfl⟩:∃ m',m = m' + 1:=⟨m - 1,by omega⟩
  show b_a _ _ x k _ _ = _
  unfold b_a
  rw [decide_eq_true (by omega),zK,yV (by omega),bs,uB (by omega)]
  simp only [mul,List.append_nil,zeros]
  rw [show k = x.zA.length from by omega]
 | d + 1,k,hk => by
  obtain ⟨h1,h2⟩:=zEk h d (k + 1) (by omega)
  have hI:∀ m,2 * (d + 1) ≤ m → FIm x k (zLA m):=fun m hm => by
   obtain ⟨m,rfl⟩:∃ m',m = m' + 1:=⟨m - 1,by omega⟩
   exact zKX h (by omega) (h1 m (by omega))
  refine ⟨fun m hm => ?_,fun _ => hI⟩
  obtain ⟨m,rfl⟩:∃ m',m = m' + 1:=⟨m - 1,by omega⟩
  exact zSa h (by omega) (h1 m (by omega)) (hI m (by omega))
theorem zME {x:SPr} (h:Pres x) {k:Nat} (hk:k ≤ x.zA.length):FAt x k f_a:=fun a b ha hb =>
 zAD (2 * (x.zA.length - k) + 1) fun m hm => (zEk h (x.zA.length - k) k (by omega)).1 m hm a b ha hb
theorem zKY {x:SPr} (h:Pres x) {k:Nat} (hk:k < x.zA.length):FIm x k f_e:=fun v hv =>
 zAD (2 * (x.zA.length - k)) fun m hm => (zEk h (x.zA.length - k) k (by omega)).2 (by omega) m hm v hv
end Go.Pl

namespace Go.Pl
open Go Go.Ab Go.Wk Go.Pc
theorem zBP:∀ {P Q:Pcp},Q <:+ P → vA P → vA Q
 | [],Q,h,_ => by
  have:=List.suffix_nil.1 h
  subst this;simp only [vA]
 | l :: P,Q,h,hc => by
  rcases List.suffix_cons_iff.1 h with rfl | h
  ·exact hc
  ·exact zBP h hc.1
theorem zHx:∀ {P Q:Pcp},Q <:+ P → Pc.Ok P → Pc.Ok Q
 | [],Q,h,_ => by
  have:=List.suffix_nil.1 h
  subst this;simp only [Pc.Ok]
 | l :: P,Q,h,hc => by
  rcases List.suffix_cons_iff.1 h with rfl | h
  ·exact hc
  ·exact zHx h hc.2.2.2.2
theorem zKZ (x:SPr) (k:Nat):suf x (k + 1) <:+ suf x k:=by
 by_cases h:k < x.zA.length
 ·rw [yK h];exact List.suffix_cons _ _
 ·rw [uB (by omega)];exact List.nil_suffix
theorem zD6 {x:SPr} {k:Nat} (h:vA (suf x k)):∀ i,vA (suf x (k + i))
 | 0 => h
 | i + 1 => zBP (zKZ x (k + i)) (zD6 h i)
theorem zFY {x:SPr} (h:Pres x) {k:Nat} (hk:k ≤ x.zA.length) (hc:vA (suf x k)):Grp (V (suf x k)) (mul (suf x k)) (zeros (suf x k).length):=zM8 _ (h.okAt hk) hc
theorem zEV {x:SPr}:∀ (i k:Nat) (v:Vec),k + i ≤ x.zA.length → V (suf x k) v → ∃ q v',v = q ++ v' ∧ q.length = i ∧ V (suf x (k + i)) v' ∧
  ∀ a b,V (suf x (k + i)) a → V (suf x (k + i)) b → mul (suf x k) (q ++ a) (zeros i ++ b) = q ++ mul (suf x (k + i)) a b
 | 0,k,v,_,hv => ⟨[],v,rfl,rfl,hv,fun a b _ _ => rfl⟩
 | i + 1,k,v,hk,hv => by
  rw [yK (by omega)] at hv
  match v,hv with
  | e :: v,hv =>
   obtain ⟨q,v',h1,h2,h3,h4⟩:=zEV i (k + 1) v (by omega) hv.2
   rw [show k + 1 + i = k + (i + 1) from by omega] at h3 h4
   refine ⟨e :: q,v',by rw [h1];rfl,by simp [h2],h3,fun a b ha hb => ?_⟩
   have he:=hv.1
   rw [yK (by omega)]
   show mul (lvl x k :: suf x (k + 1)) (e :: (q ++ a)) (0 :: (zeros i ++ b)) = _
   rw [yT,Int.add_zero,if_neg (by omega)]
   simp only [Int.toNat_zero,iter]
   rw [h4 a b ha hb];rfl
def FTV (x:SPr) (k:Nat) (g:SPr → List Int → List Int → Option (List Int)):Prop :=
 ∀ p v u,p.length = k → V (suf x k) v → V (suf x k) u → g x (p ++ v) (zeros k ++ u) = some (p ++ mul (suf x k) v u)
def FTG (x:SPr) (k:Nat) (g:SPr → List Int → Int → Option (List Int)):Prop :=
 ∀ p v,p.length = k → V (suf x k) v → g x (p ++ v) (k:Int) = some (p ++ mul (suf x k) v (1 :: zeros (x.zA.length - (k + 1))))
theorem zHy {x:SPr} (h:Pres x) {k:Nat} (hk:k < x.zA.length) {g:SPr → List Int → List Int → Option (List Int)} (hg:FTV x (k + 1) g) {t:Vec} (ht:V (suf x (k + 1)) t)
  {body1:List Int × Int → Int → List Int × Int → Option ((List Int × Int) ⊕ List Int)} {body2:List Int × Int → Option ((List Int × Int) ⊕ List Int)}
  (hb2:∀ s,body2 s = cond (decide (s.2 < (t.length:Int))) ((ixO t s.2).bind fun v17 => (zH (body1 s v17) (s.1,0)).bind fun r => (rng (s.2 + 1)).bind fun v => some (.inl (r,v))) (some (.inr s.1)))
  (hb1:∀ s v q,body1 s v q = cond (decide (q.2 < v)) ((ixO x.zC (k:Int)).bind fun cl => (ixO cl s.2).bind fun c => (g x q.1 c).bind fun r => (rng (q.2 + 1)).bind fun w => some (.inl (r,w))) (some (.inr q.1)))
  {p:Vec} (hp:p.length = k + 1) {u:Vec} (hu:V (suf x (k + 1)) u):zH body2 (p ++ u,0) = some (p ++ img (mul (suf x (k + 1))) (lvl x k).cs t u):=by
 have h6:=h.os.1
 have ok:=h.okAt (k:=k + 1) (by omega)
 have ok0:=h.okAt (k:=k) (by omega)
 rw [yK hk] at ok0
 obtain ⟨htl,htr⟩:=zDd h.os (x.zA.length - (k + 1)) (k + 1) t (by omega) ht
 have hcl:(lvl x k).cs.length = x.zA.length - (k + 1):=by rw [ok0.2.2.1,xI]
 have hA:∀ i,V (suf x (k + 1)) (img (mul (suf x (k + 1))) ((lvl x k).cs.take i) (t.take i) u):=fun i =>
  sX (xL ok) _ _ (fun c hc => ok0.2.2.2.1 c (List.mem_of_mem_take hc)) hu
 have:=zQ (body:=body2) (r:=p ++ img (mul (suf x (k + 1))) (lvl x k).cs t u) (fun i => (p ++ img (mul (suf x (k + 1))) ((lvl x k).cs.take i) (t.take i) u,(i:Int))) t.length (fun i hi => by
  have hr:=htr i (by omega)
  obtain ⟨c,c1,c2,c3,c4⟩:=zD5 h hk (i:=i) (by omega)
  rw [hb2]
  simp only
  rw [yR hi,zK,yG hi,bs]
  rw [vB (S:=V (suf x (k + 1))) (fun u => p ++ u) (fun u => mul (suf x (k + 1)) u c) (at0 t i) hr.1 (fun u hu => xL ok hu c3) (fun u q hu hq => by
   rw [hb1]
   simp only
   rw [decide_eq_true hq,zK,c1,bs,c2,bs,hg p u c hp hu c3,bs,zD (by omega) (by omega),bs,cs]) (fun u hu => by
   rw [hb1]
   simp only
   rw [decide_eq_false (by omega),zF]) (hA i),bs,zD (by omega) (by omega),bs,cs]
  rw [zAH _ _ _ _ (by omega) (by omega),c4]) (by
  rw [hb2]
  simp only
  rw [xC,zF,List.take_of_length_le (by omega),List.take_of_length_le (by omega)])
 simp only [List.take_zero,img] at this
 exact this
theorem zTy {p v:Vec} {a:Int} {k:Nat} (hp:p.length = k):ixO (p ++ a :: v) (k:Int) = some a:=by
 rw [vD,List.getElem?_append_right (by omega),hp,Nat.sub_self];rfl
theorem p_set {p v:Vec} {a b:Int} {k:Nat} (hp:p.length = k):(p ++ a :: v).set k b = p ++ b :: v:=by
 rw [List.set_append_right _ _ (by omega),hp,Nat.sub_self,List.set_cons_zero]
theorem zJA {x:SPr} (h:Pres x) {k:Nat} (hk:k < x.zA.length) (hc:vA (suf x (k + 1))) {g:SPr → List Int → List Int → Option (List Int)} (hg:FTV x (k + 1) g):FTG x k (b_b g):=by
 intro p v hp hv
 have h6:=h.os.1
 have G:=zFY h (k:=k + 1) (by omega) hc
 have ok:=h.okAt (k:=k + 1) (by omega)
 have ok0:=h.okAt (k:=k) (by omega)
 obtain ⟨hvl,hvr⟩:=zDd h.os (x.zA.length - k) k v (by omega) hv
 rw [yK hk] at hv ok0
 obtain ⟨e,t,rfl⟩:∃ a0 a',v = a0 :: a':=by cases v with | nil => simp at hvl;omega | cons p q => exact ⟨p,q,rfl⟩
 obtain ⟨⟨e1,e2⟩,ht⟩:=hv
 have hor:(lvl x k).o = at0 x.zA k:=rfl
 rw [hor] at e2
 have hpr:=(h.os.2 k hk).pos
 have htl:=(zDd h.os (x.zA.length - (k + 1)) (k + 1) t (by omega) ht).1
 have hsl:=xI x (k + 1)
 unfold b_b
 have hs:zT (p ++ e :: t) ((k + 1:Nat):Int) ((p ++ e :: t).length:Int) = some t:=by
  unfold zT
  rw [if_pos (by simp only [List.length_append,List.length_cons];omega)]
  have e3:(p ++ e :: t).drop (k + 1) = t:=by
   rw [List.drop_append,List.drop_of_length_le (by omega),hp,show k + 1 - k = 1 from by omega];rfl
  simp only [Int.toNat_natCast,e3,List.length_append,List.length_cons]
  rw [List.take_of_length_le (by omega)]
 have hclone:f_w t = some t:=by
  unfold f_w
  rw [yL (by simp;omega),bs,List.nil_append]
 rw [zD (by omega) (by omega),bs,cs,hs,bs,hclone,bs]
 have hz:=zQ (body:=zQ9 k t) (r:=(p ++ [e]) ++ zeros t.length) (fun i => ((p ++ [e]) ++ (zeros i ++ t.drop i),(i:Int))) t.length (fun i hi => by
  have hl:((p ++ [e]) ++ zeros i).length = k + 1 + i:=by simp [zR,hp];omega
  unfold zQ9
  simp only
  rw [yR hi,zK,zD (by omega) (by omega),bs,zD (by omega) (by omega),bs,show (k:Int) + 1 + (i:Int) = ((k + 1 + i:Nat):Int) from by omega,vD,← List.append_assoc,List.getElem?_append_right (by omega),hl,Nat.sub_self,
   List.drop_eq_getElem_cons hi,List.getElem?_cons_zero,bs,zD (by omega) (by omega),bs,cs,Int.toNat_natCast,List.set_append_right _ _ (by omega),hl,Nat.sub_self,List.set_cons_zero,zEB]
  simp only [List.append_assoc,List.cons_append,List.nil_append]) (by
  unfold zQ9
  simp only
  rw [xC,zF,List.drop_length,List.append_nil])
 simp only [zeros,List.replicate_zero,List.drop_zero,List.nil_append,List.append_assoc,List.singleton_append] at hz
 rw [show ((0:Nat):Int) = 0 from rfl] at hz
 rw [hz,bs,Int.toNat_natCast,zTy hp,bs,zD (by omega) (by omega),bs,bs,p_set hp,zTy hp,bs,yG hk,bs]
 have hz2:List.replicate t.length (0:Int) = zeros (suf x (k + 1)).length:=by rw [hsl,htl];rfl
 rw [yK hk,yT,hor]
 have hone:mul (suf x (k + 1)) (iter (1:Int).toNat (sig (suf x (k + 1)) (lvl x k)) t) (zeros (x.zA.length - (k + 1))) = sig (suf x (k + 1)) (lvl x k) t:=by
  rw [← hsl]
  show mul _ (sig (suf x (k + 1)) (lvl x k) t) _ = _
  exact G.oner (zEh ok0 ht)
 rw [hone,hz2]
 by_cases heq:e + 1 = at0 x.zA k
 ·have t1:=(h.tl k hk).1
  have hw:=zHw t1 hk
  have hwl:=h.pl
  have hp1:(p ++ [(0:Int)]).length = k + 1:=by simp [hp]
  rw [show (e + 1 == at0 x.zA k) = true from by simpa using heq,zK,if_pos (by omega),bs,yF [] (by omega),bs,p_set hp]
  have hz3:p ++ 0 :: zeros (suf x (k + 1)).length = (p ++ [0]) ++ zeros (suf x (k + 1)).length:=by simp
  rw [hz3,zAG t1 hk,hg _ _ _ hp1 G.ein hw,bs,G.onel hw]
  rw [zHy (body1:=zUF g x k) (body2:=zUG g x k t) h hk hg ht (fun _ => rfl) (fun _ _ _ => rfl) hp1 hw,bs]
  rw [zD3 G.toMon _ _ ok0.2.2.2.1 hw,show e + 1 - at0 x.zA k = 0 from by omega]
  simp only [List.append_assoc,List.singleton_append]
  rfl
 ·have hp1:(p ++ [e + 1]).length = k + 1:=by simp [hp]
  rw [show (e + 1 == at0 x.zA k) = false from by simpa using heq,zF,if_neg (by omega)]
  have hz3:p ++ (e + 1) :: zeros (suf x (k + 1)).length = (p ++ [e + 1]) ++ zeros (suf x (k + 1)).length:=by simp
  rw [hz3,zHy (body1:=zUH g x k) (body2:=zUI g x k t) h hk hg ht (fun _ => rfl) (fun _ _ _ => rfl) hp1 G.ein,bs]
  simp only [List.append_assoc,List.singleton_append]
  rfl
theorem kG {n i:Nat} (h:i < n):wI n i = zeros i ++ 1 :: zeros (n - (i + 1)):=by
 have:zeros n = zeros i ++ 0 :: zeros (n - (i + 1)):=by
  simp only [zeros]
  rw [← List.replicate_succ,List.replicate_append_replicate]
  congr 1;omega
 rw [wI,this,zCF]
theorem zD7 (n:Nat):(xR n).length = n:=by simp [xR]
theorem zFZ {n i:Nat} (h:i < n):(xR n).getD i [] = wI n i:=by
 simp [xR,List.getD_eq_getElem?_getD,h]
theorem zP0 {x:SPr} (h:Pres x) {k:Nat} (hk:k ≤ x.zA.length) (hc:vA (suf x k)) {g:SPr → List Int → Int → Option (List Int)} (hg:∀ j,k ≤ j → j < x.zA.length → FTG x j g):FTV x k (b_c g):=by
 intro p v u hp hv hu
 have h6:=h.os.1
 have G:=zFY h hk hc
 have ok:=h.okAt hk
 obtain ⟨hul,hur⟩:=zDd h.os (x.zA.length - k) k u (by omega) hu
 have hsl:=xI x k
 have hV1:∀ j,j ≤ x.zA.length → j < x.zA.length → V (suf x j) (1 :: zeros (x.zA.length - (j + 1))):=fun j hj hj' => by
  rw [yK hj']
  have:=(h.os.2 j hj').pos
  refine ⟨⟨by omega,by show 1 < at0 x.zA j;omega⟩,?_⟩
  rw [← xI]
  exact wH (h.okAt (by omega))
 have hUn:∀ i,i < x.zA.length - k → V (suf x k) (wI (x.zA.length - k) i):=fun i hi => by
  rw [← hsl] at hi ⊢
  exact zDc ok hi
 have hUs:∀ c ∈ xR (x.zA.length - k),V (suf x k) c:=fun c hc => by
  simp only [xR,List.mem_map,List.mem_range] at hc
  obtain ⟨i,hi,rfl⟩:=hc
  exact hUn i hi
 have hA:∀ i,V (suf x k) (img (mul (suf x k)) ((xR (x.zA.length - k)).take i) (u.take i) v):=fun i =>
  sX (xL ok) _ _ (fun c hc => hUs c (List.mem_of_mem_take hc)) hv
 have hgen:∀ i w,i < x.zA.length - k → V (suf x k) w → g x (p ++ w) ((k + i:Nat):Int) = some (p ++ mul (suf x k) w (wI (x.zA.length - k) i)):=fun i w hi hw => by
  obtain ⟨q,w',h1,h2,h3,h4⟩:=zEV i k w (by omega) hw
  have h5:=hg (k + i) (by omega) (by omega) (p ++ q) w' (by simp [hp,h2]) h3
  rw [List.append_assoc,← h1] at h5
  rw [h5,kG hi,h1,show x.zA.length - k - (i + 1) = x.zA.length - (k + i + 1) from by omega,h4 w' _ h3 (hV1 (k + i) (by omega) (by omega)),List.append_assoc]
 unfold b_c
 have hul2:(zeros k ++ u).length = x.zA.length:=by simp [zR];omega
 have:=zQ (body:=zQB g x (zeros k ++ u)) (r:=p ++ mul (suf x k) v u) (fun j => (p ++ img (mul (suf x k)) ((xR (x.zA.length - k)).take (j - k)) (u.take (j - k)) v,(j:Int))) x.zA.length (fun j hj => by
  unfold zQB
  simp only
  rw [hul2,yR hj,zK]
  rcases Nat.lt_or_ge j k with hjk | hjk
  ·have e0:ixO (zeros k ++ u) (j:Int) = some 0:=by
    rw [vD,List.getElem?_append_left (by rw [zR];exact hjk)]
    simp [zeros,hjk]
   rw [e0,bs,show j - k = 0 from by omega,show j + 1 - k = 0 from by omega]
   rw [xF]
   unfold zQA
   simp only
   rw [show decide ((0:Int) < 0) = false from rfl,zF]
   simp only
   rw [bs,zD (by omega) (by omega),bs,cs]
  ·obtain ⟨i,rfl⟩:∃ i,j = k + i:=⟨j - k,by omega⟩
   have hi:i < x.zA.length - k:=by omega
   have hr:=hur i hi
   rw [zJ9 (by omega),bs,show k + i - k = i from by omega,show k + i + 1 - k = i + 1 from by omega]
   rw [vB (S:=V (suf x k)) (fun w => p ++ w) (fun w => mul (suf x k) w (wI (x.zA.length - k) i)) (at0 u i) hr.1 (fun w hw => xL ok hw (hUn i hi)) (fun w q hw hq => by
    unfold zQA
    simp only
    rw [decide_eq_true hq,zK,hgen i w hi hw,bs,zD (by omega) (by omega),bs,cs]) (fun w hw => by
    unfold zQA
    simp only
    rw [decide_eq_false (by omega),zF]) (hA i),bs,zD (by omega) (by omega),bs,cs]
   rw [zAH _ _ _ _ (by rw [zD7];exact hi) (by omega),zFZ hi]) (by
  unfold zQB
  simp only
  rw [hul2,xC,zF,List.take_of_length_le (by rw [zD7];omega),List.take_of_length_le (by omega),zD3 G.toMon _ _ hUs hv]
  have hn:=normal (suf x k) ok (fun Q hQ => (zM8 Q (zHx hQ ok) (zBP hQ hc)).toMon) u hu
  rw [hsl] at hn ⊢
  rw [hn])
 simp only [Nat.zero_sub,List.take_zero,img] at this
 rw [show ((0:Nat):Int) = 0 from rfl] at this
 rw [this,bs]
theorem zEl {x:SPr} (h:Pres x):∀ (d k:Nat),k + d = x.zA.length → vA (suf x k) → (∀ m,2 * d + 1 ≤ m → FTV x k (zNP m))
 | d,k,hk,hc => fun m hm => by
  obtain ⟨m,rfl⟩:∃ m',m = m' + 1:=⟨m - 1,by omega⟩
  refine zP0 h (by omega) hc fun j hj hjn => ?_
  obtain ⟨m,rfl⟩:∃ m',m = m' + 1:=⟨m - 1,by omega⟩
  have hcj:vA (suf x (j + 1)):=by
   have:=zD6 hc (j + 1 - k)
   rwa [show k + (j + 1 - k) = j + 1 from by omega] at this
  exact zJA h hjn hcj (zEl h (x.zA.length - (j + 1)) (j + 1) (by omega) hcj m (by omega))
 termination_by d => d
 decreasing_by omega
theorem zSb {x:SPr} (h:Pres x) {k:Nat} (hk:k ≤ x.zA.length) (hc:vA (suf x k)):FTV x k f_c:=fun p v u hp hv hu =>
 zAD (2 * (x.zA.length - k) + 1) fun m hm => zEl h (x.zA.length - k) k (by omega) hc m hm p v u hp hv hu
theorem zSc {x:SPr} (h:Pres x) {k:Nat} (hk:k < x.zA.length) (hc:vA (suf x (k + 1))):FTG x k f_b:=fun p v hp hv =>
 zAD (2 * (x.zA.length - k)) fun m hm => by
  obtain ⟨m,rfl⟩:∃ m',m = m' + 1:=⟨m - 1,by omega⟩
  exact zJA h hk hc (zEl h (x.zA.length - (k + 1)) (k + 1) (by omega) hc m (by omega)) p v hp hv
end Go.Pl

namespace Go.Pl
open Go Go.Ab Go.Wk Go.Pc
abbrev fv (k:Nat) (v:Vec):Vec:=zeros k ++ v
section
variable {x:SPr} (h:Pres x) {k:Nat} (hk:k ≤ x.zA.length) (hc:vA (suf x k))
 include h hk
theorem sH {v:Vec} (hv:V (suf x k) v):v.length = x.zA.length - k:=(zDd h.os (x.zA.length - k) k v (by omega) hv).1
theorem zBQ {v:Vec} (hv:V (suf x k) v):(fv k v).length = x.zA.length:=by
 rw [List.length_append,zR,sH h hk hv];omega
theorem zMF:List.replicate x.zA.length (0:Int) = fv k (zeros (suf x k).length):=by
 have _:=h
 rw [xI];simp only [fv,zeros,List.replicate_append_replicate];congr 1;omega
 include hc
theorem zLa {i:Nat} (hi:i < x.zA.length - k):V (suf x k) (wI (x.zA.length - k) i):=by
 have _:=hc
 have:=xI x k
 rw [← this] at hi ⊢
 exact zDc (h.okAt hk) hi
theorem zJB {p:Vec} (hp:p.length = k) {i:Nat} (hi:i < x.zA.length - k) {w:Vec} (hw:V (suf x k) w):f_b x (p ++ w) ((k + i:Nat):Int) = some (p ++ mul (suf x k) w (wI (x.zA.length - k) i)):=by
 obtain ⟨q,w',h1,h2,h3,h4⟩:=zEV i k w (by omega) hw
 have hcj:vA (suf x (k + i + 1)):=zD6 hc (i + 1)
 have h5:=zSc h (k:=k + i) (by omega) hcj (p ++ q) w' (by simp [hp,h2]) h3
 have h7:V (suf x (k + i)) (1 :: zeros (x.zA.length - (k + i + 1))):=by
  have hj':k + i < x.zA.length:=by omega
  rw [yK hj']
  have:=(h.os.2 (k + i) hj').pos
  refine ⟨⟨by omega,by show 1 < at0 x.zA (k + i);omega⟩,?_⟩
  rw [← xI]
  exact wH (h.okAt (by omega))
 rw [List.append_assoc,← h1] at h5
 rw [h5,kG hi,h1,show x.zA.length - k - (i + 1) = x.zA.length - (k + i + 1) from by omega,h4 w' _ h3 h7,List.append_assoc]
theorem zGa {a b:Vec} (ha:V (suf x k) a) (hb:V (suf x k) b):f_c x (fv k a) (fv k b) = some (fv k (mul (suf x k) a b)) :=
 zSb h hk hc (zeros k) a b (zR k) ha hb
theorem zJC {a:Vec} (ha:V (suf x k) a):f_w (fv k a) = some (fv k a):=by
 have _:=hc
 have:=zBQ h hk ha
 have h6:=h.os.1
 unfold f_w
 rw [yL (by simp only [List.length_nil];omega),bs,List.nil_append]
theorem zCG {a b:Vec} (ha:V (suf x k) a) (hb:V (suf x k) b):zQG x (fv k a) (fv k b) = some (fv k (mul (suf x k) a b)):=by
 unfold zQG
 rw [zJC h hk hc ha,bs,zGa h hk hc ha hb,bs]
theorem zLb {c:Vec} (hcv:V (suf x k) c) {e:Int} (e0:0 ≤ e) (e1:e ≤ 1000):zS6 x (fv k c) e = some (fv k (pw (mul (suf x k)) (zeros (suf x k).length) c e.toNat)):=by
 have h6:=h.os.1
 have ok:=h.okAt hk
 unfold zS6
 rw [zBQ h hk hcv,yV (by omega),bs,zMF h hk]
 rw [vB (S:=V (suf x k)) (body:=zKq x (fv k c) e) (fun u => fv k u) (fun u => mul (suf x k) u c) e e0 (fun u hu => xL ok hu hcv) (fun u i hu hi => by
  unfold zKq
  simp only
  rw [decide_eq_true hi,zK,zGa h hk hc hu hcv,bs,zD (by omega) (by omega),bs,cs]) (fun u hu => by
  unfold zKq
  simp only
  rw [decide_eq_false (by omega),zF]) (wH ok),bs]
 rfl
theorem zJD {v:Vec} (hv:V (suf x k) v):∃ w,V (suf x k) w ∧ mul (suf x k) v w = zeros (suf x k).length ∧ f_F x (fv k v) = some (fv k w):=by
 have h6:=h.os.1
 have ok:=h.okAt hk
 have G:=zFY h hk hc
 have hvl:=zBQ h hk hv
 have hsl:=xI x k
 unfold f_F
 rw [zJC h hk hc hv,bs,hvl,yV (by omega),bs,zMF h hk]
 let I:Nat → (List Int × List Int × Int) → Prop:=fun j s => ∃ A w,s = (fv k A,fv k w,(j:Int)) ∧ V (suf x k) A ∧ V (suf x k) w ∧ mul (suf x k) v w = A ∧ ∃ A',A = zeros (j - k) ++ A'
 have key:=vT (body:=zQF x (fv k v)) (Q:=fun r => ∃ w,V (suf x k) w ∧ mul (suf x k) v w = zeros (suf x k).length ∧ r = fv k w) I x.zA.length (fun j s hj hI => by
  obtain ⟨A,w,rfl,hA,hw,hm,A',hA'⟩:=hI
  left
  unfold zQF
  simp only
  rw [hvl,yR hj,zK]
  rcases Nat.lt_or_ge j k with hjk | hjk
  ·have e0:ixO (fv k A) (j:Int) = some 0:=by
    rw [vD,List.getElem?_append_left (by rw [zR];exact hjk)]
    simp [zeros,hjk]
   rw [xF]
   unfold zNQ
   simp only
   rw [e0,bs,show ((0:Int) != 0) = false from rfl,zF]
   simp only
   rw [bs,zD (by omega) (by omega),bs,cs]
   exact ⟨_,rfl,A,w,rfl,hA,hw,hm,A,by rw [show j + 1 - k = 0 from by omega];rfl⟩
  ·obtain ⟨i,rfl⟩:∃ i,j = k + i:=⟨j - k,by omega⟩
   have hi:i < x.zA.length - k:=by omega
   rw [show k + i - k = i from by omega] at hA'
   have hAl:=sH h hk hA
   obtain ⟨a0,A',rfl⟩:∃ p q,A' = p :: q:=by
    cases A' with
    | nil => rw [hA',List.length_append,zR,List.length_nil] at hAl;omega
    | cons p q => exact ⟨p,q,rfl⟩
   have hpr:=(h.os.2 (k + i) hj).pos
   have inner:=vT (body:=zNQ x (fv k A,fv k w,((k + i:Nat):Int))) (s:=(fv k A,fv k w))
    (Q:=fun r => ∃ B u,r = (fv k B,fv k u) ∧ V (suf x k) B ∧ V (suf x k) u ∧ mul (suf x k) v u = B ∧ ∃ B',B = zeros (i + 1) ++ B')
    (fun q s => ∃ B u b B',s = (fv k B,fv k u) ∧ V (suf x k) B ∧ V (suf x k) u ∧ mul (suf x k) v u = B ∧ B = zeros i ++ b :: B' ∧ (b = 0 ∨ b = a0 + q)) 10 (fun q s hq hs => by
     obtain ⟨B,u,b,B',rfl,hB,hu,hmu,hB',hb⟩:=hs
     have hz:ixO (fv k B) ((k + i:Nat):Int) = some b:=by
      rw [fv,zJ9 (by rw [sH h hk hB];exact hi),hB',at0,List.getD_eq_getElem?_getD,List.getElem?_append_right (by rw [zR];omega),zR,Nat.sub_self];rfl
     unfold zNQ
     simp only
     rw [hz,bs]
     by_cases hb0:b = 0
     ·subst hb0
      right
      rw [show ((0:Int) != 0) = false from rfl,zF]
      exact ⟨_,rfl,B,u,rfl,hB,hu,hmu,B',by rw [hB',zBd]⟩
     ·left
      have hbq:b = a0 + q:=by rcases hb with hb | hb;exact absurd hb hb0;exact hb
      rw [show (b != 0) = true from by simpa using hb0,zK,zJB h hk hc (zR k) hi hB,bs,zJB h hk hc (zR k) hi hu,bs]
      have hU:=zLa h hk hc hi
      obtain ⟨q',v',h1,h2,h3,h4⟩:=zEV i k B (by omega) hB
      have hqv:q' = zeros i ∧ v' = b :: B':=by
       rw [hB'] at h1
       have:=List.append_inj h1 (by rw [zR,h2])
       exact ⟨this.1.symm,this.2.symm⟩
      obtain ⟨rfl,rfl⟩:=hqv
      have h7:V (suf x (k + i)) (1 :: zeros (x.zA.length - (k + i + 1))):=by
       rw [yK hj]
       refine ⟨⟨by omega,by show 1 < at0 x.zA (k + i);omega⟩,?_⟩
       rw [← xI]
       exact wH (h.okAt (by omega))
      have h8:=h4 (b :: B') _ h3 h7
      rw [show x.zA.length - (k + i + 1) = x.zA.length - k - (i + 1) from by omega,← kG hi,← h1,yK hj,yT] at h8
      refine ⟨_,rfl,mul (suf x k) B (wI (x.zA.length - k) i),mul (suf x k) u (wI (x.zA.length - k) i),?_⟩
      have hor:(lvl x (k + i)).o = at0 x.zA (k + i):=rfl
      rw [hor] at h8
      by_cases hge:b + 1 ≥ at0 x.zA (k + i)
      ·rw [if_pos hge] at h8
       refine ⟨_,_,rfl,xL ok hB hU,xL ok hu hU,?_,h8,?_⟩
       ·rw [← G.assoc hv hu hU,hmu]
       ·left
        rw [yK hj] at h3
        have:=h3.1.2
        rw [hor] at this
        omega
      ·rw [if_neg hge] at h8
       refine ⟨_,_,rfl,xL ok hB hU,xL ok hu hU,?_,h8,?_⟩
       ·rw [← G.assoc hv hu hU,hmu]
       ·right;omega) (fun s hs => by
     obtain ⟨B,u,b,B',rfl,hB,hu,hmu,hB',hb⟩:=hs
     have hz:ixO (fv k B) ((k + i:Nat):Int) = some b:=by
      rw [fv,zJ9 (by rw [sH h hk hB];exact hi),hB',at0,List.getD_eq_getElem?_getD,List.getElem?_append_right (by rw [zR];omega),zR,Nat.sub_self];rfl
     have hbr:=(zDd h.os (x.zA.length - k) k B (by omega) hB).2 i hi
     have ha:=(zDd h.os (x.zA.length - k) k A (by omega) hA).2 i hi
     have e1:at0 B i = b:=by rw [hB',at0,List.getD_eq_getElem?_getD,List.getElem?_append_right (by rw [zR];omega),zR,Nat.sub_self];rfl
     have e2:at0 A i = a0:=by rw [hA',at0,List.getD_eq_getElem?_getD,List.getElem?_append_right (by rw [zR];omega),zR,Nat.sub_self];rfl
     have hb0:b = 0:=by omega
     subst hb0
     unfold zNQ
     simp only
     rw [hz,bs,show ((0:Int) != 0) = false from rfl,zF]
     exact ⟨_,rfl,B,u,rfl,hB,hu,hmu,B',by rw [hB',zBd]⟩) ⟨A,w,a0,A',rfl,hA,hw,hm,hA',.inr (by omega)⟩
   obtain ⟨r,r1,B,u,rfl,hB,hu,hmu,B',hB'⟩:=inner
   rw [r1,bs,zD (by omega) (by omega),bs,cs]
   exact ⟨_,rfl,B,u,rfl,hB,hu,hmu,B',by rw [hB',show k + i + 1 - k = i + 1 from by omega]⟩) (fun s hI => by
  obtain ⟨A,w,rfl,hA,hw,hm,A',hA'⟩:=hI
  unfold zQF
  simp only
  rw [hvl,xC,zF]
  refine ⟨_,rfl,w,hw,?_,rfl⟩
  have hAl:=sH h hk hA
  rw [hA',List.length_append,zR] at hAl
  rw [hm,hA',List.eq_nil_of_length_eq_zero (l:=A') (by omega),List.append_nil,hsl]) (s:=(fv k v,fv k (zeros (suf x k).length),0))
  ⟨v,_,rfl,hv,wH ok,G.oner hv,v,by rw [Nat.zero_sub];rfl⟩
 obtain ⟨r,r1,w,hw,hm,rfl⟩:=key
 rw [r1,bs]
 exact ⟨w,hw,hm,rfl⟩
theorem zBR {a b:Vec} (ha:V (suf x k) a) (hb:V (suf x k) b):∃ c,V (suf x k) c ∧ mul (suf x k) b c = mul (suf x k) a b ∧ zQH x (fv k a) (fv k b) = some (fv k c):=by
 have ok:=h.okAt hk
 have G:=zFY h hk hc
 obtain ⟨w,hw,hm,h1⟩:=zJD h hk hc hb
 have hab:=xL ok ha hb
 refine ⟨mul (suf x k) w (mul (suf x k) a b),xL ok hw hab,?_,?_⟩
 ·rw [← G.assoc hb hw hab,hm,G.onel hab]
 ·unfold zQH
  rw [h1,bs,zCG h hk hc ha hb,bs,zCG h hk hc hw hab,bs]
end
theorem zDe {a b:List Int} (h:a.length ≤ 1000000):f_S a b = some (a == b) :=
 zHv (t:=fun u v => some (u == v)) (body:=zUJ a b) rfl (fun _ => rfl) (by omega) fun _ _ _ _ => rfl
theorem zNx {a b:List Int} (h:a.length ≤ 1000000):zI8 a b = some (a == b):=zDe h
end Go.Pl

namespace Go.Pl
open Go Go.Ab Go.Wk Go.Pc
theorem zJE {ρ:Type} {body:Int → Option (Int ⊕ (Unit ⊕ ρ))} (n i0:Nat) (hn:i0 ≤ n) (P:Nat → Prop) (B:ρ → Prop)
  (h:∀ i,i0 ≤ i → i < n → (∀ j,i0 ≤ j → j < i → P j) → (body (i:Int) = some (.inl ((i + 1:Nat):Int)) ∧ P i) ∨ (∃ r,body (i:Int) = some (.inr (.inr r)) ∧ B r ∧ ¬ P i))
  (he:body (n:Int) = some (.inr (.inl ()))) :
  (zH body (i0:Int) = some (.inl ()) ∧ ∀ j,i0 ≤ j → j < n → P j) ∨ ∃ r i,i0 ≤ i ∧ i < n ∧ zH body (i0:Int) = some (.inr r) ∧ B r ∧ ¬ P i:=by
 have key:∀ k i,i0 ≤ i → i + k = n → (∀ j,i0 ≤ j → j < i → P j) → (zH body (i:Int) = some (.inl ()) ∧ ∀ j,i0 ≤ j → j < n → P j) ∨ ∃ r q,i0 ≤ q ∧ q < n ∧ zH body (i:Int) = some (.inr r) ∧ B r ∧ ¬ P q:=by
  intro k
  induction k with
  | zero =>
   intro i hi hk hp
   obtain rfl:i = n:=by omega
   exact .inl ⟨by rw [xF,he],hp⟩
  | succ k ih =>
   intro i hi hk hp
   rcases h i hi (by omega) hp with ⟨h1,h2⟩ | ⟨r,h1,h2,h3⟩
   ·have:=ih (i + 1) (by omega) (by omega) fun j a b => by
     rcases Nat.lt_or_ge j i with c | c
     ·exact hp j a c
     ·rw [show j = i from by omega];exact h2
    rw [xF,h1]
    exact this
   ·exact .inr ⟨r,i,hi,by omega,by rw [xF,h1],h2,h3⟩
 exact key (n - i0) i0 (Nat.le_refl _) (by omega) fun j a b => by omega
theorem zGb {σ ρ:Type} {body:σ → Option (σ ⊕ ρ)} {Q:ρ → Prop} (I:σ → Prop) (m:σ → Nat)
  (h:∀ s,I s → (∃ s',body s = some (.inl s') ∧ I s' ∧ m s' < m s) ∨ ∃ r,body s = some (.inr r) ∧ Q r):∀ (k:Nat) (s:σ),m s ≤ k → I s → ∃ r,zH body s = some r ∧ Q r
 | k,s,hk,hs => by
  rcases h s hs with ⟨s',h1,h2,h3⟩ | ⟨r,h1,h2⟩
  ·cases k with
   | zero => omega
   | succ k =>
    obtain ⟨r,h4,h5⟩:=zGb I m h k s' (by omega) h2
    exact ⟨r,by rw [xF,h1];exact h4,h5⟩
  ·exact ⟨r,by rw [xF,h1],h2⟩
theorem zUo {k:Nat} {a b:Vec}:(fv k a == fv k b) = true ↔ a = b:=by
 rw [beq_iff_eq];exact ⟨fun h => List.append_cancel_left h,fun h => by rw [h]⟩
theorem zBS {x:SPr} {v:List Int} {i k:Nat} (h:Exp x.zA v i) (hk:k ≤ i + 1) (hn:k ≤ x.zA.length):v = fv k (v.drop k) ∧ V (suf x k) (v.drop k):=by
 have h1:=h.1.1
 constructor
 ·apply List.ext_getElem?
  intro j
  rw [fv,List.getElem?_append]
  simp only [zeros,List.length_replicate,List.getElem?_replicate,List.getElem?_drop]
  split
  ·rename_i hj
   have h2:=h.2 j (by omega)
   rw [List.getElem?_eq_getElem (by omega)]
   rw [at0,List.getD_eq_getElem?_getD,List.getElem?_eq_getElem (by omega)] at h2
   simpa using h2
  ·rw [show k + (j - k) = j from by omega]
 ·refine zUn (x.zA.length - k) k _ (by omega) (by rw [List.length_drop];omega) fun j hj => ?_
  have:=h.1.2 (k + j) (by omega)
  have e:at0 (v.drop k) j = at0 v (k + j):=by simp only [at0,List.getD_eq_getElem?_getD,List.getElem?_drop]
  rw [e];exact this
structure LC (x:SPr) (k:Nat):Prop where
 c1:∀ j,k + 1 ≤ j → j < x.zA.length → pw (mul (suf x (k + 1))) (zeros (suf x (k + 1)).length) ((lvl x k).cs.getD (j - (k + 1)) []) (at0 x.zA j).toNat = sig (suf x (k + 1)) (lvl x k) ((x.zW.getD j []).drop (k + 1))
 c2:∀ i,k + 1 ≤ i → i < x.zA.length → ∀ j,i + 1 ≤ j → j < x.zA.length →
  mul (suf x (k + 1)) ((lvl x k).cs.getD (j - (k + 1)) []) ((lvl x k).cs.getD (i - (k + 1)) []) = mul (suf x (k + 1)) ((lvl x k).cs.getD (i - (k + 1)) []) (sig (suf x (k + 1)) (lvl x k) (((x.zC.getD i []).getD (j - (i + 1)) []).drop (k + 1)))
 c3:sig (suf x (k + 1)) (lvl x k) (lvl x k).w = (lvl x k).w
 c4:∀ j,k + 1 ≤ j → j < x.zA.length → mul (suf x (k + 1)) (lvl x k).w (iter (lvl x k).o.toNat (sig (suf x (k + 1)) (lvl x k)) (wI (x.zA.length - (k + 1)) (j - (k + 1)))) = mul (suf x (k + 1)) (wI (x.zA.length - (k + 1)) (j - (k + 1))) (lvl x k).w
section
variable {x:SPr} (h:Pres x) {k:Nat} (hk:k < x.zA.length) (hc:vA (suf x (k + 1)))
 include h hk
theorem jG {j:Nat} (h1:k + 1 ≤ j) (h2:j < x.zA.length):ixO x.zC (k:Int) = some (x.zC.getD k []) ∧ ixO (x.zC.getD k []) ((j:Int) - (k:Int) - 1) = some (fv (k + 1) ((lvl x k).cs.getD (j - (k + 1)) [])) ∧ V (suf x (k + 1)) ((lvl x k).cs.getD (j - (k + 1)) []):=by
 obtain ⟨c,c1,c2,c3,c4⟩:=zD5 h hk (i:=j - (k + 1)) (by omega)
 rw [c4]
 refine ⟨c1,?_,c3⟩
 rw [show (j:Int) - (k:Int) - 1 = ((j - (k + 1):Nat):Int) from by omega]
 exact c2
theorem zP1 {j:Nat} (h1:k + 1 ≤ j) (h2:j < x.zA.length):ixO x.zW (j:Int) = some (fv (k + 1) ((x.zW.getD j []).drop (k + 1))) ∧ V (suf x (k + 1)) ((x.zW.getD j []).drop (k + 1)):=by
 have t1:=(h.tl j h2).1
 have hl:=h.pl
 obtain ⟨e1,e2⟩:=zBS (k:=k + 1) t1 (by omega) (by omega)
 exact ⟨by rw [yF [] (by omega),← e1],e2⟩
theorem zP2 {i j:Nat} (h1:k + 1 ≤ i) (h2:i + 1 ≤ j) (h3:j < x.zA.length):ixO x.zC (i:Int) = some (x.zC.getD i []) ∧ ixO (x.zC.getD i []) ((j:Int) - (i:Int) - 1) = some (fv (k + 1) (((x.zC.getD i []).getD (j - (i + 1)) []).drop (k + 1))) ∧ V (suf x (k + 1)) (((x.zC.getD i []).getD (j - (i + 1)) []).drop (k + 1)):=by
 obtain ⟨_,t2,t3⟩:=h.tl i (by omega)
 have hl:=h.cl
 obtain ⟨e1,e2⟩:=zBS (k:=k + 1) (t3 (j - (i + 1)) (by omega)) (by omega) (by omega)
 refine ⟨yF [] (by omega),?_,e2⟩
 rw [show (j:Int) - (i:Int) - 1 = ((j - (i + 1):Nat):Int) from by omega,yF [] (by omega),← e1]
theorem zUp:ixO x.zW (k:Int) = some (fv (k + 1) (lvl x k).w) ∧ V (suf x (k + 1)) (lvl x k).w:=by
 have t1:=(h.tl k hk).1
 have hl:=h.pl
 obtain ⟨e1,e2⟩:=zBS (k:=k + 1) t1 (by omega) (by omega)
 exact ⟨by rw [yF [] (by omega)];exact congrArg some e1,e2⟩
theorem zP3 {v:Vec} (hv:V (suf x (k + 1)) v):V (suf x (k + 1)) (sig (suf x (k + 1)) (lvl x k) v):=by
 have ok0:=h.okAt (k:=k) (by omega)
 rw [yK hk] at ok0
 exact zEh ok0 hv
theorem zHz {j:Nat} (h1:k + 1 ≤ j) (h2:j < x.zA.length):zI9 (x.zA.length:Int) (j:Int) = some (fv (k + 1) (wI (x.zA.length - (k + 1)) (j - (k + 1)))):=by
 have h6:=h.os.1
 unfold zI9
 rw [yV (by omega),bs,vD,List.getElem?_replicate,if_pos h2,bs,Int.toNat_natCast]
 congr 1
 rw [fv,kG (by omega),← List.append_assoc]
 have e1:zeros (k + 1) ++ zeros (j - (k + 1)) = zeros j:=by simp only [zeros,List.replicate_append_replicate];congr 1;omega
 have e2:List.replicate x.zA.length (0:Int) = zeros j ++ 0 :: zeros (x.zA.length - (j + 1)):=by
  simp only [zeros]
  rw [← List.replicate_succ,List.replicate_append_replicate];congr 1;omega
 rw [e1,e2,zCF,show x.zA.length - (k + 1) - (j - (k + 1) + 1) = x.zA.length - (j + 1) from by omega]
theorem zNy {j:Nat} (h1:k + 1 ≤ j) (h2:j < x.zA.length):zUC (x.zA.length:Int) (j:Int) = some (fv (k + 1) (wI (x.zA.length - (k + 1)) (j - (k + 1)))):=zHz h hk h1 h2
 include hc
theorem kH {v:Vec} (hv:V (suf x (k + 1)) v):f_B x k (fv (k + 1) v) = some (fv (k + 1) (sig (suf x (k + 1)) (lvl x k) v)):=by
 have h6:=h.os.1
 have ok:=h.okAt (k:=k + 1) (by omega)
 have ok0:=h.okAt (k:=k) (by omega)
 rw [yK hk] at ok0
 obtain ⟨hvl,hvr⟩:=zDd h.os (x.zA.length - (k + 1)) (k + 1) v (by omega) hv
 have hcl:(lvl x k).cs.length = x.zA.length - (k + 1):=by rw [ok0.2.2.1,xI]
 have t2:=(h.tl k hk).2.1
 have hcl2:=h.cl
 have hA:∀ i,V (suf x (k + 1)) (img (mul (suf x (k + 1))) ((lvl x k).cs.take i) (v.take i) (zeros (suf x (k + 1)).length)):=fun i =>
  sX (xL ok) _ _ (fun c hc => ok0.2.2.2.1 c (List.mem_of_mem_take hc)) (wH ok)
 unfold f_B
 rw [zBQ h (by omega) hv,yV (by omega),bs,yF [] (by omega),bs,zMF h (k:=k + 1) (by omega)]
 have:=zQ (body:=zQE x k (fv (k + 1) v) (x.zC.getD k [])) (r:=fv (k + 1) (sig (suf x (k + 1)) (lvl x k) v))
  (fun i => (fv (k + 1) (img (mul (suf x (k + 1))) ((lvl x k).cs.take i) (v.take i) (zeros (suf x (k + 1)).length)),(i:Int))) (x.zC.getD k []).length (fun i hi => by
  have hr:=hvr i (by omega)
  obtain ⟨c,c1,c2,c3,c4⟩:=zD5 h hk (i:=i) (by omega)
  unfold zQE
  simp only
  rw [yR hi,zK,c2,bs,zD (by omega) (by omega),bs,zD (by omega) (by omega),bs,show (k:Int) + 1 + (i:Int) = ((k + 1 + i:Nat):Int) from by omega,fv,zJ9 (by omega),bs]
  rw [vB (S:=V (suf x (k + 1))) (body:=zQD x (zeros (k + 1) ++ c) (at0 v i)) (fun u => fv (k + 1) u) (fun u => mul (suf x (k + 1)) u c) (at0 v i) hr.1 (fun u hu => xL ok hu c3) (fun u q hu hq => by
   unfold zQD
   simp only
   rw [decide_eq_true hq,zK,zGa h (by omega) hc hu c3,bs,zD (by omega) (by omega),bs,cs]) (fun u hu => by
   unfold zQD
   simp only
   rw [decide_eq_false (by omega),zF]) (hA i),bs,zD (by omega) (by omega),bs,cs]
  rw [zAH _ _ _ _ (by omega) (by omega),c4]) (by
  unfold zQE
  simp only
  rw [xC,zF,List.take_of_length_le (by omega),List.take_of_length_le (by omega)]
  rfl)
 simp only [List.take_zero,img] at this
 rw [show ((0:Nat):Int) = 0 from rfl] at this
 rw [this,bs]
theorem zBT {a b:Vec} (ha:V (suf x (k + 1)) a):IsB (f_S (fv (k + 1) a) (fv (k + 1) b)) (a = b):=by
 have _:=hc
 have h6:=h.os.1
 rw [zDe (by rw [zBQ h (by omega) ha];omega)]
 exact IsB.of_bool zUo
theorem zJF {c:Vec} (hcv:V (suf x (k + 1)) c) {e:Int} (e0:0 ≤ e) (e1:e ≤ 1000):zS0 x ((k + 1:Nat):Int) (fv (k + 1) c) e = some (fv (k + 1) (pw (mul (suf x (k + 1))) (zeros (suf x (k + 1)).length) c e.toNat)):=by
 have h6:=h.os.1
 have ok:=h.okAt (k:=k + 1) (by omega)
 have G:=zFY h (k:=k + 1) (by omega) hc
 have hA:=zME h (k:=k + 1) (by omega)
 have pwV:∀ a,V (suf x (k + 1)) (pw (mul (suf x (k + 1))) (zeros (suf x (k + 1)).length) c a):=fun a => uR G.toMon hcv a
 unfold zS0
 rw [yV (by omega),bs,zMF h (k:=k + 1) (by omega)]
 obtain ⟨r,r1,r2⟩:=zGb (body:=zMY x ((k + 1:Nat):Int)) (Q:=fun r => r = fv (k + 1) (pw (mul (suf x (k + 1))) (zeros (suf x (k + 1)).length) c e.toNat))
  (fun s => ∃ (m a q:Nat),s = ((m:Int),fv (k + 1) (pw (mul (suf x (k + 1))) (zeros (suf x (k + 1)).length) c a),fv (k + 1) (pw (mul (suf x (k + 1))) (zeros (suf x (k + 1)).length) c q)) ∧ a + q * m = e.toNat ∧ m ≤ 1000) (fun s => s.1.toNat) (fun s ⟨m,a,q,hs,he,hm⟩ => by
   subst hs
   unfold zMY
   simp only
   by_cases hm0:m = 0
   ·right
    subst hm0
    rw [show decide (((0:Nat):Int) > 0) = false from rfl,zF]
    refine ⟨_,rfl,?_⟩
    rw [← he,Nat.mul_zero];rfl
   ·left
    have hr:vU (m:Int) 2 = some ((m % 2:Nat):Int):=by
     unfold vU
     rw [if_neg (by decide),Int.tmod_eq_emod_of_nonneg (by omega)];rfl
    have hq:uQ (m:Int) 2 = some ((m / 2:Nat):Int):=by
     unfold uQ
     rw [if_neg (by decide),Int.tdiv_eq_ediv_of_nonneg (by omega)]
     rw [zD (by omega) (by omega)];rfl
    have hdm:=Nat.div_add_mod m 2
    have hqq:mul (suf x (k + 1)) (pw (mul (suf x (k + 1))) (zeros (suf x (k + 1)).length) c q) (pw (mul (suf x (k + 1))) (zeros (suf x (k + 1)).length) c q) = pw (mul (suf x (k + 1))) (zeros (suf x (k + 1)).length) c (q + q):=(zFL G.toMon hcv q q).symm
    rw [decide_eq_true (by omega),zK,hr,bs]
    rcases Nat.mod_two_eq_zero_or_one m with h2 | h2
    ·rw [h2,show ((((0:Nat):Int)) == 1) = false from rfl,zF,hA _ _ (pwV q) (pwV q),bs,hq,bs,hqq]
     refine ⟨_,rfl,⟨m / 2,a,q + q,rfl,?_,by omega⟩,by simp only;omega⟩
     rw [← he]
     have:m = m / 2 + m / 2:=by omega
     have e3:(q + q) * (m / 2) = q * m:=by
      rw [Nat.add_mul,← Nat.mul_add,← this]
     omega
    ·rw [h2,show ((((1:Nat):Int)) == 1) = true from rfl,zK,hA _ _ (pwV a) (pwV q),bs,hA _ _ (pwV q) (pwV q),bs,hq,bs,hqq,← zFL G.toMon hcv a q]
     refine ⟨_,rfl,⟨m / 2,a + q,q + q,rfl,?_,by omega⟩,by simp only;omega⟩
     rw [← he]
     have:m = m / 2 + m / 2 + 1:=by omega
     have e3:(q + q) * (m / 2) + q = q * m:=by
      have e4:q * m = q * (m / 2 + m / 2 + 1):=by rw [← this]
      rw [e4,Nat.mul_add,Nat.mul_add,Nat.mul_one,Nat.add_mul]
     omega) 1000000 (e,fv (k + 1) (zeros (suf x (k + 1)).length),fv (k + 1) c) (by simp only;omega) ⟨e.toNat,0,1,by rw [zPr G.toMon hcv,show ((e.toNat:Nat):Int) = e from by omega];rfl,by omega,by omega⟩
 rw [r1,bs,r2]
end
end Go.Pl

namespace Go.Pl
open Go Go.Ab Go.Wk Go.Pc
def zWp (o:Option yU) (P:Prop):Prop:=(o = some (yU.mk 0 0 0 0) ∧ P) ∨ ∃ r,o = some r ∧ r.Kind ≠ 0 ∧ ¬ P
theorem kb {a b c d:Int} (h:a ≠ 0):(yU.mk a b c d).Kind ≠ 0:=h
abbrev KB (r:yU):Prop:=r.Kind ≠ 0
theorem zAI {o:Option Bool} {P:Prop} {bad:yU} {i:Nat} {g:Option (Int ⊕ (Unit ⊕ yU))} (h:IsB o P) (hi:i < 9223372036854775807) (hbad:bad.Kind ≠ 0)
  (hg:g = o.bind fun r => cond (!r) (some (.inr (.inr bad))) ((rng ((i:Int) + 1)).bind fun v => some (.inl v))):(g = some (.inl ((i + 1:Nat):Int)) ∧ P) ∨ (∃ r,g = some (.inr (.inr r)) ∧ KB r ∧ ¬ P):=by
 rcases vW h hi hg with h | ⟨h1,h2⟩
 ·exact .inl h
 ·exact .inr ⟨bad,h1,hbad,h2⟩
section
variable {x:SPr} (h:Pres x) {k:Nat} (hk:k < x.zA.length) (hc:vA (suf x (k + 1)))
 include h hk hc
theorem zGc:zWp (f_l x k) (LC x k):=by
 have h6:=h.os.1
 have ok:=h.okAt (k:=k + 1) (by omega)
 have G:=zFY h (k:=k + 1) (by omega) hc
 obtain ⟨w1,w2⟩:=zUp h hk
 have hsV:∀ v,V (suf x (k + 1)) v → V (suf x (k + 1)) (sig (suf x (k + 1)) (lvl x k) v):=fun v hv => zP3 h hk hv
 unfold f_l
 rw [zD (by omega) (by omega),bs,cs]
 rcases zJE (body:=zQI x k) x.zA.length (k + 1) (by omega) (fun j => pw (mul (suf x (k + 1))) (zeros (suf x (k + 1)).length) ((lvl x k).cs.getD (j - (k + 1)) []) (at0 x.zA j).toNat = sig (suf x (k + 1)) (lvl x k) ((x.zW.getD j []).drop (k + 1))) KB (fun j h1 h2 _ => by
   obtain ⟨c1,c2,c3⟩:=jG h hk h1 h2
   obtain ⟨p1,p2⟩:=zP1 h hk h1 h2
   have hpr:=(h.os.2 j h2).pos
   refine zAI (zBT h hk hc (uR G.toMon c3 (at0 x.zA j).toNat)) (by omega) (bad:=yU.mk 1 k j 0) (kb (by decide)) ?_
   unfold zQI
   rw [yR h2,zK,c1,bs,zD (by omega) (by omega),bs,zD (by omega) (by omega),bs,c2,bs,yG h2,bs,zLb h (by omega) hc c3 (by omega) (by omega),bs,p1,bs,kH h hk hc p2,bs]) (by
   unfold zQI
   rw [xC,zF]) with ⟨g1,g2⟩ | ⟨r,j,j1,j2,g1,g2,g3⟩
 rotate_left
 ·rw [g1,bs]
  exact .inr ⟨r,rfl,g2,fun q => g3 (q.c1 j j1 j2)⟩
 rw [g1,bs]
 simp only
 rw [bs]
 rcases zJE (body:=zQK x k) x.zA.length (k + 1) (by omega) (fun i => ∀ j,i + 1 ≤ j → j < x.zA.length →
   mul (suf x (k + 1)) ((lvl x k).cs.getD (j - (k + 1)) []) ((lvl x k).cs.getD (i - (k + 1)) []) = mul (suf x (k + 1)) ((lvl x k).cs.getD (i - (k + 1)) []) (sig (suf x (k + 1)) (lvl x k) (((x.zC.getD i []).getD (j - (i + 1)) []).drop (k + 1)))) KB (fun i h1 h2 _ => by
   obtain ⟨c1,c2,c3⟩:=jG h hk h1 h2
   unfold zQK
   rw [yR h2,zK,zD (by omega) (by omega),bs,cs]
   rcases zJE (body:=zQJ x k i) x.zA.length (i + 1) (by omega) (fun j => mul (suf x (k + 1)) ((lvl x k).cs.getD (j - (k + 1)) []) ((lvl x k).cs.getD (i - (k + 1)) []) = mul (suf x (k + 1)) ((lvl x k).cs.getD (i - (k + 1)) []) (sig (suf x (k + 1)) (lvl x k) (((x.zC.getD i []).getD (j - (i + 1)) []).drop (k + 1)))) KB (fun j h3 h4 _ => by
     obtain ⟨d1,d2,d3⟩:=jG h hk (j:=j) (by omega) h4
     obtain ⟨e1,e2,e3⟩:=zP2 h hk h1 h3 h4
     obtain ⟨q,q1,q2,q3⟩:=zBR h (by omega) hc d3 c3
     refine zAI ((zBT h hk hc (b:=sig (suf x (k + 1)) (lvl x k) (((x.zC.getD i []).getD (j - (i + 1)) []).drop (k + 1))) q1).iff (Q:=mul (suf x (k + 1)) ((lvl x k).cs.getD (j - (k + 1)) []) ((lvl x k).cs.getD (i - (k + 1)) []) = mul (suf x (k + 1)) ((lvl x k).cs.getD (i - (k + 1)) []) (sig (suf x (k + 1)) (lvl x k) (((x.zC.getD i []).getD (j - (i + 1)) []).drop (k + 1)))) ?_) (by omega) (bad:=yU.mk 2 k i j) (kb (by decide)) ?_
     ·exact ⟨fun e => by rw [← q2,e],fun e => G.cancel_l c3 q1 (hsV _ e3) (by rw [q2,e])⟩
     ·unfold zQJ
      rw [yR h4,zK,d1,bs,zD (by omega) (by omega),bs,zD (by omega) (by omega),bs,d2,bs,bs,zD (by omega) (by omega),bs,zD (by omega) (by omega),bs,c2,bs,q3,bs,e1,bs,zD (by omega) (by omega),bs,zD (by omega) (by omega),bs,e2,bs,kH h hk hc e3,bs]) (by
     unfold zQJ
     rw [xC,zF]) with ⟨g1,g2⟩ | ⟨r,j,j1,j2,g1,g2,g3⟩
   ·left
    rw [g1,bs]
    exact ⟨rfl,g2⟩
   ·right
    rw [g1,bs]
    exact ⟨r,rfl,g2,fun q => g3 (q j j1 j2)⟩) (by
   unfold zQK
   rw [xC,zF]) with ⟨k1,k2⟩ | ⟨r,j,j1,j2,k1,k2,k3⟩
 rotate_left
 ·rw [k1,bs]
  exact .inr ⟨r,rfl,k2,fun q => k3 (q.c2 j j1 j2)⟩
 rw [k1,bs]
 simp only
 rw [w1,bs,kH h hk hc w2,bs]
 rcases zBT h hk hc (b:=(lvl x k).w) (hsV _ w2) with ⟨m1,m2⟩ | ⟨m1,m2⟩
 rotate_left
 ·rw [m1,bs,Bool.not_false,zK]
  exact .inr ⟨_,rfl,kb (by decide),fun q => m2 q.c3⟩
 rw [m1,bs,Bool.not_true,zF,bs]
 rcases zJE (body:=zQM x k (fv (k + 1) (lvl x k).w)) x.zA.length (k + 1) (by omega) (fun j => mul (suf x (k + 1)) (lvl x k).w (iter (lvl x k).o.toNat (sig (suf x (k + 1)) (lvl x k)) (wI (x.zA.length - (k + 1)) (j - (k + 1)))) = mul (suf x (k + 1)) (wI (x.zA.length - (k + 1)) (j - (k + 1))) (lvl x k).w) KB (fun j h1 h2 _ => by
   have hU:=zLa h (k:=k + 1) (by omega) hc (i:=j - (k + 1)) (by omega)
   have hpr:=(h.os.2 k hk).pos
   obtain ⟨q,q1,q2,q3⟩:=zBR h (k:=k + 1) (by omega) hc hU w2
   have hit:V (suf x (k + 1)) (iter (lvl x k).o.toNat (sig (suf x (k + 1)) (lvl x k)) (wI (x.zA.length - (k + 1)) (j - (k + 1)))):=wY hsV _ hU
   refine zAI ((zBT h hk hc (b:=q) hit).iff ⟨fun e => by rw [e,q2],fun e => G.cancel_l w2 hit q1 (by rw [e,q2])⟩) (by omega) (bad:=yU.mk 4 k j 0) (kb (by decide)) ?_
   unfold zQM
   rw [yR h2,zK,zHz h hk h1 h2,bs,yG hk,bs]
   rw [vB (S:=V (suf x (k + 1))) (body:=zQL x k (at0 x.zA k)) (fun u => fv (k + 1) u) (sig (suf x (k + 1)) (lvl x k)) (at0 x.zA k) (by omega) hsV (fun u i hu hi => by
    unfold zQL
    simp only
    rw [decide_eq_true hi,zK,kH h hk hc hu,bs,zD (by omega) (by omega),bs,cs]) (fun u hu => by
    unfold zQL
    simp only
    rw [decide_eq_false (by omega),zF]) hU,bs,bs,q3,bs]
   rfl) (by
   unfold zQM
   rw [xC,zF]) with ⟨n1,n2⟩ | ⟨r,j,j1,j2,n1,n2,n3⟩
 ·rw [n1,bs]
  exact .inl ⟨rfl,⟨g2,k2,m2,n2⟩⟩
 ·rw [n1,bs]
  exact .inr ⟨r,rfl,n2,fun q => n3 (q.c4 j j1 j2)⟩
theorem zLc:zWp (f_m x k) (LC x k):=by
 have h6:=h.os.1
 have ok:=h.okAt (k:=k + 1) (by omega)
 have G:=zFY h (k:=k + 1) (by omega) hc
 obtain ⟨w1,w2⟩:=zUp h hk
 have hA:=zME h (k:=k + 1) (by omega)
 have hI:=zKY h hk
 have hsV:∀ v,V (suf x (k + 1)) v → V (suf x (k + 1)) (sig (suf x (k + 1)) (lvl x k) v):=fun v hv => zP3 h hk hv
 have eqB:∀ {a b:Vec},V (suf x (k + 1)) a → IsB (zI8 (fv (k + 1) a) (fv (k + 1) b)) (a = b):=fun ha => zBT h hk hc ha
 unfold f_m
 rw [zD (by omega) (by omega),bs,cs]
 rcases zJE (body:=zQr x k) x.zA.length (k + 1) (by omega) (fun j => pw (mul (suf x (k + 1))) (zeros (suf x (k + 1)).length) ((lvl x k).cs.getD (j - (k + 1)) []) (at0 x.zA j).toNat = sig (suf x (k + 1)) (lvl x k) ((x.zW.getD j []).drop (k + 1))) KB (fun j h1 h2 _ => by
   obtain ⟨c1,c2,c3⟩:=jG h hk h1 h2
   obtain ⟨p1,p2⟩:=zP1 h hk h1 h2
   have hpr:=(h.os.2 j h2).pos
   refine zAI (eqB (uR G.toMon c3 (at0 x.zA j).toNat)) (by omega) (bad:=yU.mk 1 k j 0) (kb (by decide)) ?_
   unfold zQr
   rw [yR h2,zK,zD (by omega) (by omega),bs,cs,c1,bs,zD (by omega) (by omega),bs,zD (by omega) (by omega),bs,c2,bs,yG h2,bs,zJF h hk hc c3 (by omega) (by omega),bs,p1,bs,hI _ p2,bs]) (by
   unfold zQr
   rw [xC,zF]) with ⟨g1,g2⟩ | ⟨r,j,j1,j2,g1,g2,g3⟩
 rotate_left
 ·rw [g1,bs]
  exact .inr ⟨r,rfl,g2,fun q => g3 (q.c1 j j1 j2)⟩
 rw [g1,bs]
 simp only
 rw [bs]
 rcases zJE (body:=zQt x k) x.zA.length (k + 1) (by omega) (fun i => ∀ j,i + 1 ≤ j → j < x.zA.length →
   mul (suf x (k + 1)) ((lvl x k).cs.getD (j - (k + 1)) []) ((lvl x k).cs.getD (i - (k + 1)) []) = mul (suf x (k + 1)) ((lvl x k).cs.getD (i - (k + 1)) []) (sig (suf x (k + 1)) (lvl x k) (((x.zC.getD i []).getD (j - (i + 1)) []).drop (k + 1)))) KB (fun i h1 h2 _ => by
   obtain ⟨c1,c2,c3⟩:=jG h hk h1 h2
   unfold zQt
   rw [yR h2,zK,zD (by omega) (by omega),bs,cs]
   rcases zJE (body:=zQs x k i) x.zA.length (i + 1) (by omega) (fun j => mul (suf x (k + 1)) ((lvl x k).cs.getD (j - (k + 1)) []) ((lvl x k).cs.getD (i - (k + 1)) []) = mul (suf x (k + 1)) ((lvl x k).cs.getD (i - (k + 1)) []) (sig (suf x (k + 1)) (lvl x k) (((x.zC.getD i []).getD (j - (i + 1)) []).drop (k + 1)))) KB (fun j h3 h4 _ => by
     obtain ⟨d1,d2,d3⟩:=jG h hk (j:=j) (by omega) h4
     obtain ⟨e1,e2,e3⟩:=zP2 h hk h1 h3 h4
     refine zAI (eqB (xL ok d3 c3)) (by omega) (bad:=yU.mk 2 k i j) (kb (by decide)) ?_
     unfold zQs
     rw [yR h4,zK,d1,bs,zD (by omega) (by omega),bs,zD (by omega) (by omega),bs,c2,bs,bs,zD (by omega) (by omega),bs,zD (by omega) (by omega),bs,d2,bs,e1,bs,zD (by omega) (by omega),bs,zD (by omega) (by omega),bs,e2,bs,hI _ e3,bs,zD (by omega) (by omega),bs,cs,hA _ _ d3 c3,bs,bs,hA _ _ c3 (hsV _ e3),bs]) (by
     unfold zQs
     rw [xC,zF]) with ⟨g1,g2⟩ | ⟨r,j,j1,j2,g1,g2,g3⟩
   ·left
    rw [g1,bs]
    exact ⟨rfl,g2⟩
   ·right
    rw [g1,bs]
    exact ⟨r,rfl,g2,fun q => g3 (q j j1 j2)⟩) (by
   unfold zQt
   rw [xC,zF]) with ⟨k1,k2⟩ | ⟨r,j,j1,j2,k1,k2,k3⟩
 rotate_left
 ·rw [k1,bs]
  exact .inr ⟨r,rfl,k2,fun q => k3 (q.c2 j j1 j2)⟩
 rw [k1,bs]
 simp only
 rw [w1,bs,hI _ w2,bs]
 rcases eqB (b:=(lvl x k).w) (hsV _ w2) with ⟨m1,m2⟩ | ⟨m1,m2⟩
 rotate_left
 ·rw [m1,bs,Bool.not_false,zK]
  exact .inr ⟨_,rfl,kb (by decide),fun q => m2 q.c3⟩
 rw [m1,bs,Bool.not_true,zF,bs]
 rcases zJE (body:=zQv x k (fv (k + 1) (lvl x k).w)) x.zA.length (k + 1) (by omega) (fun j => mul (suf x (k + 1)) (lvl x k).w (iter (lvl x k).o.toNat (sig (suf x (k + 1)) (lvl x k)) (wI (x.zA.length - (k + 1)) (j - (k + 1)))) = mul (suf x (k + 1)) (wI (x.zA.length - (k + 1)) (j - (k + 1))) (lvl x k).w) KB (fun j h1 h2 _ => by
   have hU:=zLa h (k:=k + 1) (by omega) hc (i:=j - (k + 1)) (by omega)
   have hpr:=(h.os.2 k hk).pos
   have hit:V (suf x (k + 1)) (iter (lvl x k).o.toNat (sig (suf x (k + 1)) (lvl x k)) (wI (x.zA.length - (k + 1)) (j - (k + 1)))):=wY hsV _ hU
   refine zAI (eqB (xL ok w2 hit)) (by omega) (bad:=yU.mk 4 k j 0) (kb (by decide)) ?_
   unfold zQv
   rw [yR h2,zK,zNy h hk h1 h2,bs]
   rw [vB (S:=V (suf x (k + 1))) (body:=zQu x k) (fun u => fv (k + 1) u) (sig (suf x (k + 1)) (lvl x k)) (at0 x.zA k) (by omega) hsV (fun u i hu hi => by
    unfold zQu
    simp only
    rw [yG hk,bs,decide_eq_true hi,zK,hI _ hu,bs,zD (by omega) (by omega),bs,cs]) (fun u hu => by
    unfold zQu
    simp only
    rw [yG hk,bs,decide_eq_false (by omega),zF]) hU,bs,zD (by omega) (by omega),bs,cs]
   have ho:(lvl x k).o = at0 x.zA k:=rfl
   rw [← ho,hA _ _ w2 hit,bs,bs,hA _ _ hU w2,bs]) (by
   unfold zQv
   rw [xC,zF]) with ⟨n1,n2⟩ | ⟨r,j,j1,j2,n1,n2,n3⟩
 ·rw [n1,bs]
  exact .inl ⟨rfl,⟨g2,k2,m2,n2⟩⟩
 ·rw [n1,bs]
  exact .inr ⟨r,rfl,n2,fun q => n3 (q.c4 j j1 j2)⟩
end
end Go.Pl

namespace Go.Pl
open Go Go.Ab Go.Wk Go.Pc
theorem zEm {m:Vec → Vec → Vec}:∀ (i:Nat) (cs:List Vec) (w acc:Vec),i ≤ cs.length → img m cs (zeros i ++ w) acc = img m (cs.drop i) w acc
 | 0,cs,w,acc,_ => rfl
 | i + 1,[],w,acc,h => by simp at h
 | i + 1,c :: cs,w,acc,h => by
  show img m (c :: cs) (0 :: (zeros i ++ w)) acc = _
  simp only [img,Int.toNat_zero,iter,List.drop_succ_cons]
  exact zEm i cs w acc (by simpa using h)
theorem zGd {x:SPr} {v:List Int} {j k:Nat} (h:Exp x.zA v j) (hj:j < x.zA.length) (hk:k ≤ j + 1):v.drop k = zeros (j + 1 - k) ++ v.drop (j + 1):=by
 have:=zAG h hj
 have h2:v.drop k = (zeros (j + 1) ++ v.drop (j + 1)).drop k:=by rw [← this]
 rw [h2,List.drop_append,zR,show k - (j + 1) = 0 from by omega,List.drop_zero]
 congr 1
 simp only [zeros,List.drop_replicate]
section
variable {x:SPr} (h:Pres x) {k:Nat} (hk:k < x.zA.length)
 include h hk
theorem kJ:(lvl x k).cs.length = x.zA.length - (k + 1):=by
 have ok0:=h.okAt (k:=k) (by omega)
 rw [yK hk] at ok0
 rw [ok0.2.2.1,xI]
theorem zSd {j:Nat} (h1:k + 1 ≤ j) (h2:j < x.zA.length):sig (suf x (k + 1)) (lvl x k) ((x.zW.getD j []).drop (k + 1)) = img (mul (suf x (k + 1))) ((lvl x k).cs.drop (j - k)) (lvl x j).w (zeros (suf x (k + 1)).length):=by
 have t1:=(h.tl j h2).1
 have hcl:=kJ h hk
 rw [zGd t1 h2 (by omega),sig,zEm _ _ _ _ (by omega),show j + 1 - (k + 1) = j - k from by omega]
 rfl
theorem zMG:∀ (d i:Nat),k + 1 + i + d = x.zA.length → (Rel (mul (suf x (k + 1))) (zeros (suf x (k + 1)).length) (suf x (k + 1 + i)) ((lvl x k).cs.drop i) ↔
  (∀ j,k + 1 + i ≤ j → j < x.zA.length → pw (mul (suf x (k + 1))) (zeros (suf x (k + 1)).length) ((lvl x k).cs.getD (j - (k + 1)) []) (at0 x.zA j).toNat = sig (suf x (k + 1)) (lvl x k) ((x.zW.getD j []).drop (k + 1))) ∧
  (∀ a,k + 1 + i ≤ a → a < x.zA.length → ∀ j,a + 1 ≤ j → j < x.zA.length →
   mul (suf x (k + 1)) ((lvl x k).cs.getD (j - (k + 1)) []) ((lvl x k).cs.getD (a - (k + 1)) []) = mul (suf x (k + 1)) ((lvl x k).cs.getD (a - (k + 1)) []) (sig (suf x (k + 1)) (lvl x k) (((x.zC.getD a []).getD (j - (a + 1)) []).drop (k + 1)))))
 | 0,i,hi => by
  have hcl:=kJ h hk
  rw [uB (x:=x) (k:=k + 1 + i) (by omega),List.drop_of_length_le (show (lvl x k).cs.length ≤ i by omega)]
  simp only [Rel,true_iff]
  exact ⟨fun j h1 h2 => by omega,fun a h1 h2 => by omega⟩
 | d + 1,i,hi => by
  have hcl:=kJ h hk
  have ih:=zMG d (i + 1) (by omega)
  rw [show k + 1 + (i + 1) = k + 1 + i + 1 from by omega] at ih
  have hj:k + 1 + i < x.zA.length:=by omega
  have hg:(lvl x k).cs.drop i = (lvl x k).cs.getD i [] :: (lvl x k).cs.drop (i + 1):=by
   rw [List.drop_eq_getElem_cons (by omega),List.getD_eq_getElem?_getD,List.getElem?_eq_getElem (by omega)];rfl
  rw [yK hj,hg]
  simp only [Rel]
  rw [ih]
  have e1:=zSd h hk (j:=k + 1 + i) (by omega) hj
  rw [show k + 1 + i - k = i + 1 from by omega] at e1
  have ho:(lvl x (k + 1 + i)).o = at0 x.zA (k + 1 + i):=rfl
  rw [ho,← e1]
  have e2:∀ j,k + 1 + i + 1 ≤ j → j < x.zA.length → ∀ dd,(lvl x (k + 1 + i)).cs[j - (k + 1 + i + 1)]? = some dd → img (mul (suf x (k + 1))) ((lvl x k).cs.drop (i + 1)) dd (zeros (suf x (k + 1)).length) = sig (suf x (k + 1)) (lvl x k) (((x.zC.getD (k + 1 + i) []).getD (j - (k + 1 + i + 1)) []).drop (k + 1)):=fun j h1 h2 dd hdd => by
   obtain ⟨_,t2,t3⟩:=h.tl (k + 1 + i) hj
   have t:=t3 (j - (k + 1 + i + 1)) (by omega)
   rw [zGd t hj (by omega),sig,zEm _ _ _ _ (by omega),show k + 1 + i + 1 - (k + 1) = i + 1 from by omega]
   congr 1
   simp only [lvl,List.getElem?_map,Option.map_eq_some_iff] at hdd
   obtain ⟨u,hu,rfl⟩:=hdd
   rw [List.getD_eq_getElem?_getD (i:=j - (k + 1 + i + 1)),hu];rfl
  have e3:∀ j,k + 1 + i + 1 ≤ j → j < x.zA.length → ((lvl x k).cs.drop (i + 1))[j - (k + 1 + i + 1)]? = some ((lvl x k).cs.getD (j - (k + 1)) []) ∧ ∃ dd,(lvl x (k + 1 + i)).cs[j - (k + 1 + i + 1)]? = some dd:=fun j h1 h2 => by
   have hcl2:=kJ h hj
   refine ⟨?_,?_⟩
   ·rw [List.getElem?_drop,show i + 1 + (j - (k + 1 + i + 1)) = j - (k + 1) from by omega,List.getD_eq_getElem?_getD,List.getElem?_eq_getElem (by omega)];rfl
   ·exact ⟨_,List.getElem?_eq_getElem (by omega)⟩
  constructor
  ·rintro ⟨a1,a2,a3,a4⟩
   refine ⟨fun j h1 h2 => ?_,fun a h1 h2 j h3 h4 => ?_⟩
   ·rcases Nat.lt_or_ge (k + 1 + i) j with hlt | hge
    ·exact a3 j (by omega) h2
    ·obtain rfl:j = k + 1 + i:=by omega
     rw [show k + 1 + i - (k + 1) = i from by omega]
     exact a1
   ·rcases Nat.lt_or_ge (k + 1 + i) a with hlt | hge
    ·exact a4 a (by omega) h2 j h3 h4
    ·obtain rfl:a = k + 1 + i:=by omega
     obtain ⟨f1,dd,f2⟩:=e3 j (by omega) h4
     have:=a2 _ _ _ f1 f2
     rw [e2 j (by omega) h4 dd f2] at this
     rw [show k + 1 + i - (k + 1) = i from by omega]
     exact this
  ·rintro ⟨a1,a2⟩
   refine ⟨?_,fun kk c dd h1 h2 => ?_,fun j h1 h2 => a1 j (by omega) h2,fun a h1 h2 => a2 a (by omega) h2⟩
   ·have:=a1 (k + 1 + i) (by omega) hj
    rw [show k + 1 + i - (k + 1) = i from by omega] at this
    exact this
   ·have hlt:kk < x.zA.length - (k + 1 + i + 1):=by
     have:=(List.getElem?_eq_some_iff.1 h1).1
     rw [List.length_drop] at this;omega
    have g:=a2 (k + 1 + i) (by omega) hj (k + 1 + i + 1 + kk) (by omega) (by omega)
    obtain ⟨f1,_⟩:=e3 (k + 1 + i + 1 + kk) (by omega) (by omega)
    rw [show k + 1 + i + 1 + kk - (k + 1 + i + 1) = kk from by omega] at f1 g
    rw [h1] at f1
    have f1:=Option.some.inj f1
    have g2:=e2 (k + 1 + i + 1 + kk) (by omega) (by omega) dd (by rw [show k + 1 + i + 1 + kk - (k + 1 + i + 1) = kk from by omega];exact h2)
    rw [show k + 1 + i + 1 + kk - (k + 1 + i + 1) = kk from by omega] at g2
    rw [g2,f1]
    rw [show k + 1 + i - (k + 1) = i from by omega] at g
    exact g
theorem zAJ:vA (suf x k) ↔ vA (suf x (k + 1)) ∧ LC x k:=by
 have hr:=zMG h hk (x.zA.length - (k + 1)) 0 (by omega)
 have hl:=xI x (k + 1)
 rw [List.drop_zero,Nat.add_zero] at hr
 rw [yK hk]
 simp only [vA]
 rw [hr]
 constructor
 ·rintro ⟨a,⟨b1,b2⟩,c,d⟩
  refine ⟨a,⟨b1,b2,c,fun j h1 h2 => ?_⟩⟩
  have:=d (j - (k + 1)) (by omega)
  rwa [hl] at this
 ·rintro ⟨a,b⟩
  refine ⟨a,⟨b.c1,b.c2⟩,b.c3,fun j hj => ?_⟩
  have:=b.c4 (k + 1 + j) (by omega) (by omega)
  rw [show k + 1 + j - (k + 1) = j from by omega] at this
  rwa [hl]
end
theorem zCq {x:SPr} (h:vA (suf x 0)) (k:Nat):vA (suf x k):=by
 have:=zD6 h k
 rwa [Nat.zero_add] at this
def zBe (x:SPr):Prop:=Pres x ∧ vA (suf x 0) ∧ zFX x
theorem zD8 {x:SPr} (hl:x.zA.length ≤ 1048576):IsB (zS7 x) (zBe x):=by
 unfold zS7
 rcases zC1 hl with ⟨h1,h2⟩ | ⟨h1,h2⟩
 ·have h6:=h2.os.1
  rw [h1,bs,zK]
  unfold f_M
  obtain ⟨r,r1,r2⟩:=vT (body:=zKr x) (Q:=fun r => ∃ s:Nat,r = (s:Int) ∧ vA (suf x s) ∧ (s = 0 ∨ ¬ vA (suf x (s - 1)))) (fun i s => i ≤ x.zA.length ∧ s = ((x.zA.length - i:Nat):Int) ∧ vA (suf x (x.zA.length - i))) x.zA.length (fun i s hi ⟨_,hs,hcs⟩ => by
    subst hs
    have hk:x.zA.length - i - 1 < x.zA.length:=by omega
    have e9:x.zA.length - (i + 1) = x.zA.length - i - 1:=by omega
    rw [e9]
    have e8:i + 1 ≤ x.zA.length:=by omega
    rw [show x.zA.length - i = x.zA.length - i - 1 + 1 from by omega] at hcs ⊢
    have hlev:=zGc h2.toPres hk hcs
    have hiff:=zAJ h2.toPres hk
    generalize x.zA.length - i - 1 = k at *
    unfold zKr
    rw [decide_eq_true (by omega),zK,zD (by omega) (by omega),bs,show (((k + 1:Nat):Int) - 1) = (k:Int) from by omega]
    rcases hlev with ⟨g1,g2⟩ | ⟨r,g1,g2,g3⟩
    ·left
     rw [g1,bs]
     simp only [beq_self_eq_true,Bool.and_true]
     rw [zK,bs]
     exact ⟨_,rfl,e8,rfl,hiff.2 ⟨hcs,g2⟩⟩
    ·right
     rw [g1,bs,show (r.Kind == 0) = false from by simpa using g2,Bool.false_and,zF]
     refine ⟨_,rfl,k + 1,rfl,hcs,.inr fun q => g3 (hiff.1 q).2⟩) (fun s ⟨_,hs,hcs⟩ => by
    rw [Nat.sub_self] at hs hcs
    subst hs
    unfold zKr
    rw [show decide (((0:Nat):Int) > 0) = false from rfl,zF]
    exact ⟨_,rfl,0,rfl,hcs,.inl rfl⟩) (s:=(x.zA.length:Int)) ⟨by omega,by rw [Nat.sub_zero],by rw [Nat.sub_zero,uB (by omega)];simp only [vA]⟩
  obtain ⟨s,rfl,hcs,hs⟩:=r2
  rw [r1,bs,bs]
  cases s with
  | zero => exact .inl ⟨rfl,h2.toPres,hcs,h2⟩
  | succ s =>
   refine .inr ⟨?_,fun q => ?_⟩
   ·congr 1
   ·rcases hs with hs | hs
    ·omega
    ·exact hs (zCq q.2.1 _)
 ·rw [h1,bs,zF]
  exact .inr ⟨rfl,fun q => h2 q.2.2⟩
theorem zLd {x:SPr} (hl:x.zA.length ≤ 1048576):IsB (zS1 x) (zBe x):=by
 unfold zS1
 rcases zC2 hl with ⟨h1,h2⟩ | ⟨h1,h2⟩
 ·have h6:=h2.os.1
  rw [h1,bs,zK]
  unfold zUE zUD
  rw [zD (by omega) (by omega),bs]
  obtain ⟨r,r1,r2⟩:=vT (body:=zKn x) (Q:=fun r => (r = .inl () ∧ vA (suf x 0)) ∨ ∃ f,r = .inr f ∧ f.Kind ≠ 0 ∧ ¬ vA (suf x 0)) (fun i s => i ≤ x.zA.length ∧ s = ((x.zA.length - i:Nat):Int) - 1 ∧ vA (suf x (x.zA.length - i))) x.zA.length (fun i s hi ⟨_,hs,hcs⟩ => by
    subst hs
    have hk:x.zA.length - i - 1 < x.zA.length:=by omega
    have e9:x.zA.length - (i + 1) = x.zA.length - i - 1:=by omega
    rw [e9]
    have e8:i + 1 ≤ x.zA.length:=by omega
    rw [show x.zA.length - i = x.zA.length - i - 1 + 1 from by omega] at hcs ⊢
    have hlev:=zLc h2.toPres hk hcs
    have hiff:=zAJ h2.toPres hk
    generalize x.zA.length - i - 1 = k at *
    unfold zKn
    rw [show (((k + 1:Nat):Int) - 1) = (k:Int) from by omega,decide_eq_true (by omega),zK]
    rcases hlev with ⟨g1,g2⟩ | ⟨r,g1,g2,g3⟩
    ·left
     rw [g1,bs]
     simp only
     rw [show ((0:Int) != 0) = false from rfl,zF,zD (by omega) (by omega),bs]
     exact ⟨_,rfl,e8,rfl,hiff.2 ⟨hcs,g2⟩⟩
    ·right
     rw [g1,bs,show (r.Kind != 0) = true from by simpa using g2,zK]
     exact ⟨_,rfl,.inr ⟨r,rfl,g2,fun q => g3 (hiff.1 (zCq q _)).2⟩⟩) (fun s ⟨_,hs,hcs⟩ => by
    rw [Nat.sub_self] at hs hcs
    subst hs
    unfold zKn
    rw [show decide (((0:Nat):Int) - 1 ≥ 0) = false from rfl,zF]
    exact ⟨_,rfl,.inl ⟨rfl,hcs⟩⟩) (s:=(x.zA.length:Int) - 1) ⟨by omega,by rw [Nat.sub_zero],by rw [Nat.sub_zero,uB (by omega)];simp only [vA]⟩
  rw [r1,bs]
  rcases r2 with ⟨rfl,q⟩ | ⟨f,rfl,g1,g2⟩
  ·exact .inl ⟨rfl,h2.toPres,q,h2⟩
  ·simp only
   rw [bs,show (f.Kind == 0) = false from by simpa using g1]
   exact .inr ⟨rfl,fun q => g2 q.2.1⟩
 ·rw [h1,bs,zF]
  exact .inr ⟨rfl,fun q => h2 q.2.2⟩
end Go.Pl

namespace Go.Pl
open Go Go.Ab Go.Wk
abbrev Mx:=List (List Int)
def S:Nat → (Nat → Int) → Int
 | 0,_ => 0
 | n + 1,f => S n f + f n
theorem wR {n:Nat} {f g:Nat → Int} (h:∀ i,i < n → f i = g i):S n f = S n g:=by
 induction n with
 | zero => rfl
 | succ n ih => simp only [S];rw [ih fun i hi => h i (by omega),h n (by omega)]
theorem zD9 {p:Int} {f g:Nat → Int}:∀ {n:Nat},(∀ i,i < n → f i % p = g i % p) → S n f % p = S n g % p
 | 0,_ => rfl
 | n + 1,h => by
  simp only [S]
  rw [Int.add_emod,zD9 (n:=n) fun i hi => h i (by omega),h n (by omega),← Int.add_emod]
theorem jT:∀ n:Nat,S n (fun _ => 0) = 0
 | 0 => rfl
 | n + 1 => by simp only [S,jT n];rfl
theorem zJG {f g:Nat → Int}:∀ n:Nat,S n (fun i => f i + g i) = S n f + S n g
 | 0 => rfl
 | n + 1 => by simp only [S,zJG n];omega
theorem zP4 {f:Nat → Int} (a:Int):∀ n:Nat,S n (fun i => f i * a) = S n f * a
 | 0 => by simp [S]
 | n + 1 => by simp only [S,zP4 a n,Int.add_mul]
theorem zEn {f:Nat → Int} (a:Int):∀ n:Nat,S n (fun i => a * f i) = a * S n f
 | 0 => by simp [S]
 | n + 1 => by simp only [S,zEn a n,Int.mul_add]
theorem zLe {f:Nat → Nat → Int} (m:Nat):∀ n:Nat,S n (fun i => S m (fun j => f i j)) = S m (fun j => S n (fun i => f i j))
 | 0 => by simp only [S];exact (jT m).symm
 | n + 1 => by simp only [S];rw [zLe m n,zJG]
theorem zAK {f:Nat → Int} {k:Nat}:∀ {n:Nat},k < n → (∀ i,i < n → i ≠ k → f i = 0) → S n f = f k
 | 0,h,_ => by omega
 | n + 1,h,hz => by
  simp only [S]
  by_cases hk:k = n
  ·subst hk
   rw [wR (g:=fun _ => 0) fun i hi => hz i (by omega) (by omega),jT];omega
  ·rw [zAK (n:=n) (by omega) fun i hi => hz i (by omega),hz n (by omega) (by omega)];omega
def mkv (D:Nat) (f:Nat → Int):List Int:=(List.range D).map f
theorem yB (D:Nat) (f:Nat → Int):(mkv D f).length = D:=by simp [mkv]
theorem zCr {D:Nat} {f:Nat → Int} {i:Nat} (h:i < D):(mkv D f)[i]? = some (f i):=by simp [mkv,h]
theorem yH {D:Nat} {f:Nat → Int} {i:Nat} (h:i < D):at0 (mkv D f) i = f i:=by
 rw [at0,List.getD_eq_getElem?_getD,zCr h];rfl
theorem zZ {D:Nat} {f g:Nat → Int} (h:∀ i,i < D → f i = g i):mkv D f = mkv D g:=by
 unfold mkv
 apply List.map_congr_left
 intro i hi
 exact h i (by simpa using hi)
theorem qV {D:Nat} {f:Nat → Int} {j:Nat} {a:Int}:(mkv D f).set j a = mkv D (fun i => if i = j then a else f i):=by
 apply List.ext_getElem?
 intro i
 rw [List.getElem?_set,yB]
 by_cases hi:i < D
 ·by_cases hij:j = i
  ·subst hij;rw [if_pos rfl,if_pos hi,zCr hi,if_pos rfl]
  ·rw [if_neg hij,zCr hi,zCr hi,if_neg fun h => hij h.symm]
 ·have h1:∀ g:Nat → Int,(mkv D g)[i]? = none:=fun g => List.getElem?_eq_none (by rw [yB];omega)
  rw [h1,h1]
  by_cases hij:j = i
  ·subst hij;rw [if_pos rfl,if_neg hi]
  ·rw [if_neg hij]
theorem vM {v:List Int} {D:Nat} (h:v.length = D):v = mkv D (at0 v):=by
 apply List.ext_getElem?
 intro i
 by_cases hi:i < D
 ·rw [zCr hi,at0,List.getD_eq_getElem?_getD,List.getElem?_eq_getElem (by omega)];rfl
 ·rw [List.getElem?_eq_none (by omega),List.getElem?_eq_none (by rw [yB];omega)]
theorem tL (D:Nat):List.replicate D (0:Int) = mkv D (fun _ => 0):=by
 apply List.ext_getElem?
 intro i
 by_cases hi:i < D
 ·rw [zCr hi];simp [hi]
 ·rw [List.getElem?_eq_none (by simp;omega),List.getElem?_eq_none (by rw [yB];omega)]
abbrev ent (B:Mx) (l j:Nat):Int:=at0 (B.getD l []) j
def tM (p:Int) (D:Nat) (r:List Int) (B:Mx):List Int:=mkv D fun j => S D (fun l => at0 r l * ent B l j) % p
def PM (p:Int) (D:Nat) (A B:Mx):Mx:=A.map fun r => tM p D r B
def idM (D:Nat):Mx:=(List.range D).map fun i => mkv D fun j => if j = i then 1 else 0
def Row (p:Int) (D:Nat) (r:List Int):Prop:=r.length = D ∧ ∀ i,i < D → 0 ≤ at0 r i ∧ at0 r i ≤ p - 1
def Mat (p:Int) (D:Nat) (A:Mx):Prop:=A.length = D ∧ ∀ i,i < D → Row p D (A.getD i [])
theorem zBf {p:Int} {D i:Nat} {A B:Mx} (h:i < A.length):(PM p D A B).getD i [] = tM p D (A.getD i []) B:=by
 simp only [PM,List.getD_eq_getElem?_getD,List.getElem?_map,List.getElem?_eq_getElem h];rfl
theorem vH {p:Int} {D:Nat} {A B:Mx}:(PM p D A B).length = A.length:=by simp [PM]
theorem zBU {p:Int} {D:Nat} {A B:Mx} (hp:0 < p) (hA:A.length = D):Mat p D (PM p D A B):=by
 refine ⟨by rw [vH,hA],fun i hi => ?_⟩
 rw [zBf (by omega)]
 refine ⟨by rw [tM,yB],fun j hj => ?_⟩
 rw [tM,yH hj]
 have h1:=Int.emod_nonneg (S D fun l => at0 (A.getD i []) l * ent B l j) (show p ≠ 0 by omega)
 have h2:=Int.emod_lt_of_pos (S D fun l => at0 (A.getD i []) l * ent B l j) hp
 omega
theorem zLf {p:Int} {D i j:Nat} {A B:Mx} (hA:A.length = D) (hi:i < D) (hj:j < D):ent (PM p D A B) i j = S D (fun l => ent A i l * ent B l j) % p:=by
 rw [ent,zBf (by omega),tM,yH hj]
theorem zGe {D:Nat} {A B:Mx} (hA:A.length = D) (hB:B.length = D) (h:∀ i,i < D → A.getD i [] = B.getD i []):A = B:=by
 apply List.ext_getElem?
 intro i
 by_cases hi:i < D
 ·have:=h i hi
  rw [List.getD_eq_getElem?_getD,List.getD_eq_getElem?_getD,List.getElem?_eq_getElem (by omega),List.getElem?_eq_getElem (by omega)] at this
  rw [List.getElem?_eq_getElem (by omega),List.getElem?_eq_getElem (by omega)]
  exact congrArg some this
 ·rw [List.getElem?_eq_none (by omega),List.getElem?_eq_none (by omega)]
theorem zJH {p:Int} {D:Nat} {A B C:Mx} (hA:A.length = D) (hB:B.length = D):PM p D (PM p D A B) C = PM p D A (PM p D B C):=by
 refine zGe (by rw [vH,vH,hA]) (by rw [vH,hA]) fun i hi => ?_
 rw [zBf (A:=PM p D A B) (by rw [vH];omega),zBf (A:=A) (B:=PM p D B C) (by omega)]
 unfold tM
 refine zZ fun j hj => ?_
 have e1:S D (fun l => at0 ((PM p D A B).getD i []) l * ent C l j) % p = S D (fun l => S D (fun q => ent A i q * ent B q l) * ent C l j) % p:=zD9 fun l hl => by
  have:=zLf (p:=p) (B:=B) hA hi hl
  simp only [ent] at this ⊢
  rw [this,Int.mul_emod,Int.emod_emod,← Int.mul_emod]
 have e2:S D (fun l => at0 (A.getD i []) l * ent (PM p D B C) l j) % p = S D (fun q => ent A i q * S D (fun l => ent B q l * ent C l j)) % p:=zD9 fun q hq => by
  rw [zLf hB hq hj,Int.mul_emod,Int.emod_emod,← Int.mul_emod]
 rw [e1,e2]
 congr 1
 have e3:(fun l => S D (fun q => ent A i q * ent B q l) * ent C l j) = fun l => S D (fun q => ent A i q * ent B q l * ent C l j):=funext fun l => (zP4 _ _).symm
 have e4:(fun q => ent A i q * S D (fun l => ent B q l * ent C l j)) = fun q => S D (fun l => ent A i q * ent B q l * ent C l j):=funext fun q => by
  rw [← zEn]
  exact wR fun l _ => by rw [Int.mul_assoc]
 rw [e3,e4]
 exact zLe D D
theorem uK (D:Nat):(idM D).length = D:=by simp [idM]
theorem zCs {D i:Nat} (h:i < D):(idM D).getD i [] = mkv D fun j => if j = i then 1 else 0:=by simp [idM,List.getD_eq_getElem?_getD,h]
theorem zAi {p:Int} {D:Nat} (hp:2 ≤ p):Mat p D (idM D):=by
 refine ⟨uK D,fun i hi => ?_⟩
 rw [zCs hi]
 refine ⟨yB _ _,fun j hj => ?_⟩
 rw [yH hj]
 split <;> omega
theorem kK {p a:Int} (h:0 ≤ a ∧ a ≤ p - 1):a % p = a:=Int.emod_eq_of_lt h.1 (by omega)
theorem zIt {p:Int} {D:Nat} {B:Mx} (hB:Mat p D B):PM p D (idM D) B = B:=by
 refine zGe (by rw [vH,uK]) hB.1 fun i hi => ?_
 rw [zBf (by rw [uK];exact hi),zCs hi,tM]
 obtain ⟨h1,h2⟩:=hB.2 i hi
 refine Eq.trans (zZ fun j hj => ?_) (vM h1).symm
 rw [zAK (k:=i) hi fun l hl hne => by rw [yH hl,if_neg hne,Int.zero_mul],yH hi,if_pos rfl,Int.one_mul]
 exact kK (h2 j hj)
theorem zJI {p:Int} {D:Nat} {A:Mx} (hA:Mat p D A):PM p D A (idM D) = A:=by
 refine zGe (by rw [vH,hA.1]) hA.1 fun i hi => ?_
 rw [zBf (by rw [hA.1];exact hi),tM]
 obtain ⟨h1,h2⟩:=hA.2 i hi
 refine Eq.trans (zZ fun j hj => ?_) (vM h1).symm
 rw [zAK (k:=j) hj fun l hl hne => by rw [ent,zCs hl,yH hj,if_neg (fun h => hne h.symm),Int.mul_zero],ent,zCs hj,yH hj,if_pos rfl,Int.mul_one]
 exact kK (h2 j hj)
theorem zP5 {p:Int} {D i j:Nat} {B:Mx} (hB:Mat p D B) (hi:i < D) (hj:j < D):ixO B (i:Int) = some (B.getD i []) ∧ ixO (B.getD i []) (j:Int) = some (ent B i j) ∧ (B.getD i []).length = D ∧ 0 ≤ ent B i j ∧ ent B i j ≤ p - 1:=by
 obtain ⟨h1,h2⟩:=hB.2 i hi
 have:=hB.1
 exact ⟨yF [] (by omega),yG (by omega),h1,h2 j hj⟩
def acc (p:Int) (D i:Nat) (r:List Int) (B:Mx):List Int:=mkv D fun j => S i (fun l => at0 r l * ent B l j) % p
def zC3 (p:Int) (D i k:Nat) (r:List Int) (B:Mx):List Int:=mkv D fun j => if j < k then S (i + 1) (fun l => at0 r l * ent B l j) % p else S i (fun l => at0 r l * ent B l j) % p
theorem zH0 {p:Int} {D i:Nat} {r:List Int} {B:Mx}:zC3 p D i 0 r B = acc p D i r B:=zZ fun j _ => by rw [if_neg (by omega)]
theorem zH1 {p:Int} {D i:Nat} {r:List Int} {B:Mx}:zC3 p D i D r B = acc p D (i + 1) r B:=zZ fun j hj => by rw [if_pos hj]
theorem zJJ {p:Int} {D i k:Nat} {r:List Int} {B:Mx} (hk:k < D) {a:Int} (ha:a = (at0 (zC3 p D i k r B) k + at0 r i * ent B i k) % p):(zC3 p D i k r B).set k a = zC3 p D i (k + 1) r B:=by
 subst ha
 simp only [zC3]
 rw [qV,yH hk,if_neg (by omega)]
 refine zZ fun j hj => ?_
 by_cases hjk:j = k
 ·subst hjk
  rw [if_pos rfl,if_pos (by omega)]
  simp only [S]
  rw [Int.emod_add_emod]
 ·rw [if_neg hjk]
  by_cases hlt:j < k
  ·rw [if_pos hlt,if_pos (by omega)]
  ·rw [if_neg hlt,if_neg (by omega)]
theorem zJK {p:Int} {D i k j:Nat} {r:List Int} {B:Mx} (hp:0 < p) (hj:j < D):0 ≤ at0 (zC3 p D i k r B) j ∧ at0 (zC3 p D i k r B) j ≤ p - 1:=by
 rw [zC3,yH hj]
 split
 ·have h1:=Int.emod_nonneg (S (i + 1) fun l => at0 r l * ent B l j) (show p ≠ 0 by omega)
  have h2:=Int.emod_lt_of_pos (S (i + 1) fun l => at0 r l * ent B l j) hp
  omega
 ·have h1:=Int.emod_nonneg (S i fun l => at0 r l * ent B l j) (show p ≠ 0 by omega)
  have h2:=Int.emod_lt_of_pos (S i fun l => at0 r l * ent B l j) hp
  omega
theorem zGf {p:Int} {D i k:Nat} {r:List Int} {B:Mx}:(zC3 p D i k r B).length = D:=yB _ _
theorem zMH {p:Int} {D i k j:Nat} {r:List Int} {B:Mx} (hj:j < D):ixO (zC3 p D i k r B) (j:Int) = some (at0 (zC3 p D i k r B) j):=yG (by rw [zGf];exact hj)
theorem zJL {p:Int} {D:Nat} {r:List Int} {B:Mx}:List.replicate D (0:Int) = acc p D 0 r B:=by
 rw [tL];exact zZ fun j _ => by simp [S]
theorem zH2 {a b p:Int} (hp:p ≤ 7) (ha:0 ≤ a ∧ a ≤ p - 1) (hb:0 ≤ b ∧ b ≤ p - 1):0 ≤ a * b ∧ a * b ≤ 36:=by
 have h1:0 ≤ a * b:=Int.mul_nonneg ha.1 hb.1
 have h2:a * b ≤ 6 * 6:=Int.mul_le_mul (by omega) (by omega) hb.1 (by omega)
 omega
section
variable {p:Int} {D:Nat} (hp:Prime p) (hD:D ≤ 8)
 include hp hD
theorem zDf {r:List Int} {B:Mx} (hr:Row p D r) (hB:Mat p D B):f_E p r B (D:Int) = some (tM p D r B):=by
 have h7:=hp.pos
 have hBl:=hB.1
 have hrl:=hr.1
 unfold f_E
 rw [yV (by omega),bs,zJL (p:=p) (r:=r) (B:=B)]
 have:=zQ (body:=zQy p r B) (r:=acc p D D r B) (fun i => (acc p D i r B,(i:Int))) D (fun i hi => by
  have hri:=hr.2 i hi
  unfold zQy
  simp only
  rw [hrl,hBl,yR hi,zK,zK]
  have inner:=zQ (body:=zQx p r B (acc p D i r B,(i:Int))) (r:=acc p D (i + 1) r B) (fun k => (zC3 p D i k r B,(k:Int))) D (fun k hk => by
   obtain ⟨b1,b2,b3,b4⟩:=zP5 hB hi hk
   have ha:=zJK (p:=p) (i:=i) (k:=k) (r:=r) (B:=B) (by omega) hk
   have hm:=zH2 (by omega) hri b4
   unfold zQx
   simp only
   rw [zGf,yR hk,zK,b1,bs,b3,yR hk,zK,zMH hk,bs,yG (by omega),bs,bs,b2,bs,zD (by omega) (by omega),bs,zD (by omega) (by omega),bs]
   have hrem:vU (at0 (zC3 p D i k r B) k + at0 r i * ent B i k) p = some ((at0 (zC3 p D i k r B) k + at0 r i * ent B i k) % p):=by
    unfold vU
    rw [if_neg (by omega),Int.tmod_eq_emod_of_nonneg (by omega)]
   rw [hrem,bs,bs,zD (by omega) (by omega),bs,cs,Int.toNat_natCast,zJJ hk rfl]) (by
   unfold zQx
   simp only
   rw [zGf,xC,zF,zH1])
  rw [zH0,show ((0:Nat):Int) = 0 from rfl] at inner
  rw [inner,bs,zD (by omega) (by omega),bs,cs]) (by
  unfold zQy
  simp only
  rw [hrl,xC,zF])
 rw [show ((0:Nat):Int) = 0 from rfl] at this
 rw [this,bs];rfl
theorem zIu {a:Int} (h0:0 ≤ a) (_h1:a ≤ 1000):zGR a p = some (a % p):=by
 have _:=hD
 have h7:=hp.pos
 have e1:=Int.emod_nonneg a (show p ≠ 0 by omega)
 have e2:=Int.emod_lt_of_pos a (show 0 < p by omega)
 unfold zGR vU
 rw [if_neg (by omega),bs,Int.tmod_eq_emod_of_nonneg h0,zD (by omega) (by omega),bs,if_neg (by omega),bs,Int.tmod_eq_emod_of_nonneg (by omega)]
 congr 1
 rw [Int.add_emod_right,Int.emod_emod]
theorem zEo {i:Nat} {r:List Int} {B:Mx} (hi:i < D) (hr:Row p D r) (hB:Mat p D B):f_r (acc p D i r B) (B.getD i []) (at0 r i) p = some (acc p D (i + 1) r B):=by
 have h7:=hp.pos
 have hri:=hr.2 i hi
 unfold f_r
 have hl:(acc p D i r B).length = D:=yB _ _
 have inner:=zQ (body:=zKt (acc p D i r B) (B.getD i []) (at0 r i) p) (r:=acc p D (i + 1) r B) (fun k => (zC3 p D i k r B,(k:Int))) D (fun k hk => by
  obtain ⟨b1,b2,b3,b4⟩:=zP5 hB hi hk
  have ha:=zJK (p:=p) (i:=i) (k:=k) (r:=r) (B:=B) (by omega) hk
  have hm:=zH2 (by omega) hri b4
  unfold zKt
  simp only
  rw [hl,yR hk,zK,zMH hk,bs,b2,bs,zD (by omega) (by omega),bs,zD (by omega) (by omega),bs,zIu hp hD (by omega) (by omega),bs,bs,zD (by omega) (by omega),bs,cs,Int.toNat_natCast,zJJ hk rfl]) (by
  unfold zKt
  simp only
  rw [hl,xC,zF,zH1])
 rw [zH0,show ((0:Nat):Int) = 0 from rfl] at inner
 rw [inner,bs]
theorem zAL {r:List Int} {B:Mx} {q:Int} (hr:Row p D r) (hB:Mat p D B) (hq:q = (D:Int)):zQU r (zU.mk p q B) = some (tM p D r B):=by
 subst hq
 have hrl:=hr.1
 unfold zQU
 simp only
 rw [yV (by omega),bs,zJL (p:=p) (r:=r) (B:=B)]
 have:=zQ (body:=zKu r (zU.mk p (D:Int) B)) (r:=acc p D D r B) (fun i => (acc p D i r B,(i:Int))) D (fun i hi => by
  have hBl:=hB.1
  unfold zKu
  simp only
  rw [hrl,yR hi,zK,yG (by omega),bs,yF [] (by omega),bs,zEo hp hD hi hr hB,bs,zD (by omega) (by omega),bs,cs]) (by
  unfold zKu
  simp only
  rw [hrl,xC,zF])
 rw [show ((0:Nat):Int) = 0 from rfl] at this
 rw [this,bs];rfl
theorem zH3 {A B:Mx} {i:Nat} (hi:i < A.length):(PM p D A B).take i ++ [tM p D (A.getD i []) B] = (PM p D A B).take (i + 1):=by
 have _:=hp;have _:=hD
 rw [List.take_succ_eq_append_getElem (by rw [vH];exact hi)]
 congr 2
 have:=zBf (p:=p) (D:=D) (B:=B) hi
 rw [List.getD_eq_getElem?_getD,List.getElem?_eq_getElem (by rw [vH];exact hi)] at this
 exact this.symm
theorem qW {A B:Mx} (hA:Mat p D A) (hB:Mat p D B):f_T p A B (D:Int) = some (PM p D A B):=by
 have hAl:=hA.1
 unfold f_T
 have:=zQ (body:=zQz p A B (D:Int)) (r:=PM p D A B) (fun i => ((PM p D A B).take i,(i:Int))) D (fun i hi => by
  unfold zQz
  simp only
  rw [hAl,yR hi,zK,yF [] (by omega),bs,zDf hp hD (hA.2 i hi) hB,bs,yL (by rw [List.length_take,vH];simp;omega),bs,zD (by omega) (by omega),bs,cs,zH3 hp hD (by omega)]) (by
  unfold zQz
  simp only
  rw [hAl,xC,zF,List.take_of_length_le (by rw [vH];omega)])
 rw [show ((0:Nat):Int) = 0 from rfl,List.take_zero] at this
 rw [this,bs]
theorem zGI {A B:Mx} {q:Int} (hA:Mat p D A) (hB:Mat p D B):f_U (zU.mk p q A) (zU.mk p (D:Int) B) = some (zU.mk p (D:Int) (PM p D A B)):=by
 have hAl:=hA.1
 unfold f_U
 have:=zQ (body:=zQV (zU.mk p q A) (zU.mk p (D:Int) B)) (r:=PM p D A B) (fun i => ((PM p D A B).take i,(i:Int))) D (fun i hi => by
  unfold zQV
  simp only
  rw [hAl,yR hi,zK,yF [] (by omega),bs,zAL hp hD (hA.2 i hi) hB rfl,bs,yL (by rw [List.length_take,vH];simp;omega),bs,zD (by omega) (by omega),bs,cs,zH3 hp hD (by omega)]) (by
  unfold zQV
  simp only
  rw [hAl,xC,zF,List.take_of_length_le (by rw [vH];omega)])
 rw [show ((0:Nat):Int) = 0 from rfl,List.take_zero] at this
 rw [this,bs]
theorem zJM {i:Nat} (_hi:i < D):(List.replicate D (0:Int)).set i 1 = mkv D fun j => if j = i then 1 else 0:=by
 have _:=hp;have _:=hD
 rw [tL,qV]
theorem zMI {i:Nat} (hi:i < D):(idM D).take i ++ [mkv D fun j => if j = i then 1 else 0] = (idM D).take (i + 1):=by
 have _:=hp;have _:=hD
 rw [List.take_succ_eq_append_getElem (by rw [uK];exact hi)]
 congr 2
 have:=zCs hi
 rw [List.getD_eq_getElem?_getD,List.getElem?_eq_getElem (by rw [uK];exact hi)] at this
 exact this.symm
theorem zGg:f_G (D:Int) = some (idM D):=by
 unfold f_G
 have:=zQ (body:=zKo (D:Int)) (r:=idM D) (fun i => ((idM D).take i,(i:Int))) D (fun i hi => by
  unfold zKo
  simp only
  rw [yR hi,zK,yV (by omega),bs,vD,List.getElem?_replicate,if_pos hi,bs,Int.toNat_natCast,zJM hp hD hi,yL (by rw [List.length_take,uK];simp;omega),bs,zD (by omega) (by omega),bs,cs,zMI hp hD hi]) (by
  unfold zKo
  simp only
  rw [xC,zF,List.take_of_length_le (by rw [uK];omega)])
 rw [show ((0:Nat):Int) = 0 from rfl,List.take_zero] at this
 rw [this,bs]
theorem zGJ:f_V p (D:Int) = some (zU.mk p (D:Int) (idM D)):=by
 unfold f_V
 have:=zQ (body:=zQT (D:Int)) (r:=idM D) (fun i => ((idM D).take i,(i:Int))) D (fun i hi => by
  unfold zQT
  simp only
  rw [yR hi,zK,yV (by omega),bs,vD,List.getElem?_replicate,if_pos hi,bs,Int.toNat_natCast,zJM hp hD hi,yL (by rw [List.length_take,uK];simp;omega),bs,zD (by omega) (by omega),bs,cs,zMI hp hD hi]) (by
  unfold zQT
  simp only
  rw [xC,zF,List.take_of_length_le (by rw [uK];omega)])
 rw [show ((0:Nat):Int) = 0 from rfl,List.take_zero] at this
 rw [this,bs]
end
end Go.Pl

namespace Go.Pl
open Go Go.Ab Go.Wk Go.Pc
def nw:Nat → List Int → List Nat
 | _,[] => []
 | o,a :: v => List.replicate a.toNat o ++ nw (o + 1) v
theorem zEp:∀ (o:Nat) (u v:List Int),nw o (u ++ v) = nw o u ++ nw (o + u.length) v
 | o,[],v => by simp [nw]
 | o,a :: u,v => by
  simp only [List.cons_append,nw,zEp (o + 1) u v,List.append_assoc,List.length_cons]
  rw [show o + 1 + u.length = o + (u.length + 1) from by omega]
theorem zIv {v:List Int} {i:Nat} (h:i < v.length):nw 0 (v.take (i + 1)) = nw 0 (v.take i) ++ List.replicate (at0 v i).toNat i:=by
 rw [List.take_succ_eq_append_getElem h,zEp,List.length_take,Nat.min_eq_left (by omega),Nat.zero_add]
 simp only [nw,List.append_nil]
 rw [at0,List.getD_eq_getElem?_getD,List.getElem?_eq_getElem h];rfl
theorem zP6 {n:Nat}:∀ (o:Nat) (v:List Int),o + v.length ≤ n → ∀ w ∈ nw o v,w < n
 | o,[],_,w,h => by simp [nw] at h
 | o,a :: v,hv,w,h => by
  simp only [nw,List.mem_append,List.length_cons] at h hv
  rcases h with h | h
  ·have:=List.eq_of_mem_replicate h;omega
  ·exact zP6 (o + 1) v (by omega) w h
theorem zGh:∀ (o:Nat) (v:List Int),(∀ i,i < v.length → at0 v i ≤ 6) → (nw o v).length ≤ 6 * v.length
 | o,[],_ => by simp [nw]
 | o,a :: v,h => by
  have h0:=h 0 (by simp)
  have:=zGh (o + 1) v fun i hi => by
   have:=h (i + 1) (by simpa using hi)
   simpa [at0] using this
  simp only [at0,List.getD_cons_zero] at h0
  simp only [nw,List.length_append,List.length_replicate,List.length_cons]
  omega
def wM (p:Int) (D:Nat) (A:List Mx) (ws:List Nat) (B:Mx):Mx:=ws.foldl (fun B w => PM p D B (A.getD w [])) B
theorem zEq {p:Int} {D:Nat} {A:List Mx} {u v:List Nat} {B:Mx}:wM p D A (u ++ v) B = wM p D A v (wM p D A u B):=by simp [wM,List.foldl_append]
theorem zGi {p:Int} {D:Nat} {A:List Mx} {w:Nat}:∀ (k:Nat) (B:Mx),wM p D A (List.replicate k w) B = iter k (fun B => PM p D B (A.getD w [])) B
 | 0,_ => rfl
 | k + 1,B => by
  rw [List.replicate_succ]
  show wM p D A (List.replicate k w) (PM p D B (A.getD w [])) = _
  rw [zGi k];rfl
theorem zEr {p:Int} {D:Nat} {A:List Mx} (hp:0 < p):∀ (ws:List Nat) {B:Mx},Mat p D B → Mat p D (wM p D A ws B)
 | [],_,hB => hB
 | _w :: ws,_,hB => zEr hp ws (zBU hp hB.1)
theorem zP7 {p:Int} {D:Nat} {A:List Mx} (hp:0 < p) {C:Mx} (hC:C.length = D):∀ (ws:List Nat) {B:Mx},Mat p D B → wM p D A ws (PM p D C B) = PM p D C (wM p D A ws B)
 | [],_,_ => rfl
 | w :: ws,B,hB => by
  show wM p D A ws (PM p D (PM p D C B) (A.getD w [])) = PM p D C (wM p D A ws (PM p D B (A.getD w [])))
  rw [zJH hC hB.1,zP7 hp hC ws (zBU hp hB.1)]
structure MOk (n:Nat) (m:zE) (D:Nat):Prop where
 p:Prime m.Prime
 d:m.Dim = (D:Int)
 d1:1 ≤ D
 d3:D ≤ 3
 len:m.zL.length = n
 mat:∀ i,i < n → Mat m.Prime D (m.zL.getD i [])
section
variable {n D:Nat} {m:zE} (hm:MOk n m D) (hn:n ≤ 9)
 include hm hn
theorem zJN {v:List Int} (hl:v.length = n) (hv:∀ i,i < n → 0 ≤ at0 v i ∧ at0 v i ≤ 6):f_H m v = some (wM m.Prime D m.zL (nw 0 v) (idM D)):=by
 have h7:=hm.p.pos
 have h3:=hm.d3
 have hlen:=hm.len
 unfold f_H
 rw [hm.d,zGg hm.p (by omega),bs]
 have hI:∀ i,Mat m.Prime D (wM m.Prime D m.zL (nw 0 (v.take i)) (idM D)):=fun i => zEr (by omega) _ (zAi h7.1)
 have:=zQ (body:=zQ1 m v) (r:=wM m.Prime D m.zL (nw 0 v) (idM D)) (fun i => (wM m.Prime D m.zL (nw 0 (v.take i)) (idM D),(i:Int))) n (fun i hi => by
  have hvi:=hv i hi
  unfold zQ1
  simp only
  rw [hl,yR hi,zK]
  rw [vB (S:=Mat m.Prime D) (body:=zQ0 m v (wM m.Prime D m.zL (nw 0 (v.take i)) (idM D),(i:Int))) (fun B => B) (fun B => PM m.Prime D B (m.zL.getD i [])) (at0 v i) hvi.1 (fun B hB => zBU (by omega) hB.1) (fun B q hB hq => by
   unfold zQ0
   simp only
   rw [yG (by omega),bs,decide_eq_true hq,zK,yF [] (by omega),bs,hm.d,qW hm.p (by omega) hB (hm.mat i hi),bs,zD (by omega) (by omega),bs,cs]) (fun B hB => by
   unfold zQ0
   simp only
   rw [yG (by omega),bs,decide_eq_false (by omega),zF]) (hI i),bs,zD (by omega) (by omega),bs,cs]
  rw [zIv (by omega),zEq,zGi]) (by
  unfold zQ1
  simp only
  rw [hl,xC,zF,List.take_of_length_le (by omega)])
 rw [show ((0:Nat):Int) = 0 from rfl,List.take_zero] at this
 simp only [nw,wM,List.foldl_nil] at this
 rw [this,bs];rfl
abbrev enW (ws:List Nat):List Int:=ws.map fun (w:Nat) => (w:Int) + 1
theorem zCH {i:Nat} (hi:i < n):zLF m (i:Int) = some (zU.mk m.Prime (D:Int) (m.zL.getD i [])):=by
 have _:=hn
 have hlen:=hm.len
 unfold zLF
 rw [yF [] (by omega),bs,hm.d]
theorem zCI {ws:List Nat} (hw:∀ w ∈ ws,w < n) (hl:ws.length ≤ 1000):f_W m (enW ws) = some (zU.mk m.Prime (D:Int) (wM m.Prime D m.zL ws (idM D))):=by
 have h7:=hm.p.pos
 have h3:=hm.d3
 unfold f_W
 rw [hm.d,zGJ hm.p (by omega),bs]
 have hI:∀ i,Mat m.Prime D (wM m.Prime D m.zL (ws.take i) (idM D)):=fun i => zEr (by omega) _ (zAi h7.1)
 have hel:(enW ws).length = ws.length:=by simp only [enW,List.length_map]
 have:=zQ (body:=zQW m (enW ws)) (r:=(m.Prime,(D:Int),wM m.Prime D m.zL ws (idM D))) (fun i => (m.Prime,(D:Int),wM m.Prime D m.zL (ws.take i) (idM D),(i:Int))) ws.length (fun i hi => by
  have hwi:=hw ws[i] (List.getElem_mem hi)
  unfold zQW
  simp only
  rw [hel,yR hi,zK,vD,List.getElem?_map,List.getElem?_eq_getElem hi]
  simp only [Option.map_some]
  rw [bs,zD (by omega) (by omega),bs,show ((ws[i]:Nat):Int) + 1 - 1 = ((ws[i]:Nat):Int) from by omega,zCH hm hn hwi,bs,zGI hm.p (by omega) (hI i) (hm.mat _ hwi),bs,zD (by omega) (by omega),bs,cs,List.take_succ_eq_append_getElem hi,zEq]
  rfl) (by
  unfold zQW
  simp only
  rw [hel,xC,zF,List.take_of_length_le (by omega)])
 rw [show ((0:Nat):Int) = 0 from rfl,List.take_zero] at this
 simp only [wM,List.foldl_nil] at this
 simp only
 rw [this,bs];rfl
end
theorem zBv {v:List Int} (hl:v.length ≤ 9) (hv:∀ i,i < v.length → 0 ≤ at0 v i ∧ at0 v i ≤ 6):f_I v = some (enW (nw 0 v)):=by
 unfold f_I
 have hlen:∀ i,(nw 0 (v.take i)).length ≤ 54:=fun i => by
  have:=zGh 0 (v.take i) fun j hj => by
   rw [List.length_take] at hj
   have e:at0 (v.take i) j = at0 v j:=by simp only [at0,List.getD_eq_getElem?_getD,List.getElem?_take];rw [if_pos (by omega)]
   rw [e];exact (hv j (by omega)).2
  rw [List.length_take] at this
  omega
 have:=zQ (body:=zQP v) (r:=enW (nw 0 v)) (fun i => (enW (nw 0 (v.take i)),(i:Int))) v.length (fun i hi => by
  have hvi:=hv i hi
  have hli:=hlen i
  unfold zQP
  simp only
  rw [yR hi,zK,yG hi,bs]
  have inner:=zQ (body:=zQO (enW (nw 0 (v.take i)),(i:Int)) (at0 v i)) (r:=enW (nw 0 (v.take (i + 1)))) (fun k => (enW (nw 0 (v.take i) ++ List.replicate k i),(k:Int))) (at0 v i).toNat (fun k hk => by
   unfold zQO
   simp only
   rw [decide_eq_true (by omega),zK,zD (by omega) (by omega),bs,yL (by simp only [List.length_map,List.length_append,List.length_replicate,List.length_cons,List.length_nil];omega),bs,zD (by omega) (by omega),bs,cs]
   congr 3
   rw [List.replicate_succ',← List.append_assoc]
   simp only [enW,List.map_append,List.map_cons,List.map_nil]
   rfl) (by
   unfold zQO
   simp only
   rw [decide_eq_false (by omega),zF,zIv hi])
  rw [show ((0:Nat):Int) = 0 from rfl,List.replicate_zero,List.append_nil] at inner
  rw [inner,bs,zD (by omega) (by omega),bs,cs]) (by
  unfold zQP
  simp only
  rw [xC,zF,List.take_length])
 rw [show ((0:Nat):Int) = 0 from rfl,List.take_zero] at this
 simp only [nw,enW,List.map_nil] at this
 rw [this,bs]
theorem zP8 {v o:Int} (h:zS9 1 (IntKind.wrap .u64 o) = some (0,o)):zS9 (IntKind.wrap .u64 (([v]:List Int).length:Int)) (IntKind.wrap .u64 o) = some (0,o):=by
 rw [show IntKind.wrap .u64 (([v]:List Int).length:Int) = 1 from by simp;decide]
 exact h
theorem zBV {v o:Int} (ho:Prime o):f_i [v] o = some (List.replicate o.toNat v):=by
 unfold f_i
 rcases ho with rfl | rfl | rfl | rfl
 ·have h:=zQ (body:=jN) (r:=[v,v]) (fun i => match i with | 0 => ([v,0],1) | _ => ([v,v],2)) 1 (fun i hi => by
   match i,hi with
   | 0,_ => simp [jN,zT,xX,rng,inR]) (by simp [jN])
  rw [zP8 (by decide +kernel),bs]
  have hl:yS (IntKind.wrap .i64 2) = some 2:=by decide +kernel
  simp only [hl,bs]
  rw [show decide ((2:Int) < 0) = false from rfl,zF,show decide ((0:Int) > 0) = false from rfl,zF,show decide ((2:Int) > 9223372036854775807) = false from by decide,zF]
  have e2:xX (List.replicate 2 (0:Int)) 0 (([v]:List Int).take ((List.replicate 2 (0:Int)).length - 0)) = [v,0]:=by simp [xX,List.replicate]
  have e3:((min ([v]:List Int).length ((List.replicate 2 (0:Int)).length - 0):Nat):Int) = 1:=by simp
  rw [e2,e3]
  have h':zH jN ([v,0],1) = _:=h
  rw [h',bs]
  rfl
 ·have h:=zQ (body:=jN) (r:=[v,v,v]) (fun i => match i with | 0 => ([v,0,0],1) | 1 => ([v,v,0],2) | _ => ([v,v,v],3)) 2 (fun i hi => by
   match i,hi with
   | 0,_ => simp [jN,zT,xX,rng,inR]
   | 1,_ => simp [jN,zT,xX,rng,inR]) (by simp [jN])
  rw [zP8 (by decide +kernel),bs]
  have hl:yS (IntKind.wrap .i64 3) = some 3:=by decide +kernel
  simp only [hl,bs]
  rw [show decide ((3:Int) < 0) = false from rfl,zF,show decide ((0:Int) > 0) = false from rfl,zF,show decide ((3:Int) > 9223372036854775807) = false from by decide,zF]
  have e2:xX (List.replicate 3 (0:Int)) 0 (([v]:List Int).take ((List.replicate 3 (0:Int)).length - 0)) = [v,0,0]:=by simp [xX,List.replicate]
  have e3:((min ([v]:List Int).length ((List.replicate 3 (0:Int)).length - 0):Nat):Int) = 1:=by simp
  rw [e2,e3]
  have h':zH jN ([v,0,0],1) = _:=h
  rw [h',bs]
  rfl
 ·have h:=zQ (body:=jN) (r:=[v,v,v,v,v]) (fun i => match i with | 0 => ([v,0,0,0,0],1) | 1 => ([v,v,0,0,0],2) | 2 => ([v,v,v,v,0],4) | _ => ([v,v,v,v,v],5)) 3 (fun i hi => by
   match i,hi with
   | 0,_ => simp [jN,zT,xX,rng,inR]
   | 1,_ => simp [jN,zT,xX,rng,inR]
   | 2,_ => simp [jN,zT,xX,rng,inR]) (by simp [jN])
  rw [zP8 (by decide +kernel),bs]
  have hl:yS (IntKind.wrap .i64 5) = some 5:=by decide +kernel
  simp only [hl,bs]
  rw [show decide ((5:Int) < 0) = false from rfl,zF,show decide ((0:Int) > 0) = false from rfl,zF,show decide ((5:Int) > 9223372036854775807) = false from by decide,zF]
  have e2:xX (List.replicate 5 (0:Int)) 0 (([v]:List Int).take ((List.replicate 5 (0:Int)).length - 0)) = [v,0,0,0,0]:=by simp [xX,List.replicate]
  have e3:((min ([v]:List Int).length ((List.replicate 5 (0:Int)).length - 0):Nat):Int) = 1:=by simp
  rw [e2,e3]
  have h':zH jN ([v,0,0,0,0],1) = _:=h
  rw [h',bs]
  rfl
 ·have h:=zQ (body:=jN) (r:=[v,v,v,v,v,v,v]) (fun i => match i with | 0 => ([v,0,0,0,0,0,0],1) | 1 => ([v,v,0,0,0,0,0],2) | 2 => ([v,v,v,v,0,0,0],4) | _ => ([v,v,v,v,v,v,v],7)) 3 (fun i hi => by
   match i,hi with
   | 0,_ => simp [jN,zT,xX,rng,inR]
   | 1,_ => simp [jN,zT,xX,rng,inR]
   | 2,_ => simp [jN,zT,xX,rng,inR]) (by simp [jN])
  rw [zP8 (by decide +kernel),bs]
  have hl:yS (IntKind.wrap .i64 7) = some 7:=by decide +kernel
  simp only [hl,bs]
  rw [show decide ((7:Int) < 0) = false from rfl,zF,show decide ((0:Int) > 0) = false from rfl,zF,show decide ((7:Int) > 9223372036854775807) = false from by decide,zF]
  have e2:xX (List.replicate 7 (0:Int)) 0 (([v]:List Int).take ((List.replicate 7 (0:Int)).length - 0)) = [v,0,0,0,0,0,0]:=by simp [xX,List.replicate]
  have e3:((min ([v]:List Int).length ((List.replicate 7 (0:Int)).length - 0):Nat):Int) = 1:=by simp
  rw [e2,e3]
  have h':zH jN ([v,0,0,0,0,0,0],1) = _:=h
  rw [h',bs]
  rfl
end Go.Pl

namespace Go.Pl
open Go Go.Ab Go.Wk Go.Pc
theorem IsB.b {o:Option Bool} {P:Prop} (h:IsB o P):IsB (o.bind fun r => some r) P:=by
 rcases h with ⟨h1,h2⟩ | ⟨h1,h2⟩
 ·exact .inl ⟨by rw [h1,bs],h2⟩
 ·exact .inr ⟨by rw [h1,bs],h2⟩
theorem zEC {p:Int} {D:Nat} {r:List Int} (hp:Prime p) (hD:D ≤ 8):IsB (zQN r p (D:Int)) (Row p D r):=by
 have h7:=hp.pos
 unfold zQN
 by_cases h:r.length = D
 ·rw [jX (by omega),zF]
  refine (tV r.length (fun i => 0 ≤ at0 r i ∧ at0 r i ≤ p - 1) rfl (fun i hi _ => ?_) ?_).iff ⟨fun g => ⟨h,by rw [← h];exact g⟩,fun g => by rw [h];exact g.2⟩
  ·refine vW (jF _ _ _) (by omega) ?_
   unfold zNc
   rw [yR hi,zK,yG hi,bs,zD (by omega) (by omega),bs]
  ·unfold zNc
   rw [xC,zF]
 ·rw [qE (by omega),zK]
  exact .inr ⟨rfl,fun g => h g.1⟩
theorem zED {p:Int} {D:Nat} {r:List Int} (hp:Prime p) (hD:D ≤ 8):IsB (zQw p (D:Int) r) (Row p D r):=by
 have h7:=hp.pos
 unfold zQw
 by_cases h:r.length = D
 ·rw [jX (by omega),zF]
  refine (tV r.length (fun i => 0 ≤ at0 r i ∧ at0 r i ≤ p - 1) rfl (fun i hi _ => ?_) ?_).iff ⟨fun g => ⟨h,by rw [← h];exact g⟩,fun g => by rw [h];exact g.2⟩
  ·refine vW (zBM _ _ _) (by omega) ?_
   unfold zMZ
   rw [yR hi,zK,yG hi,bs,zD (by omega) (by omega),bs]
  ·unfold zMZ
   rw [xC,zF]
 ·rw [qE (by omega),zK]
  exact .inr ⟨rfl,fun g => h g.1⟩
theorem zNz {p:Int} {D:Nat} {B:Mx} (hp:Prime p) (hD:D ≤ 8):IsB (zS2 p (D:Int) B) (Mat p D B):=by
 unfold zS2
 by_cases h:B.length = D
 ·rw [jX (by omega),zF]
  refine (tV B.length (fun i => Row p D (B.getD i [])) rfl (fun i hi _ => ?_) ?_).iff ⟨fun g => ⟨h,by rw [← h];exact fun i hi => by rw [h];exact g i hi⟩,fun g => by rw [h];exact g.2⟩
  ·refine vW (zED hp hD) (by omega) ?_
   unfold zNa
   rw [yR hi,zK,yF [] hi,bs]
  ·unfold zNa
   rw [xC,zF]
 ·rw [qE (by omega),zK]
  exact .inr ⟨rfl,fun g => h g.1⟩
theorem zGK {p:Int} {D:Nat} {B:Mx} (hp:Prime p) (hD:D ≤ 8) (hB:B.length = D):IsB (zS8 (zU.mk p (D:Int) B)) (Mat p D B):=by
 unfold zS8
 simp only
 rcases zBc p with ⟨h1,_⟩ | ⟨_,h2⟩
 ·rw [h1,bs,Bool.not_true,zF]
  rcases jF (D:Int) 0 8 with ⟨h3,_⟩ | ⟨_,h4⟩
  ·rw [h3,bs,Bool.not_true,zF,decide_eq_false (by omega),zF]
   refine (tV (body:=zKs (zU.mk p (D:Int) B)) D (fun i => Row p D (B.getD i [])) rfl (fun i hi _ => ?_) ?_).iff ⟨fun g => ⟨hB,g⟩,fun g => g.2⟩
   ·refine vW (zEC hp hD) (by omega) ?_
    unfold zKs
    simp only
    rw [hB,yR hi,zK,yF [] (by omega),bs]
   ·unfold zKs
    simp only
    rw [hB,xC,zF]
  ·exact absurd (by omega) h4
 ·exact absurd hp h2
theorem zGj {A B:Mx} (hA:A.length ≤ 1000) (h:∀ r ∈ A,r.length ≤ 1000):zS3 A B = some (A == B) :=
 zHv (t:=zI8) (body:=zQ2 A B) rfl (fun _ => rfl) (by omega) fun u hu v _ => zNx (by have:=h u hu;omega)
theorem zGL {A B:Mx} (hA:A.length ≤ 1000) (h:∀ r ∈ A,r.length ≤ 1000):zSA A B = some (A == B):=by
 unfold zSA
 rw [zHv (f:=zUK A B) (t:=f_S) (body:=zQX A B) rfl (fun _ => rfl) (by omega) fun u hu v _ => zDe (by have:=h u hu;omega),bs]
theorem Mat.small {p:Int} {D:Nat} {A:Mx} (h:Mat p D A) (hD:D ≤ 8):A.length ≤ 1000 ∧ ∀ r ∈ A,r.length ≤ 1000:=by
 refine ⟨by have:=h.1;omega,fun r hr => ?_⟩
 obtain ⟨i,hi,rfl⟩:=List.mem_iff_getElem.1 hr
 have:=h.2 i (by rw [← h.1];exact hi)
 rw [List.getD_eq_getElem?_getD,List.getElem?_eq_getElem hi] at this
 have:=this.1
 simp only [Option.getD_some] at this
 omega
def zGM (x:SPr) (m:zE) (D:Nat):Prop :=
 ∀ i,i < x.zA.length → wM m.Prime D m.zL (List.replicate (at0 x.zA i).toNat i) (idM D) = wM m.Prime D m.zL (nw 0 (x.zW.getD i [])) (idM D) ∧
  ∀ j,i + 1 ≤ j → j < x.zA.length → PM m.Prime D (m.zL.getD j []) (m.zL.getD i []) = PM m.Prime D (m.zL.getD i []) (wM m.Prime D m.zL (nw 0 ((x.zC.getD i []).getD (j - (i + 1)) [])) (idM D))
theorem sJ {x:SPr} {v:List Int} {i:Nat} (ho:Os x.zA) (h:Exp x.zA v i):v.length = x.zA.length ∧ ∀ j,j < x.zA.length → 0 ≤ at0 v j ∧ at0 v j ≤ 6:=by
 have h1:=h.1.1
 refine ⟨h1,fun j hj => ?_⟩
 have:=h.1.2 j (by omega)
 have:=(ho.2 j hj).pos
 omega
section
variable {x:SPr} {m:zE} {D:Nat} (h:Pres x) (hm:MOk x.zA.length m D)
 include h hm
theorem zN0 {i:Nat} (hi:i < x.zA.length):(x.zW.getD i []).length = x.zA.length ∧ ∀ j,j < x.zA.length → 0 ≤ at0 (x.zW.getD i []) j ∧ at0 (x.zW.getD i []) j ≤ 6:=have _:=hm;sJ h.os (h.tl i hi).1
theorem zLg {i j:Nat} (hi:i < x.zA.length) (hj:j < (x.zC.getD i []).length):((x.zC.getD i []).getD j []).length = x.zA.length ∧ ∀ q,q < x.zA.length → 0 ≤ at0 ((x.zC.getD i []).getD j []) q ∧ at0 ((x.zC.getD i []).getD j []) q ≤ 6:=have _:=hm;sJ h.os ((h.tl i hi).2.2 j hj)
theorem zN1:IsB ((zH (zQ6 x m) 0).bind fun r => match r with | .inl _ => some true | .inr r => some r) (zGM x m D):=by
 have h6:=h.os.1
 have h7:=hm.p.pos
 have h3:=hm.d3
 have hlen:=hm.len
 refine tV x.zA.length (fun i => wM m.Prime D m.zL (List.replicate (at0 x.zA i).toNat i) (idM D) = wM m.Prime D m.zL (nw 0 (x.zW.getD i [])) (idM D) ∧
  ∀ j,i + 1 ≤ j → j < x.zA.length → PM m.Prime D (m.zL.getD j []) (m.zL.getD i []) = PM m.Prime D (m.zL.getD i []) (wM m.Prime D m.zL (nw 0 ((x.zC.getD i []).getD (j - (i + 1)) [])) (idM D))) rfl (fun i hi _ => ?_) ?_
 ·have hpr:=(h.os.2 i hi).pos
  have hpl:=h.pl
  have hcl:=h.cl
  obtain ⟨p1,p2⟩:=zN0 h hm hi
  have t2:=(h.tl i hi).2.1
  have hI:=zAi (p:=m.Prime) (D:=D) h7.1
  unfold zQ6
  rw [yR hi,zK,hm.d,zGg hm.p (by omega),bs]
  rw [vB (S:=Mat m.Prime D) (body:=zQ4 x m (i:Int)) (fun B => B) (fun B => PM m.Prime D B (m.zL.getD i [])) (at0 x.zA i) (by omega) (fun B hB => zBU (by omega) hB.1) (fun B q hB hq => by
   unfold zQ4
   simp only
   rw [yG hi,bs,decide_eq_true hq,zK,yF [] (by omega),bs,hm.d,qW hm.p (by omega) hB (hm.mat i hi),bs,zD (by omega) (by omega),bs,cs]) (fun B hB => by
   unfold zQ4
   simp only
   rw [yG hi,bs,decide_eq_false (by omega),zF]) hI,bs,yF [] (by omega),bs,zJN hm (by omega) p1 p2,bs,← zGi]
  have hs:=(zEr (p:=m.Prime) (D:=D) (A:=m.zL) (by omega) (List.replicate (at0 x.zA i).toNat i) hI).small (by omega)
  rw [zGj hs.1 hs.2,bs]
  by_cases hq:wM m.Prime D m.zL (List.replicate (at0 x.zA i).toNat i) (idM D) = wM m.Prime D m.zL (nw 0 (x.zW.getD i [])) (idM D)
  ·rw [show (wM m.Prime D m.zL (List.replicate (at0 x.zA i).toNat i) (idM D) == wM m.Prime D m.zL (nw 0 (x.zW.getD i [])) (idM D)) = true from by rw [beq_iff_eq];exact hq,Bool.not_true,zF,zD (by omega) (by omega),bs,cs]
   rcases chk (body:=zQ5 x m (i:Int)) x.zA.length (i + 1) (by omega) (fun j => PM m.Prime D (m.zL.getD j []) (m.zL.getD i []) = PM m.Prime D (m.zL.getD i []) (wM m.Prime D m.zL (nw 0 ((x.zC.getD i []).getD (j - (i + 1)) [])) (idM D))) (fun _ => false) (fun j h1 h2 _ => by
     obtain ⟨c1,c2⟩:=zLg h hm (j:=j - (i + 1)) hi (by omega)
     have hjm:=hm.mat j h2
     have him:=hm.mat i hi
     have hw:=zEr (p:=m.Prime) (D:=D) (A:=m.zL) (by omega) (nw 0 ((x.zC.getD i []).getD (j - (i + 1)) [])) hI
     have hs:=(zBU (p:=m.Prime) (B:=m.zL.getD i []) (by omega) hjm.1).small (by omega)
     refine vW (o:=some (PM m.Prime D (m.zL.getD j []) (m.zL.getD i []) == PM m.Prime D (m.zL.getD i []) (wM m.Prime D m.zL (nw 0 ((x.zC.getD i []).getD (j - (i + 1)) [])) (idM D)))) (IsB.of_bool (by rw [beq_iff_eq])) (by omega) ?_
     unfold zQ5
     rw [yR h2,zK,yF (i:=j) [] (by omega),bs,yF (i:=i) [] (by omega),bs,hm.d,qW hm.p (by omega) hjm him,bs,bs,yF (i:=i) [] (by omega),bs,zD (by omega) (by omega),bs,zD (by omega) (by omega),bs,show (j:Int) - (i:Int) - 1 = ((j - (i + 1):Nat):Int) from by omega,yF [] (by omega),bs,zJN hm (by omega) c1 c2,bs,qW hm.p (by omega) him hw,bs,zGj hs.1 hs.2]) (by
     unfold zQ5
     rw [xC,zF]) with ⟨g1,g2⟩ | ⟨j,j1,j2,g1,g2⟩
   ·left
    rw [g1,bs,bs]
    exact ⟨rfl,hq,g2⟩
   ·right
    rw [g1,bs]
    exact ⟨rfl,fun g => g2 (g.2 j j1 j2)⟩
  ·rw [show (wM m.Prime D m.zL (List.replicate (at0 x.zA i).toNat i) (idM D) == wM m.Prime D m.zL (nw 0 (x.zW.getD i [])) (idM D)) = false from by rw [beq_eq_false_iff_ne];exact hq,Bool.not_false,zK]
   exact .inr ⟨rfl,fun g => hq g.1⟩
 ·unfold zQ6
  rw [xC,zF]
end
def zTz (x:SPr) (m:zE):Prop:=zBe x ∧ ∃ D,MOk x.zA.length m D ∧ zGM x m D
theorem zGN {x:SPr} {m:zE} (hl:x.zA.length ≤ 1048576):IsB (zS4 x m) (zTz x m):=by
 unfold zS4
 rcases zLd hl with ⟨h1,h2⟩ | ⟨h1,h2⟩
 ·have h6:=h2.1.os.1
  rw [h1,bs,zK]
  unfold f_p
  rcases zFU m.Prime with ⟨p1,p2⟩ | ⟨p1,p2⟩
  ·rw [p1,bs,Bool.not_true,zF]
   rcases zBM m.Dim 1 3 with ⟨d1,d2⟩ | ⟨d1,d2⟩
   ·rw [d1,bs,Bool.not_true,zF]
    obtain ⟨D,hD⟩:∃ D:Nat,m.Dim = (D:Int):=⟨m.Dim.toNat,by omega⟩
    by_cases hlen:m.zL.length = x.zA.length
    ·rw [jX (by omega),zF]
     rcases chk (body:=zQ3 x m) x.zA.length 0 (Nat.zero_le _) (fun i => Mat m.Prime D (m.zL.getD i [])) (fun _ => false) (fun i _ hi _ => by
       refine vW (zNz p2 (D:=D) (by omega)) (by omega) ?_
       unfold zQ3
       rw [yR hi,zK,yF [] (by omega),bs,hD]) (by
       unfold zQ3
       rw [xC,zF]) with ⟨g1,g2⟩ | ⟨i,_,hi,g1,g2⟩
     ·rw [show ((0:Nat):Int) = 0 from rfl] at g1
      have hm:MOk x.zA.length m D:=⟨p2,hD,by omega,by omega,hlen,fun i hi => g2 i (Nat.zero_le _) hi⟩
      rw [g1,bs]
      refine (zN1 h2.1 hm).b.iff ⟨fun k2 => ⟨h2,D,hm,k2⟩,fun ⟨_,D',hm',hr⟩ => ?_⟩
      have:D' = D:=by have:=hm'.d;omega
      rw [← this];exact hr
     ·rw [show ((0:Nat):Int) = 0 from rfl] at g1
      rw [g1,bs]
      refine .inr ⟨rfl,fun ⟨_,D',hm',_⟩ => g2 ?_⟩
      have:D' = D:=by have:=hm'.d;omega
      rw [← this];exact hm'.mat i hi
    ·rw [qE (by omega),zK]
     exact .inr ⟨rfl,fun ⟨_,D',hm',_⟩ => hlen hm'.len⟩
   ·rw [d1,bs,Bool.not_false,zK]
    exact .inr ⟨rfl,fun ⟨_,D',hm',_⟩ => d2 (by have:=hm'.d;have:=hm'.d1;have:=hm'.d3;omega)⟩
  ·rw [p1,bs,Bool.not_false,zK]
   exact .inr ⟨rfl,fun ⟨_,D',hm',_⟩ => p2 hm'.p⟩
 ·rw [h1,bs,zF]
  exact .inr ⟨rfl,fun g => h2 g.1⟩
end Go.Pl

namespace Go.Pl
open Go Go.Ab Go.Wk Go.Pc
abbrev Rl:=List Nat × List Nat
def r1 (x:SPr) (i:Nat):Rl:=(List.replicate (at0 x.zA i).toNat i,nw 0 (x.zW.getD i []))
def r2 (x:SPr) (i j:Nat):Rl:=([i + j + 1,i],i :: nw 0 ((x.zC.getD i []).getD j []))
def R2 (x:SPr) (i:Nat):List Rl:=(List.range (x.zC.getD i []).length).map (r2 x i)
def wA (x:SPr):List Rl:=(List.range x.zA.length).map (r1 x) ++ (List.range x.zA.length).flatMap (R2 x)
abbrev enR (q:Rl):List Int × List Int:=(enW q.1,enW q.2)
section
variable {x:SPr} (h:Pres x)
 include h
theorem zUq {i:Nat} (hi:i < x.zA.length):(R2 x i).length ≤ 9:=by
 have:=(h.tl i hi).2.1
 have:=h.os.1
 simp only [R2,List.length_map,List.length_range];omega
theorem zGk:∀ i,i ≤ x.zA.length → ((List.range i).flatMap (R2 x)).length ≤ 9 * i
 | 0,_ => by simp
 | i + 1,hi => by
  have:=zGk i (by omega)
  have:=zUq h (i:=i) (by omega)
  rw [List.range_succ,List.flatMap_append,List.length_append]
  simp only [List.flatMap_cons,List.flatMap_nil,List.append_nil]
  omega
theorem zSe {k i:Nat}:enW (List.replicate k i) = List.replicate k ((i:Int) + 1):=by have _:=h;simp [enW]
theorem kV:f_u x = some ((wA x).map enR):=by
 have h6:=h.os.1
 have hpl:=h.pl
 have hcl:=h.cl
 unfold f_u
 have l1:=zQ (body:=zQQ x) (r:=((List.range x.zA.length).map (r1 x)).map enR) (fun i => (((List.range i).map (r1 x)).map enR,(i:Int))) x.zA.length (fun i hi => by
  obtain ⟨p1,p2⟩:=sJ h.os (h.tl i hi).1
  unfold zQQ
  simp only
  rw [yR hi,zK,yG hi,bs,zD (by omega) (by omega),bs,zBV (h.os.2 i hi),bs,yF [] (by omega),bs,zBv (by omega) (by rw [p1];exact p2),bs,yL (by simp only [List.length_map,List.length_range,List.length_cons,List.length_nil];omega),bs,bs,cs,List.range_succ]
  simp only [List.map_append,List.map_cons,List.map_nil,r1,enR,zSe h,cs]) (by
  unfold zQQ
  simp only
  rw [xC,zF])
 rw [show ((0:Nat):Int) = 0 from rfl] at l1
 simp only [List.range_zero,List.map_nil] at l1
 rw [l1,bs]
 have l3:=zQ (body:=zQS x) (r:=(wA x).map enR) (fun i => (((List.range x.zA.length).map (r1 x) ++ (List.range i).flatMap (R2 x)).map enR,(i:Int))) x.zA.length (fun i hi => by
  have t2:=(h.tl i hi).2.1
  have hfm:=zGk h i (by omega)
  unfold zQS
  simp only
  rw [yR hi,zK,yF [] (by omega),bs]
  have l2:=zQ (body:=zQR (((List.range x.zA.length).map (r1 x) ++ (List.range i).flatMap (R2 x)).map enR,(i:Int)) (x.zC.getD i [])) (r:=((List.range x.zA.length).map (r1 x) ++ (List.range (i + 1)).flatMap (R2 x)).map enR)
   (fun j => (((List.range x.zA.length).map (r1 x) ++ (List.range i).flatMap (R2 x) ++ (List.range j).map (r2 x i)).map enR,(j:Int))) (x.zC.getD i []).length (fun j hj => by
    obtain ⟨p1,p2⟩:=sJ h.os ((h.tl i hi).2.2 j hj)
    have hnl:=zGh 0 ((x.zC.getD i []).getD j []) (by rw [p1];exact fun i hi => (p2 i hi).2)
    unfold zQR
    simp only
    rw [yR hj,zK,yF [] hj,bs,zD (by omega) (by omega),bs,zD (by omega) (by omega),bs,zD (by omega) (by omega),bs,zBv (by omega) (by rw [p1];exact p2),bs,yL (by simp only [List.length_map,List.length_cons,List.length_nil];omega),bs,yL (by simp only [List.length_map,List.length_append,List.length_range,List.length_cons,List.length_nil];omega),bs,zD (by omega) (by omega),bs,cs,List.range_succ]
    have e1:(i:Int) + (j:Int) + 2 = ((i + j + 1:Nat):Int) + 1:=by omega
    simp only [List.map_append,List.map_cons,List.map_nil,r2,enR,enW,List.append_assoc,List.singleton_append,e1]
    rfl) (by
    unfold zQR
    simp only
    rw [xC,zF,List.range_succ,List.flatMap_append]
    simp only [List.flatMap_cons,List.flatMap_nil,List.append_nil,List.append_assoc,R2])
  rw [show ((0:Nat):Int) = 0 from rfl] at l2
  simp only [List.range_zero,List.map_nil,List.append_nil] at l2
  rw [l2,bs,zD (by omega) (by omega),bs,cs]) (by
  unfold zQS
  simp only
  rw [xC,zF]
  rfl)
 rw [show ((0:Nat):Int) = 0 from rfl] at l3
 simp only [List.range_zero,List.flatMap_nil,List.append_nil] at l3
 rw [l3,bs]
theorem zH4 {q:Rl} (hq:q ∈ wA x):((∀ w ∈ q.1,w < x.zA.length) ∧ q.1.length ≤ 1000) ∧ (∀ w ∈ q.2,w < x.zA.length) ∧ q.2.length ≤ 1000:=by
 have h6:=h.os.1
 simp only [wA,List.mem_append,List.mem_map,List.mem_range,List.mem_flatMap,R2] at hq
 rcases hq with ⟨i,hi,rfl⟩ | ⟨i,hi,j,hj,rfl⟩
 ·obtain ⟨p1,p2⟩:=sJ h.os (h.tl i hi).1
  have hnl:=zGh 0 (x.zW.getD i []) (by rw [p1];exact fun i hi => (p2 i hi).2)
  have hpr:=(h.os.2 i hi).pos
  refine ⟨⟨fun w hw => ?_,?_⟩,fun w hw => zP6 0 _ (by omega) w hw,by simp only [r1];omega⟩
  ·have:=List.eq_of_mem_replicate hw;omega
  ·simp only [r1,List.length_replicate];omega
 ·obtain ⟨p1,p2⟩:=sJ h.os ((h.tl i hi).2.2 j hj)
  have t2:=(h.tl i hi).2.1
  have hnl:=zGh 0 ((x.zC.getD i []).getD j []) (by rw [p1];exact fun i hi => (p2 i hi).2)
  refine ⟨⟨fun w hw => ?_,by simp [r2]⟩,fun w hw => ?_,by simp only [r2,List.length_cons];omega⟩
  ·simp only [r2,List.mem_cons,List.not_mem_nil,or_false] at hw;omega
  ·simp only [r2,List.mem_cons] at hw
   rcases hw with rfl | hw
   ·exact hi
   ·exact zP6 0 _ (by omega) w hw
variable {m:zE} {D:Nat} (hm:MOk x.zA.length m D)
 include hm
theorem zJO:(∀ q ∈ wA x,wM m.Prime D m.zL q.1 (idM D) = wM m.Prime D m.zL q.2 (idM D)) ↔ zGM x m D:=by
 have h7:=hm.p.pos
 have hI:=zAi (p:=m.Prime) (D:=D) h7.1
 have key:∀ i j,i < x.zA.length → j < x.zA.length → ∀ ws,(wM m.Prime D m.zL [j,i] (idM D) = wM m.Prime D m.zL (i :: ws) (idM D) ↔ PM m.Prime D (m.zL.getD j []) (m.zL.getD i []) = PM m.Prime D (m.zL.getD i []) (wM m.Prime D m.zL ws (idM D))):=fun i j hi hj ws => by
  have hi':=hm.mat i hi
  have hj':=hm.mat j hj
  have e1:wM m.Prime D m.zL [j,i] (idM D) = PM m.Prime D (m.zL.getD j []) (m.zL.getD i []):=by
   show PM _ _ (PM _ _ (idM D) _) _ = _
   rw [zIt hj']
  have e2:wM m.Prime D m.zL (i :: ws) (idM D) = PM m.Prime D (m.zL.getD i []) (wM m.Prime D m.zL ws (idM D)):=by
   show wM _ _ _ ws (PM _ _ (idM D) _) = _
   rw [zIt hi',← zP7 (by omega) hi'.1 ws hI,zJI hi']
  rw [e1,e2]
 constructor
 ·intro g i hi
  have t2:=(h.tl i hi).2.1
  refine ⟨g (r1 x i) (by simp only [wA,List.mem_append,List.mem_map,List.mem_range];exact .inl ⟨i,hi,rfl⟩),fun j h1 h2 => ?_⟩
  have:=g (r2 x i (j - (i + 1))) (by
   simp only [wA,List.mem_append,List.mem_flatMap,List.mem_range,R2,List.mem_map]
   exact .inr ⟨i,hi,j - (i + 1),by omega,rfl⟩)
  simp only [r2] at this
  rw [show i + (j - (i + 1)) + 1 = j from by omega] at this
  exact (key i j hi h2 _).1 this
 ·intro g q hq
  simp only [wA,List.mem_append,List.mem_map,List.mem_range,List.mem_flatMap,R2] at hq
  rcases hq with ⟨i,hi,rfl⟩ | ⟨i,hi,j,hj,rfl⟩
  ·exact (g i hi).1
  ·have t2:=(h.tl i hi).2.1
   have:=(g i hi).2 (i + j + 1) (by omega) (by omega)
   rw [show i + j + 1 - (i + 1) = j from by omega] at this
   exact (key i (i + j + 1) hi (by omega) _).2 this
theorem zN2:IsB ((zH (zQZ m ((wA x).map enR)) 0).bind fun r => match r with | .inl _ => some true | .inr r => some r) (zGM x m D):=by
 have h6:=h.os.1
 have h7:=hm.p.pos
 have h3:=hm.d3
 have hI:=zAi (p:=m.Prime) (D:=D) h7.1
 have hfm:=zGk h x.zA.length (Nat.le_refl _)
 have hrl:(wA x).length ≤ 1000:=by simp only [wA,List.length_append,List.length_map,List.length_range];omega
 refine (tV (wA x).length (fun k => wM m.Prime D m.zL ((wA x).getD k ([],[])).1 (idM D) = wM m.Prime D m.zL ((wA x).getD k ([],[])).2 (idM D)) rfl (fun k hk _ => ?_) ?_).iff ⟨fun g => (zJO h hm).1 fun q hq => ?_,fun g k hk => (zJO h hm).2 g _ ?_⟩
 ·have hmem:(wA x).getD k ([],[]) ∈ wA x:=by
   rw [List.getD_eq_getElem?_getD,List.getElem?_eq_getElem hk];exact List.getElem_mem hk
  obtain ⟨⟨g1,g2⟩,g3,g4⟩:=zH4 h hmem
  have hs:=(zEr (p:=m.Prime) (D:=D) (A:=m.zL) (by omega) ((wA x).getD k ([],[])).1 hI).small (by omega)
  refine vW (o:=some (wM m.Prime D m.zL ((wA x).getD k ([],[])).1 (idM D) == wM m.Prime D m.zL ((wA x).getD k ([],[])).2 (idM D))) (IsB.of_bool (by rw [beq_iff_eq])) (by omega) ?_
  unfold zQZ
  rw [List.length_map,yR hk,zK,vD,List.getElem?_map,List.getElem?_eq_getElem hk]
  rw [List.getD_eq_getElem?_getD,List.getElem?_eq_getElem hk] at g1 g2 g3 g4 hs ⊢
  simp only [Option.map_some,Option.getD_some] at g1 g2 g3 g4 hs ⊢
  rw [bs,zCI hm h6 g1 g2,bs,zCI hm h6 g3 g4,bs]
  simp only
  rw [zGL hs.1 hs.2]
 ·unfold zQZ
  rw [List.length_map,xC,zF]
 ·obtain ⟨k,hk,rfl⟩:=List.mem_iff_getElem.1 hq
  have:=g k hk
  rw [List.getD_eq_getElem?_getD,List.getElem?_eq_getElem hk] at this
  exact this
 ·rw [List.getD_eq_getElem?_getD,List.getElem?_eq_getElem hk];exact List.getElem_mem hk
end
theorem zGO {x:SPr} {m:zE} (hl:x.zA.length ≤ 1048576) (_hal:m.zL.length ≤ 1048576):IsB (f_C x m) (zTz x m):=by
 unfold f_C
 rcases zD8 hl with ⟨h1,h2⟩ | ⟨h1,h2⟩
 ·have h6:=h2.1.os.1
  rw [h1,bs,Bool.not_true,zF]
  rcases zBc m.Prime with ⟨p1,p2⟩ | ⟨p1,p2⟩
  ·rw [p1,bs,Bool.not_true,zF]
   rcases jF m.Dim 1 3 with ⟨d1,d2⟩ | ⟨d1,d2⟩
   ·rw [d1,bs,Bool.not_true,zF]
    obtain ⟨D,hD⟩:∃ D:Nat,m.Dim = (D:Int):=⟨m.Dim.toNat,by omega⟩
    by_cases hlen:m.zL.length = x.zA.length
    ·rw [jX (by omega),zF]
     rcases chk (body:=zQY m) m.zL.length 0 (Nat.zero_le _) (fun i => Mat m.Prime D (m.zL.getD i [])) (fun _ => false) (fun i _ hi _ => by
       unfold zQY
       rw [yR hi,zK,yF [] hi,bs,hD]
       by_cases hr:(m.zL.getD i []).length = D
       ·rw [jX (by omega),zF]
        refine vW (zGK p2 (D:=D) (by omega) hr) (by omega) ?_
        unfold zLF
        rw [yF [] hi,bs,bs,hD]
       ·rw [qE (by omega),zK]
        exact .inr ⟨rfl,fun g => hr g.1⟩) (by
       unfold zQY
       rw [xC,zF]) with ⟨g1,g2⟩ | ⟨i,_,hi,g1,g2⟩
     ·rw [show ((0:Nat):Int) = 0 from rfl] at g1
      have hm:MOk x.zA.length m D:=⟨p2,hD,by omega,by omega,hlen,fun i hi => g2 i (Nat.zero_le _) (by omega)⟩
      rw [g1,bs,kV h2.1]
      simp only
      rw [bs]
      refine (zN2 h2.1 hm).iff ⟨fun k2 => ⟨h2,D,hm,k2⟩,fun ⟨_,D',hm',hr⟩ => ?_⟩
      have:D' = D:=by have:=hm'.d;omega
      rw [← this];exact hr
     ·rw [show ((0:Nat):Int) = 0 from rfl] at g1
      rw [g1,bs]
      refine .inr ⟨rfl,fun ⟨_,D',hm',_⟩ => g2 ?_⟩
      have:D' = D:=by have:=hm'.d;omega
      rw [← this];exact hm'.mat i (by omega)
    ·rw [qE (by omega),zK]
     exact .inr ⟨rfl,fun ⟨_,D',hm',_⟩ => hlen hm'.len⟩
   ·rw [d1,bs,Bool.not_false,zK]
    exact .inr ⟨rfl,fun ⟨_,D',hm',_⟩ => d2 (by have:=hm'.d;have:=hm'.d1;have:=hm'.d3;omega)⟩
  ·rw [p1,bs,Bool.not_false,zK]
   exact .inr ⟨rfl,fun ⟨_,D',hm',_⟩ => p2 hm'.p⟩
 ·rw [h1,bs,Bool.not_false,zK]
  exact .inr ⟨rfl,fun g => h2 g.1⟩
end Go.Pl

namespace Go.Pl
open Go Go.Ab Go.Wk Go.Pc
theorem zEs {xs:List (List Int)} {i:Nat} (h:i < xs.length):(xs.take (i + 1)).flatten = (xs.take i).flatten ++ xs.getD i []:=by
 rw [List.take_succ_eq_append_getElem h,List.flatten_append,List.getD_eq_getElem?_getD,List.getElem?_eq_getElem h];simp
theorem zIw {xs:List (List Int)} (i:Nat):(xs.take i).flatten.length ≤ xs.flatten.length:=by
 have:xs.flatten = (xs.take i).flatten ++ (xs.drop i).flatten:=by rw [← List.flatten_append,List.take_append_drop]
 rw [this,List.length_append];omega
theorem zN3 {k:Nat} (hk:k ≤ 1000000):zRa (k:Int) = some []:=by
 unfold zRa
 rw [decide_eq_false (by omega),zF,zD (by decide) (by decide),bs,zD (by omega) (by omega),bs]
 by_cases h:(k:Int) - (0 - 0) > 0
 ·rw [decide_eq_true h,zK]
  have e:wX ([]:List Int) ((k:Int) - (0 - 0)) 0 = some (List.replicate k 0):=by
   unfold wX
   rw [if_pos (by simp;omega)]
   simp
  rw [e,bs]
  rfl
 ·rw [decide_eq_false h,zF]
theorem zAj {xs:List (List Int)} (hx:xs.length ≤ 1000) (hf:xs.flatten.length ≤ 1000000):f_s xs = some xs.flatten:=by
 unfold f_s
 have l1:=zQ (body:=zRb xs) (r:=((xs.flatten.length:Nat):Int)) (fun i => ((((xs.take i).flatten.length:Nat):Int),(i:Int))) xs.length (fun i hi => by
  have h1:=zEs hi
  have h2:=zIw (xs:=xs) (i + 1)
  have h3:=congrArg List.length h1
  rw [List.length_append] at h3
  unfold zRb
  simp only
  rw [yR hi,zK,yF [] hi,bs,zD (by omega) (by omega),bs,decide_eq_false (by omega),zF,zD (by omega) (by omega),bs,cs,h3]
  congr 3) (by
  unfold zRb
  simp only
  rw [xC,zF,List.take_length])
 rw [show ((0:Nat):Int) = 0 from rfl] at l1
 simp only [List.take_zero,List.flatten_nil,List.length_nil] at l1
 rw [show ((0:Nat):Int) = 0 from rfl] at l1
 rw [l1,bs,zN3 hf,bs]
 have l2:=zQ (body:=zRc xs) (r:=xs.flatten) (fun i => ((xs.take i).flatten,(i:Int))) xs.length (fun i hi => by
  have h1:=zEs hi
  have h2:=zIw (xs:=xs) (i + 1)
  have h3:=congrArg List.length h1
  rw [List.length_append] at h3
  unfold zRc
  simp only
  rw [yR hi,zK,yF [] hi,bs,yL (by omega),bs,zD (by omega) (by omega),bs,cs,h1]) (by
  unfold zRc
  simp only
  rw [xC,zF,List.take_length])
 rw [show ((0:Nat):Int) = 0 from rfl] at l2
 simp only [List.take_zero,List.flatten_nil] at l2
 rw [l2,bs]
theorem zJP {r:List Int} {a b:Nat} (hr:r.length ≤ 1000) (ha:a ≤ 1000) (hb:b ≤ 1000):zRd r (a:Int) (b:Int) = some (List.replicate a 0 ++ (r ++ List.replicate b 0)):=by
 unfold zRd
 rw [yV (by omega),bs,yV (by omega),bs,zAj (by simp) (by simp;omega),bs]
 simp
end Go.Pl

namespace Go.Pl
open Go Go.Ab Go.Wk Go.Pc
section
variable {p:Int}
def vE (p:Int) (D:Nat) (r:List Int) (k:Int) (s:List Int):List Int:=mkv D fun j => (at0 r j + k * at0 s j) % p
theorem zGl {D:Nat} {r s:List Int} {k:Int}:(vE p D r k s).length = D:=yB _ _
def zGP (p:Int) (D i:Nat) (r:List Int) (k:Int) (s:List Int):List Int:=mkv D fun j => if j < i then (at0 r j + k * at0 s j) % p else at0 r j
theorem zH5 {D:Nat} {r s:List Int} {k:Int} (hr:r.length = D):zGP p D 0 r k s = r:=by
 conv => rhs;rw [vM hr]
 exact zZ fun j _ => by rw [if_neg (by omega)]
theorem zH6 {D:Nat} {r s:List Int} {k:Int}:zGP p D D r k s = vE p D r k s:=zZ fun j hj => by rw [if_pos hj]
theorem zJQ {D i:Nat} {r s:List Int} {k a:Int} (ha:a = (at0 r i + k * at0 s i) % p):(zGP p D i r k s).set i a = zGP p D (i + 1) r k s:=by
 simp only [zGP]
 rw [qV]
 refine zZ fun j _ => ?_
 by_cases h:j = i
 ·subst h;rw [if_pos rfl,if_pos (by omega),ha]
 ·rw [if_neg h]
  by_cases h2:j < i
  ·rw [if_pos h2,if_pos (by omega)]
  ·rw [if_neg h2,if_neg (by omega)]
theorem zMJ {D i:Nat} {r s:List Int} {k:Int} (hi:i < D):at0 (zGP p D i r k s) i = at0 r i:=by
 rw [zGP,yH hi,if_neg (by omega)]
theorem zDA {D i:Nat} {r s:List Int} {k:Int}:(zGP p D i r k s).length = D:=yB _ _
end
section
variable {p:Int} (hp:Prime p)
 include hp
theorem zEE {a:Int} (_h0:-1000 ≤ a) (_h1:a ≤ 1000):zGR a p = some (a % p):=by
 have h7:=hp.pos
 have e1:=Int.tmod_lt_of_pos a (show 0 < p by omega)
 have e2:=Int.lt_tmod_of_pos a (show 0 < p by omega)
 have e3:(Int.tmod a p + p) % p = a % p:=by
  rw [Int.add_emod_right]
  have:=Int.tmod_add_mul_tdiv a p
  conv => rhs;rw [← this]
  rw [Int.add_mul_emod_self_left]
 unfold zGR vU
 rw [if_neg (by omega),bs,zD (by omega) (by omega),bs,if_neg (by omega),bs,Int.tmod_eq_emod_of_nonneg (by omega),e3]
theorem zJR {a:Int} (_h0:-1000 ≤ a) (_h1:a ≤ 1000):zRj a p = some (a % p):=by
 have h7:=hp.pos
 have e1:=Int.tmod_lt_of_pos a (show 0 < p by omega)
 have e2:=Int.lt_tmod_of_pos a (show 0 < p by omega)
 have e3:(Int.tmod a p + p) % p = a % p:=by
  rw [Int.add_emod_right]
  have:=Int.tmod_add_mul_tdiv a p
  conv => rhs;rw [← this]
  rw [Int.add_mul_emod_self_left]
 unfold zRj vU
 rw [if_neg (by omega),bs]
 by_cases h:Int.tmod a p < 0
 ·rw [decide_eq_true h,zK,zD (by omega) (by omega),bs,← e3,Int.emod_eq_of_lt (by omega) (by omega)]
 ·rw [decide_eq_false h,zF,← e3,Int.add_emod_right,Int.emod_eq_of_lt (by omega) (by omega)]
theorem jH {D:Nat} {r s:List Int} {k:Int}:Row p D (vE p D r k s):=by
 have h7:=hp.pos
 refine ⟨yB _ _,fun i hi => ?_⟩
 have e:at0 (vE p D r k s) i = (at0 r i + k * at0 s i) % p:=yH hi
 have e1:=Int.emod_nonneg (at0 r i + k * at0 s i) (show p ≠ 0 by omega)
 have e2:=Int.emod_lt_of_pos (at0 r i + k * at0 s i) (show 0 < p by omega)
 rw [e];omega
theorem zBg {k b:Int} (hk:-7 ≤ k ∧ k ≤ 7) (hb:0 ≤ b ∧ b ≤ p - 1):-49 ≤ k * b ∧ k * b ≤ 49:=by
 have h7:=hp.pos
 rcases Int.le_total 0 k with h | h
 ·have h1:=Int.mul_nonneg h hb.1
  have h2:=Int.mul_le_mul hk.2 (show b ≤ 7 by omega) hb.1 (by omega)
  omega
 ·have h1:=Int.mul_nonneg (show 0 ≤ -k by omega) hb.1
  have h2:=Int.mul_le_mul (show -k ≤ 7 by omega) (show b ≤ 7 by omega) hb.1 (by omega)
  rw [Int.neg_mul] at h1 h2
  omega
theorem qN {D:Nat} {r s:List Int} {k:Int} (hr:Row p D r) (hs:Row p D s) (hk:-7 ≤ k ∧ k ≤ 7) (hD:D ≤ 1000000):f_r r s k p = some (vE p D r k s):=by
 have h7:=hp.pos
 have:=zQ (body:=zKt r s k p) (r:=vE p D r k s) (fun i => (zGP p D i r k s,(i:Int))) D (fun i hi => by
  have a1:=hr.2 i hi
  have a2:=hs.2 i hi
  have a3:=zBg hp hk a2
  unfold zKt
  simp only
  rw [hr.1,yR hi,zK,yG (by rw [zDA];exact hi),bs,yG (by rw [hs.1];exact hi),bs,zD (by omega) (by omega),bs,zMJ hi,zD (by omega) (by omega),bs,zEE hp (by omega) (by omega),bs,bs,zD (by omega) (by omega),bs,cs,Int.toNat_natCast,zJQ rfl]) (by
  unfold zKt
  simp only
  rw [hr.1,xC,zF,zH6])
 rw [show ((0:Nat):Int) = 0 from rfl,zH5 hr.1] at this
 unfold f_r
 rw [this,bs]
theorem vX {D:Nat} {r s:List Int} {k:Int} (hr:Row p D r) (hs:Row p D s) (hk:-7 ≤ k ∧ k ≤ 7) (hD:D ≤ 1000000):f_n p r k s = some (vE p D r k s):=by
 have h7:=hp.pos
 have:=zQ (body:=zRk p k s) (r:=vE p D r k s) (fun i => (zGP p D i r k s,(i:Int))) D (fun i hi => by
  have a1:=hr.2 i hi
  have a2:=hs.2 i hi
  have a3:=zBg hp hk a2
  unfold zRk
  simp only
  rw [zDA,yR hi,zK,hs.1,yR hi,zK,yG (by rw [zDA];exact hi),bs,yG (by rw [hs.1];exact hi),bs,zD (by omega) (by omega),bs,zMJ hi,zD (by omega) (by omega),bs,zJR hp (by omega) (by omega),bs,bs,zD (by omega) (by omega),bs,cs,Int.toNat_natCast,zJQ rfl]) (by
  unfold zRk
  simp only
  rw [zDA,xC,zF,zH6])
 rw [show ((0:Nat):Int) = 0 from rfl,zH5 hr.1] at this
 unfold f_n
 rw [tK (by rw [hr.1];omega),bs,this,bs]
end
theorem zBh {p:Int} {D:Nat} {r s:List Int}:vE p D r (p - 1) s = vE p D r (-1) s:=zZ fun j _ => by
 rw [show at0 r j + (p - 1) * at0 s j = at0 r j + -1 * at0 s j + p * at0 s j from by rw [Int.sub_mul];omega,Int.add_mul_emod_self_left]
theorem zN4 {p:Int} {D:Nat} {r s:List Int} (hr:Row p D r) (hs:Row p D s):(∀ j,j < D → at0 (vE p D r (-1) s) j = 0) ↔ r = s:=by
 constructor
 ·intro h
  rw [vM hr.1,vM hs.1]
  refine zZ fun j hj => ?_
  have h1:=h j hj
  rw [vE,yH hj] at h1
  have a1:=hr.2 j hj
  have a2:=hs.2 j hj
  obtain ⟨c,hc⟩:=Int.dvd_of_emod_eq_zero h1
  have:c = 0:=by
   rcases Int.lt_trichotomy c 0 with h | h | h
   ·have:=Int.mul_le_mul_of_nonneg_left (show c ≤ -1 by omega) (show 0 ≤ p by omega);omega
   ·exact h
   ·have:=Int.mul_le_mul_of_nonneg_left (show 1 ≤ c by omega) (show 0 ≤ p by omega);omega
  rw [this] at hc;omega
 ·rintro rfl j hj
  rw [vE,yH hj,show at0 r j + -1 * at0 r j = 0 from by omega];simp
end Go.Pl

namespace Go.Pl
open Go Go.Ab Go.Wk Go.Pc
def VOk (n:Nat) (p:Int) (D:Nat) (vals:Mx):Prop:=vals.length = n ∧ ∀ i,i < n → Row p D (vals.getD i [])
def stp (m:zE) (D:Nat) (vals:Mx) (v:List Int) (w:Nat):List Int:=vE m.Prime D (tM m.Prime D v (m.zL.getD w [])) 1 (vals.getD w [])
def ev (m:zE) (D:Nat) (vals:Mx) (v:List Int) (ws:List Nat):List Int:=ws.foldl (stp m D vals) v
theorem zH7 {m:zE} {D:Nat} {vals:Mx} {v:List Int} {a b:List Nat}:ev m D vals v (a ++ b) = ev m D vals (ev m D vals v a) b:=by simp [ev,List.foldl_append]
theorem zLh {m:zE} {D:Nat} {vals:Mx} {w:Nat}:∀ (k:Nat) (v:List Int),ev m D vals v (List.replicate k w) = iter k (fun v => stp m D vals v w) v
 | 0,_ => rfl
 | k + 1,v => by
  rw [List.replicate_succ]
  show ev m D vals (stp m D vals v w) (List.replicate k w) = _
  rw [zLh k];rfl
abbrev z0 (D:Nat):List Int:=List.replicate D 0
theorem zGm {p:Int} {D:Nat} (hp:0 < p):Row p D (z0 D):=by
 refine ⟨by simp,fun i hi => ?_⟩
 have:at0 (z0 D) i = 0:=by simp [z0,at0,List.getD_eq_getElem?_getD,hi]
 rw [this];omega
theorem jI {p:Int} {D:Nat} {r:List Int} {B:Mx} (hp:0 < p):Row p D (tM p D r B):=by
 refine ⟨yB _ _,fun i hi => ?_⟩
 have e1:=Int.emod_nonneg (S D (fun l => at0 r l * ent B l i)) (show p ≠ 0 by omega)
 have e2:=Int.emod_lt_of_pos (S D (fun l => at0 r l * ent B l i)) hp
 rw [tM,yH hi];omega
section
variable {n D:Nat} {m:zE} (hm:MOk n m D) (hn:n ≤ 9) {vals:Mx} (hv:VOk n m.Prime D vals)
 include hm hn hv
theorem zBi {v:List Int} {w:Nat}:Row m.Prime D (stp m D vals v w):=by
 have _:=hn
 have _:=hv
 exact jH hm.p
theorem zDg {v:List Int} (h:Row m.Prime D v):∀ ws,Row m.Prime D (ev m D vals v ws):=by
 intro ws
 induction ws generalizing v with
 | nil => exact h
 | cons w ws ih => exact ih (zBi hm hn hv)
theorem zAM {v:List Int} {w:Nat} (h:Row m.Prime D v) (hw:w < n):zKz m vals v (w:Int) = some (stp m D vals v w):=by
 have _:=hn
 have h7:=hm.p.pos
 have h3:=hm.d3
 unfold zKz
 rw [yF [] (by rw [hm.len];exact hw),bs,hm.d,zDf hm.p (by omega) h (hm.mat w hw),bs,yF [] (by rw [hv.1];exact hw),bs,vX hm.p (jI (by omega)) (hv.2 w hw) (by omega) (by omega),bs]
 rfl
theorem zEF {v x:List Int} (h:Row m.Prime D v) (hl:x.length = n) (hx:∀ i,i < n → 0 ≤ at0 x i ∧ at0 x i ≤ 6):f_D m vals v x = some (ev m D vals v (nw 0 x)):=by
 have:=zQ (body:=zRo m vals x) (r:=ev m D vals v (nw 0 x)) (fun i => (ev m D vals v (nw 0 (x.take i)),(i:Int))) n (fun i hi => by
  have hxi:=hx i hi
  unfold zRo
  simp only
  rw [hl,yR hi,zK]
  rw [vB (S:=Row m.Prime D) (body:=zRn m vals x (ev m D vals v (nw 0 (x.take i)),(i:Int))) (fun v => v) (fun v => stp m D vals v i) (at0 x i) hxi.1 (fun v _ => zBi hm hn hv) (fun u q hu hq => by
   unfold zRn
   simp only
   rw [yG (by omega),bs,decide_eq_true hq,zK,zAM hm hn hv hu hi,bs,zD (by omega) (by omega),bs,cs]) (fun u hu => by
   unfold zRn
   simp only
   rw [yG (by omega),bs,decide_eq_false (by omega),zF]) (zDg hm hn hv h _),bs,zD (by omega) (by omega),bs,cs]
  rw [zIv (by omega),zH7,zLh]) (by
  unfold zRo
  simp only
  rw [hl,xC,zF,List.take_of_length_le (by omega)])
 rw [show ((0:Nat):Int) = 0 from rfl,List.take_zero] at this
 simp only [nw,ev,List.foldl_nil] at this
 unfold f_D
 rw [this,bs];rfl
theorem zDB {ws:List Nat} (hw:∀ w ∈ ws,w < n) (hl:ws.length ≤ 1000):f_X m vals (enW ws) = some (ev m D vals (z0 D) ws):=by
 have h7:=hm.p.pos
 have h3:=hm.d3
 unfold f_X
 rw [hm.d,yV (by omega),bs]
 have hz:=zGm (p:=m.Prime) (D:=D) (by omega)
 have hel:(enW ws).length = ws.length:=by simp only [enW,List.length_map]
 have:=zQ (body:=zRp m vals (enW ws)) (r:=ev m D vals (z0 D) ws) (fun i => (ev m D vals (z0 D) (ws.take i),(i:Int))) ws.length (fun i hi => by
  have hwi:=hw ws[i] (List.getElem_mem hi)
  have hr:=zDg hm hn hv hz (ws.take i)
  unfold zRp
  simp only
  rw [hel,yR hi,zK,vD,List.getElem?_map,List.getElem?_eq_getElem hi]
  simp only [Option.map_some]
  rw [bs,zD (by omega) (by omega),bs,show ((ws[i]:Nat):Int) + 1 - 1 = ((ws[i]:Nat):Int) from by omega,zCH hm hn hwi,bs,zAL hm.p (by omega) hr (hm.mat _ hwi) rfl,bs,bs,yF [] (by rw [hv.1];exact hwi),bs,qN hm.p (jI (by omega)) (hv.2 _ hwi) (by omega) (by omega),bs,zD (by omega) (by omega),bs,cs,List.take_succ_eq_append_getElem hi,zH7]
  rfl) (by
  unfold zRp
  simp only
  rw [hel,xC,zF,List.take_of_length_le (by omega)])
 rw [show ((0:Nat):Int) = 0 from rfl,List.take_zero] at this
 simp only [ev,List.foldl_nil] at this
 rw [this,bs];rfl
end
theorem zP9 {v:List Int} (hl:v.length ≤ 1000000):IsB (f_A v) (∀ i,i < v.length → at0 v i = 0):=by
 refine tV v.length (fun i => at0 v i = 0) rfl (fun i hi _ => ?_) ?_
 ·unfold zKp
  rw [yR hi,zK,yG hi,bs]
  by_cases h:at0 v i = 0
  ·rw [show (at0 v i != 0) = false from by simp only [h];rfl,zF,zD (by omega) (by omega),bs,cs];exact .inl ⟨rfl,h⟩
  ·rw [show (at0 v i != 0) = true from by simpa using h,zK];exact .inr ⟨rfl,h⟩
 ·unfold zKp
  rw [xC,zF]
theorem zAN {v:List Int} (hl:v.length ≤ 1000000):IsB (zOa v) (∀ i,i < v.length → at0 v i = 0):=zP9 hl
section
variable {x:SPr} (h:Pres x) {m:zE} {D:Nat} (hm:MOk x.zA.length m D) {vals:Mx} (hv:VOk x.zA.length m.Prime D vals)
 include h hm hv
abbrev dfc (m:zE) (D:Nat) (vals:Mx) (q:Rl):List Int:=vE m.Prime D (ev m D vals (z0 D) q.1) (-1) (ev m D vals (z0 D) q.2)
theorem zIx:(wA x).length ≤ 100:=by
 have _:=hv
 have _:=hm
 have h6:=h.os.1
 have hfm:=zGk h x.zA.length (Nat.le_refl _)
 simp only [wA,List.length_append,List.length_map,List.length_range];omega
theorem zIy:f_Y x m vals = some ((wA x).map (dfc m D vals)):=by
 have h6:=h.os.1
 have h7:=hm.p.pos
 have h3:=hm.d3
 have hrl:=zIx h hm hv
 have hz:=zGm (p:=m.Prime) (D:=D) (by omega)
 unfold f_Y
 rw [kV h,bs]
 have:=zQ (body:=zRq m vals ((wA x).map enR)) (r:=(wA x).map (dfc m D vals)) (fun i => (((wA x).map (dfc m D vals)).take i,(i:Int))) (wA x).length (fun i hi => by
  have hmem:(wA x)[i] ∈ wA x:=List.getElem_mem hi
  obtain ⟨⟨g1,g2⟩,g3,g4⟩:=zH4 h hmem
  unfold zRq
  simp only
  rw [List.length_map,yR hi,zK,vD,List.getElem?_map,List.getElem?_eq_getElem hi]
  simp only [Option.map_some]
  rw [bs,zDB hm h6 hv g1 g2,bs,zDB hm h6 hv g3 g4,bs,qN hm.p (zDg hm h6 hv hz _) (zDg hm h6 hv hz _) (by omega) (by omega),bs,yL (by simp;omega),bs,zD (by omega) (by omega),bs,cs,List.take_succ_eq_append_getElem (by simpa using hi)]
  simp only [List.getElem_map]) (by
  unfold zRq
  simp only
  rw [List.length_map,xC,zF,List.take_of_length_le (by simp)])
 rw [show ((0:Nat):Int) = 0 from rfl,List.take_zero] at this
 rw [this,bs]
end
end Go.Pl

namespace Go.Pl
open Go Go.Ab Go.Wk Go.Pc
theorem zN5 {m:zE} {D:Nat} {vals:Mx} (hp:Prime m.Prime) (hd:m.Dim = (D:Int)) (hD:D ≤ 8) (hl:vals.length ≤ 1048576):IsB (zUO m vals) (∀ i,i < vals.length → Row m.Prime D (vals.getD i [])):=by
 refine tV vals.length (fun i => Row m.Prime D (vals.getD i [])) rfl (fun i hi _ => ?_) ?_
 ·refine vW (zEC hp hD (r:=vals.getD i [])) (by omega) ?_
  unfold zNe
  rw [yR hi,zK,yF [] hi,bs,hd]
 ·unfold zNe
  rw [xC,zF]
theorem zJS {a b:Int} (h:a = b):(a == b) = true:=by simp [h]
theorem zJT {a b:Int} (h:a ≠ b):(a == b) = false:=by simp [h]
end Go.Pl

namespace Go.Pl
open Go Go.Ab Go.Wk Go.Pc
theorem IsB.both {o o':Option Bool} {P:Prop} (h:IsB o P) (h':IsB o' P):(o = some true ∧ o' = some true ∧ P) ∨ (o = some false ∧ o' = some false ∧ ¬ P):=by
 rcases h with ⟨h1,h2⟩ | ⟨h1,h2⟩ <;> rcases h' with ⟨h3,h4⟩ | ⟨h3,h4⟩
 ·exact .inl ⟨h1,h3,h2⟩
 ·exact absurd h2 h4
 ·exact absurd h4 h2
 ·exact .inr ⟨h1,h3,h2⟩
end Go.Pl

namespace Go.Pl
open Go Go.Ab Go.Wk Go.Pc
def Sp (p:Int) (n:Nat) (R:Mx) (v:List Int):Prop:=∃ c:Nat → Int,∀ j,j < n → (S R.length fun i => c i * ent R i j) % p = at0 v j % p
section
variable {p:Int} {n:Nat} {R R':Mx} {u v w:List Int}
theorem sY {i:Nat} (hi:i < R.length):Sp p n R (R.getD i []):=by
 refine ⟨fun l => if l = i then 1 else 0,fun j _ => ?_⟩
 rw [zAK (k:=i) hi (fun l _ hl => by simp [hl])]
 simp
theorem sZ {k:Int} (hv:Sp p n R v) (hw:Sp p n R w) (h:∀ j,j < n → at0 u j % p = (at0 v j + k * at0 w j) % p):Sp p n R u:=by
 obtain ⟨c,hc⟩:=hv
 obtain ⟨d,hd⟩:=hw
 refine ⟨fun i => c i + k * d i,fun j hj => ?_⟩
 have e:(S R.length fun i => (c i + k * d i) * ent R i j) = (S R.length fun i => c i * ent R i j) + k * (S R.length fun i => d i * ent R i j):=by
  rw [← zEn,← zJG]
  exact wR fun i _ => by rw [Int.add_mul,Int.mul_assoc]
 rw [e,h j hj,Int.add_emod,hc j hj,Int.mul_emod,hd j hj,← Int.mul_emod,← Int.add_emod]
theorem zAk (h:∀ j,j < n → at0 u j % p = 0):Sp p n R u:=by
 refine ⟨fun _ => 0,fun j hj => ?_⟩
 rw [h j hj,wR (g:=fun _ => 0) (fun i _ => by simp),jT];simp
theorem jJ (h:∀ i,i < R.length → Sp p n R' (R.getD i [])) (hv:Sp p n R v):Sp p n R' v:=by
 obtain ⟨c,hc⟩:=hv
 have key:∀ m,m ≤ R.length → ∃ d:Nat → Int,∀ j,j < n → (S R'.length fun i => d i * ent R' i j) % p = (S m fun i => c i * ent R i j) % p:=by
  intro m
  induction m with
  | zero => intro _;exact ⟨fun _ => 0,fun j _ => by rw [wR (g:=fun _ => 0) (fun i _ => by simp),jT];rfl⟩
  | succ m ih =>
   intro hm
   obtain ⟨d,hd⟩:=ih (by omega)
   obtain ⟨e,he⟩:=h m (by omega)
   refine ⟨fun i => d i + c m * e i,fun j hj => ?_⟩
   have e1:(S R'.length fun i => (d i + c m * e i) * ent R' i j) = (S R'.length fun i => d i * ent R' i j) + c m * (S R'.length fun i => e i * ent R' i j):=by
    rw [← zEn,← zJG]
    exact wR fun i _ => by rw [Int.add_mul,Int.mul_assoc]
   rw [e1,Int.add_emod,hd j hj,Int.mul_emod,he j hj,← Int.mul_emod,← Int.add_emod]
   rfl
 obtain ⟨d,hd⟩:=key R.length (Nat.le_refl _)
 exact ⟨d,fun j hj => by rw [hd j hj,hc j hj]⟩
end
def sM (p:Int) (n:Nat) (R R':Mx):Prop:=(∀ i,i < R.length → Sp p n R' (R.getD i [])) ∧ ∀ i,i < R'.length → Sp p n R (R'.getD i [])
theorem sM.refl {p:Int} {n:Nat} {R:Mx}:sM p n R R:=⟨fun _ h => sY h,fun _ h => sY h⟩
theorem sM.symm {p:Int} {n:Nat} {R R':Mx} (h:sM p n R R'):sM p n R' R:=⟨h.2,h.1⟩
theorem sM.trans {p:Int} {n:Nat} {R R' R2:Mx} (h:sM p n R R') (h':sM p n R' R2):sM p n R R2:=⟨fun i hi => jJ h'.1 (h.1 i hi),fun i hi => jJ h.2 (h'.2 i hi)⟩
theorem sM.iff {p:Int} {n:Nat} {R R':Mx} {v:List Int} (h:sM p n R R'):Sp p n R v ↔ Sp p n R' v:=⟨fun g => jJ h.1 g,fun g => jJ h.2 g⟩
structure Red (p:Int) (n:Nat) (R:Mx) (pv:Nat → Nat):Prop where
 row:∀ i,i < R.length → Row p n (R.getD i [])
 lt:∀ i,i < R.length → pv i < n
 one:∀ i,i < R.length → ent R i (pv i) = 1
 low:∀ i,i < R.length → ∀ j,j < pv i → ent R i j = 0
 off:∀ i k,i < R.length → k < R.length → k ≠ i → ent R k (pv i) = 0
 mono:∀ i j,i < j → j < R.length → pv i < pv j
section
variable {p:Int} (hp:1 < p) {n:Nat} {R R':Mx} {pv pv':Nat → Nat} {v:List Int}
theorem Red.coef (h:Red p n R pv) {c:Nat → Int} (hc:∀ j,j < n → (S R.length fun i => c i * ent R i j) % p = at0 v j % p) {k:Nat} (hk:k < R.length):c k % p = at0 v (pv k) % p:=by
 rw [← hc (pv k) (h.lt k hk),zAK (k:=k) hk (fun i hi hne => by rw [h.off k i hk hi hne];simp),h.one k hk];simp
theorem Red.expand (h:Red p n R pv) (hv:Sp p n R v):∀ j,j < n → at0 v j % p = (S R.length fun i => at0 v (pv i) * ent R i j) % p:=by
 obtain ⟨c,hc⟩:=hv
 intro j hj
 rw [← hc j hj]
 exact zD9 fun i hi => by rw [Int.mul_emod,h.coef hc hi,← Int.mul_emod]
theorem Red.lead (h:Red p n R pv) (hv:Sp p n R v) (hne:∃ j,j < n ∧ at0 v j % p ≠ 0):∃ i,i < R.length ∧ (∀ j,j < pv i → at0 v j % p = 0) ∧ at0 v (pv i) % p ≠ 0:=by
 have hx:=h.expand hv
 have h1:∃ i,i < R.length ∧ at0 v (pv i) % p ≠ 0:=by
  refine Classical.byContradiction fun hn => ?_
  obtain ⟨j,hj,hj2⟩:=hne
  refine hj2 ?_
  rw [hx j hj,zD9 (g:=fun _ => 0) (fun i hi => by
   have:at0 v (pv i) % p = 0:=Classical.byContradiction fun h0 => hn ⟨i,hi,h0⟩
   rw [Int.mul_emod,this];simp),jT];rfl
 obtain ⟨i,⟨hi,hi2⟩,hmin⟩:=zA6 h1
 refine ⟨i,hi,fun j hj => ?_,hi2⟩
 have hjn:j < n:=Nat.lt_trans hj (h.lt i hi)
 rw [hx j hjn,zD9 (g:=fun _ => 0) (fun k hk => by
  rcases Nat.lt_or_ge k i with hki | hki
  ·have:at0 v (pv k) % p = 0:=Classical.byContradiction fun h0 => hmin k hki ⟨hk,h0⟩
   rw [Int.mul_emod,this];simp
  ·have h2:pv i ≤ pv k:=by
    rcases Nat.lt_or_ge i k with h3 | h3
    ·exact Nat.le_of_lt (h.mono i k h3 hk)
    ·rw [show i = k from by omega];exact Nat.le_refl _
   rw [h.low k hk j (by omega)];simp),jT];rfl
 include hp
theorem Red.row_lead (h:Red p n R pv) {i:Nat} (hi:i < R.length):(∃ j,j < n ∧ at0 (R.getD i []) j % p ≠ 0) ∧ (∀ j,j < pv i → at0 (R.getD i []) j % p = 0) ∧ at0 (R.getD i []) (pv i) % p ≠ 0:=by
 have h1:at0 (R.getD i []) (pv i) % p ≠ 0:=by
  have:=h.one i hi
  simp only [ent] at this
  rw [this,Int.emod_eq_of_lt (by omega) hp];omega
 refine ⟨⟨pv i,h.lt i hi,h1⟩,fun j hj => ?_,h1⟩
 have:=h.low i hi j hj
 simp only [ent] at this
 rw [this];rfl
theorem Red.piv_in (h:Red p n R pv) (h':Red p n R' pv') (hs:∀ i,i < R.length → Sp p n R' (R.getD i [])) {i:Nat} (hi:i < R.length):∃ k,k < R'.length ∧ pv' k = pv i:=by
 obtain ⟨g1,g2,g3⟩:=h.row_lead hp hi
 obtain ⟨k,hk,g4,g5⟩:=h'.lead (hs i hi) g1
 refine ⟨k,hk,?_⟩
 rcases Nat.lt_trichotomy (pv' k) (pv i) with h1 | h1 | h1
 ·exact absurd (g2 _ h1) g5
 ·exact h1
 ·exact absurd (g4 _ h1) g3
theorem Red.piv_eq (h:Red p n R pv) (h':Red p n R' pv') (hs:sM p n R R'):∀ i,(i < R.length ↔ i < R'.length) ∧ (i < R.length → pv i = pv' i):=by
 intro i
 induction i using Nat.strongRecOn with
 | _ i ih =>
  have a:i < R.length → i < R'.length ∧ pv' i ≤ pv i:=fun hi => by
   obtain ⟨k,hk,e⟩:=h.piv_in hp h' hs.1 hi
   have hki:i ≤ k:=by
    refine Classical.byContradiction fun hn => ?_
    have h1:=(ih k (by omega)).2 (by omega)
    have h2:=h.mono k i (by omega) hi
    omega
   refine ⟨by omega,?_⟩
   rcases Nat.lt_or_ge i k with h3 | h3
   ·have:=h'.mono i k h3 hk;omega
   ·have hik:i = k:=by omega
    subst hik;omega
  have b:i < R'.length → i < R.length ∧ pv i ≤ pv' i:=fun hi => by
   obtain ⟨k,hk,e⟩:=h'.piv_in hp h hs.2 hi
   have hki:i ≤ k:=by
    refine Classical.byContradiction fun hn => ?_
    have h1:=(ih k (by omega)).2 hk
    have h2:=h'.mono k i (by omega) hi
    omega
   refine ⟨by omega,?_⟩
   rcases Nat.lt_or_ge i k with h3 | h3
   ·have:=h.mono i k h3 hk;omega
   ·have hik:i = k:=by omega
    subst hik;omega
  exact ⟨⟨fun hi => (a hi).1,fun hi => (b hi).1⟩,fun hi => by have:=(a hi).2;have:=(b (a hi).1).2;omega⟩
theorem Red.unique (h:Red p n R pv) (h':Red p n R' pv') (hs:sM p n R R'):R = R':=by
 have hpe:=h.piv_eq hp h' hs
 have hl:R.length = R'.length:=by
  rcases Nat.lt_trichotomy R.length R'.length with g | g | g
  ·have:=(hpe R.length).1.2 g;omega
  ·exact g
  ·have:=(hpe R'.length).1.1 g;omega
 refine zGe (D:=R.length) rfl hl.symm fun i hi => ?_
 have hi':i < R'.length:=by omega
 have r1:=h.row i hi
 have r2:=h'.row i hi'
 rw [vM r1.1,vM r2.1]
 refine zZ fun j hj => ?_
 have hx:=h'.expand (hs.1 i hi) j hj
 rw [wR (g:=fun k => (if k = i then 1 else 0) * ent R' k j) (fun k hk => by
  congr 1
  have e:=(hpe k).2 (by omega)
  by_cases hki:k = i
  ·subst hki;rw [if_pos rfl,← e];exact h.one k hi
  ·rw [if_neg hki,← e];exact h.off k i (by omega) hi (Ne.symm hki)),zAK (k:=i) hi' (fun k _ hk => by simp [hk])] at hx
 simp only [if_true,Int.one_mul,ent] at hx
 have a1:=r1.2 j hj
 have a2:=r2.2 j hj
 rw [Int.emod_eq_of_lt a1.1 (by omega),Int.emod_eq_of_lt a2.1 (by omega)] at hx
 exact hx
end
end Go.Pl

namespace Go.Pl
open Go Go.Ab Go.Wk Go.Pc
def mkR (m:Nat) (F:Nat → List Int):Mx:=(List.range m).map F
theorem tE {m:Nat} {F:Nat → List Int}:(mkR m F).length = m:=by simp [mkR]
theorem qX {m:Nat} {F:Nat → List Int} {i:Nat} (h:i < m):(mkR m F).getD i [] = F i:=by simp [mkR,List.getD_eq_getElem?_getD,h]
theorem zIz {m:Nat} {F:Nat → List Int} {i:Nat} (h:i < m):ixO (mkR m F) (i:Int) = some (F i):=by rw [yF [] (by rw [tE];exact h),qX h]
theorem tQ {m:Nat} {F G:Nat → List Int} (h:∀ i,i < m → F i = G i):mkR m F = mkR m G:=by
 simp only [mkR]
 exact List.map_congr_left fun i hi => h i (List.mem_range.1 hi)
theorem zUr {R:Mx} {m:Nat} (h:R.length = m):R = mkR m (fun i => R.getD i []):=zGe (D:=m) h tE fun i hi => by rw [qX hi]
theorem zEW {m:Nat} {F:Nat → List Int} {i:Nat} {a:List Int}:(mkR m F).set i a = mkR m (fun k => if k = i then a else F k):=by
 apply List.ext_getElem?
 intro k
 by_cases hk:k < m
 ·by_cases h:i = k
  ·subst h;simp [mkR,hk]
  ·rw [List.getElem?_set_ne h];simp [mkR,hk,Ne.symm h]
 ·rw [List.getElem?_eq_none (by simp [mkR];omega),List.getElem?_eq_none (by simp [mkR];omega)]
theorem zDC {m:Nat} {F:Nat → List Int} {i j:Nat} (h:i < m):ent (mkR m F) i j = at0 (F i) j:=by simp only [ent,qX h]
theorem zPA {s:Nat → Int × Int × Int × Int} (n:Nat) {r:Int × Int} (h:∀ i,i < n → zNR (s i) = some (.inl (s (i + 1)))) (he:zNR (s n) = some (.inr r)) {p q:Int} (hq:zGR r.2 p = some q) (h1:r.1 = 1) (hs:s 0 = (p,(s 0).2.1,0,1)) :
  f_N (s 0).2.1 p = some (q,true):=by
 unfold f_N
 rw [← hs,zQ s n h he,bs,hq,bs,h1];rfl
def zPB:List (Int × Int × Int × Int) → Nat → Int × Int × Int × Int:=fun l i => l.getD i (0,0,0,0)
theorem uE (l:List (Int × Int × Int × Int)) (n:Nat) {r:Int × Int} (h:∀ i,i < n → zNR (zPB l i) = some (.inl (zPB l (i + 1)))) (he:zNR (zPB l n) = some (.inr r)) {p q x:Int} (hq:zGR r.2 p = some q) (h1:r.1 = 1) (hs:zPB l 0 = (p,x,0,1)) :
  f_N x p = some (q,true):=by
 have:=zPA (s:=zPB l) n h he hq h1 (by rw [hs])
 rw [hs] at this;exact this
theorem lt1 {P:Nat → Prop} (h0:P 0):∀ i,i < 1 → P i:=fun i hi => by rw [show i = 0 from by omega];exact h0
theorem lt2 {P:Nat → Prop} (h0:P 0) (h1:P 1):∀ i,i < 2 → P i:=fun i hi => by match i,hi with | 0,_ => exact h0 | 1,_ => exact h1
theorem lt3 {P:Nat → Prop} (h0:P 0) (h1:P 1) (h2:P 2):∀ i,i < 3 → P i:=fun i hi => by match i,hi with | 0,_ => exact h0 | 1,_ => exact h1 | 2,_ => exact h2
theorem zDD {p x:Int} (hp:Prime p) (h0:1 ≤ x) (h1:x ≤ p - 1):∃ r,f_N x p = some (r,true) ∧ 0 ≤ r ∧ r ≤ p - 1 ∧ (x * r) % p = 1:=by
 have c:(p = 2 ∧ x = 1) ∨ (p = 3 ∧ (x = 1 ∨ x = 2)) ∨ (p = 5 ∧ (x = 1 ∨ x = 2 ∨ x = 3 ∨ x = 4)) ∨ (p = 7 ∧ (x = 1 ∨ x = 2 ∨ x = 3 ∨ x = 4 ∨ x = 5 ∨ x = 6)):=by unfold Prime at hp;omega
 rcases c with ⟨rfl,rfl⟩ | ⟨rfl,rfl | rfl⟩ | ⟨rfl,rfl | rfl | rfl | rfl⟩ | ⟨rfl,rfl | rfl | rfl | rfl | rfl | rfl⟩
 ·exact ⟨1,uE [(2,1,0,1),(1,0,1,-2)] 1 (lt1 (by decide +kernel)) (r:=(1,1)) (by decide +kernel) (by decide +kernel) rfl rfl,by decide,by decide,by decide⟩
 ·exact ⟨1,uE [(3,1,0,1),(1,0,1,-3)] 1 (lt1 (by decide +kernel)) (r:=(1,1)) (by decide +kernel) (by decide +kernel) rfl rfl,by decide,by decide,by decide⟩
 ·exact ⟨2,uE [(3,2,0,1),(2,1,1,-1),(1,0,-1,3)] 2 (lt2 (by decide +kernel) (by decide +kernel)) (r:=(1,-1)) (by decide +kernel) (by decide +kernel) rfl rfl,by decide,by decide,by decide⟩
 ·exact ⟨1,uE [(5,1,0,1),(1,0,1,-5)] 1 (lt1 (by decide +kernel)) (r:=(1,1)) (by decide +kernel) (by decide +kernel) rfl rfl,by decide,by decide,by decide⟩
 ·exact ⟨3,uE [(5,2,0,1),(2,1,1,-2),(1,0,-2,5)] 2 (lt2 (by decide +kernel) (by decide +kernel)) (r:=(1,-2)) (by decide +kernel) (by decide +kernel) rfl rfl,by decide,by decide,by decide⟩
 ·exact ⟨2,uE [(5,3,0,1),(3,2,1,-1),(2,1,-1,2),(1,0,2,-5)] 3 (lt3 (by decide +kernel) (by decide +kernel) (by decide +kernel)) (r:=(1,2)) (by decide +kernel) (by decide +kernel) rfl rfl,by decide,by decide,by decide⟩
 ·exact ⟨4,uE [(5,4,0,1),(4,1,1,-1),(1,0,-1,5)] 2 (lt2 (by decide +kernel) (by decide +kernel)) (r:=(1,-1)) (by decide +kernel) (by decide +kernel) rfl rfl,by decide,by decide,by decide⟩
 ·exact ⟨1,uE [(7,1,0,1),(1,0,1,-7)] 1 (lt1 (by decide +kernel)) (r:=(1,1)) (by decide +kernel) (by decide +kernel) rfl rfl,by decide,by decide,by decide⟩
 ·exact ⟨4,uE [(7,2,0,1),(2,1,1,-3),(1,0,-3,7)] 2 (lt2 (by decide +kernel) (by decide +kernel)) (r:=(1,-3)) (by decide +kernel) (by decide +kernel) rfl rfl,by decide,by decide,by decide⟩
 ·exact ⟨5,uE [(7,3,0,1),(3,1,1,-2),(1,0,-2,7)] 2 (lt2 (by decide +kernel) (by decide +kernel)) (r:=(1,-2)) (by decide +kernel) (by decide +kernel) rfl rfl,by decide,by decide,by decide⟩
 ·exact ⟨2,uE [(7,4,0,1),(4,3,1,-1),(3,1,-1,2),(1,0,2,-7)] 3 (lt3 (by decide +kernel) (by decide +kernel) (by decide +kernel)) (r:=(1,2)) (by decide +kernel) (by decide +kernel) rfl rfl,by decide,by decide,by decide⟩
 ·exact ⟨3,uE [(7,5,0,1),(5,2,1,-1),(2,1,-1,3),(1,0,3,-7)] 3 (lt3 (by decide +kernel) (by decide +kernel) (by decide +kernel)) (r:=(1,3)) (by decide +kernel) (by decide +kernel) rfl rfl,by decide,by decide,by decide⟩
 ·exact ⟨6,uE [(7,6,0,1),(6,1,1,-1),(1,0,-1,7)] 2 (lt2 (by decide +kernel) (by decide +kernel)) (r:=(1,-1)) (by decide +kernel) (by decide +kernel) rfl rfl,by decide,by decide,by decide⟩
end Go.Pl

namespace Go.Pl
open Go Go.Ab Go.Wk Go.Pc
structure zN6 (p:Int) (n m:Nat) (rows:Mx) (c:Nat) (M:Mx) (d:Nat) (pv:Nat → Nat):Prop where
 len:M.length = m
 row:∀ i,i < m → Row p n (M.getD i [])
 dm:d ≤ m
 lt:∀ i,i < d → pv i < c
 one:∀ i,i < d → ent M i (pv i) = 1
 low:∀ i,i < d → ∀ j,j < pv i → ent M i j = 0
 off:∀ i k,i < d → k < m → k ≠ i → ent M k (pv i) = 0
 mono:∀ i j,i < j → j < d → pv i < pv j
 zero:∀ k,d ≤ k → k < m → ∀ j,j < c → ent M k j = 0
 sp:sM p n M rows
theorem zBj {p:Int} {n m:Nat} {F:Nat → List Int} {i:Nat} (h:i < m):Sp p n (mkR m F) (F i):=by
 have:=sY (p:=p) (n:=n) (R:=mkR m F) (i:=i) (by rw [tE];exact h)
 rw [qX h] at this;exact this
theorem zPC (a e r p:Int):a % p = ((a + (0 - e) * r) % p + e * r) % p:=by
 rw [Int.add_emod,Int.emod_emod,← Int.add_emod,show a + (0 - e) * r + e * r = a from by rw [Int.sub_mul,Int.zero_mul];omega]
section
variable {p:Int} (hp:Prime p) {n m:Nat} {rows:Mx} {c:Nat} {M:Mx} {d:Nat} {pv:Nat → Nat} (h:zN6 p n m rows c M d pv) (hc:c < n) (hd:d < m)
 include hp h hc hd
theorem zN6.pivot {t:Nat} (ht:d ≤ t) (htm:t < m) (hne:ent M t c ≠ 0) {q:Int} (hq:(ent M t c * q) % p = 1) :
  zN6 p n m rows (c + 1) (mkR m fun i => if i = d then mkv n fun j => (ent M t j * q) % p else vE p n (if i = t then M.getD d [] else M.getD i []) (0 - at0 (if i = t then M.getD d [] else M.getD i []) c) (mkv n fun j => (ent M t j * q) % p)) (d + 1) (fun i => if i = d then c else pv i):=by
 have h7:=hp.pos
 have pr:∀ j,j < n → at0 (mkv n fun j => (ent M t j * q) % p) j = (ent M t j * q) % p:=fun j hj => yH hj
 have p0:∀ j,j < c → (ent M t j * q) % p = 0:=fun j hj => by rw [h.zero t ht htm j hj];simp
 have prow:Row p n (mkv n fun j => (ent M t j * q) % p):=⟨yB _ _,fun j hj => by
  have e1:=Int.emod_nonneg (ent M t j * q) (show p ≠ 0 by omega)
  have e2:=Int.emod_lt_of_pos (ent M t j * q) (show 0 < p by omega)
  rw [pr j hj];omega⟩
 have hG:∀ i,i < m → i ≠ d → Row p n (if i = t then M.getD d [] else M.getD i []):=fun i hi _ => by
  split
  ·exact h.row d hd
  ·exact h.row i hi
 have eo:∀ i j,i < m → i ≠ d → j < n → ent (mkR m fun i => if i = d then mkv n fun j => (ent M t j * q) % p else vE p n (if i = t then M.getD d [] else M.getD i []) (0 - at0 (if i = t then M.getD d [] else M.getD i []) c) (mkv n fun j => (ent M t j * q) % p)) i j = (at0 (if i = t then M.getD d [] else M.getD i []) j + (0 - at0 (if i = t then M.getD d [] else M.getD i []) c) * ((ent M t j * q) % p)) % p:=fun i j hi hne' hj => by
  rw [zDC hi,if_neg hne',vE,yH hj,pr j hj]
 have el:∀ i j,i < m → i ≠ d → j < c → ent (mkR m fun i => if i = d then mkv n fun j => (ent M t j * q) % p else vE p n (if i = t then M.getD d [] else M.getD i []) (0 - at0 (if i = t then M.getD d [] else M.getD i []) c) (mkv n fun j => (ent M t j * q) % p)) i j = at0 (if i = t then M.getD d [] else M.getD i []) j:=fun i j hi hne' hj => by
  rw [eo i j hi hne' (by omega),p0 j hj,Int.mul_zero,Int.add_zero]
  have:=(hG i hi hne').2 j (by omega)
  exact Int.emod_eq_of_lt this.1 (by omega)
 have ed:∀ j,j < n → ent (mkR m fun i => if i = d then mkv n fun j => (ent M t j * q) % p else vE p n (if i = t then M.getD d [] else M.getD i []) (0 - at0 (if i = t then M.getD d [] else M.getD i []) c) (mkv n fun j => (ent M t j * q) % p)) d j = (ent M t j * q) % p:=fun j hj => by
  rw [zDC hd,if_pos rfl,pr j hj]
 have ec:∀ i,i < m → i ≠ d → ent (mkR m fun i => if i = d then mkv n fun j => (ent M t j * q) % p else vE p n (if i = t then M.getD d [] else M.getD i []) (0 - at0 (if i = t then M.getD d [] else M.getD i []) c) (mkv n fun j => (ent M t j * q) % p)) i c = 0:=fun i hi hne' => by
  rw [eo i c hi hne' hc,hq,Int.mul_one]
  rw [show at0 (if i = t then M.getD d [] else M.getD i []) c + (0 - at0 (if i = t then M.getD d [] else M.getD i []) c) = 0 from by omega];simp
 have hlow:∀ i,i < d → (if i = t then M.getD d [] else M.getD i []) = M.getD i []:=fun i hi => by rw [if_neg (by omega)]
 have hzr:∀ i,d ≤ i → i < m → ∀ j,j < c → at0 (if i = t then M.getD d [] else M.getD i []) j = 0:=fun i hi hi2 j hj => by
  split
  ·exact h.zero d (Nat.le_refl _) hd j hj
  ·exact h.zero i hi hi2 j hj
 refine ⟨tE,fun i hi => ?_,by omega,fun i hi => ?_,fun i hi => ?_,fun i hi j hj => ?_,fun i k hi hk hne' => ?_,fun i j hij hj => ?_,fun k hk hk2 j hj => ?_,?_⟩
 ·rw [qX hi]
  split
  ·exact prow
  ·exact jH hp
 ·by_cases hid:i = d
  ·rw [if_pos hid];omega
  ·rw [if_neg hid];have:=h.lt i (by omega);omega
 ·by_cases hid:i = d
  ·subst hid;rw [if_pos rfl,ed c hc,hq]
  ·have h1:=h.lt i (by omega)
   rw [if_neg hid,el i _ (by omega) hid h1,hlow i (by omega)];exact h.one i (by omega)
 ·by_cases hid:i = d
  ·subst hid
   rw [if_pos rfl] at hj
   rw [ed j (by omega),p0 j hj]
  ·rw [if_neg hid] at hj
   have h1:=h.lt i (by omega)
   rw [el i j (by omega) hid (by omega),hlow i (by omega)];exact h.low i (by omega) j hj
 ·by_cases hid:i = d
  ·subst hid
   rw [if_pos rfl];exact ec k hk hne'
  ·have h1:=h.lt i (by omega)
   rw [if_neg hid]
   by_cases hkd:k = d
   ·subst hkd
    rw [ed _ (by omega),h.off i t (by omega) htm (by omega)];simp
   ·rw [el k _ hk hkd h1]
    split
    ·exact h.off i d (by omega) hd (Ne.symm hid)
    ·exact h.off i k (by omega) hk hne'
 ·by_cases hjd:j = d
  ·subst hjd
   rw [if_pos rfl,if_neg (by omega)];exact h.lt i (by omega)
  ·rw [if_neg hjd,if_neg (by omega)];exact h.mono i j hij (by omega)
 ·rcases Nat.lt_or_ge j c with hjc | hjc
  ·rw [el k j hk2 (by omega) hjc];exact hzr k (by omega) hk2 j hjc
  ·rw [show j = c from by omega];exact ec k hk2 (by omega)
 ·refine sM.trans ⟨fun i hi => ?_,fun i hi => ?_⟩ h.sp
  ·rw [tE] at hi
   rw [qX hi]
   have hr:Sp p n M (mkv n fun j => (ent M t j * q) % p):=by
    refine sZ (k:=q) (zAk (u:=[]) fun j _ => by simp [at0]) (sY (R:=M) (i:=t) (by rw [h.len];exact htm)) fun j hj => ?_
    rw [pr j hj,Int.emod_emod,Int.mul_comm];simp [at0]
   split
   ·exact hr
   ·refine sZ (k:=0 - at0 (if i = t then M.getD d [] else M.getD i []) c) (v:=if i = t then M.getD d [] else M.getD i []) ?_ hr fun j hj => ?_
    ·split
     ·exact sY (by rw [h.len];exact hd)
     ·exact sY (by rw [h.len];exact hi)
    ·rw [vE,yH hj,Int.emod_emod]
  ·rw [h.len] at hi
   have hr:=zBj (p:=p) (n:=n) (m:=m) (F:=fun i => if i = d then mkv n fun j => (ent M t j * q) % p else vE p n (if i = t then M.getD d [] else M.getD i []) (0 - at0 (if i = t then M.getD d [] else M.getD i []) c) (mkv n fun j => (ent M t j * q) % p)) hd
   simp only [if_true] at hr
   have hg:∀ k,k < m → k ≠ d → Sp p n (mkR m fun i => if i = d then mkv n fun j => (ent M t j * q) % p else vE p n (if i = t then M.getD d [] else M.getD i []) (0 - at0 (if i = t then M.getD d [] else M.getD i []) c) (mkv n fun j => (ent M t j * q) % p)) (if k = t then M.getD d [] else M.getD k []):=fun k hk hkd => by
    have h1:=zBj (p:=p) (n:=n) (m:=m) (F:=fun i => if i = d then mkv n fun j => (ent M t j * q) % p else vE p n (if i = t then M.getD d [] else M.getD i []) (0 - at0 (if i = t then M.getD d [] else M.getD i []) c) (mkv n fun j => (ent M t j * q) % p)) hk
    simp only [if_neg hkd] at h1
    refine sZ (k:=at0 (if k = t then M.getD d [] else M.getD k []) c) h1 hr fun j hj => ?_
    rw [vE,yH hj,pr j hj]
    exact zPC _ _ _ _
   by_cases hit:i = t
   ·
    subst hit
    refine sZ (k:=ent M i c) (zAk (u:=[]) fun j _ => by simp [at0]) hr fun j hj => ?_
    rw [pr j hj]
    have e1:(ent M i c * ((ent M i j * q) % p)) % p = (ent M i j * ((ent M i c * q) % p)) % p:=by
     rw [Int.mul_emod,Int.emod_emod,← Int.mul_emod,Int.mul_emod (ent M i j),Int.emod_emod,← Int.mul_emod]
     congr 1
     rw [← Int.mul_assoc,← Int.mul_assoc,Int.mul_comm (ent M i c)]
    rw [show at0 ([]:List Int) j = 0 from by simp [at0],Int.zero_add,e1,hq,Int.mul_one]
   ·by_cases hid:i = d
    ·subst hid
     have:=hg t htm (by omega)
     rw [if_pos rfl] at this;exact this
    ·have:=hg i hi hid
     rw [if_neg hit] at this;exact this
end
end Go.Pl

namespace Go.Pl
open Go Go.Ab Go.Wk Go.Pc
theorem qO {v:List Int} (h:v.length ≤ 1000000):f_w v = some v:=by
 unfold f_w
 rw [yL (by simp;omega),bs,List.nil_append]
theorem zGQ {rows:Mx} (hm:rows.length ≤ 1000000) (hn:∀ i,i < rows.length → (rows.getD i []).length ≤ 1000000):zSE rows = some rows:=by
 unfold zSE
 have:=zQ (body:=zKv rows) (r:=rows) (fun i => (rows.take i,(i:Int))) rows.length (fun i hi => by
  unfold zKv
  simp only
  rw [yR hi,zK,yF [] hi,bs,qO (hn i hi),bs,yL (by simp;omega),bs,zD (by omega) (by omega),bs,cs,List.take_succ_eq_append_getElem hi,List.getD_eq_getElem?_getD,List.getElem?_eq_getElem hi]
  rfl) (by
  unfold zKv
  simp only
  rw [xC,zF,List.take_length])
 rw [show ((0:Nat):Int) = 0 from rfl,List.take_zero] at this
 rw [this,bs]
theorem zN7 {M:Mx} {d c m n:Nat} (hm:M.length = m) (hd:d ≤ m) (hmm:m ≤ 1000000) (hrow:∀ i,i < m → (M.getD i []).length = n) (hc:c < n) :
  ∃ t:Nat,d ≤ t ∧ t ≤ m ∧ zH (zGS (M,(d:Int),(c:Int))) (d:Int) = some (t:Int) ∧ (∀ k,d ≤ k → k < t → ent M k c = 0) ∧ (t < m → ent M t c ≠ 0):=by
 have key:∀ k,k ≤ m - d → ∃ t:Nat,m - k ≤ t ∧ t ≤ m ∧ zH (zGS (M,(d:Int),(c:Int))) ((m - k:Nat):Int) = some (t:Int) ∧ (∀ q,m - k ≤ q → q < t → ent M q c = 0) ∧ (t < m → ent M t c ≠ 0):=by
  intro k
  induction k with
  | zero =>
   intro _
   refine ⟨m,by omega,Nat.le_refl _,?_,fun q h1 h2 => by omega,fun h => by omega⟩
   rw [xF]
   unfold zGS
   simp only
   rw [hm,show m - 0 = m from rfl,xC,zF]
  | succ k ih =>
   intro hk
   obtain ⟨t,h1,h2,h3,h4,h5⟩:=ih (by omega)
   have hlt:m - (k + 1) < m:=by omega
   by_cases hz:ent M (m - (k + 1)) c = 0
   ·refine ⟨t,by omega,h2,?_,fun q q1 q2 => ?_,h5⟩
    ·rw [xF]
     have e:zGS (M,(d:Int),(c:Int)) ((m - (k + 1):Nat):Int) = some (.inl ((m - k:Nat):Int)):=by
      unfold zGS
      simp only
      rw [hm,yR hlt,zK,yF [] (by omega),bs,yG (by rw [hrow _ hlt];exact hc),bs,zJS hz,zK,zD (by omega) (by omega),bs,cs,show m - (k + 1) + 1 = m - k from by omega]
     rw [e];exact h3
    ·rcases Nat.lt_or_ge (m - (k + 1)) q with g | g
     ·exact h4 q (by omega) q2
     ·rw [show q = m - (k + 1) from by omega];exact hz
   ·refine ⟨m - (k + 1),Nat.le_refl _,by omega,?_,fun q q1 q2 => by omega,fun _ => hz⟩
    rw [xF]
    have e:zGS (M,(d:Int),(c:Int)) ((m - (k + 1):Nat):Int) = some (.inr ((m - (k + 1):Nat):Int)):=by
     unfold zGS
     simp only
     rw [hm,yR hlt,zK,yF [] (by omega),bs,yG (by rw [hrow _ hlt];exact hc),bs,zJT hz,zF]
    rw [e]
 obtain ⟨t,h1,h2,h3,h4,h5⟩:=key (m - d) (Nat.le_refl _)
 rw [show m - (m - d) = d from by omega] at h1 h3 h4
 exact ⟨t,h1,h2,h3,h4,h5⟩
section
variable {p:Int} (hp:Prime p) {n m:Nat} {M:Mx} {d c t:Nat}
 include hp
theorem zLi {F:Nat → List Int} {q:Int} {b:Bool} (hd:d < m) (hr:Row p n (F d)) (hn:n ≤ 1000000) (hq:0 ≤ q ∧ q ≤ p - 1) {v:List Int} (hv:v.length = n) {s:Mx × Int × Int} (hs:s.2.1 = (d:Int)) :
  zH (zKw p s (q,b) v) (mkR m F,0) = some (mkR m fun i => if i = d then mkv n fun j => (at0 (F d) j * q) % p else F i):=by
 have h7:=hp.pos
 have:=zQ (body:=zKw p s (q,b) v) (r:=mkR m fun i => if i = d then mkv n fun j => (at0 (F d) j * q) % p else F i) (fun k => (mkR m fun i => if i = d then mkv n (fun j => if j < k then (at0 (F d) j * q) % p else at0 (F d) j) else F i,(k:Int))) n (fun k hk => by
  have a1:=hr.2 k hk
  have a2:=zBg hp (k:=q) ⟨by omega,by omega⟩ a1
  have a3:=Int.mul_nonneg a1.1 hq.1
  rw [Int.mul_comm] at a2
  unfold zKw
  simp only
  rw [hv,yR hk,zK,hs,zIz hd]
  simp only [bs,if_true]
  rw [yG (by rw [yB];exact hk),yH hk,if_neg (by omega)]
  simp only [bs]
  rw [zD (by omega) (by omega)]
  simp only [bs,vU]
  rw [if_neg (by omega)]
  simp only [bs]
  rw [Int.tmod_eq_emod_of_nonneg a3,zD (by omega) (by omega)]
  simp only [bs,Int.toNat_natCast,cs]
  rw [zEW]
  congr 3
  refine tQ fun i _ => ?_
  by_cases hi:i = d
  ·rw [if_pos hi,if_pos hi,qV]
   refine zZ fun j _ => ?_
   by_cases hj:j = k
   ·subst hj;rw [if_pos rfl,if_pos (by omega)]
   ·rw [if_neg hj]
    by_cases hj2:j < k
    ·rw [if_pos hj2,if_pos (by omega)]
    ·rw [if_neg hj2,if_neg (by omega)]
  ·rw [if_neg hi,if_neg hi,if_neg hi]) (by
  unfold zKw
  simp only
  rw [hv,xC,zF]
  congr 2
  refine tQ fun i _ => ?_
  split
  ·exact zZ fun j hj => by rw [if_pos hj]
  ·rfl)
 rw [show ((0:Nat):Int) = 0 from rfl] at this
 rw [← this]
 congr 2
 refine tQ fun i _ => ?_
 split
 ·rename_i e;subst e
  conv => lhs;rw [vM hr.1]
  exact zZ fun j _ => by rw [if_neg (by omega)]
 ·rfl
theorem zLj {F:Nat → List Int} (hd:d < m) (hc:c < n) (hr:∀ i,i < m → Row p n (F i)) (hn:n ≤ 1000000) (hm:m ≤ 1000000) {r21:Mx} (hl:r21.length = m) {s:Mx × Int × Int} (hs:s.2.1 = (d:Int)) (hs2:s.2.2 = (c:Int)) :
  zH (zLH p s r21) (mkR m F,0) = some (mkR m fun i => if i = d then F d else vE p n (F i) (0 - at0 (F i) c) (F d)):=by
 have h7:=hp.pos
 have:=zQ (body:=zLH p s r21) (r:=mkR m fun i => if i = d then F d else vE p n (F i) (0 - at0 (F i) c) (F d)) (fun k => (mkR m fun i => if i < k ∧ i ≠ d then vE p n (F i) (0 - at0 (F i) c) (F d) else F i,(k:Int))) m (fun k hk => by
  have a1:=(hr k hk).2 c hc
  unfold zLH
  simp only
  rw [hl,yR hk,zK,hs,hs2]
  by_cases hkd:k = d
  ·subst hkd
   rw [jX rfl,zF,zD (by omega) (by omega),bs,cs]
   congr 3
   refine tQ fun i _ => ?_
   by_cases hi:i = k
   ·subst hi;rw [if_neg (by omega),if_neg (by omega)]
   ·by_cases hi2:i < k
    ·rw [if_pos ⟨hi2,hi⟩,if_pos ⟨by omega,hi⟩]
    ·rw [if_neg (by omega),if_neg (by omega)]
  ·rw [qE (by omega),zK,zIz hk,zIz hd]
   simp only [bs,ne_eq,not_true_eq_false,and_false,if_false,Nat.lt_irrefl,false_and]
   rw [yG (by rw [(hr k hk).1];exact hc)]
   simp only [bs]
   rw [zD (by omega) (by omega)]
   simp only [bs]
   rw [qN hp (hr k hk) (hr d hd) (by omega) hn,bs,zD (by omega) (by omega)]
   simp only [bs,Int.toNat_natCast,cs]
   rw [zEW]
   congr 3
   refine tQ fun i _ => ?_
   by_cases hi:i = k
   ·subst hi;rw [if_pos rfl,if_pos ⟨by omega,hkd⟩]
   ·rw [if_neg hi]
    by_cases hi2:i < k ∧ ¬ i = d
    ·rw [if_pos hi2,if_pos ⟨by omega,hi2.2⟩]
    ·rw [if_neg hi2,if_neg (by omega)]) (by
  unfold zLH
  simp only
  rw [hl,xC,zF]
  congr 2
  refine tQ fun i hi => ?_
  by_cases hid:i = d
  ·rw [if_pos hid,if_neg (by omega),hid]
  ·rw [if_neg hid,if_pos ⟨hi,hid⟩])
 rw [show ((0:Nat):Int) = 0 from rfl] at this
 rw [← this]
 congr 2
end
end Go.Pl

namespace Go.Pl
open Go Go.Ab Go.Wk Go.Pc
theorem Red.empty {p:Int} {n:Nat}:Red p n [] (fun _ => 0):=⟨fun _ h => by simp at h,fun _ h => by simp at h,fun _ h => by simp at h,fun _ h => by simp at h,fun _ _ h => by simp at h,fun _ _ _ h => by simp at h⟩
theorem zN6.take {p:Int} {n m:Nat} {rows:Mx} {c:Nat} {M:Mx} {d:Nat} {pv:Nat → Nat} (h:zN6 p n m rows c M d pv) (hcn:c ≤ n) (hz:∀ k,d ≤ k → k < m → ∀ j,j < n → ent M k j = 0):Red p n (M.take d) pv ∧ sM p n (M.take d) rows:=by
 have hl:(M.take d).length = d:=by rw [List.length_take,h.len];exact Nat.min_eq_left h.dm
 have hg:∀ i,i < d → (M.take d).getD i [] = M.getD i []:=fun i hi => by simp only [List.getD_eq_getElem?_getD,List.getElem?_take,if_pos hi]
 have dm:=h.dm
 refine ⟨⟨fun i hi => ?_,fun i hi => ?_,fun i hi => ?_,fun i hi j hj => ?_,fun i k hi hk hne => ?_,fun i j hij hj => ?_⟩,sM.trans ⟨fun i hi => ?_,fun i hi => ?_⟩ h.sp⟩
 ·rw [hl] at hi;rw [hg i hi];exact h.row i (by omega)
 ·rw [hl] at hi;have:=h.lt i hi;omega
 ·rw [hl] at hi;simp only [ent,hg i hi];exact h.one i hi
 ·rw [hl] at hi;simp only [ent,hg i hi];exact h.low i hi j hj
 ·rw [hl] at hi hk;simp only [ent,hg k hk];exact h.off i k hi (by omega) hne
 ·rw [hl] at hj;exact h.mono i j hij hj
 ·rw [hl] at hi;rw [hg i hi];exact sY (by rw [h.len];omega)
 ·rw [h.len] at hi
  rcases Nat.lt_or_ge i d with g | g
  ·have:=sY (p:=p) (n:=n) (R:=M.take d) (i:=i) (by rw [hl];exact g)
   rw [hg i g] at this;exact this
  ·exact zAk fun j hj => by
    have:=hz i g hi j hj
    simp only [ent] at this
    rw [this];rfl
section
variable {p:Int} (hp:Prime p) {n:Nat} {rows:Mx} (hn:n ≤ 100000) (hm:rows.length ≤ 600000) (hr:∀ i,i < rows.length → Row p n (rows.getD i []))
 include hp hn hm hr
theorem zJU:∃ R pv,f_g p rows = some R ∧ Red p n R pv ∧ sM p n R rows:=by
 have h7:=hp.pos
 unfold f_g
 rw [zGQ (by omega) (fun i hi => by have:=(hr i hi).1;omega),bs]
 have main:=vT (body:=zLI p) (s:=(rows,0,0)) (Q:=fun r => ∃ (M:Mx) (d:Nat) (pv:Nat → Nat),r = (M,(d:Int)) ∧ d ≤ M.length ∧ Red p n (M.take d) pv ∧ sM p n (M.take d) rows)
  (fun i s => ∃ (M:Mx) (d:Nat) (pv:Nat → Nat),s = (M,(d:Int),(i:Int)) ∧ zN6 p n rows.length rows i M d pv ∧ i ≤ n) n (fun c s hc hI => ?_) (fun s hI => ?_) ⟨rows,0,fun _ => 0,rfl,⟨rfl,hr,Nat.zero_le _,fun _ h => by omega,fun _ h => by omega,fun _ h => by omega,fun _ _ h => by omega,fun _ _ _ h => by omega,fun _ _ _ _ h => by omega,sM.refl⟩,Nat.zero_le _⟩
 ·obtain ⟨r,h1,M,d,pv,rfl,hd,hR,hS⟩:=main
  rw [h1,bs]
  simp only
  have e:zT M 0 (d:Int) = some (M.take d):=by
   unfold zT
   rw [if_pos ⟨by omega,by omega,by omega⟩];simp
  rw [e,bs]
  exact ⟨_,_,rfl,hR,hS⟩
 ·
  obtain ⟨M,d,pv,rfl,h,hcn⟩:=hI
  have hl:=h.len
  have hdm:=h.dm
  by_cases h0:rows.length = 0
  ·refine .inr ⟨(M,(d:Int)),?_,M,d,pv,rfl,by omega,h.take hcn fun k hk hk2 => by omega⟩
   unfold zLI
   simp only
   rw [decide_eq_false (by omega),zF]
  have e0:zLI p (M,(d:Int),(c:Int)) = cond (decide ((d:Int) < (M.length:Int))) ((zH (zGS (M,(d:Int),(c:Int))) (d:Int)).bind fun r6 =>
    cond (r6 == (M.length:Int)) ((rng ((c:Int) + 1)).bind fun v7 => some (.inl (M,(d:Int),v7))) (
     (ixO M r6).bind fun v8 => (ixO M (d:Int)).bind fun v9 => (ixO (qD M (d:Int) r6 v8 v9) (d:Int)).bind fun v10 => (ixO v10 (c:Int)).bind fun v11 => (f_N v11 p).bind fun r12 =>
     (ixO (qD M (d:Int) r6 v8 v9) (d:Int)).bind fun v13 => (zH (zKw p (M,(d:Int),(c:Int)) r12 v13) (qD M (d:Int) r6 v8 v9,0)).bind fun r21 =>
     (zH (zLH p (M,(d:Int),(c:Int)) r21) (r21,0)).bind fun r30 => (rng ((d:Int) + 1)).bind fun v31 => (rng ((c:Int) + 1)).bind fun v32 => some (.inl (r30,v31,v32)))) (some (.inr (M,(d:Int)))):=by
   unfold zLI
   simp only
   have hx:ixO M (0:Int) = some (M.getD 0 []):=by
    have:=yF (v:=M) (i:=0) [] (by omega)
    exact this
   rw [decide_eq_true (by omega),zK,hx]
   simp only [bs]
   rw [(h.row 0 (by omega)).1,yR hc,zK]
  rcases Nat.lt_or_ge d rows.length with hd | hd
  ·obtain ⟨t,t1,t2,t3,t4,t5⟩:=zN7 (M:=M) (d:=d) (c:=c) (m:=rows.length) (n:=n) hl hdm (by omega) (fun i hi => (h.row i hi).1) hc
   rw [e0,hl,yR hd,zK,t3]
   simp only [bs]
   by_cases htm:t = rows.length
   ·
    left
    refine ⟨(M,(d:Int),((c + 1:Nat):Int)),?_,M,d,pv,rfl,⟨hl,h.row,hdm,fun i hi => by have:=h.lt i hi;omega,h.one,h.low,h.off,h.mono,fun k k1 k2 j hj => ?_,h.sp⟩,by omega⟩
    ·rw [zJS (by omega),zK,zD (by omega) (by omega),bs,cs]
    ·rcases Nat.lt_or_ge j c with g | g
     ·exact h.zero k k1 k2 j g
     ·rw [show j = c from by omega];exact t4 k k1 (by omega)
   ·have htl:t < rows.length:=by omega
    have hne:=t5 htl
    have hrt:=h.row t htl
    have hrc:=hrt.2 c hc
    obtain ⟨q,q1,q2,q3,q4⟩:=zDD (p:=p) (x:=ent M t c) hp (by simp only [ent] at hne ⊢;omega) (by simp only [ent];omega)
    left
    have hM:M = mkR rows.length (fun i => M.getD i []):=zUr hl
    obtain ⟨F,hF⟩:∃ F:Nat → List Int,∀ i,F i = if i = t then M.getD d [] else if i = d then M.getD t [] else M.getD i []:=⟨_,fun _ => rfl⟩
    have hsw:qD M (d:Int) (t:Int) (M.getD t []) (M.getD d []) = mkR rows.length F:=by
     unfold qD
     rw [Int.toNat_natCast,Int.toNat_natCast]
     conv => lhs;rw [hM]
     rw [zEW,zEW]
     exact tQ fun i hi => by rw [hF,qX hd,qX htl]
    have hrow2:∀ i,i < rows.length → Row p n (F i):=fun i hi => by
     rw [hF]
     split
     ·exact h.row d hd
     ·split
      ·exact hrt
      ·exact h.row i hi
    have hFd:F d = M.getD t []:=by
     rw [hF]
     by_cases e:d = t
     ·rw [if_pos e,e]
     ·rw [if_neg e,if_pos rfl]
    obtain ⟨G,hG⟩:∃ G:Nat → List Int,∀ i,G i = if i = d then mkv n fun j => (at0 (F d) j * q) % p else F i:=⟨_,fun _ => rfl⟩
    have hGd:G d = mkv n fun j => (ent M t j * q) % p:=by rw [hG,if_pos rfl,hFd]
    have hGo:∀ i,i ≠ d → G i = if i = t then M.getD d [] else M.getD i []:=fun i hid => by rw [hG,if_neg hid,hF];simp only [hid,if_false]
    have hsc:zH (zKw p (M,(d:Int),(c:Int)) (q,true) (M.getD t [])) (mkR rows.length F,0) = some (mkR rows.length G):=by
     rw [zLi hp (F:=F) hd (hrow2 d hd) (by omega) ⟨q2,q3⟩ hrt.1 rfl]
     congr 1
     exact tQ fun i _ => (hG i).symm
    have hF3:∀ i,i < rows.length → Row p n (G i):=fun i hi => by
     rw [hG]
     split
     ·refine ⟨yB _ _,fun j hj => ?_⟩
      have e1:=Int.emod_nonneg (at0 (F d) j * q) (show p ≠ 0 by omega)
      have e2:=Int.emod_lt_of_pos (at0 (F d) j * q) (show 0 < p by omega)
      rw [yH hj];omega
     ·exact hrow2 i hi
    have hcl:=zLj hp (c:=c) (F:=G) hd hc hF3 (by omega) (by omega) (r21:=mkR rows.length G) tE (s:=(M,(d:Int),(c:Int))) rfl rfl
    rw [zJT (by omega),zF,yF [] (by omega),yF [] (by omega)]
    simp only [bs]
    rw [hsw,zIz hd,hFd]
    simp only [bs]
    rw [yG (by rw [hrt.1];exact hc)]
    simp only [bs]
    rw [show at0 (M.getD t []) c = ent M t c from rfl,q1]
    simp only [bs]
    rw [hsc]
    simp only [bs]
    rw [hcl]
    simp only [bs]
    rw [zD (by omega) (by omega),zD (by omega) (by omega)]
    simp only [bs,cs]
    have hfin:=h.pivot hp hc hd t1 htl hne q4
    refine ⟨_,rfl,_,d + 1,fun i => if i = d then c else pv i,rfl,?_,by omega⟩
    have e3:(mkR rows.length fun i => if i = d then G d else vE p n (G i) (0 - at0 (G i) c) (G d)) = (mkR rows.length fun i => if i = d then mkv n fun j => (ent M t j * q) % p else vE p n (if i = t then M.getD d [] else M.getD i []) (0 - at0 (if i = t then M.getD d [] else M.getD i []) c) (mkv n fun j => (ent M t j * q) % p)):=by
     refine tQ fun i hi => ?_
     rw [hGd]
     by_cases hid:i = d
     ·rw [if_pos hid,if_pos hid]
     ·rw [if_neg hid,if_neg hid,hGo i hid]
    rw [e3];exact hfin
  ·
   refine .inr ⟨(M,(d:Int)),?_,M,d,pv,rfl,by omega,h.take hcn fun k hk hk2 => by omega⟩
   rw [e0,decide_eq_false (by omega),zF]
 ·
  obtain ⟨M,d,pv,rfl,h,hcn⟩:=hI
  have hl:=h.len
  have hdm:=h.dm
  refine ⟨(M,(d:Int)),?_,M,d,pv,rfl,by omega,h.take hcn fun k hk hk2 j hj => h.zero k hk hk2 j hj⟩
  unfold zLI
  simp only
  by_cases h0:rows.length = 0
  ·rw [decide_eq_false (by omega),zF]
  ·have hx:ixO M (0:Int) = some (M.getD 0 []):=by
    have:=yF (v:=M) (i:=0) [] (by omega)
    exact this
   rw [decide_eq_true (by omega),zK,hx]
   simp only [bs]
   rw [(h.row 0 (by omega)).1,xC,zF]
end
end Go.Pl

namespace Go.Pl
open Go Go.Ab Go.Wk Go.Pc
theorem zH8 {v:List Int} {n:Nat} (hl:v.length = n) (hn:n ≤ 1000000):∃ k:Nat,k ≤ n ∧ f_x v = some (k:Int) ∧ (∀ j,j < k → at0 v j = 0) ∧ (k < n → at0 v k ≠ 0):=by
 unfold f_x
 rcases chk (body:=zGT v) n 0 (Nat.zero_le _) (fun i => at0 v i = 0) (fun i => (i:Int)) (fun i _ hi _ => by
   unfold zGT
   rw [hl,yR hi,zK,yG (by omega),bs]
   by_cases h:at0 v i = 0
   ·rw [jX h,zF,zD (by omega) (by omega),bs,cs];exact .inl ⟨rfl,h⟩
   ·rw [qE h,zK];exact .inr ⟨rfl,h⟩) (by
   unfold zGT
   rw [hl,xC,zF]) with ⟨h1,h2⟩ | ⟨i,_,hi,h1,h2⟩
 ·rw [show ((0:Nat):Int) = 0 from rfl] at h1
  rw [h1,bs]
  exact ⟨n,Nat.le_refl _,by simp only [hl],fun j hj => h2 j (Nat.zero_le _) hj,fun h => by omega⟩
 ·rw [show ((0:Nat):Int) = 0 from rfl] at h1
  rw [h1,bs]
  obtain ⟨k,⟨hk1,hk2⟩,hmin⟩:=zA6 (p:=fun k => k < n ∧ at0 v k ≠ 0) ⟨i,hi,h2⟩
  have hz:∀ j,j < k → at0 v j = 0:=fun j hj => Classical.byContradiction fun h => hmin j hj ⟨by omega,h⟩
  have hki:k = i:=by
   have hloop:∀ q,q ≤ k → zH (zGT v) ((k - q:Nat):Int) = some (.inr (k:Int)):=by
    intro q
    induction q with
    | zero =>
     intro _
     rw [xF]
     have e:zGT v ((k - 0:Nat):Int) = some (.inr (.inr (k:Int))):=by
      unfold zGT
      rw [show k - 0 = k from rfl,hl,yR hk1,zK,yG (by omega),bs,qE hk2,zK]
     rw [e]
    | succ q ih =>
     intro hq
     rw [xF]
     have e:zGT v ((k - (q + 1):Nat):Int) = some (.inl ((k - q:Nat):Int)):=by
      unfold zGT
      rw [hl,yR (by omega),zK,yG (by omega),bs,jX (hz _ (by omega)),zF,zD (by omega) (by omega),bs,cs,show k - (q + 1) + 1 = k - q from by omega]
     rw [e];exact ih (by omega)
   have:=hloop k (Nat.le_refl _)
   rw [Nat.sub_self,show ((0:Nat):Int) = 0 from rfl,h1] at this
   have:=Sum.inr.inj (Option.some.inj this)
   omega
  exact ⟨i,by omega,rfl,by rw [← hki];exact hz,fun _ => h2⟩
theorem zEX {v:List Int} {n k:Nat} (hl:v.length = n) (hn:n ≤ 1000000) (hk:k < n) (h0:∀ j,j < k → at0 v j = 0) (h1:at0 v k ≠ 0):f_x v = some (k:Int):=by
 obtain ⟨q,q1,q2,q3,q4⟩:=zH8 hl hn
 have:q = k:=by
  rcases Nat.lt_trichotomy q k with g | g | g
  ·exact absurd (h0 q g) (q4 (by omega))
  ·exact g
  ·exact absurd (q3 k g) h1
 rw [q2,this]
theorem zPD {p x:Int} (hp:Prime p) (h0:1 ≤ x) (h1:x ≤ p - 1):∃ r,zSF x p = some r ∧ 0 ≤ r ∧ r ≤ p - 1 ∧ (x * r) % p = 1:=by
 have h7:=hp.pos
 have hx:∃ k:Nat,1 ≤ k ∧ (k:Int) < p ∧ (x * (k:Int)) % p = 1:=by
  obtain ⟨r,_,r1,r2,r3⟩:=zDD hp h0 h1
  refine ⟨r.toNat,?_,by omega,by rw [Int.toNat_of_nonneg r1];exact r3⟩
  rcases Int.lt_or_eq_of_le r1 with g | g
  ·omega
  ·rw [← g] at r3;simp at r3
 obtain ⟨k,⟨k1,k2,k3⟩,hmin⟩:=zA6 hx
 have body:∀ i:Nat,1 ≤ i → (i:Int) < p → zKx x p (i:Int) = cond ((x * (i:Int)) % p == 1) (some (.inr (.inr (i:Int)))) (some (.inl ((i + 1:Nat):Int))):=fun i hi hip => by
  have a3:=Int.mul_nonneg (show 0 ≤ x by omega) (show 0 ≤ (i:Int) by omega)
  have a4:=zBg hp (k:=(i:Int)) ⟨by omega,by omega⟩ (b:=x) ⟨by omega,h1⟩
  rw [Int.mul_comm] at a4
  unfold zKx
  rw [decide_eq_true hip,zK,zJR hp (by omega) (by omega),bs,Int.emod_eq_of_lt (by omega) (by omega),zD (by omega) (by omega),bs]
  unfold vU
  rw [if_neg (by omega),bs,Int.tmod_eq_emod_of_nonneg a3]
  by_cases hh:(x * (i:Int)) % p = 1
  ·rw [zJS hh,zK,zK]
  ·rw [zJT hh,zF,zF,zD (by omega) (by omega),bs,cs]
 have hloop:∀ q,q + 1 ≤ k → zH (zKx x p) ((k - q:Nat):Int) = some (.inr (k:Int)):=by
  intro q
  induction q with
  | zero =>
   intro _
   rw [xF,show k - 0 = k from rfl,body k k1 k2,zJS k3,zK]
  | succ q ih =>
   intro hq
   have hne:(x * ((k - (q + 1):Nat):Int)) % p ≠ 1:=fun h => hmin (k - (q + 1)) (by omega) ⟨by omega,by omega,h⟩
   rw [xF,body _ (by omega) (by omega),zJT hne,zF,show k - (q + 1) + 1 = k - q from by omega]
   exact ih (by omega)
 have:=hloop (k - 1) (by omega)
 rw [show k - (k - 1) = 1 from by omega,show ((1:Nat):Int) = 1 from rfl] at this
 refine ⟨(k:Int),?_,by omega,by omega,k3⟩
 unfold zSF
 rw [this,bs]
section
variable {p:Int} (hp:Prime p) {n:Nat} (hn:n ≤ 100000)
 include hp hn
theorem zUs {r s:List Int} (hr:Row p n r):vE p n r p s = r:=by
 have _:=hp
 have _:=hn
 conv => rhs;rw [vM hr.1]
 refine zZ fun j hj => ?_
 have:=hr.2 j hj
 rw [Int.add_mul_emod_self_left];exact Int.emod_eq_of_lt this.1 (by omega)
def cl (p:Int) (n:Nat) (out:Mx) (pv:Nat → Nat) (v:List Int):Nat → List Int
 | 0 => v
 | i + 1 => vE p n (cl p n out pv v i) (p - at0 (cl p n out pv v i) (pv i)) (out.getD i [])
variable {out:Mx} {pv:Nat → Nat} (h:Red p n out pv) {v:List Int} (hv:Row p n v)
 include h hv
theorem zBk:∀ i,Row p n (cl p n out pv v i):=by
 have _:=hn
 have _:=h
 intro i
 cases i with
 | zero => exact hv
 | succ i => exact jH hp
theorem zPE:∀ i,i ≤ out.length → ∀ k,k < i → at0 (cl p n out pv v i) (pv k) = 0:=by
 have _:=hn;have _:=hv
 have h7:=hp.pos
 intro i
 induction i with
 | zero => intro _ k hk;omega
 | succ i ih =>
  intro hi k hk
  have hlt:=h.lt k (by omega)
  rw [cl,vE,yH hlt]
  rcases Nat.lt_or_ge k i with g | g
  ·have h1:=ih (by omega) k g
   have h2:=h.off k i (by omega) (by omega) (by omega)
   simp only [ent] at h2
   rw [h1,h2];simp
  ·have hki:k = i:=by omega
   subst hki
   have h2:=h.one k (by omega)
   simp only [ent] at h2
   rw [h2,Int.mul_one,show at0 (cl p n out pv v k) (pv k) + (p - at0 (cl p n out pv v k) (pv k)) = p from by omega,Int.emod_self]
theorem zMK:∀ i,i ≤ out.length → ∃ cf:Nat → Int,∀ j,j < n → at0 (cl p n out pv v i) j % p = (at0 v j + S out.length fun k => cf k * ent out k j) % p:=by
 have _:=hp;have _:=h;have _:=hv
 have _:=hn
 intro i
 induction i with
 | zero => intro _;exact ⟨fun _ => 0,fun j _ => by rw [wR (g:=fun _ => 0) (fun i _ => by simp),jT,Int.add_zero];rfl⟩
 | succ i ih =>
  intro hi
  obtain ⟨cf,hcf⟩:=ih (by omega)
  refine ⟨fun k => cf k + (if k = i then p - at0 (cl p n out pv v i) (pv i) else 0),fun j hj => ?_⟩
  have e1:(S out.length fun k => (cf k + (if k = i then p - at0 (cl p n out pv v i) (pv i) else 0)) * ent out k j) = (S out.length fun k => cf k * ent out k j) + (p - at0 (cl p n out pv v i) (pv i)) * ent out i j:=by
   rw [wR (g:=fun k => cf k * ent out k j + (if k = i then p - at0 (cl p n out pv v i) (pv i) else 0) * ent out k j) (fun k _ => by rw [Int.add_mul]),zJG,zAK (f:=fun k => (if k = i then p - at0 (cl p n out pv v i) (pv i) else 0) * ent out k j) (k:=i) (by omega) (fun k _ hk => by simp [hk])]
   simp
  rw [e1,cl,vE,yH hj,Int.emod_emod,← Int.add_assoc,Int.add_emod,hcf j hj,← Int.add_emod]
theorem zBl (hm:out.length ≤ 100000):f_O p out v = some (cl p n out pv v out.length):=by
 have h7:=hp.pos
 unfold f_O
 rw [tK (by rw [hv.1];omega),bs]
 have:=zQ (body:=zRl p out) (r:=cl p n out pv v out.length) (fun i => (cl p n out pv v i,(i:Int))) out.length (fun i hi => by
  have hr:=zBk hp hn h hv i
  have ho:=h.row i hi
  have hlt:=h.lt i hi
  have hone:=h.one i hi
  have hlow:=h.low i hi
  simp only [ent] at hone hlow
  have he:=hr.2 (pv i) hlt
  unfold zRl
  simp only
  rw [yR hi,zK,yF [] hi,bs,zEX ho.1 (by omega) hlt hlow (by rw [hone];decide),bs,hr.1,yR hlt,zK,yG (by rw [hr.1];exact hlt),bs]
  by_cases hz:at0 (cl p n out pv v i) (pv i) = 0
  ·rw [jX hz,zF,zD (by omega) (by omega),bs,cs,cl,hz,Int.sub_zero,zUs hp hn hr]
  ·rw [qE hz,zK,bs,zD (by omega) (by omega),bs,bs,vX hp hr ho ⟨by omega,by omega⟩ (by omega),bs,zD (by omega) (by omega),bs,cs]
   rfl) (by
  unfold zRl
  simp only
  rw [xC,zF])
 rw [show ((0:Nat):Int) = 0 from rfl] at this
 simp only [cl] at this
 rw [this,bs]
end
end Go.Pl
