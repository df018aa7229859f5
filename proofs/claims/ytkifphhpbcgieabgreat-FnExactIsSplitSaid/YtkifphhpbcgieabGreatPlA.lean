/- The program and the reference agree which extensions split, for all arguments (FnExactIsSplit). This file is a part of the proof. -/
import Derived.Test.YtkifphhpbcgieabGreatAbB
import Derived.Test.YtkifphhpbcgieabGreatWF
namespace Go.Pc
abbrev Vec:=List Int
structure Lvl where
 o:Int
 w:Vec
 cs:List Vec
abbrev Pcp:=List Lvl
def zeros (n:Nat):Vec:=List.replicate n 0
def iter {α:Type}:Nat → (α → α) → α → α
 | 0,_,x => x
 | n + 1,f,x => iter n f (f x)
theorem vA {α:Type} (f:α → α):∀ (n:Nat) (x:α),iter (n + 1) f x = f (iter n f x)
 | 0,_ => rfl
 | n + 1,x => by rw [iter,vA f n (f x)];rfl
theorem zDh {α:Type} (f:α → α) (a:Nat):∀ (b:Nat) (x:α),iter (a + b) f x = iter a f (iter b f x)
 | 0,_ => rfl
 | b + 1,x => by
  show iter (a + b) f (f x) = _
  rw [zDh f a b (f x)];rfl
def img {α:Type} (m:α → α → α):List α → Vec → α → α
 | c :: cs,x :: xs,acc => img m cs xs (iter x.toNat (fun v => m v c) acc)
 | _,_,acc => acc
def V:Pcp → Vec → Prop
 | [],v => v = []
 | l :: P,v => match v with
  | [] => False
  | a :: x => (0 ≤ a ∧ a < l.o) ∧ V P x
def mul:Pcp → Vec → Vec → Vec
 | l :: P,a :: x,b :: y =>
  let r:=mul P (iter b.toNat (fun v => img (mul P) l.cs v (zeros P.length)) x) y
  if a + b ≥ l.o then (a + b - l.o) :: mul P l.w r else (a + b) :: r
 | _,_,_ => []
def Ok:Pcp → Prop
 | [] => True
 | l :: P => 1 < l.o ∧ V P l.w ∧ l.cs.length = P.length ∧ (∀ c ∈ l.cs,V P c) ∧ Ok P
structure Mon {α:Type} (S:α → Prop) (m:α → α → α) (e:α):Prop where
 cl:∀ {a b},S a → S b → S (m a b)
 ein:S e
 assoc:∀ {a b c},S a → S b → S c → m (m a b) c = m a (m b c)
 onel:∀ {a},S a → m e a = a
 oner:∀ {a},S a → m a e = a
structure Grp {α:Type} (S:α → Prop) (m:α → α → α) (e:α):Prop extends Mon S m e where
 inv:∀ {a},S a → ∃ b,S b ∧ m a b = e
theorem Grp.invl {α:Type} {S:α → Prop} {m:α → α → α} {e:α} (h:Grp S m e) {a:α} (ha:S a):∃ b,S b ∧ m a b = e ∧ m b a = e:=by
 obtain ⟨b,hb,h1⟩:=h.inv ha
 obtain ⟨c,hc,h2⟩:=h.inv hb
 refine ⟨b,hb,h1,?_⟩
 have:a = c:=by
  rw [← h.oner ha,← h2,← h.assoc ha hb hc,h1,h.onel hc]
 rw [this];exact h2
theorem Grp.cancel_l {α:Type} {S:α → Prop} {m:α → α → α} {e:α} (h:Grp S m e) {a b c:α} (ha:S a) (hb:S b) (hc:S c) (hh:m a b = m a c):b = c:=by
 obtain ⟨d,hd,_,h2⟩:=h.invl ha
 rw [← h.onel hb,← h.onel hc,← h2,h.assoc hd ha hb,h.assoc hd ha hc,hh]
section
variable {α:Type} {S:α → Prop} {m:α → α → α} {e:α}
def pw (m:α → α → α) (e:α) (x:α) (k:Nat):α:=iter k (fun v => m v x) e
theorem uK (h:Mon S m e) {x:α} (hx:S x):∀ k,S (pw m e x k)
 | 0 => h.ein
 | k + 1 => by rw [pw,vA];exact h.cl (uK h hx k) hx
theorem wS {f:α → α} (hf:∀ a,S a → S (f a)):∀ (k:Nat) {x:α},S x → S (iter k f x)
 | 0,_,hx => hx
 | k + 1,_,hx => wS hf k (hf _ hx)
theorem zDi (h:Mon S m e) {x a:α} (hx:S x) (ha:S a):∀ k,iter k (fun v => m v x) a = m a (pw m e x k)
 | 0 => (h.oner ha).symm
 | k + 1 => by
  rw [vA,zDi h hx ha k]
  show _ = m a (iter (k + 1) (fun v => m v x) e)
  rw [vA]
  exact h.assoc ha (uK h hx k) hx
theorem zFB (h:Mon S m e) {x:α} (hx:S x) (a b:Nat):pw m e x (a + b) = m (pw m e x a) (pw m e x b):=by
 rw [Nat.add_comm,pw,zDh,← zDi h hx (uK h hx a) b];rfl
theorem zPj (h:Mon S m e) {x:α} (hx:S x):pw m e x 1 = x:=h.onel hx
theorem zPk (h:Mon S m e) {x:α} (hx:S x) (k:Nat):pw m e x (k + 1) = m x (pw m e x k):=by
 rw [Nat.add_comm,zFB h hx 1 k,zPj h hx]
theorem sK (h:∀ {a b},S a → S b → S (m a b)):∀ (cs:List α) (x:Vec) {a:α},(∀ c ∈ cs,S c) → S a → S (img m cs x a)
 | c :: cs,x :: xs,_,hc,ha => by
  simp only [img]
  exact sK h cs xs (fun c h => hc c (by simp [h])) (wS (fun a ha => h ha (hc c (by simp))) _ ha)
 | [],_,_,_,ha => by simpa [img] using ha
 | _ :: _,[],_,_,ha => by simpa [img] using ha
theorem zDS (h:Mon S m e) (cs:List α) (x:Vec) {a:α} (hc:∀ c ∈ cs,S c) (ha:S a):S (img m cs x a):=sK h.cl cs x hc ha
theorem zDj (h:Mon S m e):∀ (cs:List α) (x:Vec) {a:α},(∀ c ∈ cs,S c) → S a → img m cs x a = m a (img m cs x e)
 | c :: cs,x :: xs,a,hc,ha => by
  have h1:S c:=hc c (by simp)
  have h2:∀ c ∈ cs,S c:=fun c h => hc c (by simp [h])
  simp only [img]
  rw [zDi h h1 ha,zDj h cs xs h2 (h.cl ha (uK h h1 _)),zDi h h1 h.ein,zDj h cs xs h2 (h.cl h.ein (uK h h1 _)),h.onel (uK h h1 _),
   h.assoc ha (uK h h1 _) (zDS h cs xs h2 h.ein)]
 | [],_,a,_,ha => by simp [img,h.oner ha]
 | _ :: _,[],a,_,ha => by simp [img,h.oner ha]
theorem tO (h:Mon S m e) {c:α} {cs:List α} {x:Int} {xs:Vec} (hc:S c) (hcs:∀ c ∈ cs,S c):img m (c :: cs) (x :: xs) e = m (pw m e c x.toNat) (img m cs xs e):=by
 simp only [img]
 rw [zDj h cs xs hcs (wS (fun a ha => h.cl ha hc) _ h.ein)]
 rfl
theorem zA1 (m:α → α → α):∀ (cs:List α) (n:Nat) (a:α),img m cs (zeros n) a = a
 | [],_,_ => by simp [img]
 | _ :: _,0,_ => by simp [zeros,img]
 | c :: cs,n + 1,a => by
  simp only [zeros,List.replicate_succ,img,Int.toNat_zero,iter]
  exact zA1 m cs n a
theorem zFC (h:Mon S m e) {g:α} (hg:S g):∀ (cs ds:List α) (x:Vec),(∀ c ∈ cs,S c) → (∀ c ∈ ds,S c) → cs.length = ds.length → (∀ (k:Nat) c d,cs[k]? = some c → ds[k]? = some d → m c g = m g d) → m (img m cs x e) g = m g (img m ds x e)
 | [],[],x,_,_,_,_ => by simp [img,h.onel hg,h.oner hg]
 | c :: cs,d :: ds,[],_,_,_,_ => by simp [img,h.onel hg,h.oner hg]
 | c :: cs,d :: ds,x :: xs,hc,hd,hl,hp => by
  have hc0:S c:=hc c (by simp)
  have hd0:S d:=hd d (by simp)
  have hcs:∀ c ∈ cs,S c:=fun c h => hc c (by simp [h])
  have hds:∀ c ∈ ds,S c:=fun c h => hd c (by simp [h])
  have key:∀ k,m (pw m e c k) g = m g (pw m e d k):=by
   intro k
   induction k with
   | zero => simp [pw,iter,h.onel hg,h.oner hg]
   | succ k ih =>
    have h0:m c g = m g d:=hp 0 c d rfl rfl
    rw [pw,vA,pw,vA]
    show m (m (pw m e c k) c) g = m g (m (pw m e d k) d)
    rw [h.assoc (uK h hc0 k) hc0 hg,h0,← h.assoc (uK h hc0 k) hg hd0,ih,h.assoc hg (uK h hd0 k) hd0]
  rw [tO h hc0 hcs,tO h hd0 hds,h.assoc (uK h hc0 _) (zDS h _ _ hcs h.ein) hg,zFC h hg cs ds xs hcs hds (by simpa using hl) (fun k c d h1 h2 => hp (k + 1) c d (by simpa using h1) (by simpa using h2)),
   ← h.assoc (uK h hc0 _) hg (zDS h _ _ hds h.ein),key,h.assoc hg (uK h hd0 _) (zDS h _ _ hds h.ein)]
theorem zMz {β:Type} {T:β → Prop} {n:β → β → β} {f:β} (h:Mon S m e) (h':Mon T n f) (φ:α → β) (hin:∀ a,S a → T (φ a)) (h1:φ e = f) (hm:∀ a b,S a → S b → φ (m a b) = n (φ a) (φ b)):∀ (cs:List α) (x:Vec),(∀ c ∈ cs,S c) → φ (img m cs x e) = img n (cs.map φ) x f
 | [],_,_ => by simp [img,h1]
 | c :: cs,[],_ => by simp [img,h1]
 | c :: cs,x :: xs,hc => by
  have hc0:S c:=hc c (by simp)
  have hcs:∀ c ∈ cs,S c:=fun c h => hc c (by simp [h])
  have key:∀ k,φ (pw m e c k) = pw n f (φ c) k:=by
   intro k
   induction k with
   | zero => simp [pw,iter,h1]
   | succ k ih =>
    rw [pw,vA,pw,vA]
    show φ (m (pw m e c k) c) = n (pw n f (φ c) k) (φ c)
    rw [hm _ _ (uK h hc0 k) hc0,ih]
  rw [tO h hc0 hcs,List.map_cons,tO h' (hin c hc0) (by simp only [List.mem_map];rintro _ ⟨c,hc',rfl⟩;exact hin c (hcs c hc')),hm _ _ (uK h hc0 _) (zDS h _ _ hcs h.ein),key,zMz h h' φ hin h1 hm cs xs hcs]
end
theorem wE:∀ {P:Pcp},Ok P → V P (zeros P.length)
 | [],_ => rfl
 | l :: P,h => by
  simp only [Ok] at h
  simp only [List.length_cons,zeros,List.replicate_succ,V]
  exact ⟨by omega,wE h.2.2.2.2⟩
theorem xH:∀ {P:Pcp},Ok P → ∀ {x y:Vec},V P x → V P y → V P (mul P x y)
 | [],_,_,_,hx,hy => by simp [mul,V]
 | l :: P,h,[],_,hx,_ => by simp [V] at hx
 | l :: P,h,_ :: _,[],_,hy => by simp [V] at hy
 | l :: P,h,a :: x,b :: y,hx,hy => by
  simp only [Ok] at h
  simp only [V] at hx hy
  have h1:∀ v,V P v → V P (img (mul P) l.cs v (zeros P.length)):=fun v hv => sK (xH h.2.2.2.2) l.cs v h.2.2.2.1 (wE h.2.2.2.2)
  have h2:=xH h.2.2.2.2 (wS h1 b.toNat hx.2) hy.2
  simp only [mul]
  split
  ·exact ⟨by omega,xH h.2.2.2.2 h.2.1 h2⟩
  ·exact ⟨by omega,h2⟩
def Rel {α:Type} (m:α → α → α) (e:α):Pcp → List α → Prop
 | [],s => s = []
 | l :: P,s => match s with
  | [] => False
  | g :: s => pw m e g l.o.toNat = img m s l.w e ∧ (∀ (k:Nat) c d,s[k]? = some c → l.cs[k]? = some d → m c g = m g (img m s d e)) ∧ Rel m e P s
section
variable {α:Type} {S:α → Prop} {m:α → α → α} {e:α}
theorem zWr (h:Mon S m e):∀ (P:Pcp) (s:List α),Ok P → (∀ g ∈ s,S g) → Rel m e P s → ∀ x y,V P x → V P y → img m s (mul P x y) e = m (img m s x e) (img m s y e)
 | [],s,_,_,hr,x,y,hx,hy => by
  simp only [Rel] at hr
  subst hr
  simp [img,h.onel h.ein]
 | l :: P,[],_,_,hr,_,_,_,_ => by simp [Rel] at hr
 | l :: P,g :: s,_,_,_,[],_,hx,_ => by simp [V] at hx
 | l :: P,g :: s,_,_,_,_ :: _,[],_,hy => by simp [V] at hy
 | l :: P,g :: s,hk,hs,hr,a :: x,b :: y,hx,hy => by
  simp only [Ok] at hk
  simp only [Rel] at hr
  simp only [V] at hx hy
  obtain ⟨ho,hw,hcl,hcs,hkP⟩:=hk
  obtain ⟨hr1,hr2,hr3⟩:=hr
  have hg:S g:=hs g (by simp)
  have hss:∀ c ∈ s,S c:=fun c hc => hs c (by simp [hc])
  have hlen:s.length = P.length:=by
   clear hr1 hr2 hx hy hw hcl hcs hs hss
   induction P generalizing s with
   | nil => simp only [Rel] at hr3;simp [hr3]
   | cons l P ih =>
    cases s with
    | nil => simp [Rel] at hr3
    | cons c s => simp only [Rel] at hr3;simp only [Ok] at hkP;simp [ih s hkP.2.2.2.2 hr3.2.2]
  have ih:=zWr h P s hkP hss hr3
  have hφ:∀ v,S (img m s v e):=fun v => zDS h s v hss h.ein
  have hmP:∀ {a b},V P a → V P b → V P (mul P a b):=xH hkP
  have hσin:∀ v,V P v → V P (img (mul P) l.cs v (zeros P.length)):=fun v hv => sK hmP l.cs v hcs (wE hkP)
  have hσ:∀ v,V P v → m (img m s v e) g = m g (img m s (img (mul P) l.cs v (zeros P.length)) e):=by
   intro v hv
   have key:∀ (cs:List Vec) (v:Vec) (acc:Vec),(∀ c ∈ cs,V P c) → V P acc → img m s (img (mul P) cs v acc) e = img m (cs.map fun c => img m s c e) v (img m s acc e):=by
    intro cs
    induction cs with
    | nil => intro v acc _ _;simp [img]
    | cons c cs ihc =>
     intro v acc hc hacc
     cases v with
     | nil => simp [img]
     | cons z v =>
      have hc0:V P c:=hc c (by simp)
      have it:∀ k acc,V P acc → img m s (iter k (fun v => mul P v c) acc) e = iter k (fun v => m v (img m s c e)) (img m s acc e):=by
       intro k
       induction k with
       | zero => intro acc _;rfl
       | succ k ihk =>
        intro acc hacc
        simp only [iter]
        rw [ihk _ (hmP hacc hc0),ih _ _ hacc hc0]
      simp only [img,List.map_cons]
      rw [ihc v _ (fun c h => hc c (by simp [h])) (wS (fun a ha => hmP ha hc0) _ hacc),it _ _ hacc]
   rw [key l.cs v (zeros P.length) hcs (wE hkP),zA1]
   refine zFC h hg s _ v hss (by simp only [List.mem_map];rintro _ ⟨c,_,rfl⟩;exact hφ c) (by simp [hlen,hcl]) ?_
   intro k c d hc hd
   simp only [List.getElem?_map,Option.map_eq_some_iff] at hd
   obtain ⟨d',hd',rfl⟩:=hd
   exact hr2 k c d' hc hd'
  have hσk:∀ k v,V P v → m (img m s v e) (pw m e g k) = m (pw m e g k) (img m s (iter k (fun v => img (mul P) l.cs v (zeros P.length)) v) e):=by
   intro k
   induction k with
   | zero => intro v _;simp [pw,iter,h.onel (hφ v),h.oner (hφ v)]
   | succ k ihk =>
    intro v hv
    rw [zPk h hg,← h.assoc (hφ v) hg (uK h hg k),hσ v hv,h.assoc hg (hφ _) (uK h hg k),ihk _ (hσin v hv),← h.assoc hg (uK h hg k) (hφ _)]
    rfl
  have hpa:=uK h hg a.toNat
  have hpb:=uK h hg b.toNat
  have hit:V P (iter b.toNat (fun v => img (mul P) l.cs v (zeros P.length)) x):=wS hσin _ hx.2
  have hmain:m (img m (g :: s) (a :: x) e) (img m (g :: s) (b :: y) e) = m (pw m e g (a.toNat + b.toNat)) (img m s (mul P (iter b.toNat (fun v => img (mul P) l.cs v (zeros P.length)) x) y) e):=by
   rw [tO h hg hss,tO h hg hss,h.assoc hpa (hφ x) (h.cl hpb (hφ y)),← h.assoc (hφ x) hpb (hφ y),hσk _ _ hx.2,h.assoc hpb (hφ _) (hφ y),← ih _ _ hit hy.2,← h.assoc hpa hpb (hφ _),zFB h hg]
  rw [hmain]
  simp only [mul]
  split
  ·rename_i hge
   rw [tO h hg hss,ih _ _ hw (hmP hit hy.2),← hr1,← h.assoc (uK h hg _) (uK h hg _) (hφ _),← zFB h hg]
   congr 2
   omega
  ·rw [tO h hg hss]
   congr 2
   omega
end
def wF (n j:Nat):Vec:=(zeros n).set j 1
def sig (P:Pcp) (l:Lvl) (v:Vec):Vec:=img (mul P) l.cs v (zeros P.length)
def wV:Pcp → Prop
 | [] => True
 | l :: P => wV P ∧ Rel (mul P) (zeros P.length) P l.cs ∧ sig P l l.w = l.w ∧ ∀ j,j < P.length → mul P l.w (iter l.o.toNat (sig P l) (wF P.length j)) = mul P (wF P.length j) l.w
theorem zHh (n:Nat):wF (n + 1) 0 = 1 :: zeros n:=rfl
theorem zNk (n j:Nat):wF (n + 1) (j + 1) = 0 :: wF n j:=rfl
def xK (n:Nat):List Vec:=(List.range n).map (wF n)
theorem zKK (n:Nat):xK (n + 1) = (1 :: zeros n) :: (xK n).map (0 :: ·):=by
 simp only [xK,List.range_succ_eq_map,List.map_cons,List.map_map,zHh]
 congr 1
theorem zCE:∀ {P:Pcp},Ok P → ∀ {j:Nat},j < P.length → V P (wF P.length j)
 | [],_,_,hj => by simp at hj
 | l :: P,h,0,_ => by
  simp only [Ok] at h
  rw [List.length_cons,zHh];simp only [V];exact ⟨by omega,wE h.2.2.2.2⟩
 | l :: P,h,j + 1,hj => by
  simp only [Ok] at h
  rw [List.length_cons,zNk];simp only [V];exact ⟨by omega,zCE h.2.2.2.2 (by simpa using hj)⟩
theorem zDT {l:Lvl} {P:Pcp} (h:Ok (l :: P)) {v:Vec} (_hv:V P v):V P (sig P l v):=by
 simp only [Ok] at h
 exact sK (xH h.2.2.2.2) l.cs v h.2.2.2.1 (wE h.2.2.2.2)
theorem yP (l:Lvl) (P:Pcp) (a b:Int) (x y:Vec):mul (l :: P) (a :: x) (b :: y) = if a + b ≥ l.o then (a + b - l.o) :: mul P l.w (mul P (iter b.toNat (sig P l) x) y) else (a + b) :: mul P (iter b.toNat (sig P l) x) y:=rfl
theorem zNl {n k:Nat} {c:Vec} (h:(xK n)[k]? = some c):k < n ∧ c = wF n k:=by
 simp only [xK,List.getElem?_map,Option.map_eq_some_iff] at h
 obtain ⟨j,hj,rfl⟩:=h
 obtain ⟨hk,rfl⟩:=List.getElem?_eq_some_iff.1 hj
 simp at hk
 exact ⟨hk,by simp⟩
theorem normal:∀ (P:Pcp),Ok P → (∀ Q,Q <:+ P → Mon (V Q) (mul Q) (zeros Q.length)) → ∀ x,V P x → img (mul P) (xK P.length) x (zeros P.length) = x
 | [],_,_,x,hx => by simp only [V] at hx;subst hx;simp [xK,img,zeros]
 | l :: P,_,_,[],hx => by simp [V] at hx
 | l :: P,h,hM,a :: x,hx => by
  have hMl:=hM (l :: P) (List.suffix_refl _)
  have hMP:=hM P (List.suffix_cons _ _)
  have h':=h
  simp only [Ok] at h
  simp only [V] at hx
  rw [List.length_cons,zKK]
  have hz:V P (zeros P.length):=wE h.2.2.2.2
  have hu0:V (l :: P) (1 :: zeros P.length):=by simp only [V];exact ⟨by omega,hz⟩
  have hus:∀ c ∈ (xK P.length).map (0 :: ·),V (l :: P) c:=by
   intro c hc
   simp only [xK,List.map_map,List.mem_map,List.mem_range] at hc
   obtain ⟨j,hj,rfl⟩:=hc
   simp only [Function.comp,V]
   exact ⟨by omega,zCE h.2.2.2.2 hj⟩
  have hzl:V (l :: P) (zeros (P.length + 1)):=wE (P:=l :: P) h'
  rw [show zeros (P.length + 1) = zeros (l :: P).length from rfl]
  rw [tO hMl hu0 hus]
  have sz:∀ k:Nat,iter k (sig P l) (zeros P.length) = zeros P.length:=by
   intro k
   induction k with
   | zero => rfl
   | succ k ih => simp only [iter];rw [show sig P l (zeros P.length) = zeros P.length from zA1 _ _ _ _];exact ih
  have h1:∀ k:Nat,(k:Int) < l.o → pw (mul (l :: P)) (zeros (l :: P).length) (1 :: zeros P.length) k = (k:Int) :: zeros P.length:=by
   intro k
   induction k with
   | zero => intro _;rfl
   | succ k ih =>
    intro hk
    rw [pw,vA]
    show mul (l :: P) (pw (mul (l :: P)) (zeros (l :: P).length) (1 :: zeros P.length) k) (1 :: zeros P.length) = _
    rw [ih (by omega),yP,if_neg (by omega)]
    rw [sz,hMP.onel hz]
    rfl
  have h2:∀ (cs:List Vec) (y acc:Vec),(∀ c ∈ cs,V P c) → V P acc → img (mul (l :: P)) (cs.map (0 :: ·)) y (0 :: acc) = 0 :: img (mul P) cs y acc:=by
   intro cs
   induction cs with
   | nil => intro y acc _ _;simp [img]
   | cons c cs ih =>
    intro y acc hc hacc
    cases y with
    | nil => simp [img]
    | cons z y =>
     have hc0:V P c:=hc c (by simp)
     have it:∀ (k:Nat) (acc:Vec),V P acc → iter k (fun v => mul (l :: P) v (0 :: c)) (0 :: acc) = 0 :: iter k (fun v => mul P v c) acc:=by
      intro k
      induction k with
      | zero => intro _ _;rfl
      | succ k ihk =>
       intro acc hacc
       simp only [iter]
       rw [yP,if_neg (by omega)]
       exact ihk _ (xH h.2.2.2.2 hacc hc0)
     simp only [List.map_cons,img]
     rw [it _ _ hacc,ih _ _ (fun c h => hc c (by simp [h])) (wS (fun a ha => xH h.2.2.2.2 ha hc0) _ hacc)]
  have hun:∀ c ∈ xK P.length,V P c:=by
   intro c hc
   simp only [xK,List.mem_map,List.mem_range] at hc
   obtain ⟨j,hj,rfl⟩:=hc
   exact zCE h.2.2.2.2 hj
  rw [h1 a.toNat (by omega),show zeros (l :: P).length = 0 :: zeros P.length from rfl,h2 _ _ _ hun hz,normal P h.2.2.2.2 (fun Q hQ => hM Q (hQ.trans (List.suffix_cons _ _))) x hx.2,yP,if_neg (by omega)]
  simp only [Int.toNat_zero,iter]
  rw [hMP.onel hx.2]
  congr 1
  omega
theorem zM0:∀ (P:Pcp),Ok P → wV P → Grp (V P) (mul P) (zeros P.length)
 | [],_,_ => by
  refine ⟨⟨fun _ _ => rfl,rfl,fun _ _ _ => rfl,?_,?_⟩,fun ha => ⟨[],rfl,rfl⟩⟩ <;>
  ·intro a ha
   simp only [V] at ha;subst ha;rfl
 | l :: P,h,hc => by
  have h':=h
  simp only [Ok] at h
  simp only [wV] at hc
  obtain ⟨ho,hw,hcl,hcs,hP⟩:=h
  obtain ⟨hcP,hrel,hfix,hinn⟩:=hc
  have N:=zM0 P hP hcP
  have hM:∀ Q,Q <:+ P → Mon (V Q) (mul Q) (zeros Q.length):=by
   intro Q hQ
   obtain ⟨t,ht⟩:=hQ
   have:Ok Q ∧ wV Q:=by
    clear N hw hcl hcs hrel hfix hinn h'
    induction t generalizing P with
    | nil => simp at ht;subst ht;exact ⟨hP,hcP⟩
    | cons a t ih =>
     simp at ht;subst ht
     simp only [Ok] at hP
     simp only [wV] at hcP
     exact ih (t ++ Q) hP.2.2.2.2 hcP.1 rfl
   have hlt:SizeOf.sizeOf Q ≤ SizeOf.sizeOf P:=by
    rw [← ht]
    clear N hw hcl hcs hrel hfix hinn h' hP hcP ht this
    induction t with
    | nil => simp
    | cons a t ih => simp only [List.cons_append,List.cons.sizeOf_spec];omega
   exact (zM0 Q this.1 this.2).toMon
  have hz:V P (zeros P.length):=wE hP
  have σin:∀ v,V P v → V P (sig P l v):=fun _ hv => zDT h' hv
  have σhom:∀ x y,V P x → V P y → sig P l (mul P x y) = mul P (sig P l x) (sig P l y):=fun x y hx hy => zWr N.toMon P l.cs hP hcs hrel x y hx hy
  have σz:sig P l (zeros P.length) = zeros P.length:=zA1 _ _ _ _
  have itin:∀ (k:Nat) v,V P v → V P (iter k (sig P l) v):=fun k v hv => wS σin k hv
  have ithom:∀ (k:Nat) x y,V P x → V P y → iter k (sig P l) (mul P x y) = mul P (iter k (sig P l) x) (iter k (sig P l) y):=by
   intro k
   induction k with
   | zero => intro _ _ _ _;rfl
   | succ k ih => intro x y hx hy;simp only [iter];rw [σhom x y hx hy,ih _ _ (σin x hx) (σin y hy)]
  have itz:∀ k:Nat,iter k (sig P l) (zeros P.length) = zeros P.length:=by
   intro k
   induction k with
   | zero => rfl
   | succ k ih => simp only [iter];rw [σz];exact ih
  have itw:∀ k:Nat,iter k (sig P l) l.w = l.w:=by
   intro k
   induction k with
   | zero => rfl
   | succ k ih => simp only [iter];rw [hfix];exact ih
  have hun:∀ c ∈ xK P.length,V P c:=by
   intro c hc
   simp only [xK,List.mem_map,List.mem_range] at hc
   obtain ⟨j,hj,rfl⟩:=hc
   exact zCE hP hj
  have inner:∀ x,V P x → mul P x l.w = mul P l.w (iter l.o.toNat (sig P l) x):=by
   intro x hx
   have hnf:=normal P hP hM x hx
   have hmap:=zMz N.toMon N.toMon (iter l.o.toNat (sig P l)) (fun a ha => itin _ a ha) (itz _) (fun a b ha hb => ithom _ a b ha hb) (xK P.length) x hun
   rw [← hnf,hmap]
   refine zFC N.toMon hw _ _ x hun (by simp only [List.mem_map];rintro _ ⟨c,hc,rfl⟩;exact itin _ c (hun c hc)) (by simp) ?_
   intro k c d hc hd
   rw [List.getElem?_map,Option.map_eq_some_iff] at hd
   obtain ⟨c',hc',rfl⟩:=hd
   rw [hc] at hc'
   simp at hc';subst hc'
   obtain ⟨hk,rfl⟩:=zNl hc
   exact (hinn k hk).symm
  have e:∀ (x y z:Vec) (b c:Int),V P x → V P y → V P z → 0 ≤ b → 0 ≤ c →
    mul P (iter c.toNat (sig P l) (mul P (iter b.toNat (sig P l) x) y)) z = mul P (iter (b + c).toNat (sig P l) x) (mul P (iter c.toNat (sig P l) y) z) ∧
    mul P (iter c.toNat (sig P l) (mul P l.w (mul P (iter b.toNat (sig P l) x) y))) z = mul P l.w (mul P (iter (b + c).toNat (sig P l) x) (mul P (iter c.toNat (sig P l) y) z)) ∧
    (l.o ≤ b + c → mul P (iter (b + c - l.o).toNat (sig P l) x) (mul P l.w (mul P (iter c.toNat (sig P l) y) z)) = mul P l.w (mul P (iter (b + c).toNat (sig P l) x) (mul P (iter c.toNat (sig P l) y) z))):=by
   intro x y z b c hx hy hz hb hcc
   have hbx:=itin b.toNat x hx
   have hcy:=itin c.toNat y hy
   have hbc:iter c.toNat (sig P l) (iter b.toNat (sig P l) x) = iter (b + c).toNat (sig P l) x:=by
    rw [← zDh];congr 1;omega
   have hbcx:=itin (b + c).toNat x hx
   have e1:mul P (iter c.toNat (sig P l) (mul P (iter b.toNat (sig P l) x) y)) z = mul P (iter (b + c).toNat (sig P l) x) (mul P (iter c.toNat (sig P l) y) z):=by
    rw [ithom _ _ _ hbx hy,hbc,N.assoc hbcx hcy hz]
   refine ⟨e1,?_,?_⟩
   ·rw [ithom _ _ _ hw (N.cl hbx hy),itw,N.assoc hw (itin _ _ (N.cl hbx hy)) hz,e1]
   ·intro hge
    have hcyz:=N.cl hcy hz
    rw [← N.assoc (itin _ x hx) hw hcyz,inner _ (itin _ x hx),← zDh,N.assoc hw (itin _ x hx) hcyz]
    congr 3
    omega
  refine ⟨⟨fun ha hb => xH h' ha hb,wE h',?_,?_,?_⟩,?_⟩
  ·intro A B C hA hB hC
   match A,B,C,hA,hB,hC with
   | a :: x,b :: y,c :: z,hA,hB,hC =>
    simp only [V] at hA hB hC
    obtain ⟨e1,e2,e3⟩:=e x y z b c hA.2 hB.2 hC.2 hB.1.1 hC.1.1
    by_cases c1:a + b ≥ l.o <;> by_cases c2:b + c ≥ l.o
    ·rw [yP,if_pos c1,yP l P b c,if_pos c2,yP,yP,e2,e3 c2]
     by_cases c3:a + b - l.o + c ≥ l.o
     ·rw [if_pos c3,if_pos (by omega)];congr 1;omega
     ·rw [if_neg c3,if_neg (by omega)];congr 1;omega
    ·rw [yP,if_pos c1,yP l P b c,if_neg c2,yP,yP,e2,if_neg (by omega),if_pos (by omega)]
     congr 1;omega
    ·rw [yP,if_neg c1,yP l P b c,if_pos c2,yP,yP,e1,e3 c2,if_pos (by omega),if_neg (by omega)]
     congr 1;omega
    ·rw [yP,if_neg c1,yP l P b c,if_neg c2,yP,yP,e1]
     by_cases c3:a + b + c ≥ l.o
     ·rw [if_pos c3,if_pos (by omega)];congr 1;omega
     ·rw [if_neg c3,if_neg (by omega)];congr 1;omega
  ·intro A hA
   match A,hA with
   | a :: x,hA =>
    simp only [V] at hA
    show mul (l :: P) (0 :: zeros P.length) (a :: x) = _
    rw [yP,if_neg (by omega),itz,N.onel hA.2,Int.zero_add]
  ·intro A hA
   match A,hA with
   | a :: x,hA =>
    simp only [V] at hA
    show mul (l :: P) (a :: x) (0 :: zeros P.length) = _
    rw [yP,if_neg (by omega)]
    simp only [Int.toNat_zero,iter]
    rw [N.oner hA.2,Int.add_zero]
  ·intro A hA
   match A,hA with
   | a :: x,hA =>
    simp only [V] at hA
    by_cases ha:a = 0
    ·obtain ⟨y,hy,h1⟩:=N.inv hA.2
     refine ⟨0 :: y,by simp only [V];exact ⟨by omega,hy⟩,?_⟩
     rw [yP,if_neg (by omega)]
     simp only [Int.toNat_zero,iter]
     rw [h1,ha];rfl
    ·have hx1:=itin (l.o - a).toNat x hA.2
     obtain ⟨y,hy,h1⟩:=N.inv (N.cl hw hx1)
     refine ⟨(l.o - a) :: y,by simp only [V];exact ⟨by omega,hy⟩,?_⟩
     rw [yP,if_pos (by omega),← N.assoc hw hx1 hy,h1,show a + (l.o - a) - l.o = 0 by omega]
     rfl
termination_by P => P
end Go.Pc

namespace Go.Pl
open Go Go.Ab
theorem bs {α β:Type} (x:α) (f:α → Option β):(some x).bind f = f x:=by simp only [Option.bind_some]
theorem zH {α:Type} (x y:α):cond true x y = x:=by simp only [cond_true]
theorem zF {α:Type} (x y:α):cond false x y = y:=by simp only [cond_false]
theorem zC {n:Int} (h1:-9223372036854775808 ≤ n) (h2:n ≤ 9223372036854775807):rng n = some n:=by
 unfold rng
 rw [if_pos]
 simp only [inR,Bool.and_eq_true,decide_eq_true_eq]
 omega
theorem wY {α:Type} (xs:List α) (i:Nat):ixO xs (i:Int) = xs[i]?:=by
 unfold ixO;rw [if_pos (by omega)];simp
theorem zAN {α:Type} {xs:List α} {i:Nat} (h:i < xs.length):ixO xs (i:Int) = some xs[i]:=by
 rw [wY];exact List.getElem?_eq_getElem h
theorem yR {n:Nat} (h:n ≤ 68719476736):yW (n:Int) = some n:=by
 unfold yW;rw [if_pos (by omega)];simp
theorem yK {α:Type} {xs ys:List α} (h:xs.length + ys.length ≤ 68719476736):xQ xs ys = some (xs ++ ys):=by
 unfold xQ;rw [if_pos h]
theorem zP {σ ρ:Type} {body:σ → Option (σ ⊕ ρ)} {r:ρ} (S:Nat → σ) (n:Nat) (h:∀ i,i < n → body (S i) = some (.inl (S (i + 1)))) (he:body (S n) = some (.inr r)):zG body (S 0) = some r:=by
 have key:∀ k i,i + k = n → zG body (S i) = some r:=by
  intro k
  induction k with
  | zero => intro i hi;rw [xC,show i = n from by omega,he]
  | succ k ih => intro i hi;rw [xC,h i (by omega)];exact ih (i + 1) (by omega)
 exact key n 0 (by omega)
theorem vM {σ ρ:Type} {body:σ → Option (σ ⊕ ρ)} {Q:ρ → Prop} (I:Nat → σ → Prop) (n:Nat) (h:∀ i s,i < n → I i s → (∃ s',body s = some (.inl s') ∧ I (i + 1) s') ∨ ∃ r,body s = some (.inr r) ∧ Q r)
  (he:∀ s,I n s → ∃ r,body s = some (.inr r) ∧ Q r) {s:σ} (h0:I 0 s):∃ r,zG body s = some r ∧ Q r:=by
 have key:∀ k i s,i + k = n → I i s → ∃ r,zG body s = some r ∧ Q r:=by
  intro k
  induction k with
  | zero =>
   intro i s hi hs
   obtain rfl:i = n:=by omega
   obtain ⟨r,h1,h2⟩:=he s hs
   exact ⟨r,by rw [xC,h1],h2⟩
  | succ k ih =>
   intro i s hi hs
   rcases h i s (by omega) hs with ⟨s',h1,h2⟩ | ⟨r,h1,h2⟩
   ·rw [xC,h1];exact ih (i + 1) s' (by omega) h2
   ·exact ⟨r,by rw [xC,h1],h2⟩
 exact key n 0 s (by omega) h0
def zM1 {ρ:Type}:Option ρ → Unit ⊕ ρ
 | none => .inl ()
 | some r => .inr r
theorem cs (i:Nat):(i:Int) + 1 = ((i + 1:Nat):Int):=by omega
theorem zNm {ρ:Type} {body:Int → Option (Int ⊕ (Unit ⊕ ρ))} (n:Nat) (t:Nat → Option ρ) (i0:Nat) (hn:i0 ≤ n)
  (h:∀ i,i0 ≤ i → i < n → (∀ j,i0 ≤ j → j < i → t j = none) → body (i:Int) = some (match t i with | none => .inl ((i + 1:Nat):Int) | some r => .inr (.inr r)))
  (he:(∀ j,i0 ≤ j → j < n → t j = none) → body (n:Int) = some (.inr (.inl ()))) :
  zG body (i0:Int) = some (zM1 ((List.range' i0 (n - i0)).findSome? t)):=by
 have key:∀ k i,i0 ≤ i → i + k = n → (∀ j,i0 ≤ j → j < i → t j = none) → zG body (i:Int) = some (zM1 ((List.range' i k).findSome? t)):=by
  intro k
  induction k with
  | zero =>
   intro i hi hk hp
   obtain rfl:i = n:=by omega
   rw [xC,he hp];rfl
  | succ k ih =>
   intro i hi hk hp
   rw [xC,h i hi (by omega) hp,List.range'_succ,List.findSome?_cons]
   cases ht:t i with
   | some r => rfl
   | none =>
    simp only
    exact ih (i + 1) (by omega) (by omega) fun j h1 h2 => by
     rcases Nat.lt_or_ge j i with h3 | h3
     ·exact hp j h1 h3
     ·rw [show j = i from by omega];exact ht
 exact key (n - i0) i0 (Nat.le_refl _) (by omega) fun j h1 h2 => by omega
theorem zPl {n:Nat} {b:Nat → Bool}:zM1 ((List.range' 0 n).findSome? (fun i => if b i then none else some false)) = if (List.range n).all b then .inl () else .inr false:=by
 have key:∀ l:List Nat,zM1 (l.findSome? (fun i => if b i then none else some false)) = if l.all b then .inl () else .inr false:=by
  intro l
  induction l with
  | nil => rfl
  | cons x l ih =>
   rw [List.findSome?_cons,List.all_cons]
   cases hb:b x
   ·rfl
   ·simpa using ih
 rw [key,List.range_eq_range']
theorem zNn {body:Int → Option (Int ⊕ (Unit ⊕ Bool))} (n:Nat) (b:Nat → Bool)
  (h:∀ i,i < n → (∀ j,j < i → b j = true) → body (i:Int) = some (if b i then .inl ((i + 1:Nat):Int) else .inr (.inr false)))
  (he:(∀ j,j < n → b j = true) → body (n:Int) = some (.inr (.inl ()))) :
  zG body 0 = some (if (List.range n).all b then .inl () else .inr false):=by
 have:=zNm (body:=body) n (fun i => if b i then none else some false) 0 (Nat.zero_le _) (fun i _ hi hp => by
  rw [h i hi fun j hj => by
   have:=hp j (Nat.zero_le _) hj
   split at this
   ·assumption
   ·cases this]
  cases b i <;> rfl) (fun hp => he fun j hj => by
   have:=hp j (Nat.zero_le _) hj
   split at this
   ·assumption
   ·cases this)
 rw [Nat.sub_zero] at this
 exact this.trans (congrArg some (zPl (n:=n) (b:=b)))
theorem zPm {α:Type} {xs:List α} {z:α} {i:Nat} (h:i < xs.length):(xs.take i ++ List.replicate (xs.length - i) z).set i xs[i] = xs.take (i + 1) ++ List.replicate (xs.length - (i + 1)) z:=by
 have h1:(xs.take i).length = i:=by rw [List.length_take];omega
 rw [List.set_append_right _ _ (by omega),h1,Nat.sub_self,show xs.length - i = (xs.length - (i + 1)) + 1 from by omega,List.replicate_succ,List.set_cons_zero,List.take_succ_eq_append_getElem h]
 simp only [List.append_assoc,List.singleton_append]
theorem zIb {α:Type} {f:α → Option α} {body:List α × Int → Option ((List α × Int) ⊕ List α)} {x0:List α} {z:α}
  (hb:∀ s,body s = cond (decide (s.2 < (x0.length:Int))) ((ixO x0 s.2).bind fun v2 => (f v2).bind fun r3 => (ixO s.1 s.2).bind fun _ => (rng (s.2 + 1)).bind fun v5 => some (.inl (s.1.set s.2.toNat r3,v5))) (some (.inr s.1)))
  (hl:x0.length ≤ 68719476736) (hf:∀ x ∈ x0,f x = some x):zG body (List.replicate x0.length z,0) = some x0:=by
 have:=zP (body:=body) (r:=x0) (fun i => (x0.take i ++ List.replicate (x0.length - i) z,(i:Int))) x0.length (fun i hi => by
  rw [hb]
  simp only [decide_eq_true (show ((i:Int)) < (x0.length:Int) from by omega),zH]
  rw [zAN hi,wY]
  simp only [bs,hf _ (List.getElem_mem hi)]
  rw [List.getElem?_eq_getElem (by simp;omega),bs,zC (by omega) (by omega),bs]
  simp only [Int.toNat_natCast,zPm hi,cs]) (by
  rw [hb]
  simp only [decide_eq_false (show ¬ ((x0.length:Int)) < (x0.length:Int) from by omega),zF,List.take_length,Nat.sub_self,List.replicate_zero,List.append_nil])
 simpa using this
theorem zRN {α:Type} [BEq α] {t:α → α → Option Bool} {body:Int → Option (Int ⊕ (Unit ⊕ Bool))} {x y:List α}
  (hb:∀ i,body i = cond (decide (i < (x.length:Int))) ((ixO x i).bind fun v1 => (ixO y i).bind fun v2 => (t v1 v2).bind fun r3 => cond (!r3) (some (.inr (.inr false))) ((rng (i + 1)).bind fun v4 => some (.inl v4))) (some (.inr (.inl ()))))
  (hl:x.length ≤ 68719476736) (hxy:x.length = y.length) (ht:∀ u ∈ x,∀ v ∈ y,t u v = some (u == v)):zG body 0 = some (if x == y then .inl () else .inr false):=by
 have h:=zNn (body:=body) x.length (fun i => match x[i]?,y[i]? with | some u,some v => u == v | _,_ => true) (fun i hi _ => by
  have hi':i < y.length:=by omega
  rw [hb]
  simp only [decide_eq_true (show ((i:Int)) < (x.length:Int) from by omega),zH]
  rw [zAN hi,zAN hi']
  simp only [bs,ht _ (List.getElem_mem hi) _ (List.getElem_mem hi'),List.getElem?_eq_getElem hi,List.getElem?_eq_getElem hi']
  cases x[i] == y[i]
  ·rfl
  ·simp only [Bool.not_true,zF,if_true]
   rw [zC (by omega) (by omega),cs];rfl) (fun _ => by
  rw [hb]
  simp only [decide_eq_false (show ¬ ((x.length:Int)) < (x.length:Int) from by omega),zF])
 rw [h]
 congr 2
 have key:∀ (x y:List α),x.length = y.length → ((List.range x.length).all (fun i => match x[i]?,y[i]? with | some u,some v => u == v | _,_ => true)) = (x == y):=by
  intro x
  induction x with
  | nil => intro y hy;cases y with | nil => rfl | cons _ _ => simp at hy
  | cons u x ih =>
   intro y hy
   cases y with
   | nil => simp at hy
   | cons v y =>
    rw [List.length_cons,List.range_succ_eq_map,List.all_cons,List.all_map]
    simp only [List.getElem?_cons_zero,Function.comp_def,List.getElem?_cons_succ]
    rw [ih y (by simpa using hy)]
    rfl
 rw [key x y hxy]
theorem zHi {α:Type} [BEq α] {t:α → α → Option Bool} {f:Option Bool} {body:Int → Option (Int ⊕ (Unit ⊕ Bool))} {x y:List α}
  (hf:f = cond ((x.length:Int) != (y.length:Int)) (some false) ((zG body 0).bind fun r => match r with | .inl _ => some true | .inr r => some r))
  (hb:∀ i,body i = cond (decide (i < (x.length:Int))) ((ixO x i).bind fun v1 => (ixO y i).bind fun v2 => (t v1 v2).bind fun r3 => cond (!r3) (some (.inr (.inr false))) ((rng (i + 1)).bind fun v4 => some (.inl v4))) (some (.inr (.inl ()))))
  (hl:x.length ≤ 68719476736) (ht:∀ u ∈ x,∀ v ∈ y,t u v = some (u == v)):f = some (x == y):=by
 rw [hf]
 by_cases hxy:x.length = y.length
 ·rw [zRN hb hl hxy ht]
  have:((x.length:Int) != (y.length:Int)) = false:=by simp [hxy]
  rw [this]
  cases x == y <;> rfl
 ·have:((x.length:Int) != (y.length:Int)) = true:=by simp;omega
  rw [this]
  have h2:(x == y) = false:=by
   have key:∀ (x y:List α),x.length ≠ y.length → (x == y) = false:=by
    intro x
    induction x with
    | nil => intro y hy;cases y with | nil => simp at hy | cons _ _ => rfl
    | cons u x ih =>
     intro y hy
     cases y with
     | nil => rfl
     | cons v y =>
      show (u == v && x == y) = false
      rw [ih y (by simpa using hy),Bool.and_false]
   exact key x y hxy
  rw [h2];rfl
end Go.Pl

namespace Go.Pl
open Go Go.Ab
def sm {α:Type} (c:α → Nat):List α → Nat
 | [] => 0
 | x :: xs => c x + sm c xs
theorem zDU {α:Type} (c:α → Nat):∀ xs ys:List α,sm c (xs ++ ys) = sm c xs + sm c ys
 | [],ys => by simp [sm]
 | x :: xs,ys => by simp only [List.cons_append,sm,zDU c xs ys];omega
theorem zM2 {α:Type} (c:α → Nat) {xs:List α} {i:Nat} (h:i < xs.length):sm c (xs.take (i + 1)) = sm c (xs.take i) + c xs[i]:=by
 rw [List.take_succ_eq_append_getElem h,zDU];simp [sm]
theorem zFD {α:Type} (c:α → Nat) (xs:List α) (i:Nat):sm c (xs.take i) ≤ sm c xs:=by
 have:=zDU c (xs.take i) (xs.drop i)
 rw [List.take_append_drop] at this;omega
theorem zPn {α:Type} (c:α → Nat) {xs:List α} {x:α} (h:x ∈ xs):c x ≤ sm c xs:=by
 obtain ⟨i,hi,rfl⟩:=List.mem_iff_getElem.1 h
 have:=zM2 c hi
 have:=zFD c xs (i + 1)
 omega
def szR (c:Nat) (b:Int):Int:=if (c:Int) ≤ b then b - c else -1
theorem zTx {α:Type} {c:α → Nat} {t:α → Int → Option Int} {f:Option Int} {body:Int × Int → Option ((Int × Int) ⊕ (Int ⊕ Int))} {xs:List α} {b:Int}
  (hf:f = (rng (b - (xs.length:Int))).bind fun v1 => cond (decide (v1 < 0)) (some (-1)) ((zG body (v1,0)).bind fun r => match r with | .inl r => some r | .inr r => some r))
  (hb:∀ s,body s = cond (decide (s.2 < (xs.length:Int))) ((ixO xs s.2).bind fun v2 => (t v2 s.1).bind fun r3 => cond (decide (r3 < 0)) (some (.inr (.inr (-1)))) ((rng (s.2 + 1)).bind fun v4 => some (.inl (r3,v4)))) (some (.inr (.inl s.1))))
  (hl:xs.length ≤ 9223372036854775807) (b0:0 ≤ b) (b1:b ≤ 1048576) (ht:∀ x ∈ xs,∀ b',0 ≤ b' → b' ≤ 1048576 → t x b' = some (szR (c x) b')):f = some (szR (xs.length + sm c xs) b):=by
 rw [hf,zC (by omega) (by omega),bs]
 by_cases h0:b - (xs.length:Int) < 0
 ·rw [decide_eq_true h0,zH,szR,if_neg (by omega)]
 ·rw [decide_eq_false h0,zF]
  obtain ⟨r,h1,h2⟩:=vM (body:=body) (Q:=fun r => (match r with | .inl r => some r | .inr r => some r) = some (szR (xs.length + sm c xs) b)) (fun i s => s.2 = (i:Int) ∧ 0 ≤ s.1 ∧ s.1 = b - xs.length - sm c (xs.take i)) xs.length (fun i s hi ⟨e1,e2,e3⟩ => by
   rw [hb,e1,decide_eq_true (by omega),zH,zAN hi,bs,ht _ (List.getElem_mem hi) _ e2 (by omega),bs]
   have h3:=zM2 c hi
   have h4:=zFD c xs (i + 1)
   unfold szR
   by_cases h5:(c xs[i]:Int) ≤ s.1
   ·rw [if_pos h5,decide_eq_false (by omega),zF,zC (by omega) (by omega),bs,cs]
    exact .inl ⟨_,rfl,rfl,by simp only;omega,by simp only;omega⟩
   ·rw [if_neg h5]
    refine .inr ⟨.inr (-1),rfl,?_⟩
    simp only
    rw [if_neg (by omega)]) (fun s ⟨e1,e2,e3⟩ => by
   rw [hb,e1,decide_eq_false (by omega),zF]
   rw [List.take_length] at e3
   refine ⟨_,rfl,?_⟩
   simp only
   rw [szR,if_pos (by omega),e3]
   congr 1;omega) (s:=(b - (xs.length:Int),0)) ⟨rfl,by simp only;omega,by simp [sm]⟩
  rw [h1,bs,h2]
end Go.Pl

namespace Go.Pl
open Go Go.Ab Go.Wk
abbrev VI (n:Int):Prop:=(Lit.int .i64 n).wf = true
abbrev VL {α:Type} (V:α → Prop) (xs:List α):Prop:=xs.length ≤ maxLen ∧ ∀ x ∈ xs,V x
abbrev c1 (x:List Int):Nat:=x.length
abbrev c2 (x:List (List Int)):Nat:=x.length + sm c1 x
abbrev c3 (x:List (List (List Int))):Nat:=x.length + sm c2 x
theorem zJl {x:List Int} {b:Int} (hl:x.length ≤ 9223372036854775807) (b0:0 ≤ b) (b1:b ≤ 1048576):zPZ x b = some (szR (c1 x) b):=by
 unfold zPZ szR
 rw [zC (by omega) (by omega),bs]
 by_cases h:(c1 x:Int) ≤ b
 ·rw [decide_eq_false (by simp only [c1] at h;omega),zF,if_pos h]
 ·rw [decide_eq_true (by simp only [c1] at h;omega),zH,if_neg h]
theorem zDV {x:List (List Int)} {b:Int} (h:VL (VL VI) x) (b0:0 ≤ b) (b1:b ≤ 1048576):zQa x b = some (szR (c2 x) b) :=
 zTx (c:=c1) rfl (fun _ => rfl) h.1 b0 b1 fun y hy _ h1 h2 => zJl (h.2 y hy).1 h1 h2
theorem zFE {x:List (List (List Int))} {b:Int} (h:VL (VL (VL VI)) x) (b0:0 ≤ b) (b1:b ≤ 1048576):zSl x b = some (szR (c3 x) b) :=
 zTx (c:=c2) rfl (fun _ => rfl) h.1 b0 b1 fun y hy _ h1 h2 => zDV (h.2 y hy) h1 h2
abbrev S1 (x:List Int):Prop:=c1 x ≤ 1048576
abbrev S2 (x:List (List Int)):Prop:=c2 x ≤ 1048576
abbrev S3 (x:List (List (List Int))):Prop:=c3 x ≤ 1048576
theorem S2.mem {x:List (List Int)} (h:S2 x) {y:List Int} (hy:y ∈ x):S1 y:=by
 have:=zPn c1 hy
 simp only [S2,S1,c2] at h ⊢;omega
theorem S3.mem {x:List (List (List Int))} (h:S3 x) {y:List (List Int)} (hy:y ∈ x):S2 y:=by
 have:=zPn c2 hy
 simp only [S3,S2,c3] at h ⊢;omega
theorem S1.len {x:List Int} (h:S1 x):x.length ≤ 1048576:=h
theorem S2.len {x:List (List Int)} (h:S2 x):x.length ≤ 1048576:=by simp only [S2,c2] at h;omega
theorem S3.len {x:List (List (List Int))} (h:S3 x):x.length ≤ 1048576:=by simp only [S3,c3] at h;omega
theorem zJm {x:List Int} (h:S1 x):zND x = some x:=by
 unfold zND
 rw [yR (Nat.le_trans h (by decide)),bs,zIb (body:=zQb x) (f:=some) (fun _ => rfl) (Nat.le_trans h (by decide)) (fun _ _ => rfl),bs]
theorem zDW {x:List (List Int)} (h:S2 x):f_O x = some x:=by
 unfold f_O
 rw [yR (Nat.le_trans h.len (by decide)),bs,zIb (body:=zUG x) (f:=zND) (fun _ => rfl) (Nat.le_trans h.len (by decide)) (fun _ hx => zJm (h.mem hx)),bs]
theorem zFF {x:List (List (List Int))} (h:S3 x):zQd x = some x:=by
 unfold zQd
 rw [yR (Nat.le_trans h.len (by decide)),bs,zIb (body:=zQc x) (f:=f_O) (fun _ => rfl) (Nat.le_trans h.len (by decide)) (fun _ hx => zDW (h.mem hx)),bs]
theorem zJn {x y:List Int} (h:S1 x):zQX x y = some (x == y) :=
 zHi (t:=fun u v => some (u == v)) (body:=zQW x y) rfl (fun _ => rfl) (Nat.le_trans h.len (by decide)) fun _ _ _ _ => rfl
theorem zDX {x y:List (List Int)} (h:S2 x):zNJ x y = some (x == y) :=
 zHi (t:=zQX) (body:=zQY x y) rfl (fun _ => rfl) (Nat.le_trans h.len (by decide)) fun _ hu _ _ => zJn (h.mem hu)
theorem zFG {x y:List (List (List Int))} (h:S3 x):zS3 x y = some (x == y) :=
 zHi (t:=zNJ) (body:=zQZ x y) rfl (fun _ => rfl) (Nat.le_trans h.len (by decide)) fun _ hu _ _ => zDX (h.mem hu)
def zM3 (x:SPr):Prop:=VL VI x.zA ∧ VL (VL VI) x.zV ∧ VL (VL (VL VI)) x.zB
def zRO (x:zD):Prop:=VI x.Prime ∧ VI x.Dim ∧ VL (VL (VL VI)) x.zI
def zJo (x:SPr):Nat:=c1 x.zA + c2 x.zV + c3 x.zB
def zRP (x:zD):Nat:=c3 x.zI
def zDk (x:SPr):Prop:=S1 x.zA ∧ S2 x.zV ∧ S3 x.zB
def zIc (x:zD):Prop:=S3 x.zI
theorem zJp {a b:Nat} {n:Int}:(szR a n < 0 ∧ szR (a + b) n = -1) ∨ (0 ≤ szR a n ∧ szR a n ≤ n ∧ szR b (szR a n) = szR (a + b) n ∧ (a:Int) ≤ n) ∨ n < 0:=by
 unfold szR
 by_cases h:(a:Int) ≤ n
 ·rw [if_pos h]
  refine .inr (.inl ⟨by omega,by omega,?_,h⟩)
  by_cases h2:(b:Int) ≤ n - a
  ·rw [if_pos h2,if_pos (by omega)];omega
  ·rw [if_neg h2,if_neg (by omega)]
 ·rw [if_neg h]
  by_cases h3:n < 0
  ·exact .inr (.inr h3)
  ·exact .inl ⟨by omega,by rw [if_neg (by omega)]⟩
theorem zFH {x:SPr} {b:Int} (h:zM3 x) (b0:0 ≤ b) (b1:b ≤ 1048576):zSm x b = some (szR (zJo x) b):=by
 obtain ⟨h1,h2,h3⟩:=h
 unfold zSm zJo
 rw [zJl h1.1 b0 b1,bs]
 rcases zJp (a:=c1 x.zA) (b:=c2 x.zV + c3 x.zB) (n:=b) with ⟨g1,g2⟩ | ⟨g1,g2,g3,g4⟩ | g1
 ·rw [decide_eq_true g1,zH,Nat.add_assoc,g2]
 ·rw [decide_eq_false (by omega),zF,zDV h2 g1 (by omega),bs,Nat.add_assoc,← g3]
  generalize szR (c1 x.zA) b = b' at g1 g2
  rcases zJp (a:=c2 x.zV) (b:=c3 x.zB) (n:=b') with ⟨k1,k2⟩ | ⟨k1,k2,k3,k4⟩ | k1
  ·rw [decide_eq_true k1,zH,k2]
  ·rw [decide_eq_false (by omega),zF,zFE h3 k1 (by omega),bs,← k3]
   generalize szR (c2 x.zV) b' = b'' at k1 k2
   unfold szR
   by_cases h4:(c3 x.zB:Int) ≤ b''
   ·rw [if_pos h4,decide_eq_false (by omega),zF]
   ·rw [if_neg h4];rfl
  ·omega
 ·omega
theorem zPo {x:zD} {b:Int} (h:zRO x) (b0:0 ≤ b) (b1:b ≤ 1048576):zSn x b = some (szR (zRP x) b):=by
 obtain ⟨_,_,h3⟩:=h
 unfold zSn zRP
 rw [zFE h3 b0 b1,bs]
 unfold szR
 by_cases h4:(c3 x.zI:Int) ≤ b
 ·rw [if_pos h4,decide_eq_false (by omega),zF]
 ·rw [if_neg h4];rfl
theorem zId {c:Nat} {b:Int} (b0:0 ≤ b) (b1:b ≤ 1048576):(decide (szR c b < 0) = true) ∨ (decide (szR c b < 0) = false ∧ 0 ≤ szR c b ∧ szR c b ≤ 1048576 ∧ c ≤ 1048576):=by
 unfold szR
 by_cases h:(c:Int) ≤ b
 ·rw [if_pos h];exact .inr ⟨decide_eq_false (by omega),by omega,by omega,by omega⟩
 ·rw [if_neg h];exact .inl rfl
theorem zDk.of {x:SPr} (h:zJo x ≤ 1048576):zDk x:=by
 unfold zJo at h
 exact ⟨by simp only [S1];omega,by simp only [S2];omega,by simp only [S3];omega⟩
theorem zIc.of {x:zD} (h:zRP x ≤ 1048576):zIc x:=h
theorem zFI {x:SPr} (h:zDk x):zNE x = some x:=by
 unfold zNE
 rw [zJm h.1,bs,zDW h.2.1,bs,zFF h.2.2,bs]
theorem zPp {x:zD} (h:zIc x):zNF x = some x:=by
 unfold zNF
 rw [zFF h,bs]
theorem zPq {x:zD} (h:zIc x):zS4 x x = some true:=by
 unfold zS4
 rw [zFG h,bs]
 simp
theorem zFJ {x:SPr} (h:zDk x):zS5 x x = some true:=by
 unfold zS5
 rw [zJn h.1,bs,zDX h.2.1,bs,zFG h.2.2,bs]
 simp
end Go.Pl

namespace Go.Pl
open Go Go.Ab Go.Wk
def IsB (o:Option Bool) (P:Prop):Prop:=(o = some true ∧ P) ∨ (o = some false ∧ ¬ P)
theorem IsB.iff {o:Option Bool} {P Q:Prop} (h:IsB o P) (hpq:P ↔ Q):IsB o Q:=by
 rcases h with ⟨h1,h2⟩ | ⟨h1,h2⟩
 ·exact .inl ⟨h1,hpq.1 h2⟩
 ·exact .inr ⟨h1,fun h => h2 (hpq.2 h)⟩
theorem IsB.of_bool {b:Bool} {P:Prop} (h:b = true ↔ P):IsB (some b) P:=by
 cases b
 ·exact .inr ⟨rfl,fun hp => by have:=h.2 hp;cases this⟩
 ·exact .inl ⟨rfl,h.1 rfl⟩
theorem chk {ρ:Type} {body:Int → Option (Int ⊕ (Unit ⊕ ρ))} (n i0:Nat) (hn:i0 ≤ n) (P:Nat → Prop) (bad:Nat → ρ)
  (h:∀ i,i0 ≤ i → i < n → (∀ j,i0 ≤ j → j < i → P j) → (body (i:Int) = some (.inl ((i + 1:Nat):Int)) ∧ P i) ∨ (body (i:Int) = some (.inr (.inr (bad i))) ∧ ¬ P i))
  (he:body (n:Int) = some (.inr (.inl ()))) :
  (zG body (i0:Int) = some (.inl ()) ∧ ∀ j,i0 ≤ j → j < n → P j) ∨ ∃ i,i0 ≤ i ∧ i < n ∧ zG body (i0:Int) = some (.inr (bad i)) ∧ ¬ P i:=by
 have key:∀ k i,i0 ≤ i → i + k = n → (∀ j,i0 ≤ j → j < i → P j) → (zG body (i:Int) = some (.inl ()) ∧ ∀ j,i0 ≤ j → j < n → P j) ∨ ∃ q,i0 ≤ q ∧ q < n ∧ zG body (i:Int) = some (.inr (bad q)) ∧ ¬ P q:=by
  intro k
  induction k with
  | zero =>
   intro i hi hk hp
   obtain rfl:i = n:=by omega
   exact .inl ⟨by rw [xC,he],hp⟩
  | succ k ih =>
   intro i hi hk hp
   rcases h i hi (by omega) hp with ⟨h1,h2⟩ | ⟨h1,h2⟩
   ·have:=ih (i + 1) (by omega) (by omega) fun j a b => by
     rcases Nat.lt_or_ge j i with c | c
     ·exact hp j a c
     ·rw [show j = i from by omega];exact h2
    rw [xC,h1]
    exact this
   ·exact .inr ⟨i,hi,by omega,by rw [xC,h1],h2⟩
 exact key (n - i0) i0 (Nat.le_refl _) (by omega) fun j a b => by omega
theorem tL {f:Option Bool} {body:Int → Option (Int ⊕ (Unit ⊕ Bool))} (n:Nat) (P:Nat → Prop)
  (hf:f = (zG body 0).bind fun r => match r with | .inl _ => some true | .inr r => some r)
  (h:∀ i,i < n → (∀ j,j < i → P j) → (body (i:Int) = some (.inl ((i + 1:Nat):Int)) ∧ P i) ∨ (body (i:Int) = some (.inr (.inr false)) ∧ ¬ P i))
  (he:body (n:Int) = some (.inr (.inl ()))):IsB f (∀ i,i < n → P i):=by
 rcases chk n 0 (Nat.zero_le _) P (fun _ => false) (fun i _ hi hp => h i hi fun j hj => hp j (Nat.zero_le _) hj) he with ⟨h1,h2⟩ | ⟨i,_,hi,h1,h2⟩
 ·refine .inl ⟨?_,fun i hi => h2 i (Nat.zero_le _) hi⟩
  rw [hf];rw [show ((0:Nat):Int) = 0 from rfl] at h1;rw [h1,bs]
 ·refine .inr ⟨?_,fun hp => h2 (hp i hi)⟩
  rw [hf];rw [show ((0:Nat):Int) = 0 from rfl] at h1;rw [h1,bs]
theorem vO {o:Option Bool} {P:Prop} {ρ:Type} {bad:ρ} {i:Nat} {g:Option (Int ⊕ (Unit ⊕ ρ))} (h:IsB o P) (hi:i < 9223372036854775807)
  (hg:g = o.bind fun r => cond (!r) (some (.inr (.inr bad))) ((rng ((i:Int) + 1)).bind fun v => some (.inl v))):(g = some (.inl ((i + 1:Nat):Int)) ∧ P) ∨ (g = some (.inr (.inr bad)) ∧ ¬ P):=by
 subst hg
 rcases h with ⟨h1,h2⟩ | ⟨h1,h2⟩
 ·refine .inl ⟨?_,h2⟩
  rw [h1,bs,Bool.not_true,zF,zC (by omega) (by omega),bs,cs]
 ·refine .inr ⟨?_,h2⟩
  rw [h1,bs,Bool.not_false,zH]
theorem yO {i n:Nat} (h:i < n):decide ((i:Int) < (n:Int)) = true:=decide_eq_true (by omega)
theorem yY {n:Nat}:decide ((n:Int) < (n:Int)) = false:=decide_eq_false (by omega)
theorem qT (x a b:Int):IsB (zL3 x a b) (a ≤ x ∧ x ≤ b):=by
 unfold zL3
 by_cases h:x ≥ a
 ·rw [decide_eq_true h,zH];exact IsB.of_bool (by simp;omega)
 ·rw [decide_eq_false h,zF];exact .inr ⟨rfl,by omega⟩
theorem zB6 (x a b:Int):IsB (zQe x a b) (a ≤ x ∧ x ≤ b):=qT x a b
def Prime (p:Int):Prop:=p = 2 ∨ p = 3 ∨ p = 5 ∨ p = 7
theorem zAO (x:Int):IsB (zNG x) (Prime x):=by
 unfold zNG Prime
 by_cases h2:x = 2
 ·subst h2;exact .inl ⟨rfl,.inl rfl⟩
 ·rw [show (x == 2) = false from by simpa using h2,zF]
  by_cases h3:x = 3
  ·subst h3;exact .inl ⟨rfl,.inr (.inl rfl)⟩
  ·rw [show (x == 3) = false from by simpa using h3,zF]
   by_cases h5:x = 5
   ·subst h5;exact .inl ⟨rfl,.inr (.inr (.inl rfl))⟩
   ·rw [show (x == 5) = false from by simpa using h5,zF]
    exact IsB.of_bool (by simp;omega)
theorem zFK (x:Int):IsB (zSo x) (Prime x):=zAO x
abbrev at0 (v:List Int) (i:Nat):Int:=v.getD i 0
theorem yD {v:List Int} {i:Nat} (h:i < v.length):ixO v (i:Int) = some (at0 v i):=by
 rw [zAN h,at0,List.getD_eq_getElem?_getD,List.getElem?_eq_getElem h];rfl
def zWs (os v:List Int):Prop:=v.length = os.length ∧ ∀ i,i < v.length → 0 ≤ at0 v i ∧ at0 v i ≤ at0 os i - 1
def Exp (os v:List Int) (k:Nat):Prop:=zWs os v ∧ ∀ i,i ≤ k → at0 v i = 0
def Os (os:List Int):Prop:=os.length ≤ 9 ∧ ∀ i,i < os.length → Prime (at0 os i)
theorem Prime.pos {p:Int} (h:Prime p):2 ≤ p ∧ p ≤ 7:=by unfold Prime at h;omega
theorem zDY {x:SPr} {v:List Int} (ho:Os x.zA):IsB (zSw x v) (zWs x.zA v):=by
 unfold zSw
 by_cases h:v.length = x.zA.length
 ·rw [show ((v.length:Int) != (x.zA.length:Int)) = false from by simp [h],zF]
  have h6:=ho.1
  refine (tL v.length (fun i => 0 ≤ at0 v i ∧ at0 v i ≤ at0 x.zA i - 1) rfl (fun i hi _ => ?_) ?_).iff ⟨fun g => ⟨h,g⟩,fun g => g.2⟩
  ·have hp:=(ho.2 i (by omega)).pos
   refine vO (qT _ _ _) (by omega) ?_
   unfold zMS
   rw [yO hi,zH,yD hi,bs,yD (by omega),bs,zC (by omega) (by omega),bs]
  ·unfold zMS
   rw [yY,zF]
 ·rw [show ((v.length:Int) != (x.zA.length:Int)) = true from by simp;omega,zH]
  exact .inr ⟨rfl,fun g => h g.1⟩
theorem zJq {v:List Int} (hl:v.length ≤ 9):IsB (f_C v) (∀ i,i < v.length → at0 v i = 0):=by
 refine tL v.length (fun i => at0 v i = 0) rfl (fun i hi _ => ?_) ?_
 ·refine vO (o:=some (at0 v i == 0)) (IsB.of_bool (by simp)) (by omega) ?_
  unfold zKa
  rw [yO hi,zH,yD hi,bs,bs];rfl
 ·unfold zKa
  rw [yY,zF]
theorem zBf {x:SPr} {k:Nat} {v:List Int} (ho:Os x.zA) (hk:k < x.zA.length):IsB (zQ0 x k v) (Exp x.zA v k):=by
 have h6:=ho.1
 unfold zQ0
 rcases zDY (v:=v) ho with ⟨h1,h2⟩ | ⟨h1,h2⟩
 ·have hl:=h2.1
  rw [h1,bs,zH,zC (by omega) (by omega),bs]
  have hs:zT v 0 ((k:Int) + 1) = some (v.take (k + 1)):=by
   unfold zT
   rw [if_pos (by omega)]
   simp only [Int.toNat_zero,List.drop_zero,Nat.sub_zero]
   congr 2
  rw [hs,bs]
  have hb:=zJq (v:=v.take (k + 1)) (by rw [List.length_take];omega)
  have hiff:(∀ i,i < (v.take (k + 1)).length → at0 (v.take (k + 1)) i = 0) ↔ Exp x.zA v k:=by
   have e:∀ i,i ≤ k → at0 (v.take (k + 1)) i = at0 v i:=fun i hi => by
    simp only [at0,List.getD_eq_getElem?_getD,List.getElem?_take]
    rw [if_pos (by omega)]
   rw [List.length_take,Nat.min_eq_left (by omega)]
   exact ⟨fun g => ⟨h2,fun i hi => by rw [← e i hi];exact g i (by omega)⟩,fun g i hi => by rw [e i (by omega)];exact g.2 i (by omega)⟩
  rcases hb.iff hiff with ⟨g1,g2⟩ | ⟨g1,g2⟩
  ·rw [g1,bs];exact .inl ⟨rfl,g2⟩
  ·rw [g1,bs];exact .inr ⟨rfl,g2⟩
 ·rw [h1,bs,zF]
  exact .inr ⟨rfl,fun g => h2 g.1⟩
theorem zB7 {os v:List Int} {k:Nat} (ho:Os os) (hk:k < os.length):IsB (zQf os v k) (Exp os v k):=by
 have h6:=ho.1
 unfold zQf
 by_cases h:v.length = os.length
 ·rw [show ((v.length:Int) != (os.length:Int)) = false from by simp [h],zF]
  refine (tL v.length (fun i => (0 ≤ at0 v i ∧ at0 v i ≤ at0 os i - 1) ∧ (i ≤ k → at0 v i = 0)) rfl (fun i hi _ => ?_) ?_).iff ⟨fun g => ⟨⟨h,fun i hi => (g i hi).1⟩,fun i hi => (g i (by omega)).2 hi⟩,fun g i hi => ⟨g.1.2 i hi,fun hk => g.2 i hk⟩⟩
  ·have hp:=(ho.2 i (by omega)).pos
   unfold zMO
   rw [yO hi,zH,yD hi,bs,yD (by omega),bs,zC (by omega) (by omega),bs]
   rcases zB6 (at0 v i) 0 (at0 os i - 1) with ⟨h1,h2⟩ | ⟨h1,h2⟩
   ·rw [h1,bs,Bool.not_true,zF]
    by_cases h3:(i:Int) ≤ (k:Int)
    ·rw [decide_eq_true h3,zH,bs]
     by_cases h4:at0 v i = 0
     ·rw [show (at0 v i != 0) = false from by simp only [h4];rfl,zF,zC (by omega) (by omega),bs,cs]
      exact .inl ⟨rfl,h2,fun _ => h4⟩
     ·rw [show (at0 v i != 0) = true from by simpa using h4,zH]
      exact .inr ⟨rfl,fun g => h4 (g.2 (by omega))⟩
    ·rw [decide_eq_false h3,zF,zC (by omega) (by omega),bs,cs]
     exact .inl ⟨rfl,h2,fun g => absurd (by omega) h3⟩
   ·rw [h1,bs,Bool.not_false,zH]
    exact .inr ⟨rfl,fun g => h2 g.1⟩
  ·unfold zMO
   rw [yY,zF]
 ·rw [show ((v.length:Int) != (os.length:Int)) = true from by simp;omega,zH]
  exact .inr ⟨rfl,fun g => h g.1.1⟩
end Go.Pl

namespace Go.Pl
open Go Go.Ab Go.Wk
theorem zXh {σ ρ:Type} {body:σ → Option (σ ⊕ (Unit ⊕ ρ))} (S:Nat → σ) (n i0:Nat) (hn:i0 ≤ n) (P:Nat → Prop) (bad:Nat → ρ)
  (h:∀ i,i0 ≤ i → i < n → (∀ j,i0 ≤ j → j < i → P j) → (body (S i) = some (.inl (S (i + 1))) ∧ P i) ∨ (body (S i) = some (.inr (.inr (bad i))) ∧ ¬ P i))
  (he:body (S n) = some (.inr (.inl ()))) :
  (zG body (S i0) = some (.inl ()) ∧ ∀ j,i0 ≤ j → j < n → P j) ∨ ∃ i,i0 ≤ i ∧ i < n ∧ zG body (S i0) = some (.inr (bad i)) ∧ ¬ P i:=by
 have key:∀ k i,i0 ≤ i → i + k = n → (∀ j,i0 ≤ j → j < i → P j) → (zG body (S i) = some (.inl ()) ∧ ∀ j,i0 ≤ j → j < n → P j) ∨ ∃ q,i0 ≤ q ∧ q < n ∧ zG body (S i) = some (.inr (bad q)) ∧ ¬ P q:=by
  intro k
  induction k with
  | zero =>
   intro i hi hk hp
   obtain rfl:i = n:=by omega
   exact .inl ⟨by rw [xC,he],hp⟩
  | succ k ih =>
   intro i hi hk hp
   rcases h i hi (by omega) hp with ⟨h1,h2⟩ | ⟨h1,h2⟩
   ·have:=ih (i + 1) (by omega) (by omega) fun j a b => by
     rcases Nat.lt_or_ge j i with c | c
     ·exact hp j a c
     ·rw [show j = i from by omega];exact h2
    rw [xC,h1]
    exact this
   ·exact .inr ⟨i,hi,by omega,by rw [xC,h1],h2⟩
 exact key (n - i0) i0 (Nat.le_refl _) (by omega) fun j a b => by omega
theorem jJ {a b:Int} (h:a = b):(a != b) = false:=by simp [h]
theorem sS {a b:Int} (h:a ≠ b):(a != b) = true:=by simp [h]
def pr (os:List Int):Nat → Int
 | 0 => 1
 | i + 1 => pr os i * at0 os i
def cp (os:List Int):Nat → Int
 | 0 => 1
 | i + 1 => if cp os i ≤ 729 then cp os i * at0 os i else cp os i
theorem zFL {os:List Int}:∀ {i:Nat},(∀ j,j < i → Prime (at0 os j)) → 1 ≤ pr os i
 | 0,_ => by simp [pr]
 | i + 1,h => by
  have h1:=zFL (os:=os) (i:=i) fun j hj => h j (by omega)
  have h2:=(h i (by omega)).pos
  simp only [pr]
  have:(1:Int) * 1 ≤ pr os i * at0 os i:=Int.mul_le_mul h1 (by omega) (by omega) (by omega)
  omega
theorem zM4 {os:List Int} {i:Nat} (h:∀ j,j ≤ i → Prime (at0 os j)):pr os i ≤ pr os (i + 1):=by
 have h1:=zFL (os:=os) (i:=i) fun j hj => h j (by omega)
 have h2:=(h i (Nat.le_refl _)).pos
 simp only [pr]
 have:pr os i * 1 ≤ pr os i * at0 os i:=Int.mul_le_mul_of_nonneg_left (by omega) (by omega)
 omega
theorem zM5 {os:List Int} {n:Nat} (h:∀ j,j < n → Prime (at0 os j)):∀ k,k ≤ n → pr os (n - k) ≤ pr os n
 | 0,_ => Int.le_refl _
 | k + 1,hk => by
  have h1:=zM5 h k (by omega)
  have h2:=zM4 (os:=os) (i:=n - (k + 1)) fun j hj => h j (by omega)
  rw [show n - (k + 1) + 1 = n - k from by omega] at h2
  omega
theorem zPr {os:List Int}:∀ {i:Nat},(∀ j,j < i → Prime (at0 os j)) → (cp os i = pr os i ∧ pr os i ≤ 729 ∨ 729 < cp os i ∧ cp os i ≤ 5103 ∧ 729 < pr os i)
 | 0,_ => by simp [cp,pr]
 | i + 1,h => by
  have h0:∀ j,j < i → Prime (at0 os j):=fun j hj => h j (by omega)
  have h2:=(h i (by omega)).pos
  have h3:=zM4 (os:=os) (i:=i) fun j hj => h j (by omega)
  have hpp:=zFL h0
  simp only [cp]
  rcases zPr h0 with ⟨h1,h4⟩ | ⟨h1,h4,h5⟩
  ·rw [h1,if_pos h4]
   have h6:pr os i * at0 os i ≤ 729 * 7:=Int.mul_le_mul h4 h2.2 (by omega) (by omega)
   simp only [pr] at h3 ⊢
   generalize pr os i * at0 os i = b at h3 h6 ⊢
   simp only [true_and];omega
  ·rw [if_neg (by omega)]
   omega
def zFM (x:SPr) (i:Nat):Prop:=Exp x.zA (x.zV.getD i []) i ∧ (x.zB.getD i []).length + i + 1 = x.zA.length ∧ ∀ j,j < (x.zB.getD i []).length → Exp x.zA ((x.zB.getD i []).getD j []) i
structure Pres (x:SPr):Prop where
 os:Os x.zA
 pl:x.zV.length = x.zA.length
 cl:x.zB.length = x.zA.length
 tl:∀ i,i < x.zA.length → zFM x i
structure zEz (x:SPr):Prop extends Pres x where
 n6:x.zA.length ≤ 6
 pr:pr x.zA x.zA.length ≤ 729
theorem yC {α:Type} {v:List α} {i:Nat} (d:α) (h:i < v.length):ixO v (i:Int) = some (v.getD i d):=by
 rw [zAN h,List.getD_eq_getElem?_getD,List.getElem?_eq_getElem h];rfl
theorem zKL {x:SPr} (ho:Os x.zA) (hp:x.zV.length = x.zA.length) (hc:x.zB.length = x.zA.length) {i:Nat} (hi:i < x.zA.length) :
  (zL5 x i = some (.inl ((i + 1:Nat):Int)) ∧ zFM x i) ∨ (zL5 x i = some (.inr (.inr false)) ∧ ¬ zFM x i):=by
 have h6:=ho.1
 unfold zL5
 rw [yO hi,zH,yC [] (by omega),bs]
 rcases zBf (v:=x.zV.getD i []) ho hi with ⟨h1,h2⟩ | ⟨h1,h2⟩
 ·rw [h1,bs,Bool.not_true,zF,yC [] (by omega),bs,zC (by omega) (by omega),bs,zC (by omega) (by omega),bs]
  by_cases hl:(x.zB.getD i []).length + i + 1 = x.zA.length
  ·rw [jJ (by omega),zF,bs]
   rcases chk (body:=zQ1 x i (x.zB.getD i [])) (x.zB.getD i []).length 0 (Nat.zero_le _) (fun j => Exp x.zA ((x.zB.getD i []).getD j []) i) (fun _ => false) (fun j _ hj _ => by
     refine vO (zBf ho hi) (by omega) ?_
     unfold zQ1
     rw [yO hj,zH,yC [] hj,bs]) (by
     unfold zQ1
     rw [yY,zF]) with ⟨g1,g2⟩ | ⟨j,_,hj,g1,g2⟩
   ·rw [show ((0:Nat):Int) = 0 from rfl] at g1
    rw [g1,bs]
    simp only
    rw [zC (by omega) (by omega),bs,cs]
    exact .inl ⟨rfl,h2,hl,fun j hj => g2 j (Nat.zero_le _) hj⟩
   ·rw [show ((0:Nat):Int) = 0 from rfl] at g1
    rw [g1,bs]
    exact .inr ⟨rfl,fun g => g2 (g.2.2 j hj)⟩
  ·rw [sS (by omega),zH]
   exact .inr ⟨rfl,fun g => hl g.2.1⟩
 ·rw [h1,bs,Bool.not_false,zH]
  exact .inr ⟨rfl,fun g => h2 g.1⟩
theorem zKM {x:SPr} (ho:Os x.zA) (hp:x.zV.length = x.zA.length) (hc:x.zB.length = x.zA.length) {i:Nat} (hi:i < x.zA.length) :
  (zL0 x i = some (.inl ((i + 1:Nat):Int)) ∧ zFM x i) ∨ (zL0 x i = some (.inr (.inr false)) ∧ ¬ zFM x i):=by
 have h6:=ho.1
 unfold zL0
 rw [yO hi,zH,yC [] (by omega),bs]
 rcases zB7 (v:=x.zV.getD i []) ho hi with ⟨h1,h2⟩ | ⟨h1,h2⟩
 ·rw [h1,bs,Bool.not_true,zF,yC [] (by omega),bs,zC (by omega) (by omega),bs,zC (by omega) (by omega),bs]
  by_cases hl:(x.zB.getD i []).length + i + 1 = x.zA.length
  ·rw [jJ (by omega),zF]
   rcases chk (body:=zQh x i) (x.zB.getD i []).length 0 (Nat.zero_le _) (fun j => Exp x.zA ((x.zB.getD i []).getD j []) i) (fun _ => false) (fun j _ hj _ => by
     refine vO (zB7 ho hi) (by omega) ?_
     unfold zQh
     rw [yC [] (by omega),bs,yO hj,zH,bs,yC [] hj,bs]) (by
     unfold zQh
     rw [yC [] (by omega),bs,yY,zF]) with ⟨g1,g2⟩ | ⟨j,_,hj,g1,g2⟩
   ·rw [show ((0:Nat):Int) = 0 from rfl] at g1
    rw [g1,bs]
    simp only
    rw [zC (by omega) (by omega),bs,cs]
    exact .inl ⟨rfl,h2,hl,fun j hj => g2 j (Nat.zero_le _) hj⟩
   ·rw [show ((0:Nat):Int) = 0 from rfl] at g1
    rw [g1,bs]
    exact .inr ⟨rfl,fun g => g2 (g.2.2 j hj)⟩
  ·rw [sS (by omega),zH]
   exact .inr ⟨rfl,fun g => hl g.2.1⟩
 ·rw [h1,bs,Bool.not_false,zH]
  exact .inr ⟨rfl,fun g => h2 g.1⟩
theorem zJr {x:SPr} (h6:x.zA.length ≤ 6) :
  (zG (zL4 x) (1,0) = some (.inl ()) ∧ Os x.zA ∧ pr x.zA x.zA.length ≤ 729) ∨ (zG (zL4 x) (1,0) = some (.inr false) ∧ ¬ (Os x.zA ∧ pr x.zA x.zA.length ≤ 729)):=by
 rcases zXh (body:=zL4 x) (fun i => (pr x.zA i,(i:Int))) x.zA.length 0 (Nat.zero_le _) (fun i => Prime (at0 x.zA i) ∧ pr x.zA (i + 1) ≤ 729) (fun _ => false) (fun i _ hi hpre => by
   have hp:∀ j,j < i → Prime (at0 x.zA j):=fun j hj => (hpre j (Nat.zero_le _) hj).1
   have hpp:=zFL hp
   have hle:pr x.zA i ≤ 729:=by
    cases i with
    | zero => simp [pr]
    | succ i => exact (hpre i (Nat.zero_le _) (by omega)).2
   unfold zL4
   rw [yO hi,zH,yD hi,bs]
   rcases zAO (at0 x.zA i) with ⟨h1,h2⟩ | ⟨h1,h2⟩
   ·have h3:=h2.pos
    have h4:pr x.zA i * at0 x.zA i ≤ 729 * 7:=Int.mul_le_mul hle h3.2 (by omega) (by omega)
    have h5:1 * 1 ≤ pr x.zA i * at0 x.zA i:=Int.mul_le_mul hpp (by omega) (by omega) (by omega)
    simp only
    rw [h1,bs,Bool.not_true,zF,zC (by omega) (by omega),bs]
    by_cases h7:pr x.zA i * at0 x.zA i > 729
    ·rw [decide_eq_true h7,zH]
     exact .inr ⟨rfl,fun g => by have:=g.2;simp only [pr] at this;omega⟩
    ·rw [decide_eq_false h7,zF,bs,zC (by omega) (by omega),bs,cs]
     exact .inl ⟨rfl,h2,by simp only [pr];omega⟩
   ·rw [h1,bs,Bool.not_false,zH]
    exact .inr ⟨rfl,fun g => h2 g.1⟩) (by
   unfold zL4
   rw [yY,zF]) with ⟨g1,g2⟩ | ⟨i,_,hi,g1,g2⟩
 ·refine .inl ⟨g1,⟨by omega,fun i hi => (g2 i (Nat.zero_le _) hi).1⟩,?_⟩
  cases hn:x.zA.length with
  | zero => simp [pr]
  | succ n => exact (g2 n (Nat.zero_le _) (by omega)).2
 ·refine .inr ⟨g1,fun ⟨h1,h2⟩ => g2 ⟨h1.2 i hi,?_⟩⟩
  have:=zM5 (os:=x.zA) (n:=x.zA.length) h1.2 (x.zA.length - (i + 1)) (by omega)
  rw [show x.zA.length - (x.zA.length - (i + 1)) = i + 1 from by omega] at this
  omega
theorem zIe {os:List Int} (ho:Os os):zSp os = some (cp os os.length):=by
 have h6:=ho.1
 unfold zSp
 rw [show (1,0) = (fun i => (cp os i,(i:Int))) 0 from rfl,zP (body:=zJX os) (r:=cp os os.length) (fun i => (cp os i,(i:Int))) os.length (fun i hi => by
  have hp:=(ho.2 i hi).pos
  have hc:=zPr (os:=os) (i:=i) fun j hj => ho.2 j (by omega)
  have hpp:=zFL (os:=os) (i:=i) fun j hj => ho.2 j (by omega)
  unfold zJX
  rw [yO hi,zH]
  simp only [cp]
  by_cases h:cp os i ≤ 729
  ·have h4:cp os i * at0 os i ≤ 729 * 7:=Int.mul_le_mul h hp.2 (by omega) (by omega)
   have h5:1 * 1 ≤ cp os i * at0 os i:=Int.mul_le_mul (by omega) (by omega) (by omega) (by omega)
   rw [decide_eq_true h,zH,yD hi,bs,zC (by omega) (by omega),bs,zC (by omega) (by omega),bs,cs,if_pos h]
  ·rw [decide_eq_false h,zF,zC (by omega) (by omega),bs,cs,if_neg h]) (by
  unfold zJX
  rw [yY,zF]),bs]
theorem zCg {x:SPr} (hl:x.zA.length ≤ 1048576):IsB (f_p x) (zEz x):=by
 unfold f_p
 by_cases h6:x.zA.length ≤ 6
 ·rw [decide_eq_false (by omega),zF]
  by_cases hp:x.zV.length = x.zA.length
  ·rw [jJ (by omega),zF]
   by_cases hc:x.zB.length = x.zA.length
   ·rw [jJ (by omega),zF]
    rcases zJr h6 with ⟨h1,h2,h3⟩ | ⟨h1,h2⟩
    ·rw [h1,bs]
     exact (tL (f:=(zG (zL5 x) 0).bind fun r => match r with | .inl _ => some true | .inr r => some r) x.zA.length (zFM x) rfl (fun i hi _ => zKL h2 hp hc hi) (by
      unfold zL5
      rw [yY,zF])).iff ⟨fun g => ⟨⟨h2,hp,hc,g⟩,h6,h3⟩,fun g => g.tl⟩
    ·rw [h1,bs]
     exact .inr ⟨rfl,fun g => h2 ⟨g.os,g.pr⟩⟩
   ·rw [sS (by omega),zH]
    exact .inr ⟨rfl,fun g => hc g.cl⟩
  ·rw [sS (by omega),zH]
   exact .inr ⟨rfl,fun g => hp g.pl⟩
 ·rw [decide_eq_true (by omega),zH]
  exact .inr ⟨rfl,fun g => h6 g.n6⟩
theorem zCh {x:SPr} (hl:x.zA.length ≤ 1048576):IsB (f_t x) (zEz x):=by
 unfold f_t
 by_cases h6:x.zA.length ≤ 6
 ·rw [decide_eq_false (by omega),zF]
  by_cases hp:x.zV.length = x.zA.length
  ·rw [jJ (by omega),zF]
   by_cases hc:x.zB.length = x.zA.length
   ·rw [jJ (by omega),zF]
    rcases chk (body:=zQg x) x.zA.length 0 (Nat.zero_le _) (fun i => Prime (at0 x.zA i)) (fun _ => false) (fun i _ hi _ => by
      refine vO (zFK _) (by omega) ?_
      unfold zQg
      rw [yO hi,zH,yD hi,bs]) (by
      unfold zQg
      rw [yY,zF]) with ⟨g1,g2⟩ | ⟨i,_,hi,g1,g2⟩
    ·rw [show ((0:Nat):Int) = 0 from rfl] at g1
     have ho:Os x.zA:=⟨by omega,fun i hi => g2 i (Nat.zero_le _) hi⟩
     have hcp:=zPr (os:=x.zA) (i:=x.zA.length) ho.2
     rw [g1,bs]
     simp only
     rw [zIe ho,bs]
     by_cases h7:cp x.zA x.zA.length > 729
     ·rw [decide_eq_true h7,zH]
      exact .inr ⟨rfl,fun g => by have:=g.pr;omega⟩
     ·rw [decide_eq_false h7,zF]
      exact (tL (f:=(zG (zL0 x) 0).bind fun r => match r with | .inl _ => some true | .inr r => some r) x.zA.length (zFM x) rfl (fun i hi _ => zKM ho hp hc hi) (by
       unfold zL0
       rw [yY,zF])).iff ⟨fun g => ⟨⟨ho,hp,hc,g⟩,h6,by omega⟩,fun g => g.tl⟩
    ·rw [show ((0:Nat):Int) = 0 from rfl] at g1
     rw [g1,bs]
     exact .inr ⟨rfl,fun g => g2 (g.os.2 i hi)⟩
   ·rw [sS (by omega),zH]
    exact .inr ⟨rfl,fun g => hc g.cl⟩
  ·rw [sS (by omega),zH]
   exact .inr ⟨rfl,fun g => hp g.pl⟩
 ·rw [decide_eq_true (by omega),zH]
  exact .inr ⟨rfl,fun g => h6 g.n6⟩
end Go.Pl

namespace Go.Pl
open Go Go.Ab Go.Wk Go.Pc
def lvl (x:SPr) (i:Nat):Lvl:=⟨at0 x.zA i,(x.zV.getD i []).drop (i + 1),(x.zB.getD i []).map (·.drop (i + 1))⟩
def suf (x:SPr) (k:Nat):Pcp:=(List.range' k (x.zA.length - k)).map (lvl x)
theorem xE (x:SPr) (k:Nat):(suf x k).length = x.zA.length - k:=by simp [suf]
theorem yI {x:SPr} {k:Nat} (h:k < x.zA.length):suf x k = lvl x k :: suf x (k + 1):=by
 unfold suf
 rw [show x.zA.length - k = (x.zA.length - (k + 1)) + 1 from by omega,List.range'_succ,List.map_cons]
theorem vR {x:SPr} {k:Nat} (h:x.zA.length ≤ k):suf x k = []:=by
 unfold suf;rw [show x.zA.length - k = 0 from by omega];rfl
theorem zA2 {os v:List Int} {k:Nat} (h:Exp os v k) (hk:k < os.length):v = zeros (k + 1) ++ v.drop (k + 1):=by
 have h1:=h.1.1
 apply List.ext_getElem?
 intro i
 rw [List.getElem?_append]
 simp only [zeros,List.length_replicate,List.getElem?_replicate,List.getElem?_drop]
 split
 ·rename_i hi
  have h2:=h.2 i (by omega)
  rw [List.getElem?_eq_getElem (by omega)]
  rw [at0,List.getD_eq_getElem?_getD,List.getElem?_eq_getElem (by omega)] at h2
  simpa using h2
 ·rw [show k + 1 + (i - (k + 1)) = i from by omega]
theorem zUs {x:SPr}:∀ (d k:Nat) (v:List Int),k + d = x.zA.length → v.length = d → (∀ i,i < d → 0 ≤ at0 v i ∧ at0 v i ≤ at0 x.zA (k + i) - 1) → V (suf x k) v
 | 0,k,v,hk,hv,_ => by
  rw [vR (by omega)]
  simpa [V] using hv
 | d + 1,k,v,hk,hv,h => by
  rw [yI (by omega)]
  match v,hv with
  | a :: v,hv =>
   have h0:=h 0 (by omega)
   simp only [at0,List.getD_cons_zero,Nat.add_zero] at h0
   refine ⟨⟨h0.1,by simp only [lvl,at0];omega⟩,zUs d (k + 1) v (by omega) (by simpa using hv) fun i hi => ?_⟩
   have:=h (i + 1) (by omega)
   simp only [at0,List.getD_cons_succ] at this
   rw [show k + 1 + i = k + (i + 1) from by omega]
   exact this
theorem zHj {x:SPr} {v:List Int} {k:Nat} (h:Exp x.zA v k) (hk:k < x.zA.length):V (suf x (k + 1)) (v.drop (k + 1)):=by
 have h1:=h.1.1
 refine zUs (x.zA.length - (k + 1)) (k + 1) _ (by omega) (by rw [List.length_drop];omega) fun i hi => ?_
 have:=h.1.2 (k + 1 + i) (by omega)
 have e:at0 (v.drop (k + 1)) i = at0 v (k + 1 + i):=by simp only [at0,List.getD_eq_getElem?_getD,List.getElem?_drop]
 rw [e];exact this
theorem Pres.ok {x:SPr} (h:Pres x):∀ (d k:Nat),k + d = x.zA.length → Pc.Ok (suf x k)
 | 0,k,hk => by rw [vR (by omega)];simp only [Pc.Ok]
 | d + 1,k,hk => by
  rw [yI (by omega)]
  obtain ⟨t1,t2,t3⟩:=h.tl k (by omega)
  refine ⟨by simp only [lvl];have:=(h.os.2 k (by omega)).pos;omega,zHj t1 (by omega),?_,fun c hc => ?_,Pres.ok h d (k + 1) (by omega)⟩
  ·rw [xE];simp only [lvl,List.length_map];omega
  ·simp only [lvl,List.mem_map] at hc
   obtain ⟨u,hu,rfl⟩:=hc
   obtain ⟨j,hj,rfl⟩:=List.mem_iff_getElem.1 hu
   have:=t3 j hj
   rw [List.getD_eq_getElem?_getD,List.getElem?_eq_getElem hj] at this
   exact zHj this (by omega)
theorem Pres.okAt {x:SPr} (h:Pres x) {k:Nat} (hk:k ≤ x.zA.length):Pc.Ok (suf x k):=h.ok (x.zA.length - k) k (by omega)
theorem zR (n:Nat):(zeros n).length = n:=by simp [zeros]
theorem zE0 (k:Nat):zeros (k + 1) = zeros k ++ [0]:=by simp [zeros,List.replicate_succ']
theorem zCt {k:Nat} {a b:Int} {v:Vec}:(zeros k ++ a :: v).set k b = zeros k ++ b :: v:=by
 rw [List.set_append_right _ _ (by rw [zR];omega),zR,Nat.sub_self,List.set_cons_zero]
theorem zB8 {k:Nat} {a:Int} {v:Vec}:ixO (zeros k ++ a :: v) (k:Int) = some a:=by
 rw [wY,List.getElem?_append_right (by rw [zR];omega),zR,Nat.sub_self];rfl
theorem zAP {k:Nat} {v:Vec}:zeros k ++ 0 :: v = zeros (k + 1) ++ v:=by rw [zE0,List.append_assoc];rfl
theorem tD {v:List Int} (h:v.length ≤ 1000000):f_q v = some v:=by
 unfold f_q
 rw [yK (by simp;omega),bs,List.nil_append]
end Go.Pl

namespace Go.Pl
open Go Go.Ab Go.Wk Go.Pc
theorem zA3 {m:Vec → Vec → Vec}:∀ (cs:List Vec) (x:Vec) (i:Nat) (acc:Vec),i < cs.length → i < x.length →
  img m (cs.take (i + 1)) (x.take (i + 1)) acc = iter (at0 x i).toNat (fun v => m v (cs.getD i [])) (img m (cs.take i) (x.take i) acc)
 | [],_,_,_,h,_ => by simp at h
 | _ :: _,[],_,_,_,h => by simp at h
 | c :: cs,a :: x,0,acc,_,_ => by simp only [Nat.zero_add,List.take_succ_cons,List.take_zero,img,at0,List.getD_cons_zero]
 | c :: cs,a :: x,i + 1,acc,h,h' => by
  simp only [List.take_succ_cons,img,at0,List.getD_cons_succ]
  exact zA3 cs x i _ (by simpa using h) (by simpa using h')
theorem wW {α β:Type} {body:α × Int → Option ((α × Int) ⊕ α)} {S:β → Prop} (e:β → α) (g:β → β) (n:Int) (hn:0 ≤ n) (hS:∀ a,S a → S (g a))
  (h:∀ a (i:Nat),S a → (i:Int) < n → body (e a,(i:Int)) = some (.inl (e (g a),((i + 1:Nat):Int)))) (he:∀ a,S a → body (e a,n) = some (.inr (e a))) {a:β} (ha:S a) :
  zG body (e a,0) = some (e (iter n.toNat g a)):=by
 have hit:∀ k,S (iter k g a):=fun k => wS (S:=S) hS k ha
 exact zP (body:=body) (r:=e (iter n.toNat g a)) (fun i => (e (iter i g a),(i:Int))) n.toNat (fun i hi => by
  rw [h _ i (hit i) (by omega),vA]) (by
  rw [show ((n.toNat:Nat):Int) = n from by omega]
  exact he _ (hit _))
theorem zJs {k i:Nat} {v:Vec} (h:i < v.length):ixO (zeros k ++ v) ((k + i:Nat):Int) = some (at0 v i):=by
 rw [wY,List.getElem?_append_right (by rw [zR];omega),zR,show k + i - k = i from by omega,List.getElem?_eq_getElem h,at0,List.getD_eq_getElem?_getD,List.getElem?_eq_getElem h];rfl
theorem zCF {x:SPr} (ho:Os x.zA):∀ (d k:Nat) (v:List Int),k + d = x.zA.length → V (suf x k) v → v.length = d ∧ ∀ i,i < d → 0 ≤ at0 v i ∧ at0 v i < at0 x.zA (k + i) ∧ at0 v i ≤ 6
 | 0,k,v,hk,hv => by
  rw [vR (by omega)] at hv
  simp only [V] at hv
  subst hv
  exact ⟨rfl,fun i hi => by omega⟩
 | d + 1,k,v,hk,hv => by
  rw [yI (by omega)] at hv
  match v,hv with
  | a :: v,hv =>
   obtain ⟨h1,h2⟩:=zCF ho d (k + 1) v (by omega) hv.2
   refine ⟨by simp [h1],fun i hi => ?_⟩
   cases i with
   | zero =>
    have h3:=hv.1
    simp only [lvl] at h3
    have:=(ho.2 k (by omega)).pos
    simp only [at0,List.getD_cons_zero,Nat.add_zero] at h3 this ⊢
    omega
   | succ i =>
    have:=h2 i (by omega)
    simp only [at0,List.getD_cons_succ] at this ⊢
    rw [show k + (i + 1) = k + 1 + i from by omega]
    exact this
theorem zDl {x:SPr} (h:Pres x) {k i:Nat} (hk:k < x.zA.length) (hi:i < x.zA.length - (k + 1)) :
  ∃ c,ixO x.zB (k:Int) = some (x.zB.getD k []) ∧ ixO (x.zB.getD k []) (i:Int) = some (zeros (k + 1) ++ c) ∧ V (suf x (k + 1)) c ∧ (lvl x k).cs.getD i [] = c:=by
 obtain ⟨t1,t2,t3⟩:=h.tl k hk
 have hc:=h.cl
 have ht:=t3 i (by omega)
 refine ⟨((x.zB.getD k []).getD i []).drop (k + 1),yC [] (by omega),?_,zHj ht hk,?_⟩
 ·rw [yC [] (by omega),← zA2 ht hk]
 ·simp only [lvl,List.getD_eq_getElem?_getD,List.getElem?_map]
  rw [List.getElem?_eq_getElem (l:=x.zB[k]?.getD []) (by rw [List.getD_eq_getElem?_getD] at t2;omega)]
  rfl
def FAt (x:SPr) (k:Nat) (g:SPr → Int → List Int → List Int → Option (List Int)):Prop :=
 ∀ a b,V (suf x k) a → V (suf x k) b → g x k (zeros k ++ a) (zeros k ++ b) = some (zeros k ++ mul (suf x k) a b)
def FIm (x:SPr) (k:Nat) (g:SPr → Int → List Int → Option (List Int)):Prop :=
 ∀ v,V (suf x (k + 1)) v → g x k (zeros (k + 1) ++ v) = some (zeros (k + 1) ++ sig (suf x (k + 1)) (lvl x k) v)
theorem zKN {x:SPr} (h:Pres x) {k:Nat} (hk:k < x.zA.length) {g:SPr → Int → List Int → List Int → Option (List Int)} (hg:FAt x (k + 1) g):FIm x k (b_e g):=by
 intro v hv
 have h6:=h.os.1
 have ok:=h.okAt (k:=k + 1) (by omega)
 obtain ⟨hvl,hvr⟩:=zCF h.os (x.zA.length - (k + 1)) (k + 1) v (by omega) hv
 have hlen:=xE x (k + 1)
 have hcl:(lvl x k).cs.length = x.zA.length - (k + 1):=by
  have:=h.okAt (k:=k) (by omega)
  rw [yI hk] at this
  rw [this.2.2.1,hlen]
 have hcs:∀ c ∈ (lvl x k).cs,V (suf x (k + 1)) c:=by
  have:=h.okAt (k:=k) (by omega)
  rw [yI hk] at this
  exact this.2.2.2.1
 have hA:∀ i,V (suf x (k + 1)) (img (mul (suf x (k + 1))) ((lvl x k).cs.take i) (v.take i) (zeros (suf x (k + 1)).length)):=fun i =>
  sK (xH ok) _ _ (fun c hc => hcs c (List.mem_of_mem_take hc)) (wE ok)
 unfold b_e
 rw [yR (by omega),bs,zC (by omega) (by omega),bs,cs]
 have hz:List.replicate x.zA.length (0:Int) = zeros (k + 1) ++ zeros (suf x (k + 1)).length:=by
  rw [hlen];simp only [zeros,List.replicate_append_replicate];congr 1;omega
 rw [hz]
 have:=zP (body:=zQj g x k (zeros (k + 1) ++ v)) (r:=zeros (k + 1) ++ sig (suf x (k + 1)) (lvl x k) v)
  (fun i => (zeros (k + 1) ++ img (mul (suf x (k + 1))) ((lvl x k).cs.take i) (v.take i) (zeros (suf x (k + 1)).length),((k + 1 + i:Nat):Int))) (x.zA.length - (k + 1)) (fun i hi => by
  have hr:=hvr i hi
  obtain ⟨c,c1,c2,c3,c4⟩:=zDl h hk hi
  unfold zQj
  rw [decide_eq_true (by simp only;omega),zH]
  rw [wW (S:=V (suf x (k + 1))) (body:=zQi g x k (zeros (k + 1) ++ v) (zeros (k + 1) ++ img (mul (suf x (k + 1))) ((lvl x k).cs.take i) (v.take i) (zeros (suf x (k + 1)).length),((k + 1 + i:Nat):Int))) (fun u => zeros (k + 1) ++ u) (fun u => mul (suf x (k + 1)) u c) (at0 v i) hr.1 (fun u hu => xH ok hu c3) (fun u q hu hq => by
   unfold zQi
   simp only
   rw [zJs (by omega),bs,decide_eq_true hq,zH,zC (by omega) (by omega),bs,c1,bs,zC (by omega) (by omega),bs,zC (by omega) (by omega),bs,
    show (((k + 1 + i:Nat):Int) - (k:Int) - 1) = (i:Int) from by omega,c2,bs,cs,hg u c hu c3,bs,zC (by omega) (by omega),bs,cs]) (fun u hu => by
   unfold zQi
   simp only
   rw [zJs (by omega),bs,decide_eq_false (by omega),zF]) (hA i),bs,zC (by omega) (by omega),bs,cs]
  rw [zA3 _ _ _ _ (by omega) (by omega),c4]
  rfl) (by
  unfold zQj
  rw [decide_eq_false (by simp only;omega),zF,List.take_of_length_le (by omega),List.take_of_length_le (by omega)]
  rfl)
 simp only [List.take_zero,img] at this
 rw [this,bs]
theorem zRQ {x:SPr} (h:Pres x) {k:Nat} (hk:k < x.zA.length) {g:SPr → Int → List Int → List Int → Option (List Int)} {gi:SPr → Int → List Int → Option (List Int)} (hg:FAt x (k + 1) g) (hi:FIm x k gi):FAt x k (b_a gi g):=by
 intro a b ha hb
 have h6:=h.os.1
 have hp:=(h.os.2 k hk).pos
 have ok:=h.okAt (k:=k + 1) (by omega)
 have ok0:=h.okAt (k:=k) (by omega)
 obtain ⟨hal,har⟩:=zCF h.os (x.zA.length - k) k a (by omega) ha
 obtain ⟨hbl,hbr⟩:=zCF h.os (x.zA.length - k) k b (by omega) hb
 rw [yI hk] at ha hb ok0
 obtain ⟨a0,a,rfl⟩:∃ a0 a',a = a0 :: a':=by cases a with | nil => simp at hal;omega | cons p q => exact ⟨p,q,rfl⟩
 obtain ⟨b0,b,rfl⟩:∃ a0 a',b = a0 :: a':=by cases b with | nil => simp at hbl;omega | cons p q => exact ⟨p,q,rfl⟩
 obtain ⟨⟨a1,a2⟩,ha⟩:=ha
 obtain ⟨⟨b1,b2⟩,hb⟩:=hb
 have hor:(lvl x k).o = at0 x.zA k:=rfl
 rw [hor] at a2 b2
 unfold b_a
 rw [decide_eq_false (by omega),zF,tD (by simp [zR] at hal ⊢;omega),bs,tD (by simp [zR] at hbl ⊢;omega),bs,zB8,bs,zB8,bs,Int.toNat_natCast,zCt,zCt,zAP,zAP]
 have hsig:∀ u,V (suf x (k + 1)) u → V (suf x (k + 1)) (sig (suf x (k + 1)) (lvl x k) u):=fun u hu => zDT ok0 hu
 have hit:V (suf x (k + 1)) (iter b0.toNat (sig (suf x (k + 1)) (lvl x k)) a):=wS hsig _ ha
 rw [wW (S:=V (suf x (k + 1))) (fun u => zeros (k + 1) ++ u) (sig (suf x (k + 1)) (lvl x k)) b0 b1 hsig (fun u q hu hq => by
   unfold zSq
   simp only
   rw [zB8,bs,decide_eq_true hq,zH,hi u hu,bs,zC (by omega) (by omega),bs,cs]) (fun u hu => by
   unfold zSq
   simp only
   rw [zB8,bs,decide_eq_false (by omega),zF]) ha,bs,zC (by omega) (by omega),bs,cs,hg _ _ hit hb,bs,bs,bs,zC (by omega) (by omega),bs,yD hk,bs]
 have hm:=xH ok hit hb
 have hml:=(zCF h.os (x.zA.length - (k + 1)) (k + 1) _ (by omega) hm).1
 have own:∀ u,V (suf x (k + 1)) u → f_q (zeros (k + 1) ++ u) = some (zeros (k + 1) ++ u):=fun u hu => tD (by
  have:=(zCF h.os (x.zA.length - (k + 1)) (k + 1) _ (by omega) hu).1
  rw [List.length_append,zR];omega)
 rw [yI hk,yP,hor]
 by_cases hge:a0 + b0 ≥ at0 x.zA k
 ·have t1:=(h.tl k hk).1
  have hw:=zHj t1 hk
  have hwl:=h.pl
  rw [decide_eq_true hge,zH,if_pos hge,bs,zC (by omega) (by omega),bs,bs,yC [] (by omega),bs,zA2 t1 hk,hg _ _ hw hm,bs,own _ (xH ok hw hm),bs]
  rw [← zAP,zB8,bs,zCt]
  rfl
 ·rw [decide_eq_false hge,zF,if_neg hge,own _ hm,bs,← zAP,zB8,bs,zCt]
theorem zDZ {x:SPr} (h:Pres x):∀ (d k:Nat),k + d = x.zA.length → (∀ m,2 * d + 1 ≤ m → FAt x k (zL2 m)) ∧ (1 ≤ d → ∀ m,2 * d ≤ m → FIm x k (zL1 m))
 | 0,k,hk => by
  refine ⟨fun m hm a b ha hb => ?_,fun h => by omega⟩
  have h6:=h.os.1
  obtain ⟨m,rfl⟩:∃ m',m = m' + 1:=⟨m - 1,by omega⟩
  show b_a _ _ x k _ _ = _
  unfold b_a
  rw [decide_eq_true (by omega),zH,yR (by omega),bs,vR (by omega)]
  simp only [mul,List.append_nil,zeros]
  rw [show k = x.zA.length from by omega]
 | d + 1,k,hk => by
  obtain ⟨h1,h2⟩:=zDZ h d (k + 1) (by omega)
  have hI:∀ m,2 * (d + 1) ≤ m → FIm x k (zL1 m):=fun m hm => by
   obtain ⟨m,rfl⟩:∃ m',m = m' + 1:=⟨m - 1,by omega⟩
   exact zKN h (by omega) (h1 m (by omega))
  refine ⟨fun m hm => ?_,fun _ => hI⟩
  obtain ⟨m,rfl⟩:∃ m',m = m' + 1:=⟨m - 1,by omega⟩
  exact zRQ h (by omega) (h1 m (by omega)) (hI m (by omega))
theorem zM6 {x:SPr} (h:Pres x) {k:Nat} (hk:k ≤ x.zA.length):FAt x k f_a:=fun a b ha hb =>
 zAy (2 * (x.zA.length - k) + 1) fun m hm => (zDZ h (x.zA.length - k) k (by omega)).1 m hm a b ha hb
theorem zKO {x:SPr} (h:Pres x) {k:Nat} (hk:k < x.zA.length):FIm x k f_e:=fun v hv =>
 zAy (2 * (x.zA.length - k)) fun m hm => (zDZ h (x.zA.length - k) k (by omega)).2 (by omega) m hm v hv
end Go.Pl

namespace Go.Pl
open Go Go.Ab Go.Wk Go.Pc
theorem zB9:∀ {P Q:Pcp},Q <:+ P → wV P → wV Q
 | [],Q,h,_ => by
  have:=List.suffix_nil.1 h
  subst this;simp only [wV]
 | l :: P,Q,h,hc => by
  rcases List.suffix_cons_iff.1 h with rfl | h
  ·exact hc
  ·exact zB9 h hc.1
theorem zHk:∀ {P Q:Pcp},Q <:+ P → Pc.Ok P → Pc.Ok Q
 | [],Q,h,_ => by
  have:=List.suffix_nil.1 h
  subst this;simp only [Pc.Ok]
 | l :: P,Q,h,hc => by
  rcases List.suffix_cons_iff.1 h with rfl | h
  ·exact hc
  ·exact zHk h hc.2.2.2.2
theorem zKP (x:SPr) (k:Nat):suf x (k + 1) <:+ suf x k:=by
 by_cases h:k < x.zA.length
 ·rw [yI h];exact List.suffix_cons _ _
 ·rw [vR (by omega)];exact List.nil_suffix
theorem zDm {x:SPr} {k:Nat} (h:wV (suf x k)):∀ i,wV (suf x (k + i))
 | 0 => h
 | i + 1 => zB9 (zKP x (k + i)) (zDm h i)
theorem zFN {x:SPr} (h:Pres x) {k:Nat} (hk:k ≤ x.zA.length) (hc:wV (suf x k)):Grp (V (suf x k)) (mul (suf x k)) (zeros (suf x k).length):=zM0 _ (h.okAt hk) hc
theorem zEL {x:SPr}:∀ (i k:Nat) (v:Vec),k + i ≤ x.zA.length → V (suf x k) v → ∃ q v',v = q ++ v' ∧ q.length = i ∧ V (suf x (k + i)) v' ∧
  ∀ a b,V (suf x (k + i)) a → V (suf x (k + i)) b → mul (suf x k) (q ++ a) (zeros i ++ b) = q ++ mul (suf x (k + i)) a b
 | 0,k,v,_,hv => ⟨[],v,rfl,rfl,hv,fun a b _ _ => rfl⟩
 | i + 1,k,v,hk,hv => by
  rw [yI (by omega)] at hv
  match v,hv with
  | e :: v,hv =>
   obtain ⟨q,v',h1,h2,h3,h4⟩:=zEL i (k + 1) v (by omega) hv.2
   rw [show k + 1 + i = k + (i + 1) from by omega] at h3 h4
   refine ⟨e :: q,v',by rw [h1];rfl,by simp [h2],h3,fun a b ha hb => ?_⟩
   have he:=hv.1
   rw [yI (by omega)]
   show mul (lvl x k :: suf x (k + 1)) (e :: (q ++ a)) (0 :: (zeros i ++ b)) = _
   rw [yP,Int.add_zero,if_neg (by omega)]
   simp only [Int.toNat_zero,iter]
   rw [h4 a b ha hb];rfl
def FTV (x:SPr) (k:Nat) (g:SPr → List Int → List Int → Option (List Int)):Prop :=
 ∀ p v u,p.length = k → V (suf x k) v → V (suf x k) u → g x (p ++ v) (zeros k ++ u) = some (p ++ mul (suf x k) v u)
def FTG (x:SPr) (k:Nat) (g:SPr → List Int → Int → Option (List Int)):Prop :=
 ∀ p v,p.length = k → V (suf x k) v → g x (p ++ v) (k:Int) = some (p ++ mul (suf x k) v (1 :: zeros (x.zA.length - (k + 1))))
theorem zHl {x:SPr} (h:Pres x) {k:Nat} (hk:k < x.zA.length) {g:SPr → List Int → List Int → Option (List Int)} (hg:FTV x (k + 1) g) {t:Vec} (ht:V (suf x (k + 1)) t)
  {body1:List Int × Int → Int → List Int × Int → Option ((List Int × Int) ⊕ List Int)} {body2:List Int × Int → Option ((List Int × Int) ⊕ List Int)}
  (hb2:∀ s,body2 s = cond (decide (s.2 < (t.length:Int))) ((ixO t s.2).bind fun v17 => (zG (body1 s v17) (s.1,0)).bind fun r => (rng (s.2 + 1)).bind fun v => some (.inl (r,v))) (some (.inr s.1)))
  (hb1:∀ s v q,body1 s v q = cond (decide (q.2 < v)) ((ixO x.zB (k:Int)).bind fun cl => (ixO cl s.2).bind fun c => (g x q.1 c).bind fun r => (rng (q.2 + 1)).bind fun w => some (.inl (r,w))) (some (.inr q.1)))
  {p:Vec} (hp:p.length = k + 1) {u:Vec} (hu:V (suf x (k + 1)) u):zG body2 (p ++ u,0) = some (p ++ img (mul (suf x (k + 1))) (lvl x k).cs t u):=by
 have h6:=h.os.1
 have ok:=h.okAt (k:=k + 1) (by omega)
 have ok0:=h.okAt (k:=k) (by omega)
 rw [yI hk] at ok0
 obtain ⟨htl,htr⟩:=zCF h.os (x.zA.length - (k + 1)) (k + 1) t (by omega) ht
 have hcl:(lvl x k).cs.length = x.zA.length - (k + 1):=by rw [ok0.2.2.1,xE]
 have hA:∀ i,V (suf x (k + 1)) (img (mul (suf x (k + 1))) ((lvl x k).cs.take i) (t.take i) u):=fun i =>
  sK (xH ok) _ _ (fun c hc => ok0.2.2.2.1 c (List.mem_of_mem_take hc)) hu
 have:=zP (body:=body2) (r:=p ++ img (mul (suf x (k + 1))) (lvl x k).cs t u) (fun i => (p ++ img (mul (suf x (k + 1))) ((lvl x k).cs.take i) (t.take i) u,(i:Int))) t.length (fun i hi => by
  have hr:=htr i (by omega)
  obtain ⟨c,c1,c2,c3,c4⟩:=zDl h hk (i:=i) (by omega)
  rw [hb2]
  simp only
  rw [yO hi,zH,yD hi,bs]
  rw [wW (S:=V (suf x (k + 1))) (fun u => p ++ u) (fun u => mul (suf x (k + 1)) u c) (at0 t i) hr.1 (fun u hu => xH ok hu c3) (fun u q hu hq => by
   rw [hb1]
   simp only
   rw [decide_eq_true hq,zH,c1,bs,c2,bs,hg p u c hp hu c3,bs,zC (by omega) (by omega),bs,cs]) (fun u hu => by
   rw [hb1]
   simp only
   rw [decide_eq_false (by omega),zF]) (hA i),bs,zC (by omega) (by omega),bs,cs]
  rw [zA3 _ _ _ _ (by omega) (by omega),c4]) (by
  rw [hb2]
  simp only
  rw [yY,zF,List.take_of_length_le (by omega),List.take_of_length_le (by omega)])
 simp only [List.take_zero,img] at this
 exact this
theorem zTy {p v:Vec} {a:Int} {k:Nat} (hp:p.length = k):ixO (p ++ a :: v) (k:Int) = some a:=by
 rw [wY,List.getElem?_append_right (by omega),hp,Nat.sub_self];rfl
theorem p_set {p v:Vec} {a b:Int} {k:Nat} (hp:p.length = k):(p ++ a :: v).set k b = p ++ b :: v:=by
 rw [List.set_append_right _ _ (by omega),hp,Nat.sub_self,List.set_cons_zero]
theorem zJt {x:SPr} (h:Pres x) {k:Nat} (hk:k < x.zA.length) (hc:wV (suf x (k + 1))) {g:SPr → List Int → List Int → Option (List Int)} (hg:FTV x (k + 1) g):FTG x k (b_b g):=by
 intro p v hp hv
 have h6:=h.os.1
 have G:=zFN h (k:=k + 1) (by omega) hc
 have ok:=h.okAt (k:=k + 1) (by omega)
 have ok0:=h.okAt (k:=k) (by omega)
 obtain ⟨hvl,hvr⟩:=zCF h.os (x.zA.length - k) k v (by omega) hv
 rw [yI hk] at hv ok0
 obtain ⟨e,t,rfl⟩:∃ a0 a',v = a0 :: a':=by cases v with | nil => simp at hvl;omega | cons p q => exact ⟨p,q,rfl⟩
 obtain ⟨⟨e1,e2⟩,ht⟩:=hv
 have hor:(lvl x k).o = at0 x.zA k:=rfl
 rw [hor] at e2
 have hpr:=(h.os.2 k hk).pos
 have htl:=(zCF h.os (x.zA.length - (k + 1)) (k + 1) t (by omega) ht).1
 have hsl:=xE x (k + 1)
 unfold b_b
 have hs:zT (p ++ e :: t) ((k + 1:Nat):Int) ((p ++ e :: t).length:Int) = some t:=by
  unfold zT
  rw [if_pos (by simp only [List.length_append,List.length_cons];omega)]
  have e3:(p ++ e :: t).drop (k + 1) = t:=by
   rw [List.drop_append,List.drop_of_length_le (by omega),hp,show k + 1 - k = 1 from by omega];rfl
  simp only [Int.toNat_natCast,e3,List.length_append,List.length_cons]
  rw [List.take_of_length_le (by omega)]
 have hclone:f_v t = some t:=by
  unfold f_v
  rw [yK (by simp;omega),bs,List.nil_append]
 rw [zC (by omega) (by omega),bs,cs,hs,bs,hclone,bs]
 have hz:=zP (body:=zQ2 k t) (r:=(p ++ [e]) ++ zeros t.length) (fun i => ((p ++ [e]) ++ (zeros i ++ t.drop i),(i:Int))) t.length (fun i hi => by
  have hl:((p ++ [e]) ++ zeros i).length = k + 1 + i:=by simp [zR,hp];omega
  unfold zQ2
  simp only
  rw [yO hi,zH,zC (by omega) (by omega),bs,zC (by omega) (by omega),bs,show (k:Int) + 1 + (i:Int) = ((k + 1 + i:Nat):Int) from by omega,wY,← List.append_assoc,List.getElem?_append_right (by omega),hl,Nat.sub_self,
   List.drop_eq_getElem_cons hi,List.getElem?_cons_zero,bs,zC (by omega) (by omega),bs,cs,Int.toNat_natCast,List.set_append_right _ _ (by omega),hl,Nat.sub_self,List.set_cons_zero,zE0]
  simp only [List.append_assoc,List.cons_append,List.nil_append]) (by
  unfold zQ2
  simp only
  rw [yY,zF,List.drop_length,List.append_nil])
 simp only [zeros,List.replicate_zero,List.drop_zero,List.nil_append,List.append_assoc,List.singleton_append] at hz
 rw [show ((0:Nat):Int) = 0 from rfl] at hz
 rw [hz,bs,Int.toNat_natCast,zTy hp,bs,zC (by omega) (by omega),bs,bs,p_set hp,zTy hp,bs,yD hk,bs]
 have hz2:List.replicate t.length (0:Int) = zeros (suf x (k + 1)).length:=by rw [hsl,htl];rfl
 rw [yI hk,yP,hor]
 have hone:mul (suf x (k + 1)) (iter (1:Int).toNat (sig (suf x (k + 1)) (lvl x k)) t) (zeros (x.zA.length - (k + 1))) = sig (suf x (k + 1)) (lvl x k) t:=by
  rw [← hsl]
  show mul _ (sig (suf x (k + 1)) (lvl x k) t) _ = _
  exact G.oner (zDT ok0 ht)
 rw [hone,hz2]
 by_cases heq:e + 1 = at0 x.zA k
 ·have t1:=(h.tl k hk).1
  have hw:=zHj t1 hk
  have hwl:=h.pl
  have hp1:(p ++ [(0:Int)]).length = k + 1:=by simp [hp]
  rw [show (e + 1 == at0 x.zA k) = true from by simpa using heq,zH,if_pos (by omega),bs,yC [] (by omega),bs,p_set hp]
  have hz3:p ++ 0 :: zeros (suf x (k + 1)).length = (p ++ [0]) ++ zeros (suf x (k + 1)).length:=by simp
  rw [hz3,zA2 t1 hk,hg _ _ _ hp1 G.ein hw,bs,G.onel hw]
  rw [zHl (body1:=zUK g x k) (body2:=zUL g x k t) h hk hg ht (fun _ => rfl) (fun _ _ _ => rfl) hp1 hw,bs]
  rw [zDj G.toMon _ _ ok0.2.2.2.1 hw,show e + 1 - at0 x.zA k = 0 from by omega]
  simp only [List.append_assoc,List.singleton_append]
  rfl
 ·have hp1:(p ++ [e + 1]).length = k + 1:=by simp [hp]
  rw [show (e + 1 == at0 x.zA k) = false from by simpa using heq,zF,if_neg (by omega)]
  have hz3:p ++ (e + 1) :: zeros (suf x (k + 1)).length = (p ++ [e + 1]) ++ zeros (suf x (k + 1)).length:=by simp
  rw [hz3,zHl (body1:=zUM g x k) (body2:=zUN g x k t) h hk hg ht (fun _ => rfl) (fun _ _ _ => rfl) hp1 G.ein,bs]
  simp only [List.append_assoc,List.singleton_append]
  rfl
theorem jO {n i:Nat} (h:i < n):wF n i = zeros i ++ 1 :: zeros (n - (i + 1)):=by
 have:zeros n = zeros i ++ 0 :: zeros (n - (i + 1)):=by
  simp only [zeros]
  rw [← List.replicate_succ,List.replicate_append_replicate]
  congr 1;omega
 rw [wF,this,zCt]
theorem zDn (n:Nat):(xK n).length = n:=by simp [xK]
theorem zFO {n i:Nat} (h:i < n):(xK n).getD i [] = wF n i:=by
 simp [xK,List.getD_eq_getElem?_getD,h]
theorem zPs {x:SPr} (h:Pres x) {k:Nat} (hk:k ≤ x.zA.length) (hc:wV (suf x k)) {g:SPr → List Int → Int → Option (List Int)} (hg:∀ j,k ≤ j → j < x.zA.length → FTG x j g):FTV x k (b_c g):=by
 intro p v u hp hv hu
 have h6:=h.os.1
 have G:=zFN h hk hc
 have ok:=h.okAt hk
 obtain ⟨hul,hur⟩:=zCF h.os (x.zA.length - k) k u (by omega) hu
 have hsl:=xE x k
 have hV1:∀ j,j ≤ x.zA.length → j < x.zA.length → V (suf x j) (1 :: zeros (x.zA.length - (j + 1))):=fun j hj hj' => by
  rw [yI hj']
  have:=(h.os.2 j hj').pos
  refine ⟨⟨by omega,by show 1 < at0 x.zA j;omega⟩,?_⟩
  rw [← xE]
  exact wE (h.okAt (by omega))
 have hUn:∀ i,i < x.zA.length - k → V (suf x k) (wF (x.zA.length - k) i):=fun i hi => by
  rw [← hsl] at hi ⊢
  exact zCE ok hi
 have hUs:∀ c ∈ xK (x.zA.length - k),V (suf x k) c:=fun c hc => by
  simp only [xK,List.mem_map,List.mem_range] at hc
  obtain ⟨i,hi,rfl⟩:=hc
  exact hUn i hi
 have hA:∀ i,V (suf x k) (img (mul (suf x k)) ((xK (x.zA.length - k)).take i) (u.take i) v):=fun i =>
  sK (xH ok) _ _ (fun c hc => hUs c (List.mem_of_mem_take hc)) hv
 have hgen:∀ i w,i < x.zA.length - k → V (suf x k) w → g x (p ++ w) ((k + i:Nat):Int) = some (p ++ mul (suf x k) w (wF (x.zA.length - k) i)):=fun i w hi hw => by
  obtain ⟨q,w',h1,h2,h3,h4⟩:=zEL i k w (by omega) hw
  have h5:=hg (k + i) (by omega) (by omega) (p ++ q) w' (by simp [hp,h2]) h3
  rw [List.append_assoc,← h1] at h5
  rw [h5,jO hi,h1,show x.zA.length - k - (i + 1) = x.zA.length - (k + i + 1) from by omega,h4 w' _ h3 (hV1 (k + i) (by omega) (by omega)),List.append_assoc]
 unfold b_c
 have hul2:(zeros k ++ u).length = x.zA.length:=by simp [zR];omega
 have:=zP (body:=zQ4 g x (zeros k ++ u)) (r:=p ++ mul (suf x k) v u) (fun j => (p ++ img (mul (suf x k)) ((xK (x.zA.length - k)).take (j - k)) (u.take (j - k)) v,(j:Int))) x.zA.length (fun j hj => by
  unfold zQ4
  simp only
  rw [hul2,yO hj,zH]
  rcases Nat.lt_or_ge j k with hjk | hjk
  ·have e0:ixO (zeros k ++ u) (j:Int) = some 0:=by
    rw [wY,List.getElem?_append_left (by rw [zR];exact hjk)]
    simp [zeros,hjk]
   rw [e0,bs,show j - k = 0 from by omega,show j + 1 - k = 0 from by omega]
   rw [xC]
   unfold zQ3
   simp only
   rw [show decide ((0:Int) < 0) = false from rfl,zF]
   simp only
   rw [bs,zC (by omega) (by omega),bs,cs]
  ·obtain ⟨i,rfl⟩:∃ i,j = k + i:=⟨j - k,by omega⟩
   have hi:i < x.zA.length - k:=by omega
   have hr:=hur i hi
   rw [zJs (by omega),bs,show k + i - k = i from by omega,show k + i + 1 - k = i + 1 from by omega]
   rw [wW (S:=V (suf x k)) (fun w => p ++ w) (fun w => mul (suf x k) w (wF (x.zA.length - k) i)) (at0 u i) hr.1 (fun w hw => xH ok hw (hUn i hi)) (fun w q hw hq => by
    unfold zQ3
    simp only
    rw [decide_eq_true hq,zH,hgen i w hi hw,bs,zC (by omega) (by omega),bs,cs]) (fun w hw => by
    unfold zQ3
    simp only
    rw [decide_eq_false (by omega),zF]) (hA i),bs,zC (by omega) (by omega),bs,cs]
   rw [zA3 _ _ _ _ (by rw [zDn];exact hi) (by omega),zFO hi]) (by
  unfold zQ4
  simp only
  rw [hul2,yY,zF,List.take_of_length_le (by rw [zDn];omega),List.take_of_length_le (by omega),zDj G.toMon _ _ hUs hv]
  have hn:=normal (suf x k) ok (fun Q hQ => (zM0 Q (zHk hQ ok) (zB9 hQ hc)).toMon) u hu
  rw [hsl] at hn ⊢
  rw [hn])
 simp only [Nat.zero_sub,List.take_zero,img] at this
 rw [show ((0:Nat):Int) = 0 from rfl] at this
 rw [this,bs]
theorem zEa {x:SPr} (h:Pres x):∀ (d k:Nat),k + d = x.zA.length → wV (suf x k) → (∀ m,2 * d + 1 ≤ m → FTV x k (zNH m))
 | d,k,hk,hc => fun m hm => by
  obtain ⟨m,rfl⟩:∃ m',m = m' + 1:=⟨m - 1,by omega⟩
  refine zPs h (by omega) hc fun j hj hjn => ?_
  obtain ⟨m,rfl⟩:∃ m',m = m' + 1:=⟨m - 1,by omega⟩
  have hcj:wV (suf x (j + 1)):=by
   have:=zDm hc (j + 1 - k)
   rwa [show k + (j + 1 - k) = j + 1 from by omega] at this
  exact zJt h hjn hcj (zEa h (x.zA.length - (j + 1)) (j + 1) (by omega) hcj m (by omega))
 termination_by d => d
 decreasing_by omega
theorem zRR {x:SPr} (h:Pres x) {k:Nat} (hk:k ≤ x.zA.length) (hc:wV (suf x k)):FTV x k f_c:=fun p v u hp hv hu =>
 zAy (2 * (x.zA.length - k) + 1) fun m hm => zEa h (x.zA.length - k) k (by omega) hc m hm p v u hp hv hu
theorem zRS {x:SPr} (h:Pres x) {k:Nat} (hk:k < x.zA.length) (hc:wV (suf x (k + 1))):FTG x k f_b:=fun p v hp hv =>
 zAy (2 * (x.zA.length - k)) fun m hm => by
  obtain ⟨m,rfl⟩:∃ m',m = m' + 1:=⟨m - 1,by omega⟩
  exact zJt h hk hc (zEa h (x.zA.length - (k + 1)) (k + 1) (by omega) hc m (by omega)) p v hp hv
end Go.Pl

namespace Go.Pl
open Go Go.Ab Go.Wk Go.Pc
abbrev fv (k:Nat) (v:Vec):Vec:=zeros k ++ v
section
variable {x:SPr} (h:Pres x) {k:Nat} (hk:k ≤ x.zA.length) (hc:wV (suf x k))
 include h hk
theorem tW {v:Vec} (hv:V (suf x k) v):v.length = x.zA.length - k:=(zCF h.os (x.zA.length - k) k v (by omega) hv).1
theorem zBA {v:Vec} (hv:V (suf x k) v):(fv k v).length = x.zA.length:=by
 rw [List.length_append,zR,tW h hk hv];omega
theorem zM7:List.replicate x.zA.length (0:Int) = fv k (zeros (suf x k).length):=by
 have _:=h
 rw [xE];simp only [fv,zeros,List.replicate_append_replicate];congr 1;omega
 include hc
theorem zKQ {i:Nat} (hi:i < x.zA.length - k):V (suf x k) (wF (x.zA.length - k) i):=by
 have _:=hc
 have:=xE x k
 rw [← this] at hi ⊢
 exact zCE (h.okAt hk) hi
theorem zJu {p:Vec} (hp:p.length = k) {i:Nat} (hi:i < x.zA.length - k) {w:Vec} (hw:V (suf x k) w):f_b x (p ++ w) ((k + i:Nat):Int) = some (p ++ mul (suf x k) w (wF (x.zA.length - k) i)):=by
 obtain ⟨q,w',h1,h2,h3,h4⟩:=zEL i k w (by omega) hw
 have hcj:wV (suf x (k + i + 1)):=zDm hc (i + 1)
 have h5:=zRS h (k:=k + i) (by omega) hcj (p ++ q) w' (by simp [hp,h2]) h3
 have h7:V (suf x (k + i)) (1 :: zeros (x.zA.length - (k + i + 1))):=by
  have hj':k + i < x.zA.length:=by omega
  rw [yI hj']
  have:=(h.os.2 (k + i) hj').pos
  refine ⟨⟨by omega,by show 1 < at0 x.zA (k + i);omega⟩,?_⟩
  rw [← xE]
  exact wE (h.okAt (by omega))
 rw [List.append_assoc,← h1] at h5
 rw [h5,jO hi,h1,show x.zA.length - k - (i + 1) = x.zA.length - (k + i + 1) from by omega,h4 w' _ h3 h7,List.append_assoc]
theorem zFP {a b:Vec} (ha:V (suf x k) a) (hb:V (suf x k) b):f_c x (fv k a) (fv k b) = some (fv k (mul (suf x k) a b)) :=
 zRR h hk hc (zeros k) a b (zR k) ha hb
theorem zJv {a:Vec} (ha:V (suf x k) a):f_v (fv k a) = some (fv k a):=by
 have _:=hc
 have:=zBA h hk ha
 have h6:=h.os.1
 unfold f_v
 rw [yK (by simp only [List.length_nil];omega),bs,List.nil_append]
theorem zCu {a b:Vec} (ha:V (suf x k) a) (hb:V (suf x k) b):zQ9 x (fv k a) (fv k b) = some (fv k (mul (suf x k) a b)):=by
 unfold zQ9
 rw [zJv h hk hc ha,bs,zFP h hk hc ha hb,bs]
theorem zKR {c:Vec} (hcv:V (suf x k) c) {e:Int} (e0:0 ≤ e) (e1:e ≤ 1000):zSx x (fv k c) e = some (fv k (pw (mul (suf x k)) (zeros (suf x k).length) c e.toNat)):=by
 have h6:=h.os.1
 have ok:=h.okAt hk
 unfold zSx
 rw [zBA h hk hcv,yR (by omega),bs,zM7 h hk]
 rw [wW (S:=V (suf x k)) (body:=zKb x (fv k c) e) (fun u => fv k u) (fun u => mul (suf x k) u c) e e0 (fun u hu => xH ok hu hcv) (fun u i hu hi => by
  unfold zKb
  simp only
  rw [decide_eq_true hi,zH,zFP h hk hc hu hcv,bs,zC (by omega) (by omega),bs,cs]) (fun u hu => by
  unfold zKb
  simp only
  rw [decide_eq_false (by omega),zF]) (wE ok),bs]
 rfl
theorem zJw {v:Vec} (hv:V (suf x k) v):∃ w,V (suf x k) w ∧ mul (suf x k) v w = zeros (suf x k).length ∧ f_E x (fv k v) = some (fv k w):=by
 have h6:=h.os.1
 have ok:=h.okAt hk
 have G:=zFN h hk hc
 have hvl:=zBA h hk hv
 have hsl:=xE x k
 unfold f_E
 rw [zJv h hk hc hv,bs,hvl,yR (by omega),bs,zM7 h hk]
 let I:Nat → (List Int × List Int × Int) → Prop:=fun j s => ∃ A w,s = (fv k A,fv k w,(j:Int)) ∧ V (suf x k) A ∧ V (suf x k) w ∧ mul (suf x k) v w = A ∧ ∃ A',A = zeros (j - k) ++ A'
 have key:=vM (body:=zQ8 x (fv k v)) (Q:=fun r => ∃ w,V (suf x k) w ∧ mul (suf x k) v w = zeros (suf x k).length ∧ r = fv k w) I x.zA.length (fun j s hj hI => by
  obtain ⟨A,w,rfl,hA,hw,hm,A',hA'⟩:=hI
  left
  unfold zQ8
  simp only
  rw [hvl,yO hj,zH]
  rcases Nat.lt_or_ge j k with hjk | hjk
  ·have e0:ixO (fv k A) (j:Int) = some 0:=by
    rw [wY,List.getElem?_append_left (by rw [zR];exact hjk)]
    simp [zeros,hjk]
   rw [xC]
   unfold zNI
   simp only
   rw [e0,bs,show ((0:Int) != 0) = false from rfl,zF]
   simp only
   rw [bs,zC (by omega) (by omega),bs,cs]
   exact ⟨_,rfl,A,w,rfl,hA,hw,hm,A,by rw [show j + 1 - k = 0 from by omega];rfl⟩
  ·obtain ⟨i,rfl⟩:∃ i,j = k + i:=⟨j - k,by omega⟩
   have hi:i < x.zA.length - k:=by omega
   rw [show k + i - k = i from by omega] at hA'
   have hAl:=tW h hk hA
   obtain ⟨a0,A',rfl⟩:∃ p q,A' = p :: q:=by
    cases A' with
    | nil => rw [hA',List.length_append,zR,List.length_nil] at hAl;omega
    | cons p q => exact ⟨p,q,rfl⟩
   have hpr:=(h.os.2 (k + i) hj).pos
   have inner:=vM (body:=zNI x (fv k A,fv k w,((k + i:Nat):Int))) (s:=(fv k A,fv k w))
    (Q:=fun r => ∃ B u,r = (fv k B,fv k u) ∧ V (suf x k) B ∧ V (suf x k) u ∧ mul (suf x k) v u = B ∧ ∃ B',B = zeros (i + 1) ++ B')
    (fun q s => ∃ B u b B',s = (fv k B,fv k u) ∧ V (suf x k) B ∧ V (suf x k) u ∧ mul (suf x k) v u = B ∧ B = zeros i ++ b :: B' ∧ (b = 0 ∨ b = a0 + q)) 10 (fun q s hq hs => by
     obtain ⟨B,u,b,B',rfl,hB,hu,hmu,hB',hb⟩:=hs
     have hz:ixO (fv k B) ((k + i:Nat):Int) = some b:=by
      rw [fv,zJs (by rw [tW h hk hB];exact hi),hB',at0,List.getD_eq_getElem?_getD,List.getElem?_append_right (by rw [zR];omega),zR,Nat.sub_self];rfl
     unfold zNI
     simp only
     rw [hz,bs]
     by_cases hb0:b = 0
     ·subst hb0
      right
      rw [show ((0:Int) != 0) = false from rfl,zF]
      exact ⟨_,rfl,B,u,rfl,hB,hu,hmu,B',by rw [hB',zAP]⟩
     ·left
      have hbq:b = a0 + q:=by rcases hb with hb | hb;exact absurd hb hb0;exact hb
      rw [show (b != 0) = true from by simpa using hb0,zH,zJu h hk hc (zR k) hi hB,bs,zJu h hk hc (zR k) hi hu,bs]
      have hU:=zKQ h hk hc hi
      obtain ⟨q',v',h1,h2,h3,h4⟩:=zEL i k B (by omega) hB
      have hqv:q' = zeros i ∧ v' = b :: B':=by
       rw [hB'] at h1
       have:=List.append_inj h1 (by rw [zR,h2])
       exact ⟨this.1.symm,this.2.symm⟩
      obtain ⟨rfl,rfl⟩:=hqv
      have h7:V (suf x (k + i)) (1 :: zeros (x.zA.length - (k + i + 1))):=by
       rw [yI hj]
       refine ⟨⟨by omega,by show 1 < at0 x.zA (k + i);omega⟩,?_⟩
       rw [← xE]
       exact wE (h.okAt (by omega))
      have h8:=h4 (b :: B') _ h3 h7
      rw [show x.zA.length - (k + i + 1) = x.zA.length - k - (i + 1) from by omega,← jO hi,← h1,yI hj,yP] at h8
      refine ⟨_,rfl,mul (suf x k) B (wF (x.zA.length - k) i),mul (suf x k) u (wF (x.zA.length - k) i),?_⟩
      have hor:(lvl x (k + i)).o = at0 x.zA (k + i):=rfl
      rw [hor] at h8
      by_cases hge:b + 1 ≥ at0 x.zA (k + i)
      ·rw [if_pos hge] at h8
       refine ⟨_,_,rfl,xH ok hB hU,xH ok hu hU,?_,h8,?_⟩
       ·rw [← G.assoc hv hu hU,hmu]
       ·left
        rw [yI hj] at h3
        have:=h3.1.2
        rw [hor] at this
        omega
      ·rw [if_neg hge] at h8
       refine ⟨_,_,rfl,xH ok hB hU,xH ok hu hU,?_,h8,?_⟩
       ·rw [← G.assoc hv hu hU,hmu]
       ·right;omega) (fun s hs => by
     obtain ⟨B,u,b,B',rfl,hB,hu,hmu,hB',hb⟩:=hs
     have hz:ixO (fv k B) ((k + i:Nat):Int) = some b:=by
      rw [fv,zJs (by rw [tW h hk hB];exact hi),hB',at0,List.getD_eq_getElem?_getD,List.getElem?_append_right (by rw [zR];omega),zR,Nat.sub_self];rfl
     have hbr:=(zCF h.os (x.zA.length - k) k B (by omega) hB).2 i hi
     have ha:=(zCF h.os (x.zA.length - k) k A (by omega) hA).2 i hi
     have e1:at0 B i = b:=by rw [hB',at0,List.getD_eq_getElem?_getD,List.getElem?_append_right (by rw [zR];omega),zR,Nat.sub_self];rfl
     have e2:at0 A i = a0:=by rw [hA',at0,List.getD_eq_getElem?_getD,List.getElem?_append_right (by rw [zR];omega),zR,Nat.sub_self];rfl
     have hb0:b = 0:=by omega
     subst hb0
     unfold zNI
     simp only
     rw [hz,bs,show ((0:Int) != 0) = false from rfl,zF]
     exact ⟨_,rfl,B,u,rfl,hB,hu,hmu,B',by rw [hB',zAP]⟩) ⟨A,w,a0,A',rfl,hA,hw,hm,hA',.inr (by omega)⟩
   obtain ⟨r,r1,B,u,rfl,hB,hu,hmu,B',hB'⟩:=inner
   rw [r1,bs,zC (by omega) (by omega),bs,cs]
   exact ⟨_,rfl,B,u,rfl,hB,hu,hmu,B',by rw [hB',show k + i + 1 - k = i + 1 from by omega]⟩) (fun s hI => by
  obtain ⟨A,w,rfl,hA,hw,hm,A',hA'⟩:=hI
  unfold zQ8
  simp only
  rw [hvl,yY,zF]
  refine ⟨_,rfl,w,hw,?_,rfl⟩
  have hAl:=tW h hk hA
  rw [hA',List.length_append,zR] at hAl
  rw [hm,hA',List.eq_nil_of_length_eq_zero (l:=A') (by omega),List.append_nil,hsl]) (s:=(fv k v,fv k (zeros (suf x k).length),0))
  ⟨v,_,rfl,hv,wE ok,G.oner hv,v,by rw [Nat.zero_sub];rfl⟩
 obtain ⟨r,r1,w,hw,hm,rfl⟩:=key
 rw [r1,bs]
 exact ⟨w,hw,hm,rfl⟩
theorem zBB {a b:Vec} (ha:V (suf x k) a) (hb:V (suf x k) b):∃ c,V (suf x k) c ∧ mul (suf x k) b c = mul (suf x k) a b ∧ zQA x (fv k a) (fv k b) = some (fv k c):=by
 have ok:=h.okAt hk
 have G:=zFN h hk hc
 obtain ⟨w,hw,hm,h1⟩:=zJw h hk hc hb
 have hab:=xH ok ha hb
 refine ⟨mul (suf x k) w (mul (suf x k) a b),xH ok hw hab,?_,?_⟩
 ·rw [← G.assoc hb hw hab,hm,G.onel hab]
 ·unfold zQA
  rw [h1,bs,zCu h hk hc ha hb,bs,zCu h hk hc hw hab,bs]
end
theorem zCG {a b:List Int} (h:a.length ≤ 1000000):f_P a b = some (a == b) :=
 zHi (t:=fun u v => some (u == v)) (body:=zUO a b) rfl (fun _ => rfl) (by omega) fun _ _ _ _ => rfl
theorem zNo {a b:List Int} (h:a.length ≤ 1000000):f_V a b = some (a == b):=zCG h
end Go.Pl

namespace Go.Pl
open Go Go.Ab Go.Wk Go.Pc
theorem zJx {ρ:Type} {body:Int → Option (Int ⊕ (Unit ⊕ ρ))} (n i0:Nat) (hn:i0 ≤ n) (P:Nat → Prop) (B:ρ → Prop)
  (h:∀ i,i0 ≤ i → i < n → (∀ j,i0 ≤ j → j < i → P j) → (body (i:Int) = some (.inl ((i + 1:Nat):Int)) ∧ P i) ∨ (∃ r,body (i:Int) = some (.inr (.inr r)) ∧ B r ∧ ¬ P i))
  (he:body (n:Int) = some (.inr (.inl ()))) :
  (zG body (i0:Int) = some (.inl ()) ∧ ∀ j,i0 ≤ j → j < n → P j) ∨ ∃ r i,i0 ≤ i ∧ i < n ∧ zG body (i0:Int) = some (.inr r) ∧ B r ∧ ¬ P i:=by
 have key:∀ k i,i0 ≤ i → i + k = n → (∀ j,i0 ≤ j → j < i → P j) → (zG body (i:Int) = some (.inl ()) ∧ ∀ j,i0 ≤ j → j < n → P j) ∨ ∃ r q,i0 ≤ q ∧ q < n ∧ zG body (i:Int) = some (.inr r) ∧ B r ∧ ¬ P q:=by
  intro k
  induction k with
  | zero =>
   intro i hi hk hp
   obtain rfl:i = n:=by omega
   exact .inl ⟨by rw [xC,he],hp⟩
  | succ k ih =>
   intro i hi hk hp
   rcases h i hi (by omega) hp with ⟨h1,h2⟩ | ⟨r,h1,h2,h3⟩
   ·have:=ih (i + 1) (by omega) (by omega) fun j a b => by
     rcases Nat.lt_or_ge j i with c | c
     ·exact hp j a c
     ·rw [show j = i from by omega];exact h2
    rw [xC,h1]
    exact this
   ·exact .inr ⟨r,i,hi,by omega,by rw [xC,h1],h2,h3⟩
 exact key (n - i0) i0 (Nat.le_refl _) (by omega) fun j a b => by omega
theorem zFQ {σ ρ:Type} {body:σ → Option (σ ⊕ ρ)} {Q:ρ → Prop} (I:σ → Prop) (m:σ → Nat)
  (h:∀ s,I s → (∃ s',body s = some (.inl s') ∧ I s' ∧ m s' < m s) ∨ ∃ r,body s = some (.inr r) ∧ Q r):∀ (k:Nat) (s:σ),m s ≤ k → I s → ∃ r,zG body s = some r ∧ Q r
 | k,s,hk,hs => by
  rcases h s hs with ⟨s',h1,h2,h3⟩ | ⟨r,h1,h2⟩
  ·cases k with
   | zero => omega
   | succ k =>
    obtain ⟨r,h4,h5⟩:=zFQ I m h k s' (by omega) h2
    exact ⟨r,by rw [xC,h1];exact h4,h5⟩
  ·exact ⟨r,by rw [xC,h1],h2⟩
theorem zUt {k:Nat} {a b:Vec}:(fv k a == fv k b) = true ↔ a = b:=by
 rw [beq_iff_eq];exact ⟨fun h => List.append_cancel_left h,fun h => by rw [h]⟩
theorem zBC {x:SPr} {v:List Int} {i k:Nat} (h:Exp x.zA v i) (hk:k ≤ i + 1) (hn:k ≤ x.zA.length):v = fv k (v.drop k) ∧ V (suf x k) (v.drop k):=by
 have h1:=h.1.1
 constructor
 ·apply List.ext_getElem?
  intro j
  rw [fv,List.getElem?_append]
  simp only [zeros,List.length_replicate,List.getElem?_replicate,List.getElem?_drop]
  split
  ·rename_i hj
   have h2:=h.2 j (by omega)
   rw [List.getElem?_eq_getElem (by omega)]
   rw [at0,List.getD_eq_getElem?_getD,List.getElem?_eq_getElem (by omega)] at h2
   simpa using h2
  ·rw [show k + (j - k) = j from by omega]
 ·refine zUs (x.zA.length - k) k _ (by omega) (by rw [List.length_drop];omega) fun j hj => ?_
  have:=h.1.2 (k + j) (by omega)
  have e:at0 (v.drop k) j = at0 v (k + j):=by simp only [at0,List.getD_eq_getElem?_getD,List.getElem?_drop]
  rw [e];exact this
structure LC (x:SPr) (k:Nat):Prop where
 c1:∀ j,k + 1 ≤ j → j < x.zA.length → pw (mul (suf x (k + 1))) (zeros (suf x (k + 1)).length) ((lvl x k).cs.getD (j - (k + 1)) []) (at0 x.zA j).toNat = sig (suf x (k + 1)) (lvl x k) ((x.zV.getD j []).drop (k + 1))
 c2:∀ i,k + 1 ≤ i → i < x.zA.length → ∀ j,i + 1 ≤ j → j < x.zA.length →
  mul (suf x (k + 1)) ((lvl x k).cs.getD (j - (k + 1)) []) ((lvl x k).cs.getD (i - (k + 1)) []) = mul (suf x (k + 1)) ((lvl x k).cs.getD (i - (k + 1)) []) (sig (suf x (k + 1)) (lvl x k) (((x.zB.getD i []).getD (j - (i + 1)) []).drop (k + 1)))
 c3:sig (suf x (k + 1)) (lvl x k) (lvl x k).w = (lvl x k).w
 c4:∀ j,k + 1 ≤ j → j < x.zA.length → mul (suf x (k + 1)) (lvl x k).w (iter (lvl x k).o.toNat (sig (suf x (k + 1)) (lvl x k)) (wF (x.zA.length - (k + 1)) (j - (k + 1)))) = mul (suf x (k + 1)) (wF (x.zA.length - (k + 1)) (j - (k + 1))) (lvl x k).w
section
variable {x:SPr} (h:Pres x) {k:Nat} (hk:k < x.zA.length) (hc:wV (suf x (k + 1)))
 include h hk
theorem qU {j:Nat} (h1:k + 1 ≤ j) (h2:j < x.zA.length):ixO x.zB (k:Int) = some (x.zB.getD k []) ∧ ixO (x.zB.getD k []) ((j:Int) - (k:Int) - 1) = some (fv (k + 1) ((lvl x k).cs.getD (j - (k + 1)) [])) ∧ V (suf x (k + 1)) ((lvl x k).cs.getD (j - (k + 1)) []):=by
 obtain ⟨c,c1,c2,c3,c4⟩:=zDl h hk (i:=j - (k + 1)) (by omega)
 rw [c4]
 refine ⟨c1,?_,c3⟩
 rw [show (j:Int) - (k:Int) - 1 = ((j - (k + 1):Nat):Int) from by omega]
 exact c2
theorem zPt {j:Nat} (h1:k + 1 ≤ j) (h2:j < x.zA.length):ixO x.zV (j:Int) = some (fv (k + 1) ((x.zV.getD j []).drop (k + 1))) ∧ V (suf x (k + 1)) ((x.zV.getD j []).drop (k + 1)):=by
 have t1:=(h.tl j h2).1
 have hl:=h.pl
 obtain ⟨e1,e2⟩:=zBC (k:=k + 1) t1 (by omega) (by omega)
 exact ⟨by rw [yC [] (by omega),← e1],e2⟩
theorem zPu {i j:Nat} (h1:k + 1 ≤ i) (h2:i + 1 ≤ j) (h3:j < x.zA.length):ixO x.zB (i:Int) = some (x.zB.getD i []) ∧ ixO (x.zB.getD i []) ((j:Int) - (i:Int) - 1) = some (fv (k + 1) (((x.zB.getD i []).getD (j - (i + 1)) []).drop (k + 1))) ∧ V (suf x (k + 1)) (((x.zB.getD i []).getD (j - (i + 1)) []).drop (k + 1)):=by
 obtain ⟨_,t2,t3⟩:=h.tl i (by omega)
 have hl:=h.cl
 obtain ⟨e1,e2⟩:=zBC (k:=k + 1) (t3 (j - (i + 1)) (by omega)) (by omega) (by omega)
 refine ⟨yC [] (by omega),?_,e2⟩
 rw [show (j:Int) - (i:Int) - 1 = ((j - (i + 1):Nat):Int) from by omega,yC [] (by omega),← e1]
theorem zUu:ixO x.zV (k:Int) = some (fv (k + 1) (lvl x k).w) ∧ V (suf x (k + 1)) (lvl x k).w:=by
 have t1:=(h.tl k hk).1
 have hl:=h.pl
 obtain ⟨e1,e2⟩:=zBC (k:=k + 1) t1 (by omega) (by omega)
 exact ⟨by rw [yC [] (by omega)];exact congrArg some e1,e2⟩
theorem zPv {v:Vec} (hv:V (suf x (k + 1)) v):V (suf x (k + 1)) (sig (suf x (k + 1)) (lvl x k) v):=by
 have ok0:=h.okAt (k:=k) (by omega)
 rw [yI hk] at ok0
 exact zDT ok0 hv
theorem zHm {j:Nat} (h1:k + 1 ≤ j) (h2:j < x.zA.length):zIu (x.zA.length:Int) (j:Int) = some (fv (k + 1) (wF (x.zA.length - (k + 1)) (j - (k + 1)))):=by
 have h6:=h.os.1
 unfold zIu
 rw [yR (by omega),bs,wY,List.getElem?_replicate,if_pos h2,bs,Int.toNat_natCast]
 congr 1
 rw [fv,jO (by omega),← List.append_assoc]
 have e1:zeros (k + 1) ++ zeros (j - (k + 1)) = zeros j:=by simp only [zeros,List.replicate_append_replicate];congr 1;omega
 have e2:List.replicate x.zA.length (0:Int) = zeros j ++ 0 :: zeros (x.zA.length - (j + 1)):=by
  simp only [zeros]
  rw [← List.replicate_succ,List.replicate_append_replicate];congr 1;omega
 rw [e1,e2,zCt,show x.zA.length - (k + 1) - (j - (k + 1) + 1) = x.zA.length - (j + 1) from by omega]
theorem zNp {j:Nat} (h1:k + 1 ≤ j) (h2:j < x.zA.length):zUH (x.zA.length:Int) (j:Int) = some (fv (k + 1) (wF (x.zA.length - (k + 1)) (j - (k + 1)))):=zHm h hk h1 h2
 include hc
theorem jP {v:Vec} (hv:V (suf x (k + 1)) v):f_A x k (fv (k + 1) v) = some (fv (k + 1) (sig (suf x (k + 1)) (lvl x k) v)):=by
 have h6:=h.os.1
 have ok:=h.okAt (k:=k + 1) (by omega)
 have ok0:=h.okAt (k:=k) (by omega)
 rw [yI hk] at ok0
 obtain ⟨hvl,hvr⟩:=zCF h.os (x.zA.length - (k + 1)) (k + 1) v (by omega) hv
 have hcl:(lvl x k).cs.length = x.zA.length - (k + 1):=by rw [ok0.2.2.1,xE]
 have t2:=(h.tl k hk).2.1
 have hcl2:=h.cl
 have hA:∀ i,V (suf x (k + 1)) (img (mul (suf x (k + 1))) ((lvl x k).cs.take i) (v.take i) (zeros (suf x (k + 1)).length)):=fun i =>
  sK (xH ok) _ _ (fun c hc => ok0.2.2.2.1 c (List.mem_of_mem_take hc)) (wE ok)
 unfold f_A
 rw [zBA h (by omega) hv,yR (by omega),bs,yC [] (by omega),bs,zM7 h (k:=k + 1) (by omega)]
 have:=zP (body:=zQ7 x k (fv (k + 1) v) (x.zB.getD k [])) (r:=fv (k + 1) (sig (suf x (k + 1)) (lvl x k) v))
  (fun i => (fv (k + 1) (img (mul (suf x (k + 1))) ((lvl x k).cs.take i) (v.take i) (zeros (suf x (k + 1)).length)),(i:Int))) (x.zB.getD k []).length (fun i hi => by
  have hr:=hvr i (by omega)
  obtain ⟨c,c1,c2,c3,c4⟩:=zDl h hk (i:=i) (by omega)
  unfold zQ7
  simp only
  rw [yO hi,zH,c2,bs,zC (by omega) (by omega),bs,zC (by omega) (by omega),bs,show (k:Int) + 1 + (i:Int) = ((k + 1 + i:Nat):Int) from by omega,fv,zJs (by omega),bs]
  rw [wW (S:=V (suf x (k + 1))) (body:=zQ6 x (zeros (k + 1) ++ c) (at0 v i)) (fun u => fv (k + 1) u) (fun u => mul (suf x (k + 1)) u c) (at0 v i) hr.1 (fun u hu => xH ok hu c3) (fun u q hu hq => by
   unfold zQ6
   simp only
   rw [decide_eq_true hq,zH,zFP h (by omega) hc hu c3,bs,zC (by omega) (by omega),bs,cs]) (fun u hu => by
   unfold zQ6
   simp only
   rw [decide_eq_false (by omega),zF]) (hA i),bs,zC (by omega) (by omega),bs,cs]
  rw [zA3 _ _ _ _ (by omega) (by omega),c4]) (by
  unfold zQ7
  simp only
  rw [yY,zF,List.take_of_length_le (by omega),List.take_of_length_le (by omega)]
  rfl)
 simp only [List.take_zero,img] at this
 rw [show ((0:Nat):Int) = 0 from rfl] at this
 rw [this,bs]
theorem zBD {a b:Vec} (ha:V (suf x (k + 1)) a):IsB (f_P (fv (k + 1) a) (fv (k + 1) b)) (a = b):=by
 have _:=hc
 have h6:=h.os.1
 rw [zCG (by rw [zBA h (by omega) ha];omega)]
 exact IsB.of_bool zUt
theorem zJy {c:Vec} (hcv:V (suf x (k + 1)) c) {e:Int} (e0:0 ≤ e) (e1:e ≤ 1000):zSr x ((k + 1:Nat):Int) (fv (k + 1) c) e = some (fv (k + 1) (pw (mul (suf x (k + 1))) (zeros (suf x (k + 1)).length) c e.toNat)):=by
 have h6:=h.os.1
 have ok:=h.okAt (k:=k + 1) (by omega)
 have G:=zFN h (k:=k + 1) (by omega) hc
 have hA:=zM6 h (k:=k + 1) (by omega)
 have pwV:∀ a,V (suf x (k + 1)) (pw (mul (suf x (k + 1))) (zeros (suf x (k + 1)).length) c a):=fun a => uK G.toMon hcv a
 unfold zSr
 rw [yR (by omega),bs,zM7 h (k:=k + 1) (by omega)]
 obtain ⟨r,r1,r2⟩:=zFQ (body:=zMP x ((k + 1:Nat):Int)) (Q:=fun r => r = fv (k + 1) (pw (mul (suf x (k + 1))) (zeros (suf x (k + 1)).length) c e.toNat))
  (fun s => ∃ (m a q:Nat),s = ((m:Int),fv (k + 1) (pw (mul (suf x (k + 1))) (zeros (suf x (k + 1)).length) c a),fv (k + 1) (pw (mul (suf x (k + 1))) (zeros (suf x (k + 1)).length) c q)) ∧ a + q * m = e.toNat ∧ m ≤ 1000) (fun s => s.1.toNat) (fun s ⟨m,a,q,hs,he,hm⟩ => by
   subst hs
   unfold zMP
   simp only
   by_cases hm0:m = 0
   ·right
    subst hm0
    rw [show decide (((0:Nat):Int) > 0) = false from rfl,zF]
    refine ⟨_,rfl,?_⟩
    rw [← he,Nat.mul_zero];rfl
   ·left
    have hr:uH (m:Int) 2 = some ((m % 2:Nat):Int):=by
     unfold uH
     rw [if_neg (by decide),Int.tmod_eq_emod_of_nonneg (by omega)];rfl
    have hq:tM (m:Int) 2 = some ((m / 2:Nat):Int):=by
     unfold tM
     rw [if_neg (by decide),Int.tdiv_eq_ediv_of_nonneg (by omega)]
     rw [zC (by omega) (by omega)];rfl
    have hdm:=Nat.div_add_mod m 2
    have hqq:mul (suf x (k + 1)) (pw (mul (suf x (k + 1))) (zeros (suf x (k + 1)).length) c q) (pw (mul (suf x (k + 1))) (zeros (suf x (k + 1)).length) c q) = pw (mul (suf x (k + 1))) (zeros (suf x (k + 1)).length) c (q + q):=(zFB G.toMon hcv q q).symm
    rw [decide_eq_true (by omega),zH,hr,bs]
    rcases Nat.mod_two_eq_zero_or_one m with h2 | h2
    ·rw [h2,show ((((0:Nat):Int)) == 1) = false from rfl,zF,hA _ _ (pwV q) (pwV q),bs,hq,bs,hqq]
     refine ⟨_,rfl,⟨m / 2,a,q + q,rfl,?_,by omega⟩,by simp only;omega⟩
     rw [← he]
     have:m = m / 2 + m / 2:=by omega
     have e3:(q + q) * (m / 2) = q * m:=by
      rw [Nat.add_mul,← Nat.mul_add,← this]
     omega
    ·rw [h2,show ((((1:Nat):Int)) == 1) = true from rfl,zH,hA _ _ (pwV a) (pwV q),bs,hA _ _ (pwV q) (pwV q),bs,hq,bs,hqq,← zFB G.toMon hcv a q]
     refine ⟨_,rfl,⟨m / 2,a + q,q + q,rfl,?_,by omega⟩,by simp only;omega⟩
     rw [← he]
     have:m = m / 2 + m / 2 + 1:=by omega
     have e3:(q + q) * (m / 2) + q = q * m:=by
      have e4:q * m = q * (m / 2 + m / 2 + 1):=by rw [← this]
      rw [e4,Nat.mul_add,Nat.mul_add,Nat.mul_one,Nat.add_mul]
     omega) 1000000 (e,fv (k + 1) (zeros (suf x (k + 1)).length),fv (k + 1) c) (by simp only;omega) ⟨e.toNat,0,1,by rw [zPj G.toMon hcv,show ((e.toNat:Nat):Int) = e from by omega];rfl,by omega,by omega⟩
 rw [r1,bs,r2]
end
end Go.Pl

namespace Go.Pl
open Go Go.Ab Go.Wk Go.Pc
def zWt (o:Option yQ) (P:Prop):Prop:=(o = some (yQ.mk 0 0 0 0) ∧ P) ∨ ∃ r,o = some r ∧ r.Kind ≠ 0 ∧ ¬ P
theorem kb {a b c d:Int} (h:a ≠ 0):(yQ.mk a b c d).Kind ≠ 0:=h
abbrev KB (r:yQ):Prop:=r.Kind ≠ 0
theorem zA4 {o:Option Bool} {P:Prop} {bad:yQ} {i:Nat} {g:Option (Int ⊕ (Unit ⊕ yQ))} (h:IsB o P) (hi:i < 9223372036854775807) (hbad:bad.Kind ≠ 0)
  (hg:g = o.bind fun r => cond (!r) (some (.inr (.inr bad))) ((rng ((i:Int) + 1)).bind fun v => some (.inl v))):(g = some (.inl ((i + 1:Nat):Int)) ∧ P) ∨ (∃ r,g = some (.inr (.inr r)) ∧ KB r ∧ ¬ P):=by
 rcases vO h hi hg with h | ⟨h1,h2⟩
 ·exact .inl h
 ·exact .inr ⟨bad,h1,hbad,h2⟩
section
variable {x:SPr} (h:Pres x) {k:Nat} (hk:k < x.zA.length) (hc:wV (suf x (k + 1)))
 include h hk hc
theorem zFR:zWt (f_k x k) (LC x k):=by
 have h6:=h.os.1
 have ok:=h.okAt (k:=k + 1) (by omega)
 have G:=zFN h (k:=k + 1) (by omega) hc
 obtain ⟨w1,w2⟩:=zUu h hk
 have hsV:∀ v,V (suf x (k + 1)) v → V (suf x (k + 1)) (sig (suf x (k + 1)) (lvl x k) v):=fun v hv => zPv h hk hv
 unfold f_k
 rw [zC (by omega) (by omega),bs,cs]
 rcases zJx (body:=zQB x k) x.zA.length (k + 1) (by omega) (fun j => pw (mul (suf x (k + 1))) (zeros (suf x (k + 1)).length) ((lvl x k).cs.getD (j - (k + 1)) []) (at0 x.zA j).toNat = sig (suf x (k + 1)) (lvl x k) ((x.zV.getD j []).drop (k + 1))) KB (fun j h1 h2 _ => by
   obtain ⟨c1,c2,c3⟩:=qU h hk h1 h2
   obtain ⟨p1,p2⟩:=zPt h hk h1 h2
   have hpr:=(h.os.2 j h2).pos
   refine zA4 (zBD h hk hc (uK G.toMon c3 (at0 x.zA j).toNat)) (by omega) (bad:=yQ.mk 1 k j 0) (kb (by decide)) ?_
   unfold zQB
   rw [yO h2,zH,c1,bs,zC (by omega) (by omega),bs,zC (by omega) (by omega),bs,c2,bs,yD h2,bs,zKR h (by omega) hc c3 (by omega) (by omega),bs,p1,bs,jP h hk hc p2,bs]) (by
   unfold zQB
   rw [yY,zF]) with ⟨g1,g2⟩ | ⟨r,j,j1,j2,g1,g2,g3⟩
 rotate_left
 ·rw [g1,bs]
  exact .inr ⟨r,rfl,g2,fun q => g3 (q.c1 j j1 j2)⟩
 rw [g1,bs]
 simp only
 rw [bs]
 rcases zJx (body:=zQD x k) x.zA.length (k + 1) (by omega) (fun i => ∀ j,i + 1 ≤ j → j < x.zA.length →
   mul (suf x (k + 1)) ((lvl x k).cs.getD (j - (k + 1)) []) ((lvl x k).cs.getD (i - (k + 1)) []) = mul (suf x (k + 1)) ((lvl x k).cs.getD (i - (k + 1)) []) (sig (suf x (k + 1)) (lvl x k) (((x.zB.getD i []).getD (j - (i + 1)) []).drop (k + 1)))) KB (fun i h1 h2 _ => by
   obtain ⟨c1,c2,c3⟩:=qU h hk h1 h2
   unfold zQD
   rw [yO h2,zH,zC (by omega) (by omega),bs,cs]
   rcases zJx (body:=zQC x k i) x.zA.length (i + 1) (by omega) (fun j => mul (suf x (k + 1)) ((lvl x k).cs.getD (j - (k + 1)) []) ((lvl x k).cs.getD (i - (k + 1)) []) = mul (suf x (k + 1)) ((lvl x k).cs.getD (i - (k + 1)) []) (sig (suf x (k + 1)) (lvl x k) (((x.zB.getD i []).getD (j - (i + 1)) []).drop (k + 1)))) KB (fun j h3 h4 _ => by
     obtain ⟨d1,d2,d3⟩:=qU h hk (j:=j) (by omega) h4
     obtain ⟨e1,e2,e3⟩:=zPu h hk h1 h3 h4
     obtain ⟨q,q1,q2,q3⟩:=zBB h (by omega) hc d3 c3
     refine zA4 ((zBD h hk hc (b:=sig (suf x (k + 1)) (lvl x k) (((x.zB.getD i []).getD (j - (i + 1)) []).drop (k + 1))) q1).iff (Q:=mul (suf x (k + 1)) ((lvl x k).cs.getD (j - (k + 1)) []) ((lvl x k).cs.getD (i - (k + 1)) []) = mul (suf x (k + 1)) ((lvl x k).cs.getD (i - (k + 1)) []) (sig (suf x (k + 1)) (lvl x k) (((x.zB.getD i []).getD (j - (i + 1)) []).drop (k + 1)))) ?_) (by omega) (bad:=yQ.mk 2 k i j) (kb (by decide)) ?_
     ·exact ⟨fun e => by rw [← q2,e],fun e => G.cancel_l c3 q1 (hsV _ e3) (by rw [q2,e])⟩
     ·unfold zQC
      rw [yO h4,zH,d1,bs,zC (by omega) (by omega),bs,zC (by omega) (by omega),bs,d2,bs,bs,zC (by omega) (by omega),bs,zC (by omega) (by omega),bs,c2,bs,q3,bs,e1,bs,zC (by omega) (by omega),bs,zC (by omega) (by omega),bs,e2,bs,jP h hk hc e3,bs]) (by
     unfold zQC
     rw [yY,zF]) with ⟨g1,g2⟩ | ⟨r,j,j1,j2,g1,g2,g3⟩
   ·left
    rw [g1,bs]
    exact ⟨rfl,g2⟩
   ·right
    rw [g1,bs]
    exact ⟨r,rfl,g2,fun q => g3 (q j j1 j2)⟩) (by
   unfold zQD
   rw [yY,zF]) with ⟨k1,k2⟩ | ⟨r,j,j1,j2,k1,k2,k3⟩
 rotate_left
 ·rw [k1,bs]
  exact .inr ⟨r,rfl,k2,fun q => k3 (q.c2 j j1 j2)⟩
 rw [k1,bs]
 simp only
 rw [w1,bs,jP h hk hc w2,bs]
 rcases zBD h hk hc (b:=(lvl x k).w) (hsV _ w2) with ⟨m1,m2⟩ | ⟨m1,m2⟩
 rotate_left
 ·rw [m1,bs,Bool.not_false,zH]
  exact .inr ⟨_,rfl,kb (by decide),fun q => m2 q.c3⟩
 rw [m1,bs,Bool.not_true,zF,bs]
 rcases zJx (body:=zQF x k (fv (k + 1) (lvl x k).w)) x.zA.length (k + 1) (by omega) (fun j => mul (suf x (k + 1)) (lvl x k).w (iter (lvl x k).o.toNat (sig (suf x (k + 1)) (lvl x k)) (wF (x.zA.length - (k + 1)) (j - (k + 1)))) = mul (suf x (k + 1)) (wF (x.zA.length - (k + 1)) (j - (k + 1))) (lvl x k).w) KB (fun j h1 h2 _ => by
   have hU:=zKQ h (k:=k + 1) (by omega) hc (i:=j - (k + 1)) (by omega)
   have hpr:=(h.os.2 k hk).pos
   obtain ⟨q,q1,q2,q3⟩:=zBB h (k:=k + 1) (by omega) hc hU w2
   have hit:V (suf x (k + 1)) (iter (lvl x k).o.toNat (sig (suf x (k + 1)) (lvl x k)) (wF (x.zA.length - (k + 1)) (j - (k + 1)))):=wS hsV _ hU
   refine zA4 ((zBD h hk hc (b:=q) hit).iff ⟨fun e => by rw [e,q2],fun e => G.cancel_l w2 hit q1 (by rw [e,q2])⟩) (by omega) (bad:=yQ.mk 4 k j 0) (kb (by decide)) ?_
   unfold zQF
   rw [yO h2,zH,zHm h hk h1 h2,bs,yD hk,bs]
   rw [wW (S:=V (suf x (k + 1))) (body:=zQE x k (at0 x.zA k)) (fun u => fv (k + 1) u) (sig (suf x (k + 1)) (lvl x k)) (at0 x.zA k) (by omega) hsV (fun u i hu hi => by
    unfold zQE
    simp only
    rw [decide_eq_true hi,zH,jP h hk hc hu,bs,zC (by omega) (by omega),bs,cs]) (fun u hu => by
    unfold zQE
    simp only
    rw [decide_eq_false (by omega),zF]) hU,bs,bs,q3,bs]
   rfl) (by
   unfold zQF
   rw [yY,zF]) with ⟨n1,n2⟩ | ⟨r,j,j1,j2,n1,n2,n3⟩
 ·rw [n1,bs]
  exact .inl ⟨rfl,⟨g2,k2,m2,n2⟩⟩
 ·rw [n1,bs]
  exact .inr ⟨r,rfl,n2,fun q => n3 (q.c4 j j1 j2)⟩
theorem zKS:zWt (f_l x k) (LC x k):=by
 have h6:=h.os.1
 have ok:=h.okAt (k:=k + 1) (by omega)
 have G:=zFN h (k:=k + 1) (by omega) hc
 obtain ⟨w1,w2⟩:=zUu h hk
 have hA:=zM6 h (k:=k + 1) (by omega)
 have hI:=zKO h hk
 have hsV:∀ v,V (suf x (k + 1)) v → V (suf x (k + 1)) (sig (suf x (k + 1)) (lvl x k) v):=fun v hv => zPv h hk hv
 have eqB:∀ {a b:Vec},V (suf x (k + 1)) a → IsB (f_V (fv (k + 1) a) (fv (k + 1) b)) (a = b):=fun ha => zBD h hk hc ha
 unfold f_l
 rw [zC (by omega) (by omega),bs,cs]
 rcases zJx (body:=zQk x k) x.zA.length (k + 1) (by omega) (fun j => pw (mul (suf x (k + 1))) (zeros (suf x (k + 1)).length) ((lvl x k).cs.getD (j - (k + 1)) []) (at0 x.zA j).toNat = sig (suf x (k + 1)) (lvl x k) ((x.zV.getD j []).drop (k + 1))) KB (fun j h1 h2 _ => by
   obtain ⟨c1,c2,c3⟩:=qU h hk h1 h2
   obtain ⟨p1,p2⟩:=zPt h hk h1 h2
   have hpr:=(h.os.2 j h2).pos
   refine zA4 (eqB (uK G.toMon c3 (at0 x.zA j).toNat)) (by omega) (bad:=yQ.mk 1 k j 0) (kb (by decide)) ?_
   unfold zQk
   rw [yO h2,zH,zC (by omega) (by omega),bs,cs,c1,bs,zC (by omega) (by omega),bs,zC (by omega) (by omega),bs,c2,bs,yD h2,bs,zJy h hk hc c3 (by omega) (by omega),bs,p1,bs,hI _ p2,bs]) (by
   unfold zQk
   rw [yY,zF]) with ⟨g1,g2⟩ | ⟨r,j,j1,j2,g1,g2,g3⟩
 rotate_left
 ·rw [g1,bs]
  exact .inr ⟨r,rfl,g2,fun q => g3 (q.c1 j j1 j2)⟩
 rw [g1,bs]
 simp only
 rw [bs]
 rcases zJx (body:=zQm x k) x.zA.length (k + 1) (by omega) (fun i => ∀ j,i + 1 ≤ j → j < x.zA.length →
   mul (suf x (k + 1)) ((lvl x k).cs.getD (j - (k + 1)) []) ((lvl x k).cs.getD (i - (k + 1)) []) = mul (suf x (k + 1)) ((lvl x k).cs.getD (i - (k + 1)) []) (sig (suf x (k + 1)) (lvl x k) (((x.zB.getD i []).getD (j - (i + 1)) []).drop (k + 1)))) KB (fun i h1 h2 _ => by
   obtain ⟨c1,c2,c3⟩:=qU h hk h1 h2
   unfold zQm
   rw [yO h2,zH,zC (by omega) (by omega),bs,cs]
   rcases zJx (body:=zQl x k i) x.zA.length (i + 1) (by omega) (fun j => mul (suf x (k + 1)) ((lvl x k).cs.getD (j - (k + 1)) []) ((lvl x k).cs.getD (i - (k + 1)) []) = mul (suf x (k + 1)) ((lvl x k).cs.getD (i - (k + 1)) []) (sig (suf x (k + 1)) (lvl x k) (((x.zB.getD i []).getD (j - (i + 1)) []).drop (k + 1)))) KB (fun j h3 h4 _ => by
     obtain ⟨d1,d2,d3⟩:=qU h hk (j:=j) (by omega) h4
     obtain ⟨e1,e2,e3⟩:=zPu h hk h1 h3 h4
     refine zA4 (eqB (xH ok d3 c3)) (by omega) (bad:=yQ.mk 2 k i j) (kb (by decide)) ?_
     unfold zQl
     rw [yO h4,zH,d1,bs,zC (by omega) (by omega),bs,zC (by omega) (by omega),bs,c2,bs,bs,zC (by omega) (by omega),bs,zC (by omega) (by omega),bs,d2,bs,e1,bs,zC (by omega) (by omega),bs,zC (by omega) (by omega),bs,e2,bs,hI _ e3,bs,zC (by omega) (by omega),bs,cs,hA _ _ d3 c3,bs,bs,hA _ _ c3 (hsV _ e3),bs]) (by
     unfold zQl
     rw [yY,zF]) with ⟨g1,g2⟩ | ⟨r,j,j1,j2,g1,g2,g3⟩
   ·left
    rw [g1,bs]
    exact ⟨rfl,g2⟩
   ·right
    rw [g1,bs]
    exact ⟨r,rfl,g2,fun q => g3 (q j j1 j2)⟩) (by
   unfold zQm
   rw [yY,zF]) with ⟨k1,k2⟩ | ⟨r,j,j1,j2,k1,k2,k3⟩
 rotate_left
 ·rw [k1,bs]
  exact .inr ⟨r,rfl,k2,fun q => k3 (q.c2 j j1 j2)⟩
 rw [k1,bs]
 simp only
 rw [w1,bs,hI _ w2,bs]
 rcases eqB (b:=(lvl x k).w) (hsV _ w2) with ⟨m1,m2⟩ | ⟨m1,m2⟩
 rotate_left
 ·rw [m1,bs,Bool.not_false,zH]
  exact .inr ⟨_,rfl,kb (by decide),fun q => m2 q.c3⟩
 rw [m1,bs,Bool.not_true,zF,bs]
 rcases zJx (body:=zQo x k (fv (k + 1) (lvl x k).w)) x.zA.length (k + 1) (by omega) (fun j => mul (suf x (k + 1)) (lvl x k).w (iter (lvl x k).o.toNat (sig (suf x (k + 1)) (lvl x k)) (wF (x.zA.length - (k + 1)) (j - (k + 1)))) = mul (suf x (k + 1)) (wF (x.zA.length - (k + 1)) (j - (k + 1))) (lvl x k).w) KB (fun j h1 h2 _ => by
   have hU:=zKQ h (k:=k + 1) (by omega) hc (i:=j - (k + 1)) (by omega)
   have hpr:=(h.os.2 k hk).pos
   have hit:V (suf x (k + 1)) (iter (lvl x k).o.toNat (sig (suf x (k + 1)) (lvl x k)) (wF (x.zA.length - (k + 1)) (j - (k + 1)))):=wS hsV _ hU
   refine zA4 (eqB (xH ok w2 hit)) (by omega) (bad:=yQ.mk 4 k j 0) (kb (by decide)) ?_
   unfold zQo
   rw [yO h2,zH,zNp h hk h1 h2,bs]
   rw [wW (S:=V (suf x (k + 1))) (body:=zQn x k) (fun u => fv (k + 1) u) (sig (suf x (k + 1)) (lvl x k)) (at0 x.zA k) (by omega) hsV (fun u i hu hi => by
    unfold zQn
    simp only
    rw [yD hk,bs,decide_eq_true hi,zH,hI _ hu,bs,zC (by omega) (by omega),bs,cs]) (fun u hu => by
    unfold zQn
    simp only
    rw [yD hk,bs,decide_eq_false (by omega),zF]) hU,bs,zC (by omega) (by omega),bs,cs]
   have ho:(lvl x k).o = at0 x.zA k:=rfl
   rw [← ho,hA _ _ w2 hit,bs,bs,hA _ _ hU w2,bs]) (by
   unfold zQo
   rw [yY,zF]) with ⟨n1,n2⟩ | ⟨r,j,j1,j2,n1,n2,n3⟩
 ·rw [n1,bs]
  exact .inl ⟨rfl,⟨g2,k2,m2,n2⟩⟩
 ·rw [n1,bs]
  exact .inr ⟨r,rfl,n2,fun q => n3 (q.c4 j j1 j2)⟩
end
end Go.Pl

namespace Go.Pl
open Go Go.Ab Go.Wk Go.Pc
theorem zEb {m:Vec → Vec → Vec}:∀ (i:Nat) (cs:List Vec) (w acc:Vec),i ≤ cs.length → img m cs (zeros i ++ w) acc = img m (cs.drop i) w acc
 | 0,cs,w,acc,_ => rfl
 | i + 1,[],w,acc,h => by simp at h
 | i + 1,c :: cs,w,acc,h => by
  show img m (c :: cs) (0 :: (zeros i ++ w)) acc = _
  simp only [img,Int.toNat_zero,iter,List.drop_succ_cons]
  exact zEb i cs w acc (by simpa using h)
theorem zFS {x:SPr} {v:List Int} {j k:Nat} (h:Exp x.zA v j) (hj:j < x.zA.length) (hk:k ≤ j + 1):v.drop k = zeros (j + 1 - k) ++ v.drop (j + 1):=by
 have:=zA2 h hj
 have h2:v.drop k = (zeros (j + 1) ++ v.drop (j + 1)).drop k:=by rw [← this]
 rw [h2,List.drop_append,zR,show k - (j + 1) = 0 from by omega,List.drop_zero]
 congr 1
 simp only [zeros,List.drop_replicate]
section
variable {x:SPr} (h:Pres x) {k:Nat} (hk:k < x.zA.length)
 include h hk
theorem jQ:(lvl x k).cs.length = x.zA.length - (k + 1):=by
 have ok0:=h.okAt (k:=k) (by omega)
 rw [yI hk] at ok0
 rw [ok0.2.2.1,xE]
theorem zRT {j:Nat} (h1:k + 1 ≤ j) (h2:j < x.zA.length):sig (suf x (k + 1)) (lvl x k) ((x.zV.getD j []).drop (k + 1)) = img (mul (suf x (k + 1))) ((lvl x k).cs.drop (j - k)) (lvl x j).w (zeros (suf x (k + 1)).length):=by
 have t1:=(h.tl j h2).1
 have hcl:=jQ h hk
 rw [zFS t1 h2 (by omega),sig,zEb _ _ _ _ (by omega),show j + 1 - (k + 1) = j - k from by omega]
 rfl
theorem zM8:∀ (d i:Nat),k + 1 + i + d = x.zA.length → (Rel (mul (suf x (k + 1))) (zeros (suf x (k + 1)).length) (suf x (k + 1 + i)) ((lvl x k).cs.drop i) ↔
  (∀ j,k + 1 + i ≤ j → j < x.zA.length → pw (mul (suf x (k + 1))) (zeros (suf x (k + 1)).length) ((lvl x k).cs.getD (j - (k + 1)) []) (at0 x.zA j).toNat = sig (suf x (k + 1)) (lvl x k) ((x.zV.getD j []).drop (k + 1))) ∧
  (∀ a,k + 1 + i ≤ a → a < x.zA.length → ∀ j,a + 1 ≤ j → j < x.zA.length →
   mul (suf x (k + 1)) ((lvl x k).cs.getD (j - (k + 1)) []) ((lvl x k).cs.getD (a - (k + 1)) []) = mul (suf x (k + 1)) ((lvl x k).cs.getD (a - (k + 1)) []) (sig (suf x (k + 1)) (lvl x k) (((x.zB.getD a []).getD (j - (a + 1)) []).drop (k + 1)))))
 | 0,i,hi => by
  have hcl:=jQ h hk
  rw [vR (x:=x) (k:=k + 1 + i) (by omega),List.drop_of_length_le (show (lvl x k).cs.length ≤ i by omega)]
  simp only [Rel,true_iff]
  exact ⟨fun j h1 h2 => by omega,fun a h1 h2 => by omega⟩
 | d + 1,i,hi => by
  have hcl:=jQ h hk
  have ih:=zM8 d (i + 1) (by omega)
  rw [show k + 1 + (i + 1) = k + 1 + i + 1 from by omega] at ih
  have hj:k + 1 + i < x.zA.length:=by omega
  have hg:(lvl x k).cs.drop i = (lvl x k).cs.getD i [] :: (lvl x k).cs.drop (i + 1):=by
   rw [List.drop_eq_getElem_cons (by omega),List.getD_eq_getElem?_getD,List.getElem?_eq_getElem (by omega)];rfl
  rw [yI hj,hg]
  simp only [Rel]
  rw [ih]
  have e1:=zRT h hk (j:=k + 1 + i) (by omega) hj
  rw [show k + 1 + i - k = i + 1 from by omega] at e1
  have ho:(lvl x (k + 1 + i)).o = at0 x.zA (k + 1 + i):=rfl
  rw [ho,← e1]
  have e2:∀ j,k + 1 + i + 1 ≤ j → j < x.zA.length → ∀ dd,(lvl x (k + 1 + i)).cs[j - (k + 1 + i + 1)]? = some dd → img (mul (suf x (k + 1))) ((lvl x k).cs.drop (i + 1)) dd (zeros (suf x (k + 1)).length) = sig (suf x (k + 1)) (lvl x k) (((x.zB.getD (k + 1 + i) []).getD (j - (k + 1 + i + 1)) []).drop (k + 1)):=fun j h1 h2 dd hdd => by
   obtain ⟨_,t2,t3⟩:=h.tl (k + 1 + i) hj
   have t:=t3 (j - (k + 1 + i + 1)) (by omega)
   rw [zFS t hj (by omega),sig,zEb _ _ _ _ (by omega),show k + 1 + i + 1 - (k + 1) = i + 1 from by omega]
   congr 1
   simp only [lvl,List.getElem?_map,Option.map_eq_some_iff] at hdd
   obtain ⟨u,hu,rfl⟩:=hdd
   rw [List.getD_eq_getElem?_getD (i:=j - (k + 1 + i + 1)),hu];rfl
  have e3:∀ j,k + 1 + i + 1 ≤ j → j < x.zA.length → ((lvl x k).cs.drop (i + 1))[j - (k + 1 + i + 1)]? = some ((lvl x k).cs.getD (j - (k + 1)) []) ∧ ∃ dd,(lvl x (k + 1 + i)).cs[j - (k + 1 + i + 1)]? = some dd:=fun j h1 h2 => by
   have hcl2:=jQ h hj
   refine ⟨?_,?_⟩
   ·rw [List.getElem?_drop,show i + 1 + (j - (k + 1 + i + 1)) = j - (k + 1) from by omega,List.getD_eq_getElem?_getD,List.getElem?_eq_getElem (by omega)];rfl
   ·exact ⟨_,List.getElem?_eq_getElem (by omega)⟩
  constructor
  ·rintro ⟨a1,a2,a3,a4⟩
   refine ⟨fun j h1 h2 => ?_,fun a h1 h2 j h3 h4 => ?_⟩
   ·rcases Nat.lt_or_ge (k + 1 + i) j with hlt | hge
    ·exact a3 j (by omega) h2
    ·obtain rfl:j = k + 1 + i:=by omega
     rw [show k + 1 + i - (k + 1) = i from by omega]
     exact a1
   ·rcases Nat.lt_or_ge (k + 1 + i) a with hlt | hge
    ·exact a4 a (by omega) h2 j h3 h4
    ·obtain rfl:a = k + 1 + i:=by omega
     obtain ⟨f1,dd,f2⟩:=e3 j (by omega) h4
     have:=a2 _ _ _ f1 f2
     rw [e2 j (by omega) h4 dd f2] at this
     rw [show k + 1 + i - (k + 1) = i from by omega]
     exact this
  ·rintro ⟨a1,a2⟩
   refine ⟨?_,fun kk c dd h1 h2 => ?_,fun j h1 h2 => a1 j (by omega) h2,fun a h1 h2 => a2 a (by omega) h2⟩
   ·have:=a1 (k + 1 + i) (by omega) hj
    rw [show k + 1 + i - (k + 1) = i from by omega] at this
    exact this
   ·have hlt:kk < x.zA.length - (k + 1 + i + 1):=by
     have:=(List.getElem?_eq_some_iff.1 h1).1
     rw [List.length_drop] at this;omega
    have g:=a2 (k + 1 + i) (by omega) hj (k + 1 + i + 1 + kk) (by omega) (by omega)
    obtain ⟨f1,_⟩:=e3 (k + 1 + i + 1 + kk) (by omega) (by omega)
    rw [show k + 1 + i + 1 + kk - (k + 1 + i + 1) = kk from by omega] at f1 g
    rw [h1] at f1
    have f1:=Option.some.inj f1
    have g2:=e2 (k + 1 + i + 1 + kk) (by omega) (by omega) dd (by rw [show k + 1 + i + 1 + kk - (k + 1 + i + 1) = kk from by omega];exact h2)
    rw [show k + 1 + i + 1 + kk - (k + 1 + i + 1) = kk from by omega] at g2
    rw [g2,f1]
    rw [show k + 1 + i - (k + 1) = i from by omega] at g
    exact g
theorem zA5:wV (suf x k) ↔ wV (suf x (k + 1)) ∧ LC x k:=by
 have hr:=zM8 h hk (x.zA.length - (k + 1)) 0 (by omega)
 have hl:=xE x (k + 1)
 rw [List.drop_zero,Nat.add_zero] at hr
 rw [yI hk]
 simp only [wV]
 rw [hr]
 constructor
 ·rintro ⟨a,⟨b1,b2⟩,c,d⟩
  refine ⟨a,⟨b1,b2,c,fun j h1 h2 => ?_⟩⟩
  have:=d (j - (k + 1)) (by omega)
  rwa [hl] at this
 ·rintro ⟨a,b⟩
  refine ⟨a,⟨b.c1,b.c2⟩,b.c3,fun j hj => ?_⟩
  have:=b.c4 (k + 1 + j) (by omega) (by omega)
  rw [show k + 1 + j - (k + 1) = j from by omega] at this
  rwa [hl]
end
theorem zBV {x:SPr} (h:wV (suf x 0)) (k:Nat):wV (suf x k):=by
 have:=zDm h k
 rwa [Nat.zero_add] at this
def zAQ (x:SPr):Prop:=Pres x ∧ wV (suf x 0) ∧ zEz x
theorem zDo {x:SPr} (hl:x.zA.length ≤ 1048576):IsB (zSy x) (zAQ x):=by
 unfold zSy
 rcases zCg hl with ⟨h1,h2⟩ | ⟨h1,h2⟩
 ·have h6:=h2.os.1
  rw [h1,bs,zH]
  unfold f_K
  obtain ⟨r,r1,r2⟩:=vM (body:=zKc x) (Q:=fun r => ∃ s:Nat,r = (s:Int) ∧ wV (suf x s) ∧ (s = 0 ∨ ¬ wV (suf x (s - 1)))) (fun i s => i ≤ x.zA.length ∧ s = ((x.zA.length - i:Nat):Int) ∧ wV (suf x (x.zA.length - i))) x.zA.length (fun i s hi ⟨_,hs,hcs⟩ => by
    subst hs
    have hk:x.zA.length - i - 1 < x.zA.length:=by omega
    have e9:x.zA.length - (i + 1) = x.zA.length - i - 1:=by omega
    rw [e9]
    have e8:i + 1 ≤ x.zA.length:=by omega
    rw [show x.zA.length - i = x.zA.length - i - 1 + 1 from by omega] at hcs ⊢
    have hlev:=zFR h2.toPres hk hcs
    have hiff:=zA5 h2.toPres hk
    generalize x.zA.length - i - 1 = k at *
    unfold zKc
    rw [decide_eq_true (by omega),zH,zC (by omega) (by omega),bs,show (((k + 1:Nat):Int) - 1) = (k:Int) from by omega]
    rcases hlev with ⟨g1,g2⟩ | ⟨r,g1,g2,g3⟩
    ·left
     rw [g1,bs]
     simp only [beq_self_eq_true,Bool.and_true]
     rw [zH,bs]
     exact ⟨_,rfl,e8,rfl,hiff.2 ⟨hcs,g2⟩⟩
    ·right
     rw [g1,bs,show (r.Kind == 0) = false from by simpa using g2,Bool.false_and,zF]
     refine ⟨_,rfl,k + 1,rfl,hcs,.inr fun q => g3 (hiff.1 q).2⟩) (fun s ⟨_,hs,hcs⟩ => by
    rw [Nat.sub_self] at hs hcs
    subst hs
    unfold zKc
    rw [show decide (((0:Nat):Int) > 0) = false from rfl,zF]
    exact ⟨_,rfl,0,rfl,hcs,.inl rfl⟩) (s:=(x.zA.length:Int)) ⟨by omega,by rw [Nat.sub_zero],by rw [Nat.sub_zero,vR (by omega)];simp only [wV]⟩
  obtain ⟨s,rfl,hcs,hs⟩:=r2
  rw [r1,bs,bs]
  cases s with
  | zero => exact .inl ⟨rfl,h2.toPres,hcs,h2⟩
  | succ s =>
   refine .inr ⟨?_,fun q => ?_⟩
   ·congr 1
   ·rcases hs with hs | hs
    ·omega
    ·exact hs (zBV q.2.1 _)
 ·rw [h1,bs,zF]
  exact .inr ⟨rfl,fun q => h2 q.2.2⟩
theorem zKT {x:SPr} (hl:x.zA.length ≤ 1048576):IsB (zSs x) (zAQ x):=by
 unfold zSs
 rcases zCh hl with ⟨h1,h2⟩ | ⟨h1,h2⟩
 ·have h6:=h2.os.1
  rw [h1,bs,zH]
  unfold zUJ zUI
  rw [zC (by omega) (by omega),bs]
  obtain ⟨r,r1,r2⟩:=vM (body:=zJY x) (Q:=fun r => (r = .inl () ∧ wV (suf x 0)) ∨ ∃ f,r = .inr f ∧ f.Kind ≠ 0 ∧ ¬ wV (suf x 0)) (fun i s => i ≤ x.zA.length ∧ s = ((x.zA.length - i:Nat):Int) - 1 ∧ wV (suf x (x.zA.length - i))) x.zA.length (fun i s hi ⟨_,hs,hcs⟩ => by
    subst hs
    have hk:x.zA.length - i - 1 < x.zA.length:=by omega
    have e9:x.zA.length - (i + 1) = x.zA.length - i - 1:=by omega
    rw [e9]
    have e8:i + 1 ≤ x.zA.length:=by omega
    rw [show x.zA.length - i = x.zA.length - i - 1 + 1 from by omega] at hcs ⊢
    have hlev:=zKS h2.toPres hk hcs
    have hiff:=zA5 h2.toPres hk
    generalize x.zA.length - i - 1 = k at *
    unfold zJY
    rw [show (((k + 1:Nat):Int) - 1) = (k:Int) from by omega,decide_eq_true (by omega),zH]
    rcases hlev with ⟨g1,g2⟩ | ⟨r,g1,g2,g3⟩
    ·left
     rw [g1,bs]
     simp only
     rw [show ((0:Int) != 0) = false from rfl,zF,zC (by omega) (by omega),bs]
     exact ⟨_,rfl,e8,rfl,hiff.2 ⟨hcs,g2⟩⟩
    ·right
     rw [g1,bs,show (r.Kind != 0) = true from by simpa using g2,zH]
     exact ⟨_,rfl,.inr ⟨r,rfl,g2,fun q => g3 (hiff.1 (zBV q _)).2⟩⟩) (fun s ⟨_,hs,hcs⟩ => by
    rw [Nat.sub_self] at hs hcs
    subst hs
    unfold zJY
    rw [show decide (((0:Nat):Int) - 1 ≥ 0) = false from rfl,zF]
    exact ⟨_,rfl,.inl ⟨rfl,hcs⟩⟩) (s:=(x.zA.length:Int) - 1) ⟨by omega,by rw [Nat.sub_zero],by rw [Nat.sub_zero,vR (by omega)];simp only [wV]⟩
  rw [r1,bs]
  rcases r2 with ⟨rfl,q⟩ | ⟨f,rfl,g1,g2⟩
  ·exact .inl ⟨rfl,h2.toPres,q,h2⟩
  ·simp only
   rw [bs,show (f.Kind == 0) = false from by simpa using g1]
   exact .inr ⟨rfl,fun q => g2 q.2.1⟩
 ·rw [h1,bs,zF]
  exact .inr ⟨rfl,fun q => h2 q.2.2⟩
end Go.Pl

namespace Go.Pl
open Go Go.Ab Go.Wk
abbrev Mx:=List (List Int)
def S:Nat → (Nat → Int) → Int
 | 0,_ => 0
 | n + 1,f => S n f + f n
theorem wL {n:Nat} {f g:Nat → Int} (h:∀ i,i < n → f i = g i):S n f = S n g:=by
 induction n with
 | zero => rfl
 | succ n ih => simp only [S];rw [ih fun i hi => h i (by omega),h n (by omega)]
theorem zDp {p:Int} {f g:Nat → Int}:∀ {n:Nat},(∀ i,i < n → f i % p = g i % p) → S n f % p = S n g % p
 | 0,_ => rfl
 | n + 1,h => by
  simp only [S]
  rw [Int.add_emod,zDp (n:=n) fun i hi => h i (by omega),h n (by omega),← Int.add_emod]
theorem jE:∀ n:Nat,S n (fun _ => 0) = 0
 | 0 => rfl
 | n + 1 => by simp only [S,jE n];rfl
theorem zJz {f g:Nat → Int}:∀ n:Nat,S n (fun i => f i + g i) = S n f + S n g
 | 0 => rfl
 | n + 1 => by simp only [S,zJz n];omega
theorem zPw {f:Nat → Int} (a:Int):∀ n:Nat,S n (fun i => f i * a) = S n f * a
 | 0 => by simp [S]
 | n + 1 => by simp only [S,zPw a n,Int.add_mul]
theorem zEc {f:Nat → Int} (a:Int):∀ n:Nat,S n (fun i => a * f i) = a * S n f
 | 0 => by simp [S]
 | n + 1 => by simp only [S,zEc a n,Int.mul_add]
theorem zKU {f:Nat → Nat → Int} (m:Nat):∀ n:Nat,S n (fun i => S m (fun j => f i j)) = S m (fun j => S n (fun i => f i j))
 | 0 => by simp only [S];exact (jE m).symm
 | n + 1 => by simp only [S];rw [zKU m n,zJz]
theorem zA6 {f:Nat → Int} {k:Nat}:∀ {n:Nat},k < n → (∀ i,i < n → i ≠ k → f i = 0) → S n f = f k
 | 0,h,_ => by omega
 | n + 1,h,hz => by
  simp only [S]
  by_cases hk:k = n
  ·subst hk
   rw [wL (g:=fun _ => 0) fun i hi => hz i (by omega) (by omega),jE];omega
  ·rw [zA6 (n:=n) (by omega) fun i hi => hz i (by omega),hz n (by omega) (by omega)];omega
def mkv (D:Nat) (f:Nat → Int):List Int:=(List.range D).map f
theorem zZ (D:Nat) (f:Nat → Int):(mkv D f).length = D:=by simp [mkv]
theorem zBW {D:Nat} {f:Nat → Int} {i:Nat} (h:i < D):(mkv D f)[i]? = some (f i):=by simp [mkv,h]
theorem yE {D:Nat} {f:Nat → Int} {i:Nat} (h:i < D):at0 (mkv D f) i = f i:=by
 rw [at0,List.getD_eq_getElem?_getD,zBW h];rfl
theorem zW {D:Nat} {f g:Nat → Int} (h:∀ i,i < D → f i = g i):mkv D f = mkv D g:=by
 unfold mkv
 apply List.map_congr_left
 intro i hi
 exact h i (by simpa using hi)
theorem qG {D:Nat} {f:Nat → Int} {j:Nat} {a:Int}:(mkv D f).set j a = mkv D (fun i => if i = j then a else f i):=by
 apply List.ext_getElem?
 intro i
 rw [List.getElem?_set,zZ]
 by_cases hi:i < D
 ·by_cases hij:j = i
  ·subst hij;rw [if_pos rfl,if_pos hi,zBW hi,if_pos rfl]
  ·rw [if_neg hij,zBW hi,zBW hi,if_neg fun h => hij h.symm]
 ·have h1:∀ g:Nat → Int,(mkv D g)[i]? = none:=fun g => List.getElem?_eq_none (by rw [zZ];omega)
  rw [h1,h1]
  by_cases hij:j = i
  ·subst hij;rw [if_pos rfl,if_neg hi]
  ·rw [if_neg hij]
theorem vD {v:List Int} {D:Nat} (h:v.length = D):v = mkv D (at0 v):=by
 apply List.ext_getElem?
 intro i
 by_cases hi:i < D
 ·rw [zBW hi,at0,List.getD_eq_getElem?_getD,List.getElem?_eq_getElem (by omega)];rfl
 ·rw [List.getElem?_eq_none (by omega),List.getElem?_eq_none (by rw [zZ];omega)]
theorem tE (D:Nat):List.replicate D (0:Int) = mkv D (fun _ => 0):=by
 apply List.ext_getElem?
 intro i
 by_cases hi:i < D
 ·rw [zBW hi];simp [hi]
 ·rw [List.getElem?_eq_none (by simp;omega),List.getElem?_eq_none (by rw [zZ];omega)]
abbrev ent (B:Mx) (l j:Nat):Int:=at0 (B.getD l []) j
def tF (p:Int) (D:Nat) (r:List Int) (B:Mx):List Int:=mkv D fun j => S D (fun l => at0 r l * ent B l j) % p
def PM (p:Int) (D:Nat) (A B:Mx):Mx:=A.map fun r => tF p D r B
def idM (D:Nat):Mx:=(List.range D).map fun i => mkv D fun j => if j = i then 1 else 0
def Row (p:Int) (D:Nat) (r:List Int):Prop:=r.length = D ∧ ∀ i,i < D → 0 ≤ at0 r i ∧ at0 r i ≤ p - 1
def Mat (p:Int) (D:Nat) (A:Mx):Prop:=A.length = D ∧ ∀ i,i < D → Row p D (A.getD i [])
theorem zAR {p:Int} {D i:Nat} {A B:Mx} (h:i < A.length):(PM p D A B).getD i [] = tF p D (A.getD i []) B:=by
 simp only [PM,List.getD_eq_getElem?_getD,List.getElem?_map,List.getElem?_eq_getElem h];rfl
theorem vB {p:Int} {D:Nat} {A B:Mx}:(PM p D A B).length = A.length:=by simp [PM]
theorem zBE {p:Int} {D:Nat} {A B:Mx} (hp:0 < p) (hA:A.length = D):Mat p D (PM p D A B):=by
 refine ⟨by rw [vB,hA],fun i hi => ?_⟩
 rw [zAR (by omega)]
 refine ⟨by rw [tF,zZ],fun j hj => ?_⟩
 rw [tF,yE hj]
 have h1:=Int.emod_nonneg (S D fun l => at0 (A.getD i []) l * ent B l j) (show p ≠ 0 by omega)
 have h2:=Int.emod_lt_of_pos (S D fun l => at0 (A.getD i []) l * ent B l j) hp
 omega
theorem zKV {p:Int} {D i j:Nat} {A B:Mx} (hA:A.length = D) (hi:i < D) (hj:j < D):ent (PM p D A B) i j = S D (fun l => ent A i l * ent B l j) % p:=by
 rw [ent,zAR (by omega),tF,yE hj]
theorem zFT {D:Nat} {A B:Mx} (hA:A.length = D) (hB:B.length = D) (h:∀ i,i < D → A.getD i [] = B.getD i []):A = B:=by
 apply List.ext_getElem?
 intro i
 by_cases hi:i < D
 ·have:=h i hi
  rw [List.getD_eq_getElem?_getD,List.getD_eq_getElem?_getD,List.getElem?_eq_getElem (by omega),List.getElem?_eq_getElem (by omega)] at this
  rw [List.getElem?_eq_getElem (by omega),List.getElem?_eq_getElem (by omega)]
  exact congrArg some this
 ·rw [List.getElem?_eq_none (by omega),List.getElem?_eq_none (by omega)]
theorem zJ0 {p:Int} {D:Nat} {A B C:Mx} (hA:A.length = D) (hB:B.length = D):PM p D (PM p D A B) C = PM p D A (PM p D B C):=by
 refine zFT (by rw [vB,vB,hA]) (by rw [vB,hA]) fun i hi => ?_
 rw [zAR (A:=PM p D A B) (by rw [vB];omega),zAR (A:=A) (B:=PM p D B C) (by omega)]
 unfold tF
 refine zW fun j hj => ?_
 have e1:S D (fun l => at0 ((PM p D A B).getD i []) l * ent C l j) % p = S D (fun l => S D (fun q => ent A i q * ent B q l) * ent C l j) % p:=zDp fun l hl => by
  have:=zKV (p:=p) (B:=B) hA hi hl
  simp only [ent] at this ⊢
  rw [this,Int.mul_emod,Int.emod_emod,← Int.mul_emod]
 have e2:S D (fun l => at0 (A.getD i []) l * ent (PM p D B C) l j) % p = S D (fun q => ent A i q * S D (fun l => ent B q l * ent C l j)) % p:=zDp fun q hq => by
  rw [zKV hB hq hj,Int.mul_emod,Int.emod_emod,← Int.mul_emod]
 rw [e1,e2]
 congr 1
 have e3:(fun l => S D (fun q => ent A i q * ent B q l) * ent C l j) = fun l => S D (fun q => ent A i q * ent B q l * ent C l j):=funext fun l => (zPw _ _).symm
 have e4:(fun q => ent A i q * S D (fun l => ent B q l * ent C l j)) = fun q => S D (fun l => ent A i q * ent B q l * ent C l j):=funext fun q => by
  rw [← zEc]
  exact wL fun l _ => by rw [Int.mul_assoc]
 rw [e3,e4]
 exact zKU D D
theorem uB (D:Nat):(idM D).length = D:=by simp [idM]
theorem zBX {D i:Nat} (h:i < D):(idM D).getD i [] = mkv D fun j => if j = i then 1 else 0:=by simp [idM,List.getD_eq_getElem?_getD,h]
theorem kW {p:Int} {D:Nat} (hp:2 ≤ p):Mat p D (idM D):=by
 refine ⟨uB D,fun i hi => ?_⟩
 rw [zBX hi]
 refine ⟨zZ _ _,fun j hj => ?_⟩
 rw [yE hj]
 split <;> omega
theorem jR {p a:Int} (h:0 ≤ a ∧ a ≤ p - 1):a % p = a:=Int.emod_eq_of_lt h.1 (by omega)
theorem zIf {p:Int} {D:Nat} {B:Mx} (hB:Mat p D B):PM p D (idM D) B = B:=by
 refine zFT (by rw [vB,uB]) hB.1 fun i hi => ?_
 rw [zAR (by rw [uB];exact hi),zBX hi,tF]
 obtain ⟨h1,h2⟩:=hB.2 i hi
 refine Eq.trans (zW fun j hj => ?_) (vD h1).symm
 rw [zA6 (k:=i) hi fun l hl hne => by rw [yE hl,if_neg hne,Int.zero_mul],yE hi,if_pos rfl,Int.one_mul]
 exact jR (h2 j hj)
theorem zJ1 {p:Int} {D:Nat} {A:Mx} (hA:Mat p D A):PM p D A (idM D) = A:=by
 refine zFT (by rw [vB,hA.1]) hA.1 fun i hi => ?_
 rw [zAR (by rw [hA.1];exact hi),tF]
 obtain ⟨h1,h2⟩:=hA.2 i hi
 refine Eq.trans (zW fun j hj => ?_) (vD h1).symm
 rw [zA6 (k:=j) hj fun l hl hne => by rw [ent,zBX hl,yE hj,if_neg (fun h => hne h.symm),Int.mul_zero],ent,zBX hj,yE hj,if_pos rfl,Int.mul_one]
 exact jR (h2 j hj)
theorem zPx {p:Int} {D i j:Nat} {B:Mx} (hB:Mat p D B) (hi:i < D) (hj:j < D):ixO B (i:Int) = some (B.getD i []) ∧ ixO (B.getD i []) (j:Int) = some (ent B i j) ∧ (B.getD i []).length = D ∧ 0 ≤ ent B i j ∧ ent B i j ≤ p - 1:=by
 obtain ⟨h1,h2⟩:=hB.2 i hi
 have:=hB.1
 exact ⟨yC [] (by omega),yD (by omega),h1,h2 j hj⟩
def acc (p:Int) (D i:Nat) (r:List Int) (B:Mx):List Int:=mkv D fun j => S i (fun l => at0 r l * ent B l j) % p
def zCi (p:Int) (D i k:Nat) (r:List Int) (B:Mx):List Int:=mkv D fun j => if j < k then S (i + 1) (fun l => at0 r l * ent B l j) % p else S i (fun l => at0 r l * ent B l j) % p
theorem zHn {p:Int} {D i:Nat} {r:List Int} {B:Mx}:zCi p D i 0 r B = acc p D i r B:=zW fun j _ => by rw [if_neg (by omega)]
theorem zHo {p:Int} {D i:Nat} {r:List Int} {B:Mx}:zCi p D i D r B = acc p D (i + 1) r B:=zW fun j hj => by rw [if_pos hj]
theorem zJ2 {p:Int} {D i k:Nat} {r:List Int} {B:Mx} (hk:k < D) {a:Int} (ha:a = (at0 (zCi p D i k r B) k + at0 r i * ent B i k) % p):(zCi p D i k r B).set k a = zCi p D i (k + 1) r B:=by
 subst ha
 simp only [zCi]
 rw [qG,yE hk,if_neg (by omega)]
 refine zW fun j hj => ?_
 by_cases hjk:j = k
 ·subst hjk
  rw [if_pos rfl,if_pos (by omega)]
  simp only [S]
  rw [Int.emod_add_emod]
 ·rw [if_neg hjk]
  by_cases hlt:j < k
  ·rw [if_pos hlt,if_pos (by omega)]
  ·rw [if_neg hlt,if_neg (by omega)]
theorem zJ3 {p:Int} {D i k j:Nat} {r:List Int} {B:Mx} (hp:0 < p) (hj:j < D):0 ≤ at0 (zCi p D i k r B) j ∧ at0 (zCi p D i k r B) j ≤ p - 1:=by
 rw [zCi,yE hj]
 split
 ·have h1:=Int.emod_nonneg (S (i + 1) fun l => at0 r l * ent B l j) (show p ≠ 0 by omega)
  have h2:=Int.emod_lt_of_pos (S (i + 1) fun l => at0 r l * ent B l j) hp
  omega
 ·have h1:=Int.emod_nonneg (S i fun l => at0 r l * ent B l j) (show p ≠ 0 by omega)
  have h2:=Int.emod_lt_of_pos (S i fun l => at0 r l * ent B l j) hp
  omega
theorem zFU {p:Int} {D i k:Nat} {r:List Int} {B:Mx}:(zCi p D i k r B).length = D:=zZ _ _
theorem zM9 {p:Int} {D i k j:Nat} {r:List Int} {B:Mx} (hj:j < D):ixO (zCi p D i k r B) (j:Int) = some (at0 (zCi p D i k r B) j):=yD (by rw [zFU];exact hj)
theorem zJ4 {p:Int} {D:Nat} {r:List Int} {B:Mx}:List.replicate D (0:Int) = acc p D 0 r B:=by
 rw [tE];exact zW fun j _ => by simp [S]
theorem zHp {a b p:Int} (hp:p ≤ 7) (ha:0 ≤ a ∧ a ≤ p - 1) (hb:0 ≤ b ∧ b ≤ p - 1):0 ≤ a * b ∧ a * b ≤ 36:=by
 have h1:0 ≤ a * b:=Int.mul_nonneg ha.1 hb.1
 have h2:a * b ≤ 6 * 6:=Int.mul_le_mul (by omega) (by omega) hb.1 (by omega)
 omega
section
variable {p:Int} {D:Nat} (hp:Prime p) (hD:D ≤ 8)
 include hp hD
theorem zCH {r:List Int} {B:Mx} (hr:Row p D r) (hB:Mat p D B):f_D p r B (D:Int) = some (tF p D r B):=by
 have h7:=hp.pos
 have hBl:=hB.1
 have hrl:=hr.1
 unfold f_D
 rw [yR (by omega),bs,zJ4 (p:=p) (r:=r) (B:=B)]
 have:=zP (body:=zQr p r B) (r:=acc p D D r B) (fun i => (acc p D i r B,(i:Int))) D (fun i hi => by
  have hri:=hr.2 i hi
  unfold zQr
  simp only
  rw [hrl,hBl,yO hi,zH,zH]
  have inner:=zP (body:=zQq p r B (acc p D i r B,(i:Int))) (r:=acc p D (i + 1) r B) (fun k => (zCi p D i k r B,(k:Int))) D (fun k hk => by
   obtain ⟨b1,b2,b3,b4⟩:=zPx hB hi hk
   have ha:=zJ3 (p:=p) (i:=i) (k:=k) (r:=r) (B:=B) (by omega) hk
   have hm:=zHp (by omega) hri b4
   unfold zQq
   simp only
   rw [zFU,yO hk,zH,b1,bs,b3,yO hk,zH,zM9 hk,bs,yD (by omega),bs,bs,b2,bs,zC (by omega) (by omega),bs,zC (by omega) (by omega),bs]
   have hrem:uH (at0 (zCi p D i k r B) k + at0 r i * ent B i k) p = some ((at0 (zCi p D i k r B) k + at0 r i * ent B i k) % p):=by
    unfold uH
    rw [if_neg (by omega),Int.tmod_eq_emod_of_nonneg (by omega)]
   rw [hrem,bs,bs,zC (by omega) (by omega),bs,cs,Int.toNat_natCast,zJ2 hk rfl]) (by
   unfold zQq
   simp only
   rw [zFU,yY,zF,zHo])
  rw [zHn,show ((0:Nat):Int) = 0 from rfl] at inner
  rw [inner,bs,zC (by omega) (by omega),bs,cs]) (by
  unfold zQr
  simp only
  rw [hrl,yY,zF])
 rw [show ((0:Nat):Int) = 0 from rfl] at this
 rw [this,bs];rfl
theorem zIg {a:Int} (h0:0 ≤ a) (_h1:a ≤ 1000):zGG a p = some (a % p):=by
 have _:=hD
 have h7:=hp.pos
 have e1:=Int.emod_nonneg a (show p ≠ 0 by omega)
 have e2:=Int.emod_lt_of_pos a (show 0 < p by omega)
 unfold zGG uH
 rw [if_neg (by omega),bs,Int.tmod_eq_emod_of_nonneg h0,zC (by omega) (by omega),bs,if_neg (by omega),bs,Int.tmod_eq_emod_of_nonneg (by omega)]
 congr 1
 rw [Int.add_emod_right,Int.emod_emod]
theorem zEd {i:Nat} {r:List Int} {B:Mx} (hi:i < D) (hr:Row p D r) (hB:Mat p D B):f_w (acc p D i r B) (B.getD i []) (at0 r i) p = some (acc p D (i + 1) r B):=by
 have h7:=hp.pos
 have hri:=hr.2 i hi
 unfold f_w
 have hl:(acc p D i r B).length = D:=zZ _ _
 have inner:=zP (body:=zKe (acc p D i r B) (B.getD i []) (at0 r i) p) (r:=acc p D (i + 1) r B) (fun k => (zCi p D i k r B,(k:Int))) D (fun k hk => by
  obtain ⟨b1,b2,b3,b4⟩:=zPx hB hi hk
  have ha:=zJ3 (p:=p) (i:=i) (k:=k) (r:=r) (B:=B) (by omega) hk
  have hm:=zHp (by omega) hri b4
  unfold zKe
  simp only
  rw [hl,yO hk,zH,zM9 hk,bs,b2,bs,zC (by omega) (by omega),bs,zC (by omega) (by omega),bs,zIg hp hD (by omega) (by omega),bs,bs,zC (by omega) (by omega),bs,cs,Int.toNat_natCast,zJ2 hk rfl]) (by
  unfold zKe
  simp only
  rw [hl,yY,zF,zHo])
 rw [zHn,show ((0:Nat):Int) = 0 from rfl] at inner
 rw [inner,bs]
theorem zA7 {r:List Int} {B:Mx} {q:Int} (hr:Row p D r) (hB:Mat p D B) (hq:q = (D:Int)):zQN r (zS.mk p q B) = some (tF p D r B):=by
 subst hq
 have hrl:=hr.1
 unfold zQN
 simp only
 rw [yR (by omega),bs,zJ4 (p:=p) (r:=r) (B:=B)]
 have:=zP (body:=zKf r (zS.mk p (D:Int) B)) (r:=acc p D D r B) (fun i => (acc p D i r B,(i:Int))) D (fun i hi => by
  have hBl:=hB.1
  unfold zKf
  simp only
  rw [hrl,yO hi,zH,yD (by omega),bs,yC [] (by omega),bs,zEd hp hD hi hr hB,bs,zC (by omega) (by omega),bs,cs]) (by
  unfold zKf
  simp only
  rw [hrl,yY,zF])
 rw [show ((0:Nat):Int) = 0 from rfl] at this
 rw [this,bs];rfl
theorem zHq {A B:Mx} {i:Nat} (hi:i < A.length):(PM p D A B).take i ++ [tF p D (A.getD i []) B] = (PM p D A B).take (i + 1):=by
 have _:=hp;have _:=hD
 rw [List.take_succ_eq_append_getElem (by rw [vB];exact hi)]
 congr 2
 have:=zAR (p:=p) (D:=D) (B:=B) hi
 rw [List.getD_eq_getElem?_getD,List.getElem?_eq_getElem (by rw [vB];exact hi)] at this
 exact this.symm
theorem qH {A B:Mx} (hA:Mat p D A) (hB:Mat p D B):f_Q p A B (D:Int) = some (PM p D A B):=by
 have hAl:=hA.1
 unfold f_Q
 have:=zP (body:=zQs p A B (D:Int)) (r:=PM p D A B) (fun i => ((PM p D A B).take i,(i:Int))) D (fun i hi => by
  unfold zQs
  simp only
  rw [hAl,yO hi,zH,yC [] (by omega),bs,zCH hp hD (hA.2 i hi) hB,bs,yK (by rw [List.length_take,vB];simp;omega),bs,zC (by omega) (by omega),bs,cs,zHq hp hD (by omega)]) (by
  unfold zQs
  simp only
  rw [hAl,yY,zF,List.take_of_length_le (by rw [vB];omega)])
 rw [show ((0:Nat):Int) = 0 from rfl,List.take_zero] at this
 rw [this,bs]
theorem zG5 {A B:Mx} {q:Int} (hA:Mat p D A) (hB:Mat p D B):zS1 (zS.mk p q A) (zS.mk p (D:Int) B) = some (zS.mk p (D:Int) (PM p D A B)):=by
 have hAl:=hA.1
 unfold zS1
 have:=zP (body:=zKg (zS.mk p q A) (zS.mk p (D:Int) B)) (r:=PM p D A B) (fun i => ((PM p D A B).take i,(i:Int))) D (fun i hi => by
  unfold zKg
  simp only
  rw [hAl,yO hi,zH,yC [] (by omega),bs,zA7 hp hD (hA.2 i hi) hB rfl,bs,yK (by rw [List.length_take,vB];simp;omega),bs,zC (by omega) (by omega),bs,cs,zHq hp hD (by omega)]) (by
  unfold zKg
  simp only
  rw [hAl,yY,zF,List.take_of_length_le (by rw [vB];omega)])
 rw [show ((0:Nat):Int) = 0 from rfl,List.take_zero] at this
 rw [this,bs]
theorem zJ5 {i:Nat} (_hi:i < D):(List.replicate D (0:Int)).set i 1 = mkv D fun j => if j = i then 1 else 0:=by
 have _:=hp;have _:=hD
 rw [tE,qG]
theorem zMA {i:Nat} (hi:i < D):(idM D).take i ++ [mkv D fun j => if j = i then 1 else 0] = (idM D).take (i + 1):=by
 have _:=hp;have _:=hD
 rw [List.take_succ_eq_append_getElem (by rw [uB];exact hi)]
 congr 2
 have:=zBX hi
 rw [List.getD_eq_getElem?_getD,List.getElem?_eq_getElem (by rw [uB];exact hi)] at this
 exact this.symm
theorem zFV:f_F (D:Int) = some (idM D):=by
 unfold f_F
 have:=zP (body:=zJZ (D:Int)) (r:=idM D) (fun i => ((idM D).take i,(i:Int))) D (fun i hi => by
  unfold zJZ
  simp only
  rw [yO hi,zH,yR (by omega),bs,wY,List.getElem?_replicate,if_pos hi,bs,Int.toNat_natCast,zJ5 hp hD hi,yK (by rw [List.length_take,uB];simp;omega),bs,zC (by omega) (by omega),bs,cs,zMA hp hD hi]) (by
  unfold zJZ
  simp only
  rw [yY,zF,List.take_of_length_le (by rw [uB];omega)])
 rw [show ((0:Nat):Int) = 0 from rfl,List.take_zero] at this
 rw [this,bs]
theorem zG6:f_R p (D:Int) = some (zS.mk p (D:Int) (idM D)):=by
 unfold f_R
 have:=zP (body:=zQM (D:Int)) (r:=idM D) (fun i => ((idM D).take i,(i:Int))) D (fun i hi => by
  unfold zQM
  simp only
  rw [yO hi,zH,yR (by omega),bs,wY,List.getElem?_replicate,if_pos hi,bs,Int.toNat_natCast,zJ5 hp hD hi,yK (by rw [List.length_take,uB];simp;omega),bs,zC (by omega) (by omega),bs,cs,zMA hp hD hi]) (by
  unfold zQM
  simp only
  rw [yY,zF,List.take_of_length_le (by rw [uB];omega)])
 rw [show ((0:Nat):Int) = 0 from rfl,List.take_zero] at this
 rw [this,bs]
end
end Go.Pl

namespace Go.Pl
open Go Go.Ab Go.Wk Go.Pc
def nw:Nat → List Int → List Nat
 | _,[] => []
 | o,a :: v => List.replicate a.toNat o ++ nw (o + 1) v
theorem zEe:∀ (o:Nat) (u v:List Int),nw o (u ++ v) = nw o u ++ nw (o + u.length) v
 | o,[],v => by simp [nw]
 | o,a :: u,v => by
  simp only [List.cons_append,nw,zEe (o + 1) u v,List.append_assoc,List.length_cons]
  rw [show o + 1 + u.length = o + (u.length + 1) from by omega]
theorem zIh {v:List Int} {i:Nat} (h:i < v.length):nw 0 (v.take (i + 1)) = nw 0 (v.take i) ++ List.replicate (at0 v i).toNat i:=by
 rw [List.take_succ_eq_append_getElem h,zEe,List.length_take,Nat.min_eq_left (by omega),Nat.zero_add]
 simp only [nw,List.append_nil]
 rw [at0,List.getD_eq_getElem?_getD,List.getElem?_eq_getElem h];rfl
theorem zPy {n:Nat}:∀ (o:Nat) (v:List Int),o + v.length ≤ n → ∀ w ∈ nw o v,w < n
 | o,[],_,w,h => by simp [nw] at h
 | o,a :: v,hv,w,h => by
  simp only [nw,List.mem_append,List.length_cons] at h hv
  rcases h with h | h
  ·have:=List.eq_of_mem_replicate h;omega
  ·exact zPy (o + 1) v (by omega) w h
theorem zFW:∀ (o:Nat) (v:List Int),(∀ i,i < v.length → at0 v i ≤ 6) → (nw o v).length ≤ 6 * v.length
 | o,[],_ => by simp [nw]
 | o,a :: v,h => by
  have h0:=h 0 (by simp)
  have:=zFW (o + 1) v fun i hi => by
   have:=h (i + 1) (by simpa using hi)
   simpa [at0] using this
  simp only [at0,List.getD_cons_zero] at h0
  simp only [nw,List.length_append,List.length_replicate,List.length_cons]
  omega
def wM (p:Int) (D:Nat) (A:List Mx) (ws:List Nat) (B:Mx):Mx:=ws.foldl (fun B w => PM p D B (A.getD w [])) B
theorem zEf {p:Int} {D:Nat} {A:List Mx} {u v:List Nat} {B:Mx}:wM p D A (u ++ v) B = wM p D A v (wM p D A u B):=by simp [wM,List.foldl_append]
theorem zFX {p:Int} {D:Nat} {A:List Mx} {w:Nat}:∀ (k:Nat) (B:Mx),wM p D A (List.replicate k w) B = iter k (fun B => PM p D B (A.getD w [])) B
 | 0,_ => rfl
 | k + 1,B => by
  rw [List.replicate_succ]
  show wM p D A (List.replicate k w) (PM p D B (A.getD w [])) = _
  rw [zFX k];rfl
theorem zEg {p:Int} {D:Nat} {A:List Mx} (hp:0 < p):∀ (ws:List Nat) {B:Mx},Mat p D B → Mat p D (wM p D A ws B)
 | [],_,hB => hB
 | _w :: ws,_,hB => zEg hp ws (zBE hp hB.1)
theorem zPz {p:Int} {D:Nat} {A:List Mx} (hp:0 < p) {C:Mx} (hC:C.length = D):∀ (ws:List Nat) {B:Mx},Mat p D B → wM p D A ws (PM p D C B) = PM p D C (wM p D A ws B)
 | [],_,_ => rfl
 | w :: ws,B,hB => by
  show wM p D A ws (PM p D (PM p D C B) (A.getD w [])) = PM p D C (wM p D A ws (PM p D B (A.getD w [])))
  rw [zJ0 hC hB.1,zPz hp hC ws (zBE hp hB.1)]
structure MOk (n:Nat) (m:zD) (D:Nat):Prop where
 p:Prime m.Prime
 d:m.Dim = (D:Int)
 d1:1 ≤ D
 d3:D ≤ 3
 len:m.zI.length = n
 mat:∀ i,i < n → Mat m.Prime D (m.zI.getD i [])
section
variable {n D:Nat} {m:zD} (hm:MOk n m D) (hn:n ≤ 9)
 include hm hn
theorem zJ6 {v:List Int} (hl:v.length = n) (hv:∀ i,i < n → 0 ≤ at0 v i ∧ at0 v i ≤ 6):f_G m v = some (wM m.Prime D m.zI (nw 0 v) (idM D)):=by
 have h7:=hm.p.pos
 have h3:=hm.d3
 have hlen:=hm.len
 unfold f_G
 rw [hm.d,zFV hm.p (by omega),bs]
 have hI:∀ i,Mat m.Prime D (wM m.Prime D m.zI (nw 0 (v.take i)) (idM D)):=fun i => zEg (by omega) _ (kW h7.1)
 have:=zP (body:=zQu m v) (r:=wM m.Prime D m.zI (nw 0 v) (idM D)) (fun i => (wM m.Prime D m.zI (nw 0 (v.take i)) (idM D),(i:Int))) n (fun i hi => by
  have hvi:=hv i hi
  unfold zQu
  simp only
  rw [hl,yO hi,zH]
  rw [wW (S:=Mat m.Prime D) (body:=zQt m v (wM m.Prime D m.zI (nw 0 (v.take i)) (idM D),(i:Int))) (fun B => B) (fun B => PM m.Prime D B (m.zI.getD i [])) (at0 v i) hvi.1 (fun B hB => zBE (by omega) hB.1) (fun B q hB hq => by
   unfold zQt
   simp only
   rw [yD (by omega),bs,decide_eq_true hq,zH,yC [] (by omega),bs,hm.d,qH hm.p (by omega) hB (hm.mat i hi),bs,zC (by omega) (by omega),bs,cs]) (fun B hB => by
   unfold zQt
   simp only
   rw [yD (by omega),bs,decide_eq_false (by omega),zF]) (hI i),bs,zC (by omega) (by omega),bs,cs]
  rw [zIh (by omega),zEf,zFX]) (by
  unfold zQu
  simp only
  rw [hl,yY,zF,List.take_of_length_le (by omega)])
 rw [show ((0:Nat):Int) = 0 from rfl,List.take_zero] at this
 simp only [nw,wM,List.foldl_nil] at this
 rw [this,bs];rfl
abbrev enW (ws:List Nat):List Int:=ws.map fun (w:Nat) => (w:Int) + 1
theorem zCv {i:Nat} (hi:i < n):zL6 m (i:Int) = some (zS.mk m.Prime (D:Int) (m.zI.getD i [])):=by
 have _:=hn
 have hlen:=hm.len
 unfold zL6
 rw [yC [] (by omega),bs,hm.d]
theorem zCw {ws:List Nat} (hw:∀ w ∈ ws,w < n) (hl:ws.length ≤ 1000):f_S m (enW ws) = some (zS.mk m.Prime (D:Int) (wM m.Prime D m.zI ws (idM D))):=by
 have h7:=hm.p.pos
 have h3:=hm.d3
 unfold f_S
 rw [hm.d,zG6 hm.p (by omega),bs]
 have hI:∀ i,Mat m.Prime D (wM m.Prime D m.zI (ws.take i) (idM D)):=fun i => zEg (by omega) _ (kW h7.1)
 have hel:(enW ws).length = ws.length:=by simp only [enW,List.length_map]
 have:=zP (body:=zQO m (enW ws)) (r:=(m.Prime,(D:Int),wM m.Prime D m.zI ws (idM D))) (fun i => (m.Prime,(D:Int),wM m.Prime D m.zI (ws.take i) (idM D),(i:Int))) ws.length (fun i hi => by
  have hwi:=hw ws[i] (List.getElem_mem hi)
  unfold zQO
  simp only
  rw [hel,yO hi,zH,wY,List.getElem?_map,List.getElem?_eq_getElem hi]
  simp only [Option.map_some]
  rw [bs,zC (by omega) (by omega),bs,show ((ws[i]:Nat):Int) + 1 - 1 = ((ws[i]:Nat):Int) from by omega,zCv hm hn hwi,bs,zG5 hm.p (by omega) (hI i) (hm.mat _ hwi),bs,zC (by omega) (by omega),bs,cs,List.take_succ_eq_append_getElem hi,zEf]
  rfl) (by
  unfold zQO
  simp only
  rw [hel,yY,zF,List.take_of_length_le (by omega)])
 rw [show ((0:Nat):Int) = 0 from rfl,List.take_zero] at this
 simp only [wM,List.foldl_nil] at this
 simp only
 rw [this,bs];rfl
end
theorem zBg {v:List Int} (hl:v.length ≤ 9) (hv:∀ i,i < v.length → 0 ≤ at0 v i ∧ at0 v i ≤ 6):f_H v = some (enW (nw 0 v)):=by
 unfold f_H
 have hlen:∀ i,(nw 0 (v.take i)).length ≤ 54:=fun i => by
  have:=zFW 0 (v.take i) fun j hj => by
   rw [List.length_take] at hj
   have e:at0 (v.take i) j = at0 v j:=by simp only [at0,List.getD_eq_getElem?_getD,List.getElem?_take];rw [if_pos (by omega)]
   rw [e];exact (hv j (by omega)).2
  rw [List.length_take] at this
  omega
 have:=zP (body:=zQI v) (r:=enW (nw 0 v)) (fun i => (enW (nw 0 (v.take i)),(i:Int))) v.length (fun i hi => by
  have hvi:=hv i hi
  have hli:=hlen i
  unfold zQI
  simp only
  rw [yO hi,zH,yD hi,bs]
  have inner:=zP (body:=zQH (enW (nw 0 (v.take i)),(i:Int)) (at0 v i)) (r:=enW (nw 0 (v.take (i + 1)))) (fun k => (enW (nw 0 (v.take i) ++ List.replicate k i),(k:Int))) (at0 v i).toNat (fun k hk => by
   unfold zQH
   simp only
   rw [decide_eq_true (by omega),zH,zC (by omega) (by omega),bs,yK (by simp only [List.length_map,List.length_append,List.length_replicate,List.length_cons,List.length_nil];omega),bs,zC (by omega) (by omega),bs,cs]
   congr 3
   rw [List.replicate_succ',← List.append_assoc]
   simp only [enW,List.map_append,List.map_cons,List.map_nil]
   rfl) (by
   unfold zQH
   simp only
   rw [decide_eq_false (by omega),zF,zIh hi])
  rw [show ((0:Nat):Int) = 0 from rfl,List.replicate_zero,List.append_nil] at inner
  rw [inner,bs,zC (by omega) (by omega),bs,cs]) (by
  unfold zQI
  simp only
  rw [yY,zF,List.take_length])
 rw [show ((0:Nat):Int) = 0 from rfl,List.take_zero] at this
 simp only [nw,enW,List.map_nil] at this
 rw [this,bs]
theorem zP0 {v o:Int} (h:zS0 1 (IntKind.wrap .u64 o) = some (0,o)):zS0 (IntKind.wrap .u64 (([v]:List Int).length:Int)) (IntKind.wrap .u64 o) = some (0,o):=by
 rw [show IntKind.wrap .u64 (([v]:List Int).length:Int) = 1 from by simp;decide]
 exact h
theorem zBF {v o:Int} (ho:Prime o):f_i [v] o = some (List.replicate o.toNat v):=by
 unfold f_i
 rcases ho with rfl | rfl | rfl | rfl
 ·have h:=zP (body:=qZ) (r:=[v,v]) (fun i => match i with | 0 => ([v,0],1) | _ => ([v,v],2)) 1 (fun i hi => by
   match i,hi with
   | 0,_ => simp [qZ,zT,xS,rng,inR]) (by simp [qZ])
  rw [zP0 (by decide +kernel),bs]
  have hl:yW (IntKind.wrap .i64 2) = some 2:=by decide +kernel
  simp only [hl,bs]
  rw [show decide ((2:Int) < 0) = false from rfl,zF,show decide ((0:Int) > 0) = false from rfl,zF,show decide ((2:Int) > 9223372036854775807) = false from by decide,zF]
  have e2:xS (List.replicate 2 (0:Int)) 0 (([v]:List Int).take ((List.replicate 2 (0:Int)).length - 0)) = [v,0]:=by simp [xS,List.replicate]
  have e3:((min ([v]:List Int).length ((List.replicate 2 (0:Int)).length - 0):Nat):Int) = 1:=by simp
  rw [e2,e3]
  have h':zG qZ ([v,0],1) = _:=h
  rw [h',bs]
  rfl
 ·have h:=zP (body:=qZ) (r:=[v,v,v]) (fun i => match i with | 0 => ([v,0,0],1) | 1 => ([v,v,0],2) | _ => ([v,v,v],3)) 2 (fun i hi => by
   match i,hi with
   | 0,_ => simp [qZ,zT,xS,rng,inR]
   | 1,_ => simp [qZ,zT,xS,rng,inR]) (by simp [qZ])
  rw [zP0 (by decide +kernel),bs]
  have hl:yW (IntKind.wrap .i64 3) = some 3:=by decide +kernel
  simp only [hl,bs]
  rw [show decide ((3:Int) < 0) = false from rfl,zF,show decide ((0:Int) > 0) = false from rfl,zF,show decide ((3:Int) > 9223372036854775807) = false from by decide,zF]
  have e2:xS (List.replicate 3 (0:Int)) 0 (([v]:List Int).take ((List.replicate 3 (0:Int)).length - 0)) = [v,0,0]:=by simp [xS,List.replicate]
  have e3:((min ([v]:List Int).length ((List.replicate 3 (0:Int)).length - 0):Nat):Int) = 1:=by simp
  rw [e2,e3]
  have h':zG qZ ([v,0,0],1) = _:=h
  rw [h',bs]
  rfl
 ·have h:=zP (body:=qZ) (r:=[v,v,v,v,v]) (fun i => match i with | 0 => ([v,0,0,0,0],1) | 1 => ([v,v,0,0,0],2) | 2 => ([v,v,v,v,0],4) | _ => ([v,v,v,v,v],5)) 3 (fun i hi => by
   match i,hi with
   | 0,_ => simp [qZ,zT,xS,rng,inR]
   | 1,_ => simp [qZ,zT,xS,rng,inR]
   | 2,_ => simp [qZ,zT,xS,rng,inR]) (by simp [qZ])
  rw [zP0 (by decide +kernel),bs]
  have hl:yW (IntKind.wrap .i64 5) = some 5:=by decide +kernel
  simp only [hl,bs]
  rw [show decide ((5:Int) < 0) = false from rfl,zF,show decide ((0:Int) > 0) = false from rfl,zF,show decide ((5:Int) > 9223372036854775807) = false from by decide,zF]
  have e2:xS (List.replicate 5 (0:Int)) 0 (([v]:List Int).take ((List.replicate 5 (0:Int)).length - 0)) = [v,0,0,0,0]:=by simp [xS,List.replicate]
  have e3:((min ([v]:List Int).length ((List.replicate 5 (0:Int)).length - 0):Nat):Int) = 1:=by simp
  rw [e2,e3]
  have h':zG qZ ([v,0,0,0,0],1) = _:=h
  rw [h',bs]
  rfl
 ·have h:=zP (body:=qZ) (r:=[v,v,v,v,v,v,v]) (fun i => match i with | 0 => ([v,0,0,0,0,0,0],1) | 1 => ([v,v,0,0,0,0,0],2) | 2 => ([v,v,v,v,0,0,0],4) | _ => ([v,v,v,v,v,v,v],7)) 3 (fun i hi => by
   match i,hi with
   | 0,_ => simp [qZ,zT,xS,rng,inR]
   | 1,_ => simp [qZ,zT,xS,rng,inR]
   | 2,_ => simp [qZ,zT,xS,rng,inR]) (by simp [qZ])
  rw [zP0 (by decide +kernel),bs]
  have hl:yW (IntKind.wrap .i64 7) = some 7:=by decide +kernel
  simp only [hl,bs]
  rw [show decide ((7:Int) < 0) = false from rfl,zF,show decide ((0:Int) > 0) = false from rfl,zF,show decide ((7:Int) > 9223372036854775807) = false from by decide,zF]
  have e2:xS (List.replicate 7 (0:Int)) 0 (([v]:List Int).take ((List.replicate 7 (0:Int)).length - 0)) = [v,0,0,0,0,0,0]:=by simp [xS,List.replicate]
  have e3:((min ([v]:List Int).length ((List.replicate 7 (0:Int)).length - 0):Nat):Int) = 1:=by simp
  rw [e2,e3]
  have h':zG qZ ([v,0,0,0,0,0,0],1) = _:=h
  rw [h',bs]
  rfl
end Go.Pl

namespace Go.Pl
open Go Go.Ab Go.Wk Go.Pc
theorem IsB.b {o:Option Bool} {P:Prop} (h:IsB o P):IsB (o.bind fun r => some r) P:=by
 rcases h with ⟨h1,h2⟩ | ⟨h1,h2⟩
 ·exact .inl ⟨by rw [h1,bs],h2⟩
 ·exact .inr ⟨by rw [h1,bs],h2⟩
theorem zE1 {p:Int} {D:Nat} {r:List Int} (hp:Prime p) (hD:D ≤ 8):IsB (zQG r p (D:Int)) (Row p D r):=by
 have h7:=hp.pos
 unfold zQG
 by_cases h:r.length = D
 ·rw [jJ (by omega),zF]
  refine (tL r.length (fun i => 0 ≤ at0 r i ∧ at0 r i ≤ p - 1) rfl (fun i hi _ => ?_) ?_).iff ⟨fun g => ⟨h,by rw [← h];exact g⟩,fun g => by rw [h];exact g.2⟩
  ·refine vO (qT _ _ _) (by omega) ?_
   unfold zMT
   rw [yO hi,zH,yD hi,bs,zC (by omega) (by omega),bs]
  ·unfold zMT
   rw [yY,zF]
 ·rw [sS (by omega),zH]
  exact .inr ⟨rfl,fun g => h g.1⟩
theorem zE2 {p:Int} {D:Nat} {r:List Int} (hp:Prime p) (hD:D ≤ 8):IsB (zQp p (D:Int) r) (Row p D r):=by
 have h7:=hp.pos
 unfold zQp
 by_cases h:r.length = D
 ·rw [jJ (by omega),zF]
  refine (tL r.length (fun i => 0 ≤ at0 r i ∧ at0 r i ≤ p - 1) rfl (fun i hi _ => ?_) ?_).iff ⟨fun g => ⟨h,by rw [← h];exact g⟩,fun g => by rw [h];exact g.2⟩
  ·refine vO (zB6 _ _ _) (by omega) ?_
   unfold zMQ
   rw [yO hi,zH,yD hi,bs,zC (by omega) (by omega),bs]
  ·unfold zMQ
   rw [yY,zF]
 ·rw [sS (by omega),zH]
  exact .inr ⟨rfl,fun g => h g.1⟩
theorem zNq {p:Int} {D:Nat} {B:Mx} (hp:Prime p) (hD:D ≤ 8):IsB (zSt p (D:Int) B) (Mat p D B):=by
 unfold zSt
 by_cases h:B.length = D
 ·rw [jJ (by omega),zF]
  refine (tL B.length (fun i => Row p D (B.getD i [])) rfl (fun i hi _ => ?_) ?_).iff ⟨fun g => ⟨h,by rw [← h];exact fun i hi => by rw [h];exact g i hi⟩,fun g => by rw [h];exact g.2⟩
  ·refine vO (zE2 hp hD) (by omega) ?_
   unfold zMR
   rw [yO hi,zH,yC [] hi,bs]
  ·unfold zMR
   rw [yY,zF]
 ·rw [sS (by omega),zH]
  exact .inr ⟨rfl,fun g => h g.1⟩
theorem zG7 {p:Int} {D:Nat} {B:Mx} (hp:Prime p) (hD:D ≤ 8) (hB:B.length = D):IsB (zSz (zS.mk p (D:Int) B)) (Mat p D B):=by
 unfold zSz
 simp only
 rcases zAO p with ⟨h1,_⟩ | ⟨_,h2⟩
 ·rw [h1,bs,Bool.not_true,zF]
  rcases qT (D:Int) 0 8 with ⟨h3,_⟩ | ⟨_,h4⟩
  ·rw [h3,bs,Bool.not_true,zF,decide_eq_false (by omega),zF]
   refine (tL (body:=zKd (zS.mk p (D:Int) B)) D (fun i => Row p D (B.getD i [])) rfl (fun i hi _ => ?_) ?_).iff ⟨fun g => ⟨hB,g⟩,fun g => g.2⟩
   ·refine vO (zE1 hp hD) (by omega) ?_
    unfold zKd
    simp only
    rw [hB,yO hi,zH,yC [] (by omega),bs]
   ·unfold zKd
    simp only
    rw [hB,yY,zF]
  ·exact absurd (by omega) h4
 ·exact absurd hp h2
theorem zFY {A B:Mx} (hA:A.length ≤ 1000) (h:∀ r ∈ A,r.length ≤ 1000):zSu A B = some (A == B) :=
 zHi (t:=f_V) (body:=zQv A B) rfl (fun _ => rfl) (by omega) fun u hu v _ => zNo (by have:=h u hu;omega)
theorem zG8 {A B:Mx} (hA:A.length ≤ 1000) (h:∀ r ∈ A,r.length ≤ 1000):zS2 A B = some (A == B):=by
 unfold zS2
 rw [zHi (f:=zUP A B) (t:=f_P) (body:=zQP A B) rfl (fun _ => rfl) (by omega) fun u hu v _ => zCG (by have:=h u hu;omega),bs]
theorem Mat.small {p:Int} {D:Nat} {A:Mx} (h:Mat p D A) (hD:D ≤ 8):A.length ≤ 1000 ∧ ∀ r ∈ A,r.length ≤ 1000:=by
 refine ⟨by have:=h.1;omega,fun r hr => ?_⟩
 obtain ⟨i,hi,rfl⟩:=List.mem_iff_getElem.1 hr
 have:=h.2 i (by rw [← h.1];exact hi)
 rw [List.getD_eq_getElem?_getD,List.getElem?_eq_getElem hi] at this
 have:=this.1
 simp only [Option.getD_some] at this
 omega
def zG9 (x:SPr) (m:zD) (D:Nat):Prop :=
 ∀ i,i < x.zA.length → wM m.Prime D m.zI (List.replicate (at0 x.zA i).toNat i) (idM D) = wM m.Prime D m.zI (nw 0 (x.zV.getD i [])) (idM D) ∧
  ∀ j,i + 1 ≤ j → j < x.zA.length → PM m.Prime D (m.zI.getD j []) (m.zI.getD i []) = PM m.Prime D (m.zI.getD i []) (wM m.Prime D m.zI (nw 0 ((x.zB.getD i []).getD (j - (i + 1)) [])) (idM D))
theorem tX {x:SPr} {v:List Int} {i:Nat} (ho:Os x.zA) (h:Exp x.zA v i):v.length = x.zA.length ∧ ∀ j,j < x.zA.length → 0 ≤ at0 v j ∧ at0 v j ≤ 6:=by
 have h1:=h.1.1
 refine ⟨h1,fun j hj => ?_⟩
 have:=h.1.2 j (by omega)
 have:=(ho.2 j hj).pos
 omega
section
variable {x:SPr} {m:zD} {D:Nat} (h:Pres x) (hm:MOk x.zA.length m D)
 include h hm
theorem zNr {i:Nat} (hi:i < x.zA.length):(x.zV.getD i []).length = x.zA.length ∧ ∀ j,j < x.zA.length → 0 ≤ at0 (x.zV.getD i []) j ∧ at0 (x.zV.getD i []) j ≤ 6:=have _:=hm;tX h.os (h.tl i hi).1
theorem zKW {i j:Nat} (hi:i < x.zA.length) (hj:j < (x.zB.getD i []).length):((x.zB.getD i []).getD j []).length = x.zA.length ∧ ∀ q,q < x.zA.length → 0 ≤ at0 ((x.zB.getD i []).getD j []) q ∧ at0 ((x.zB.getD i []).getD j []) q ≤ 6:=have _:=hm;tX h.os ((h.tl i hi).2.2 j hj)
theorem zNs:IsB ((zG (zQz x m) 0).bind fun r => match r with | .inl _ => some true | .inr r => some r) (zG9 x m D):=by
 have h6:=h.os.1
 have h7:=hm.p.pos
 have h3:=hm.d3
 have hlen:=hm.len
 refine tL x.zA.length (fun i => wM m.Prime D m.zI (List.replicate (at0 x.zA i).toNat i) (idM D) = wM m.Prime D m.zI (nw 0 (x.zV.getD i [])) (idM D) ∧
  ∀ j,i + 1 ≤ j → j < x.zA.length → PM m.Prime D (m.zI.getD j []) (m.zI.getD i []) = PM m.Prime D (m.zI.getD i []) (wM m.Prime D m.zI (nw 0 ((x.zB.getD i []).getD (j - (i + 1)) [])) (idM D))) rfl (fun i hi _ => ?_) ?_
 ·have hpr:=(h.os.2 i hi).pos
  have hpl:=h.pl
  have hcl:=h.cl
  obtain ⟨p1,p2⟩:=zNr h hm hi
  have t2:=(h.tl i hi).2.1
  have hI:=kW (p:=m.Prime) (D:=D) h7.1
  unfold zQz
  rw [yO hi,zH,hm.d,zFV hm.p (by omega),bs]
  rw [wW (S:=Mat m.Prime D) (body:=zQx x m (i:Int)) (fun B => B) (fun B => PM m.Prime D B (m.zI.getD i [])) (at0 x.zA i) (by omega) (fun B hB => zBE (by omega) hB.1) (fun B q hB hq => by
   unfold zQx
   simp only
   rw [yD hi,bs,decide_eq_true hq,zH,yC [] (by omega),bs,hm.d,qH hm.p (by omega) hB (hm.mat i hi),bs,zC (by omega) (by omega),bs,cs]) (fun B hB => by
   unfold zQx
   simp only
   rw [yD hi,bs,decide_eq_false (by omega),zF]) hI,bs,yC [] (by omega),bs,zJ6 hm (by omega) p1 p2,bs,← zFX]
  have hs:=(zEg (p:=m.Prime) (D:=D) (A:=m.zI) (by omega) (List.replicate (at0 x.zA i).toNat i) hI).small (by omega)
  rw [zFY hs.1 hs.2,bs]
  by_cases hq:wM m.Prime D m.zI (List.replicate (at0 x.zA i).toNat i) (idM D) = wM m.Prime D m.zI (nw 0 (x.zV.getD i [])) (idM D)
  ·rw [show (wM m.Prime D m.zI (List.replicate (at0 x.zA i).toNat i) (idM D) == wM m.Prime D m.zI (nw 0 (x.zV.getD i [])) (idM D)) = true from by rw [beq_iff_eq];exact hq,Bool.not_true,zF,zC (by omega) (by omega),bs,cs]
   rcases chk (body:=zQy x m (i:Int)) x.zA.length (i + 1) (by omega) (fun j => PM m.Prime D (m.zI.getD j []) (m.zI.getD i []) = PM m.Prime D (m.zI.getD i []) (wM m.Prime D m.zI (nw 0 ((x.zB.getD i []).getD (j - (i + 1)) [])) (idM D))) (fun _ => false) (fun j h1 h2 _ => by
     obtain ⟨c1,c2⟩:=zKW h hm (j:=j - (i + 1)) hi (by omega)
     have hjm:=hm.mat j h2
     have him:=hm.mat i hi
     have hw:=zEg (p:=m.Prime) (D:=D) (A:=m.zI) (by omega) (nw 0 ((x.zB.getD i []).getD (j - (i + 1)) [])) hI
     have hs:=(zBE (p:=m.Prime) (B:=m.zI.getD i []) (by omega) hjm.1).small (by omega)
     refine vO (o:=some (PM m.Prime D (m.zI.getD j []) (m.zI.getD i []) == PM m.Prime D (m.zI.getD i []) (wM m.Prime D m.zI (nw 0 ((x.zB.getD i []).getD (j - (i + 1)) [])) (idM D)))) (IsB.of_bool (by rw [beq_iff_eq])) (by omega) ?_
     unfold zQy
     rw [yO h2,zH,yC (i:=j) [] (by omega),bs,yC (i:=i) [] (by omega),bs,hm.d,qH hm.p (by omega) hjm him,bs,bs,yC (i:=i) [] (by omega),bs,zC (by omega) (by omega),bs,zC (by omega) (by omega),bs,show (j:Int) - (i:Int) - 1 = ((j - (i + 1):Nat):Int) from by omega,yC [] (by omega),bs,zJ6 hm (by omega) c1 c2,bs,qH hm.p (by omega) him hw,bs,zFY hs.1 hs.2]) (by
     unfold zQy
     rw [yY,zF]) with ⟨g1,g2⟩ | ⟨j,j1,j2,g1,g2⟩
   ·left
    rw [g1,bs,bs]
    exact ⟨rfl,hq,g2⟩
   ·right
    rw [g1,bs]
    exact ⟨rfl,fun g => g2 (g.2 j j1 j2)⟩
  ·rw [show (wM m.Prime D m.zI (List.replicate (at0 x.zA i).toNat i) (idM D) == wM m.Prime D m.zI (nw 0 (x.zV.getD i [])) (idM D)) = false from by rw [beq_eq_false_iff_ne];exact hq,Bool.not_false,zH]
   exact .inr ⟨rfl,fun g => hq g.1⟩
 ·unfold zQz
  rw [yY,zF]
end
def zTz (x:SPr) (m:zD):Prop:=zAQ x ∧ ∃ D,MOk x.zA.length m D ∧ zG9 x m D
theorem zGA {x:SPr} {m:zD} (hl:x.zA.length ≤ 1048576):IsB (zSv x m) (zTz x m):=by
 unfold zSv
 rcases zKT hl with ⟨h1,h2⟩ | ⟨h1,h2⟩
 ·have h6:=h2.1.os.1
  rw [h1,bs,zH]
  unfold f_o
  rcases zFK m.Prime with ⟨p1,p2⟩ | ⟨p1,p2⟩
  ·rw [p1,bs,Bool.not_true,zF]
   rcases zB6 m.Dim 1 3 with ⟨d1,d2⟩ | ⟨d1,d2⟩
   ·rw [d1,bs,Bool.not_true,zF]
    obtain ⟨D,hD⟩:∃ D:Nat,m.Dim = (D:Int):=⟨m.Dim.toNat,by omega⟩
    by_cases hlen:m.zI.length = x.zA.length
    ·rw [jJ (by omega),zF]
     rcases chk (body:=zQw x m) x.zA.length 0 (Nat.zero_le _) (fun i => Mat m.Prime D (m.zI.getD i [])) (fun _ => false) (fun i _ hi _ => by
       refine vO (zNq p2 (D:=D) (by omega)) (by omega) ?_
       unfold zQw
       rw [yO hi,zH,yC [] (by omega),bs,hD]) (by
       unfold zQw
       rw [yY,zF]) with ⟨g1,g2⟩ | ⟨i,_,hi,g1,g2⟩
     ·rw [show ((0:Nat):Int) = 0 from rfl] at g1
      have hm:MOk x.zA.length m D:=⟨p2,hD,by omega,by omega,hlen,fun i hi => g2 i (Nat.zero_le _) hi⟩
      rw [g1,bs]
      refine (zNs h2.1 hm).b.iff ⟨fun k2 => ⟨h2,D,hm,k2⟩,fun ⟨_,D',hm',hr⟩ => ?_⟩
      have:D' = D:=by have:=hm'.d;omega
      rw [← this];exact hr
     ·rw [show ((0:Nat):Int) = 0 from rfl] at g1
      rw [g1,bs]
      refine .inr ⟨rfl,fun ⟨_,D',hm',_⟩ => g2 ?_⟩
      have:D' = D:=by have:=hm'.d;omega
      rw [← this];exact hm'.mat i hi
    ·rw [sS (by omega),zH]
     exact .inr ⟨rfl,fun ⟨_,D',hm',_⟩ => hlen hm'.len⟩
   ·rw [d1,bs,Bool.not_false,zH]
    exact .inr ⟨rfl,fun ⟨_,D',hm',_⟩ => d2 (by have:=hm'.d;have:=hm'.d1;have:=hm'.d3;omega)⟩
  ·rw [p1,bs,Bool.not_false,zH]
   exact .inr ⟨rfl,fun ⟨_,D',hm',_⟩ => p2 hm'.p⟩
 ·rw [h1,bs,zF]
  exact .inr ⟨rfl,fun g => h2 g.1⟩
end Go.Pl

namespace Go.Pl
open Go Go.Ab Go.Wk Go.Pc
abbrev Rl:=List Nat × List Nat
def r1 (x:SPr) (i:Nat):Rl:=(List.replicate (at0 x.zA i).toNat i,nw 0 (x.zV.getD i []))
def r2 (x:SPr) (i j:Nat):Rl:=([i + j + 1,i],i :: nw 0 ((x.zB.getD i []).getD j []))
def R2 (x:SPr) (i:Nat):List Rl:=(List.range (x.zB.getD i []).length).map (r2 x i)
def wB (x:SPr):List Rl:=(List.range x.zA.length).map (r1 x) ++ (List.range x.zA.length).flatMap (R2 x)
abbrev enR (q:Rl):List Int × List Int:=(enW q.1,enW q.2)
section
variable {x:SPr} (h:Pres x)
 include h
theorem zUv {i:Nat} (hi:i < x.zA.length):(R2 x i).length ≤ 9:=by
 have:=(h.tl i hi).2.1
 have:=h.os.1
 simp only [R2,List.length_map,List.length_range];omega
theorem zFZ:∀ i,i ≤ x.zA.length → ((List.range i).flatMap (R2 x)).length ≤ 9 * i
 | 0,_ => by simp
 | i + 1,hi => by
  have:=zFZ i (by omega)
  have:=zUv h (i:=i) (by omega)
  rw [List.range_succ,List.flatMap_append,List.length_append]
  simp only [List.flatMap_cons,List.flatMap_nil,List.append_nil]
  omega
theorem zRU {k i:Nat}:enW (List.replicate k i) = List.replicate k ((i:Int) + 1):=by have _:=h;simp [enW]
theorem kF:f_u x = some ((wB x).map enR):=by
 have h6:=h.os.1
 have hpl:=h.pl
 have hcl:=h.cl
 unfold f_u
 have l1:=zP (body:=zQJ x) (r:=((List.range x.zA.length).map (r1 x)).map enR) (fun i => (((List.range i).map (r1 x)).map enR,(i:Int))) x.zA.length (fun i hi => by
  obtain ⟨p1,p2⟩:=tX h.os (h.tl i hi).1
  unfold zQJ
  simp only
  rw [yO hi,zH,yD hi,bs,zC (by omega) (by omega),bs,zBF (h.os.2 i hi),bs,yC [] (by omega),bs,zBg (by omega) (by rw [p1];exact p2),bs,yK (by simp only [List.length_map,List.length_range,List.length_cons,List.length_nil];omega),bs,bs,cs,List.range_succ]
  simp only [List.map_append,List.map_cons,List.map_nil,r1,enR,zRU h,cs]) (by
  unfold zQJ
  simp only
  rw [yY,zF])
 rw [show ((0:Nat):Int) = 0 from rfl] at l1
 simp only [List.range_zero,List.map_nil] at l1
 rw [l1,bs]
 have l3:=zP (body:=zQL x) (r:=(wB x).map enR) (fun i => (((List.range x.zA.length).map (r1 x) ++ (List.range i).flatMap (R2 x)).map enR,(i:Int))) x.zA.length (fun i hi => by
  have t2:=(h.tl i hi).2.1
  have hfm:=zFZ h i (by omega)
  unfold zQL
  simp only
  rw [yO hi,zH,yC [] (by omega),bs]
  have l2:=zP (body:=zQK (((List.range x.zA.length).map (r1 x) ++ (List.range i).flatMap (R2 x)).map enR,(i:Int)) (x.zB.getD i [])) (r:=((List.range x.zA.length).map (r1 x) ++ (List.range (i + 1)).flatMap (R2 x)).map enR)
   (fun j => (((List.range x.zA.length).map (r1 x) ++ (List.range i).flatMap (R2 x) ++ (List.range j).map (r2 x i)).map enR,(j:Int))) (x.zB.getD i []).length (fun j hj => by
    obtain ⟨p1,p2⟩:=tX h.os ((h.tl i hi).2.2 j hj)
    have hnl:=zFW 0 ((x.zB.getD i []).getD j []) (by rw [p1];exact fun i hi => (p2 i hi).2)
    unfold zQK
    simp only
    rw [yO hj,zH,yC [] hj,bs,zC (by omega) (by omega),bs,zC (by omega) (by omega),bs,zC (by omega) (by omega),bs,zBg (by omega) (by rw [p1];exact p2),bs,yK (by simp only [List.length_map,List.length_cons,List.length_nil];omega),bs,yK (by simp only [List.length_map,List.length_append,List.length_range,List.length_cons,List.length_nil];omega),bs,zC (by omega) (by omega),bs,cs,List.range_succ]
    have e1:(i:Int) + (j:Int) + 2 = ((i + j + 1:Nat):Int) + 1:=by omega
    simp only [List.map_append,List.map_cons,List.map_nil,r2,enR,enW,List.append_assoc,List.singleton_append,e1]
    rfl) (by
    unfold zQK
    simp only
    rw [yY,zF,List.range_succ,List.flatMap_append]
    simp only [List.flatMap_cons,List.flatMap_nil,List.append_nil,List.append_assoc,R2])
  rw [show ((0:Nat):Int) = 0 from rfl] at l2
  simp only [List.range_zero,List.map_nil,List.append_nil] at l2
  rw [l2,bs,zC (by omega) (by omega),bs,cs]) (by
  unfold zQL
  simp only
  rw [yY,zF]
  rfl)
 rw [show ((0:Nat):Int) = 0 from rfl] at l3
 simp only [List.range_zero,List.flatMap_nil,List.append_nil] at l3
 rw [l3,bs]
theorem zHr {q:Rl} (hq:q ∈ wB x):((∀ w ∈ q.1,w < x.zA.length) ∧ q.1.length ≤ 1000) ∧ (∀ w ∈ q.2,w < x.zA.length) ∧ q.2.length ≤ 1000:=by
 have h6:=h.os.1
 simp only [wB,List.mem_append,List.mem_map,List.mem_range,List.mem_flatMap,R2] at hq
 rcases hq with ⟨i,hi,rfl⟩ | ⟨i,hi,j,hj,rfl⟩
 ·obtain ⟨p1,p2⟩:=tX h.os (h.tl i hi).1
  have hnl:=zFW 0 (x.zV.getD i []) (by rw [p1];exact fun i hi => (p2 i hi).2)
  have hpr:=(h.os.2 i hi).pos
  refine ⟨⟨fun w hw => ?_,?_⟩,fun w hw => zPy 0 _ (by omega) w hw,by simp only [r1];omega⟩
  ·have:=List.eq_of_mem_replicate hw;omega
  ·simp only [r1,List.length_replicate];omega
 ·obtain ⟨p1,p2⟩:=tX h.os ((h.tl i hi).2.2 j hj)
  have t2:=(h.tl i hi).2.1
  have hnl:=zFW 0 ((x.zB.getD i []).getD j []) (by rw [p1];exact fun i hi => (p2 i hi).2)
  refine ⟨⟨fun w hw => ?_,by simp [r2]⟩,fun w hw => ?_,by simp only [r2,List.length_cons];omega⟩
  ·simp only [r2,List.mem_cons,List.not_mem_nil,or_false] at hw;omega
  ·simp only [r2,List.mem_cons] at hw
   rcases hw with rfl | hw
   ·exact hi
   ·exact zPy 0 _ (by omega) w hw
variable {m:zD} {D:Nat} (hm:MOk x.zA.length m D)
 include hm
theorem zJ7:(∀ q ∈ wB x,wM m.Prime D m.zI q.1 (idM D) = wM m.Prime D m.zI q.2 (idM D)) ↔ zG9 x m D:=by
 have h7:=hm.p.pos
 have hI:=kW (p:=m.Prime) (D:=D) h7.1
 have key:∀ i j,i < x.zA.length → j < x.zA.length → ∀ ws,(wM m.Prime D m.zI [j,i] (idM D) = wM m.Prime D m.zI (i :: ws) (idM D) ↔ PM m.Prime D (m.zI.getD j []) (m.zI.getD i []) = PM m.Prime D (m.zI.getD i []) (wM m.Prime D m.zI ws (idM D))):=fun i j hi hj ws => by
  have hi':=hm.mat i hi
  have hj':=hm.mat j hj
  have e1:wM m.Prime D m.zI [j,i] (idM D) = PM m.Prime D (m.zI.getD j []) (m.zI.getD i []):=by
   show PM _ _ (PM _ _ (idM D) _) _ = _
   rw [zIf hj']
  have e2:wM m.Prime D m.zI (i :: ws) (idM D) = PM m.Prime D (m.zI.getD i []) (wM m.Prime D m.zI ws (idM D)):=by
   show wM _ _ _ ws (PM _ _ (idM D) _) = _
   rw [zIf hi',← zPz (by omega) hi'.1 ws hI,zJ1 hi']
  rw [e1,e2]
 constructor
 ·intro g i hi
  have t2:=(h.tl i hi).2.1
  refine ⟨g (r1 x i) (by simp only [wB,List.mem_append,List.mem_map,List.mem_range];exact .inl ⟨i,hi,rfl⟩),fun j h1 h2 => ?_⟩
  have:=g (r2 x i (j - (i + 1))) (by
   simp only [wB,List.mem_append,List.mem_flatMap,List.mem_range,R2,List.mem_map]
   exact .inr ⟨i,hi,j - (i + 1),by omega,rfl⟩)
  simp only [r2] at this
  rw [show i + (j - (i + 1)) + 1 = j from by omega] at this
  exact (key i j hi h2 _).1 this
 ·intro g q hq
  simp only [wB,List.mem_append,List.mem_map,List.mem_range,List.mem_flatMap,R2] at hq
  rcases hq with ⟨i,hi,rfl⟩ | ⟨i,hi,j,hj,rfl⟩
  ·exact (g i hi).1
  ·have t2:=(h.tl i hi).2.1
   have:=(g i hi).2 (i + j + 1) (by omega) (by omega)
   rw [show i + j + 1 - (i + 1) = j from by omega] at this
   exact (key i (i + j + 1) hi (by omega) _).2 this
theorem zNt:IsB ((zG (zQR m ((wB x).map enR)) 0).bind fun r => match r with | .inl _ => some true | .inr r => some r) (zG9 x m D):=by
 have h6:=h.os.1
 have h7:=hm.p.pos
 have h3:=hm.d3
 have hI:=kW (p:=m.Prime) (D:=D) h7.1
 have hfm:=zFZ h x.zA.length (Nat.le_refl _)
 have hrl:(wB x).length ≤ 1000:=by simp only [wB,List.length_append,List.length_map,List.length_range];omega
 refine (tL (wB x).length (fun k => wM m.Prime D m.zI ((wB x).getD k ([],[])).1 (idM D) = wM m.Prime D m.zI ((wB x).getD k ([],[])).2 (idM D)) rfl (fun k hk _ => ?_) ?_).iff ⟨fun g => (zJ7 h hm).1 fun q hq => ?_,fun g k hk => (zJ7 h hm).2 g _ ?_⟩
 ·have hmem:(wB x).getD k ([],[]) ∈ wB x:=by
   rw [List.getD_eq_getElem?_getD,List.getElem?_eq_getElem hk];exact List.getElem_mem hk
  obtain ⟨⟨g1,g2⟩,g3,g4⟩:=zHr h hmem
  have hs:=(zEg (p:=m.Prime) (D:=D) (A:=m.zI) (by omega) ((wB x).getD k ([],[])).1 hI).small (by omega)
  refine vO (o:=some (wM m.Prime D m.zI ((wB x).getD k ([],[])).1 (idM D) == wM m.Prime D m.zI ((wB x).getD k ([],[])).2 (idM D))) (IsB.of_bool (by rw [beq_iff_eq])) (by omega) ?_
  unfold zQR
  rw [List.length_map,yO hk,zH,wY,List.getElem?_map,List.getElem?_eq_getElem hk]
  rw [List.getD_eq_getElem?_getD,List.getElem?_eq_getElem hk] at g1 g2 g3 g4 hs ⊢
  simp only [Option.map_some,Option.getD_some] at g1 g2 g3 g4 hs ⊢
  rw [bs,zCw hm h6 g1 g2,bs,zCw hm h6 g3 g4,bs]
  simp only
  rw [zG8 hs.1 hs.2]
 ·unfold zQR
  rw [List.length_map,yY,zF]
 ·obtain ⟨k,hk,rfl⟩:=List.mem_iff_getElem.1 hq
  have:=g k hk
  rw [List.getD_eq_getElem?_getD,List.getElem?_eq_getElem hk] at this
  exact this
 ·rw [List.getD_eq_getElem?_getD,List.getElem?_eq_getElem hk];exact List.getElem_mem hk
end
theorem zGB {x:SPr} {m:zD} (hl:x.zA.length ≤ 1048576) (_hal:m.zI.length ≤ 1048576):IsB (f_B x m) (zTz x m):=by
 unfold f_B
 rcases zDo hl with ⟨h1,h2⟩ | ⟨h1,h2⟩
 ·have h6:=h2.1.os.1
  rw [h1,bs,Bool.not_true,zF]
  rcases zAO m.Prime with ⟨p1,p2⟩ | ⟨p1,p2⟩
  ·rw [p1,bs,Bool.not_true,zF]
   rcases qT m.Dim 1 3 with ⟨d1,d2⟩ | ⟨d1,d2⟩
   ·rw [d1,bs,Bool.not_true,zF]
    obtain ⟨D,hD⟩:∃ D:Nat,m.Dim = (D:Int):=⟨m.Dim.toNat,by omega⟩
    by_cases hlen:m.zI.length = x.zA.length
    ·rw [jJ (by omega),zF]
     rcases chk (body:=zQQ m) m.zI.length 0 (Nat.zero_le _) (fun i => Mat m.Prime D (m.zI.getD i [])) (fun _ => false) (fun i _ hi _ => by
       unfold zQQ
       rw [yO hi,zH,yC [] hi,bs,hD]
       by_cases hr:(m.zI.getD i []).length = D
       ·rw [jJ (by omega),zF]
        refine vO (zG7 p2 (D:=D) (by omega) hr) (by omega) ?_
        unfold zL6
        rw [yC [] hi,bs,bs,hD]
       ·rw [sS (by omega),zH]
        exact .inr ⟨rfl,fun g => hr g.1⟩) (by
       unfold zQQ
       rw [yY,zF]) with ⟨g1,g2⟩ | ⟨i,_,hi,g1,g2⟩
     ·rw [show ((0:Nat):Int) = 0 from rfl] at g1
      have hm:MOk x.zA.length m D:=⟨p2,hD,by omega,by omega,hlen,fun i hi => g2 i (Nat.zero_le _) (by omega)⟩
      rw [g1,bs,kF h2.1]
      simp only
      rw [bs]
      refine (zNt h2.1 hm).iff ⟨fun k2 => ⟨h2,D,hm,k2⟩,fun ⟨_,D',hm',hr⟩ => ?_⟩
      have:D' = D:=by have:=hm'.d;omega
      rw [← this];exact hr
     ·rw [show ((0:Nat):Int) = 0 from rfl] at g1
      rw [g1,bs]
      refine .inr ⟨rfl,fun ⟨_,D',hm',_⟩ => g2 ?_⟩
      have:D' = D:=by have:=hm'.d;omega
      rw [← this];exact hm'.mat i (by omega)
    ·rw [sS (by omega),zH]
     exact .inr ⟨rfl,fun ⟨_,D',hm',_⟩ => hlen hm'.len⟩
   ·rw [d1,bs,Bool.not_false,zH]
    exact .inr ⟨rfl,fun ⟨_,D',hm',_⟩ => d2 (by have:=hm'.d;have:=hm'.d1;have:=hm'.d3;omega)⟩
  ·rw [p1,bs,Bool.not_false,zH]
   exact .inr ⟨rfl,fun ⟨_,D',hm',_⟩ => p2 hm'.p⟩
 ·rw [h1,bs,Bool.not_false,zH]
  exact .inr ⟨rfl,fun g => h2 g.1⟩
end Go.Pl

namespace Go.Pl
open Go Go.Ab Go.Wk Go.Pc
theorem zEh {xs:List (List Int)} {i:Nat} (h:i < xs.length):(xs.take (i + 1)).flatten = (xs.take i).flatten ++ xs.getD i []:=by
 rw [List.take_succ_eq_append_getElem h,List.flatten_append,List.getD_eq_getElem?_getD,List.getElem?_eq_getElem h];simp
theorem zIi {xs:List (List Int)} (i:Nat):(xs.take i).flatten.length ≤ xs.flatten.length:=by
 have:xs.flatten = (xs.take i).flatten ++ (xs.drop i).flatten:=by rw [← List.flatten_append,List.take_append_drop]
 rw [this,List.length_append];omega
theorem zNu {k:Nat} (hk:k ≤ 1000000):zQS (k:Int) = some []:=by
 unfold zQS
 rw [decide_eq_false (by omega),zF,zC (by decide) (by decide),bs,zC (by omega) (by omega),bs]
 by_cases h:(k:Int) - (0 - 0) > 0
 ·rw [decide_eq_true h,zH]
  have e:vN ([]:List Int) ((k:Int) - (0 - 0)) 0 = some (List.replicate k 0):=by
   unfold vN
   rw [if_pos (by simp;omega)]
   simp
  rw [e,bs]
  rfl
 ·rw [decide_eq_false h,zF]
theorem kX {xs:List (List Int)} (hx:xs.length ≤ 1000) (hf:xs.flatten.length ≤ 1000000):f_r xs = some xs.flatten:=by
 unfold f_r
 have l1:=zP (body:=zQT xs) (r:=((xs.flatten.length:Nat):Int)) (fun i => ((((xs.take i).flatten.length:Nat):Int),(i:Int))) xs.length (fun i hi => by
  have h1:=zEh hi
  have h2:=zIi (xs:=xs) (i + 1)
  have h3:=congrArg List.length h1
  rw [List.length_append] at h3
  unfold zQT
  simp only
  rw [yO hi,zH,yC [] hi,bs,zC (by omega) (by omega),bs,decide_eq_false (by omega),zF,zC (by omega) (by omega),bs,cs,h3]
  congr 3) (by
  unfold zQT
  simp only
  rw [yY,zF,List.take_length])
 rw [show ((0:Nat):Int) = 0 from rfl] at l1
 simp only [List.take_zero,List.flatten_nil,List.length_nil] at l1
 rw [show ((0:Nat):Int) = 0 from rfl] at l1
 rw [l1,bs,zNu hf,bs]
 have l2:=zP (body:=zQU xs) (r:=xs.flatten) (fun i => ((xs.take i).flatten,(i:Int))) xs.length (fun i hi => by
  have h1:=zEh hi
  have h2:=zIi (xs:=xs) (i + 1)
  have h3:=congrArg List.length h1
  rw [List.length_append] at h3
  unfold zQU
  simp only
  rw [yO hi,zH,yC [] hi,bs,yK (by omega),bs,zC (by omega) (by omega),bs,cs,h1]) (by
  unfold zQU
  simp only
  rw [yY,zF,List.take_length])
 rw [show ((0:Nat):Int) = 0 from rfl] at l2
 simp only [List.take_zero,List.flatten_nil] at l2
 rw [l2,bs]
theorem zJ8 {r:List Int} {a b:Nat} (hr:r.length ≤ 1000) (ha:a ≤ 1000) (hb:b ≤ 1000):zQV r (a:Int) (b:Int) = some (List.replicate a 0 ++ (r ++ List.replicate b 0)):=by
 unfold zQV
 rw [yR (by omega),bs,yR (by omega),bs,kX (by simp) (by simp;omega),bs]
 simp
end Go.Pl

namespace Go.Pl
open Go Go.Ab Go.Wk Go.Pc
section
variable {p:Int}
def vE (p:Int) (D:Nat) (r:List Int) (k:Int) (s:List Int):List Int:=mkv D fun j => (at0 r j + k * at0 s j) % p
theorem zGa {D:Nat} {r s:List Int} {k:Int}:(vE p D r k s).length = D:=zZ _ _
def zGC (p:Int) (D i:Nat) (r:List Int) (k:Int) (s:List Int):List Int:=mkv D fun j => if j < i then (at0 r j + k * at0 s j) % p else at0 r j
theorem zHs {D:Nat} {r s:List Int} {k:Int} (hr:r.length = D):zGC p D 0 r k s = r:=by
 conv => rhs;rw [vD hr]
 exact zW fun j _ => by rw [if_neg (by omega)]
theorem zHt {D:Nat} {r s:List Int} {k:Int}:zGC p D D r k s = vE p D r k s:=zW fun j hj => by rw [if_pos hj]
theorem zJ9 {D i:Nat} {r s:List Int} {k a:Int} (ha:a = (at0 r i + k * at0 s i) % p):(zGC p D i r k s).set i a = zGC p D (i + 1) r k s:=by
 simp only [zGC]
 rw [qG]
 refine zW fun j _ => ?_
 by_cases h:j = i
 ·subst h;rw [if_pos rfl,if_pos (by omega),ha]
 ·rw [if_neg h]
  by_cases h2:j < i
  ·rw [if_pos h2,if_pos (by omega)]
  ·rw [if_neg h2,if_neg (by omega)]
theorem zMB {D i:Nat} {r s:List Int} {k:Int} (hi:i < D):at0 (zGC p D i r k s) i = at0 r i:=by
 rw [zGC,yE hi,if_neg (by omega)]
theorem zDq {D i:Nat} {r s:List Int} {k:Int}:(zGC p D i r k s).length = D:=zZ _ _
end
section
variable {p:Int} (hp:Prime p)
 include hp
theorem zE3 {a:Int} (_h0:-1000 ≤ a) (_h1:a ≤ 1000):zGG a p = some (a % p):=by
 have h7:=hp.pos
 have e1:=Int.tmod_lt_of_pos a (show 0 < p by omega)
 have e2:=Int.lt_tmod_of_pos a (show 0 < p by omega)
 have e3:(Int.tmod a p + p) % p = a % p:=by
  rw [Int.add_emod_right]
  have:=Int.tmod_add_mul_tdiv a p
  conv => rhs;rw [← this]
  rw [Int.add_mul_emod_self_left]
 unfold zGG uH
 rw [if_neg (by omega),bs,zC (by omega) (by omega),bs,if_neg (by omega),bs,Int.tmod_eq_emod_of_nonneg (by omega),e3]
theorem zJA {a:Int} (_h0:-1000 ≤ a) (_h1:a ≤ 1000):zRb a p = some (a % p):=by
 have h7:=hp.pos
 have e1:=Int.tmod_lt_of_pos a (show 0 < p by omega)
 have e2:=Int.lt_tmod_of_pos a (show 0 < p by omega)
 have e3:(Int.tmod a p + p) % p = a % p:=by
  rw [Int.add_emod_right]
  have:=Int.tmod_add_mul_tdiv a p
  conv => rhs;rw [← this]
  rw [Int.add_mul_emod_self_left]
 unfold zRb uH
 rw [if_neg (by omega),bs]
 by_cases h:Int.tmod a p < 0
 ·rw [decide_eq_true h,zH,zC (by omega) (by omega),bs,← e3,Int.emod_eq_of_lt (by omega) (by omega)]
 ·rw [decide_eq_false h,zF,← e3,Int.add_emod_right,Int.emod_eq_of_lt (by omega) (by omega)]
theorem kG {D:Nat} {r s:List Int} {k:Int}:Row p D (vE p D r k s):=by
 have h7:=hp.pos
 refine ⟨zZ _ _,fun i hi => ?_⟩
 have e:at0 (vE p D r k s) i = (at0 r i + k * at0 s i) % p:=yE hi
 have e1:=Int.emod_nonneg (at0 r i + k * at0 s i) (show p ≠ 0 by omega)
 have e2:=Int.emod_lt_of_pos (at0 r i + k * at0 s i) (show 0 < p by omega)
 rw [e];omega
theorem zAS {k b:Int} (hk:-7 ≤ k ∧ k ≤ 7) (hb:0 ≤ b ∧ b ≤ p - 1):-49 ≤ k * b ∧ k * b ≤ 49:=by
 have h7:=hp.pos
 rcases Int.le_total 0 k with h | h
 ·have h1:=Int.mul_nonneg h hb.1
  have h2:=Int.mul_le_mul hk.2 (show b ≤ 7 by omega) hb.1 (by omega)
  omega
 ·have h1:=Int.mul_nonneg (show 0 ≤ -k by omega) hb.1
  have h2:=Int.mul_le_mul (show -k ≤ 7 by omega) (show b ≤ 7 by omega) hb.1 (by omega)
  rw [Int.neg_mul] at h1 h2
  omega
theorem jS {D:Nat} {r s:List Int} {k:Int} (hr:Row p D r) (hs:Row p D s) (hk:-7 ≤ k ∧ k ≤ 7) (hD:D ≤ 1000000):f_w r s k p = some (vE p D r k s):=by
 have h7:=hp.pos
 have:=zP (body:=zKe r s k p) (r:=vE p D r k s) (fun i => (zGC p D i r k s,(i:Int))) D (fun i hi => by
  have a1:=hr.2 i hi
  have a2:=hs.2 i hi
  have a3:=zAS hp hk a2
  unfold zKe
  simp only
  rw [hr.1,yO hi,zH,yD (by rw [zDq];exact hi),bs,yD (by rw [hs.1];exact hi),bs,zC (by omega) (by omega),bs,zMB hi,zC (by omega) (by omega),bs,zE3 hp (by omega) (by omega),bs,bs,zC (by omega) (by omega),bs,cs,Int.toNat_natCast,zJ9 rfl]) (by
  unfold zKe
  simp only
  rw [hr.1,yY,zF,zHt])
 rw [show ((0:Nat):Int) = 0 from rfl,zHs hr.1] at this
 unfold f_w
 rw [this,bs]
theorem vY {D:Nat} {r s:List Int} {k:Int} (hr:Row p D r) (hs:Row p D s) (hk:-7 ≤ k ∧ k ≤ 7) (hD:D ≤ 1000000):f_s p r k s = some (vE p D r k s):=by
 have h7:=hp.pos
 have:=zP (body:=zRc p k s) (r:=vE p D r k s) (fun i => (zGC p D i r k s,(i:Int))) D (fun i hi => by
  have a1:=hr.2 i hi
  have a2:=hs.2 i hi
  have a3:=zAS hp hk a2
  unfold zRc
  simp only
  rw [zDq,yO hi,zH,hs.1,yO hi,zH,yD (by rw [zDq];exact hi),bs,yD (by rw [hs.1];exact hi),bs,zC (by omega) (by omega),bs,zMB hi,zC (by omega) (by omega),bs,zJA hp (by omega) (by omega),bs,bs,zC (by omega) (by omega),bs,cs,Int.toNat_natCast,zJ9 rfl]) (by
  unfold zRc
  simp only
  rw [zDq,yY,zF,zHt])
 rw [show ((0:Nat):Int) = 0 from rfl,zHs hr.1] at this
 unfold f_s
 rw [tD (by rw [hr.1];omega),bs,this,bs]
end
theorem zCI {p:Int} {D:Nat} {r s:List Int}:vE p D r (p - 1) s = vE p D r (-1) s:=zW fun j _ => by
 rw [show at0 r j + (p - 1) * at0 s j = at0 r j + -1 * at0 s j + p * at0 s j from by rw [Int.sub_mul];omega,Int.add_mul_emod_self_left]
theorem zNv {p:Int} {D:Nat} {r s:List Int} (hr:Row p D r) (hs:Row p D s):(∀ j,j < D → at0 (vE p D r (-1) s) j = 0) ↔ r = s:=by
 constructor
 ·intro h
  rw [vD hr.1,vD hs.1]
  refine zW fun j hj => ?_
  have h1:=h j hj
  rw [vE,yE hj] at h1
  have a1:=hr.2 j hj
  have a2:=hs.2 j hj
  obtain ⟨c,hc⟩:=Int.dvd_of_emod_eq_zero h1
  have:c = 0:=by
   rcases Int.lt_trichotomy c 0 with h | h | h
   ·have:=Int.mul_le_mul_of_nonneg_left (show c ≤ -1 by omega) (show 0 ≤ p by omega);omega
   ·exact h
   ·have:=Int.mul_le_mul_of_nonneg_left (show 1 ≤ c by omega) (show 0 ≤ p by omega);omega
  rw [this] at hc;omega
 ·rintro rfl j hj
  rw [vE,yE hj,show at0 r j + -1 * at0 r j = 0 from by omega];simp
end Go.Pl

namespace Go.Pl
open Go Go.Ab Go.Wk Go.Pc
def VOk (n:Nat) (p:Int) (D:Nat) (vals:Mx):Prop:=vals.length = n ∧ ∀ i,i < n → Row p D (vals.getD i [])
def stp (m:zD) (D:Nat) (vals:Mx) (v:List Int) (w:Nat):List Int:=vE m.Prime D (tF m.Prime D v (m.zI.getD w [])) 1 (vals.getD w [])
def ev (m:zD) (D:Nat) (vals:Mx) (v:List Int) (ws:List Nat):List Int:=ws.foldl (stp m D vals) v
theorem zHu {m:zD} {D:Nat} {vals:Mx} {v:List Int} {a b:List Nat}:ev m D vals v (a ++ b) = ev m D vals (ev m D vals v a) b:=by simp [ev,List.foldl_append]
theorem zKX {m:zD} {D:Nat} {vals:Mx} {w:Nat}:∀ (k:Nat) (v:List Int),ev m D vals v (List.replicate k w) = iter k (fun v => stp m D vals v w) v
 | 0,_ => rfl
 | k + 1,v => by
  rw [List.replicate_succ]
  show ev m D vals (stp m D vals v w) (List.replicate k w) = _
  rw [zKX k];rfl
abbrev z0 (D:Nat):List Int:=List.replicate D 0
theorem zGb {p:Int} {D:Nat} (hp:0 < p):Row p D (z0 D):=by
 refine ⟨by simp,fun i hi => ?_⟩
 have:at0 (z0 D) i = 0:=by simp [z0,at0,List.getD_eq_getElem?_getD,hi]
 rw [this];omega
theorem qV {p:Int} {D:Nat} {r:List Int} {B:Mx} (hp:0 < p):Row p D (tF p D r B):=by
 refine ⟨zZ _ _,fun i hi => ?_⟩
 have e1:=Int.emod_nonneg (S D (fun l => at0 r l * ent B l i)) (show p ≠ 0 by omega)
 have e2:=Int.emod_lt_of_pos (S D (fun l => at0 r l * ent B l i)) hp
 rw [tF,yE hi];omega
section
variable {n D:Nat} {m:zD} (hm:MOk n m D) (hn:n ≤ 9) {vals:Mx} (hv:VOk n m.Prime D vals)
 include hm hn hv
theorem zAT {v:List Int} {w:Nat}:Row m.Prime D (stp m D vals v w):=by
 have _:=hn
 have _:=hv
 exact kG hm.p
theorem zCJ {v:List Int} (h:Row m.Prime D v):∀ ws,Row m.Prime D (ev m D vals v ws):=by
 intro ws
 induction ws generalizing v with
 | nil => exact h
 | cons w ws ih => exact ih (zAT hm hn hv)
theorem zA8 {v:List Int} {w:Nat} (h:Row m.Prime D v) (hw:w < n):zKm m vals v (w:Int) = some (stp m D vals v w):=by
 have _:=hn
 have h7:=hm.p.pos
 have h3:=hm.d3
 unfold zKm
 rw [yC [] (by rw [hm.len];exact hw),bs,hm.d,zCH hm.p (by omega) h (hm.mat w hw),bs,yC [] (by rw [hv.1];exact hw),bs,vY hm.p (qV (by omega)) (hv.2 w hw) (by omega) (by omega),bs]
 rfl
theorem zE4 {v x:List Int} (h:Row m.Prime D v) (hl:x.length = n) (hx:∀ i,i < n → 0 ≤ at0 x i ∧ at0 x i ≤ 6):f_I m vals v x = some (ev m D vals v (nw 0 x)):=by
 have:=zP (body:=zRg m vals x) (r:=ev m D vals v (nw 0 x)) (fun i => (ev m D vals v (nw 0 (x.take i)),(i:Int))) n (fun i hi => by
  have hxi:=hx i hi
  unfold zRg
  simp only
  rw [hl,yO hi,zH]
  rw [wW (S:=Row m.Prime D) (body:=zRf m vals x (ev m D vals v (nw 0 (x.take i)),(i:Int))) (fun v => v) (fun v => stp m D vals v i) (at0 x i) hxi.1 (fun v _ => zAT hm hn hv) (fun u q hu hq => by
   unfold zRf
   simp only
   rw [yD (by omega),bs,decide_eq_true hq,zH,zA8 hm hn hv hu hi,bs,zC (by omega) (by omega),bs,cs]) (fun u hu => by
   unfold zRf
   simp only
   rw [yD (by omega),bs,decide_eq_false (by omega),zF]) (zCJ hm hn hv h _),bs,zC (by omega) (by omega),bs,cs]
  rw [zIh (by omega),zHu,zKX]) (by
  unfold zRg
  simp only
  rw [hl,yY,zF,List.take_of_length_le (by omega)])
 rw [show ((0:Nat):Int) = 0 from rfl,List.take_zero] at this
 simp only [nw,ev,List.foldl_nil] at this
 unfold f_I
 rw [this,bs];rfl
theorem zDr {ws:List Nat} (hw:∀ w ∈ ws,w < n) (hl:ws.length ≤ 1000):zRi m vals (enW ws) = some (ev m D vals (z0 D) ws):=by
 have h7:=hm.p.pos
 have h3:=hm.d3
 unfold zRi
 rw [hm.d,yR (by omega),bs]
 have hz:=zGb (p:=m.Prime) (D:=D) (by omega)
 have hel:(enW ws).length = ws.length:=by simp only [enW,List.length_map]
 have:=zP (body:=zKn m vals (enW ws)) (r:=ev m D vals (z0 D) ws) (fun i => (ev m D vals (z0 D) (ws.take i),(i:Int))) ws.length (fun i hi => by
  have hwi:=hw ws[i] (List.getElem_mem hi)
  have hr:=zCJ hm hn hv hz (ws.take i)
  unfold zKn
  simp only
  rw [hel,yO hi,zH,wY,List.getElem?_map,List.getElem?_eq_getElem hi]
  simp only [Option.map_some]
  rw [bs,zC (by omega) (by omega),bs,show ((ws[i]:Nat):Int) + 1 - 1 = ((ws[i]:Nat):Int) from by omega,zCv hm hn hwi,bs,zA7 hm.p (by omega) hr (hm.mat _ hwi) rfl,bs,bs,yC [] (by rw [hv.1];exact hwi),bs,jS hm.p (qV (by omega)) (hv.2 _ hwi) (by omega) (by omega),bs,zC (by omega) (by omega),bs,cs,List.take_succ_eq_append_getElem hi,zHu]
  rfl) (by
  unfold zKn
  simp only
  rw [hel,yY,zF,List.take_of_length_le (by omega)])
 rw [show ((0:Nat):Int) = 0 from rfl,List.take_zero] at this
 simp only [ev,List.foldl_nil] at this
 rw [this,bs];rfl
end
theorem zP1 {v:List Int} (hl:v.length ≤ 1000000):IsB (f_C v) (∀ i,i < v.length → at0 v i = 0):=by
 refine tL v.length (fun i => at0 v i = 0) rfl (fun i hi _ => ?_) ?_
 ·unfold zKa
  rw [yO hi,zH,yD hi,bs]
  by_cases h:at0 v i = 0
  ·rw [show (at0 v i != 0) = false from by simp only [h];rfl,zF,zC (by omega) (by omega),bs,cs];exact .inl ⟨rfl,h⟩
  ·rw [show (at0 v i != 0) = true from by simpa using h,zH];exact .inr ⟨rfl,h⟩
 ·unfold zKa
  rw [yY,zF]
theorem zBY {v:List Int} (hl:v.length ≤ 1000000):IsB (zRh v) (∀ i,i < v.length → at0 v i = 0):=zP1 hl
section
variable {x:SPr} (h:Pres x) {m:zD} {D:Nat} (hm:MOk x.zA.length m D) {vals:Mx} (hv:VOk x.zA.length m.Prime D vals)
 include h hm hv
abbrev dfc (m:zD) (D:Nat) (vals:Mx) (q:Rl):List Int:=vE m.Prime D (ev m D vals (z0 D) q.1) (-1) (ev m D vals (z0 D) q.2)
theorem zIj:(wB x).length ≤ 100:=by
 have _:=hv
 have _:=hm
 have h6:=h.os.1
 have hfm:=zFZ h x.zA.length (Nat.le_refl _)
 simp only [wB,List.length_append,List.length_map,List.length_range];omega
theorem zIk:zSB x m vals = some ((wB x).map (dfc m D vals)):=by
 have h6:=h.os.1
 have h7:=hm.p.pos
 have h3:=hm.d3
 have hrl:=zIj h hm hv
 have hz:=zGb (p:=m.Prime) (D:=D) (by omega)
 unfold zSB
 rw [kF h,bs]
 have:=zP (body:=zKo m vals ((wB x).map enR)) (r:=(wB x).map (dfc m D vals)) (fun i => (((wB x).map (dfc m D vals)).take i,(i:Int))) (wB x).length (fun i hi => by
  have hmem:(wB x)[i] ∈ wB x:=List.getElem_mem hi
  obtain ⟨⟨g1,g2⟩,g3,g4⟩:=zHr h hmem
  unfold zKo
  simp only
  rw [List.length_map,yO hi,zH,wY,List.getElem?_map,List.getElem?_eq_getElem hi]
  simp only [Option.map_some]
  rw [bs,zDr hm h6 hv g1 g2,bs,zDr hm h6 hv g3 g4,bs,jS hm.p (zCJ hm h6 hv hz _) (zCJ hm h6 hv hz _) (by omega) (by omega),bs,yK (by simp;omega),bs,zC (by omega) (by omega),bs,cs,List.take_succ_eq_append_getElem (by simpa using hi)]
  simp only [List.getElem_map]) (by
  unfold zKo
  simp only
  rw [List.length_map,yY,zF,List.take_of_length_le (by simp)])
 rw [show ((0:Nat):Int) = 0 from rfl,List.take_zero] at this
 rw [this,bs]
end
end Go.Pl

namespace Go.Pl
open Go Go.Ab Go.Wk Go.Pc
theorem zNw {m:zD} {D:Nat} {vals:Mx} (hp:Prime m.Prime) (hd:m.Dim = (D:Int)) (hD:D ≤ 8) (hl:vals.length ≤ 1048576):IsB (zUS m vals) (∀ i,i < vals.length → Row m.Prime D (vals.getD i [])):=by
 refine tL vals.length (fun i => Row m.Prime D (vals.getD i [])) rfl (fun i hi _ => ?_) ?_
 ·refine vO (zE1 hp hD (r:=vals.getD i [])) (by omega) ?_
  unfold zMU
  rw [yO hi,zH,yC [] hi,bs,hd]
 ·unfold zMU
  rw [yY,zF]
theorem zJB {a b:Int} (h:a = b):(a == b) = true:=by simp [h]
theorem zJC {a b:Int} (h:a ≠ b):(a == b) = false:=by simp [h]
end Go.Pl

namespace Go.Pl
open Go Go.Ab Go.Wk Go.Pc
theorem IsB.both {o o':Option Bool} {P:Prop} (h:IsB o P) (h':IsB o' P):(o = some true ∧ o' = some true ∧ P) ∨ (o = some false ∧ o' = some false ∧ ¬ P):=by
 rcases h with ⟨h1,h2⟩ | ⟨h1,h2⟩ <;> rcases h' with ⟨h3,h4⟩ | ⟨h3,h4⟩
 ·exact .inl ⟨h1,h3,h2⟩
 ·exact absurd h2 h4
 ·exact absurd h4 h2
 ·exact .inr ⟨h1,h3,h2⟩
end Go.Pl

namespace Go.Pl
open Go Go.Ab Go.Wk Go.Pc
def Sp (p:Int) (n:Nat) (R:Mx) (v:List Int):Prop:=∃ c:Nat → Int,∀ j,j < n → (S R.length fun i => c i * ent R i j) % p = at0 v j % p
section
variable {p:Int} {n:Nat} {R R':Mx} {u v w:List Int}
theorem sL {i:Nat} (hi:i < R.length):Sp p n R (R.getD i []):=by
 refine ⟨fun l => if l = i then 1 else 0,fun j _ => ?_⟩
 rw [zA6 (k:=i) hi (fun l _ hl => by simp [hl])]
 simp
theorem sM {k:Int} (hv:Sp p n R v) (hw:Sp p n R w) (h:∀ j,j < n → at0 u j % p = (at0 v j + k * at0 w j) % p):Sp p n R u:=by
 obtain ⟨c,hc⟩:=hv
 obtain ⟨d,hd⟩:=hw
 refine ⟨fun i => c i + k * d i,fun j hj => ?_⟩
 have e:(S R.length fun i => (c i + k * d i) * ent R i j) = (S R.length fun i => c i * ent R i j) + k * (S R.length fun i => d i * ent R i j):=by
  rw [← zEc,← zJz]
  exact wL fun i _ => by rw [Int.add_mul,Int.mul_assoc]
 rw [e,h j hj,Int.add_emod,hc j hj,Int.mul_emod,hd j hj,← Int.mul_emod,← Int.add_emod]
theorem kY (h:∀ j,j < n → at0 u j % p = 0):Sp p n R u:=by
 refine ⟨fun _ => 0,fun j hj => ?_⟩
 rw [h j hj,wL (g:=fun _ => 0) (fun i _ => by simp),jE];simp
theorem qW (h:∀ i,i < R.length → Sp p n R' (R.getD i [])) (hv:Sp p n R v):Sp p n R' v:=by
 obtain ⟨c,hc⟩:=hv
 have key:∀ m,m ≤ R.length → ∃ d:Nat → Int,∀ j,j < n → (S R'.length fun i => d i * ent R' i j) % p = (S m fun i => c i * ent R i j) % p:=by
  intro m
  induction m with
  | zero => intro _;exact ⟨fun _ => 0,fun j _ => by rw [wL (g:=fun _ => 0) (fun i _ => by simp),jE];rfl⟩
  | succ m ih =>
   intro hm
   obtain ⟨d,hd⟩:=ih (by omega)
   obtain ⟨e,he⟩:=h m (by omega)
   refine ⟨fun i => d i + c m * e i,fun j hj => ?_⟩
   have e1:(S R'.length fun i => (d i + c m * e i) * ent R' i j) = (S R'.length fun i => d i * ent R' i j) + c m * (S R'.length fun i => e i * ent R' i j):=by
    rw [← zEc,← zJz]
    exact wL fun i _ => by rw [Int.add_mul,Int.mul_assoc]
   rw [e1,Int.add_emod,hd j hj,Int.mul_emod,he j hj,← Int.mul_emod,← Int.add_emod]
   rfl
 obtain ⟨d,hd⟩:=key R.length (Nat.le_refl _)
 exact ⟨d,fun j hj => by rw [hd j hj,hc j hj]⟩
end
def tZ (p:Int) (n:Nat) (R R':Mx):Prop:=(∀ i,i < R.length → Sp p n R' (R.getD i [])) ∧ ∀ i,i < R'.length → Sp p n R (R'.getD i [])
theorem tZ.refl {p:Int} {n:Nat} {R:Mx}:tZ p n R R:=⟨fun _ h => sL h,fun _ h => sL h⟩
theorem tZ.symm {p:Int} {n:Nat} {R R':Mx} (h:tZ p n R R'):tZ p n R' R:=⟨h.2,h.1⟩
theorem tZ.trans {p:Int} {n:Nat} {R R' R2:Mx} (h:tZ p n R R') (h':tZ p n R' R2):tZ p n R R2:=⟨fun i hi => qW h'.1 (h.1 i hi),fun i hi => qW h.2 (h'.2 i hi)⟩
theorem tZ.iff {p:Int} {n:Nat} {R R':Mx} {v:List Int} (h:tZ p n R R'):Sp p n R v ↔ Sp p n R' v:=⟨fun g => qW h.1 g,fun g => qW h.2 g⟩
structure Red (p:Int) (n:Nat) (R:Mx) (pv:Nat → Nat):Prop where
 row:∀ i,i < R.length → Row p n (R.getD i [])
 lt:∀ i,i < R.length → pv i < n
 one:∀ i,i < R.length → ent R i (pv i) = 1
 low:∀ i,i < R.length → ∀ j,j < pv i → ent R i j = 0
 off:∀ i k,i < R.length → k < R.length → k ≠ i → ent R k (pv i) = 0
 mono:∀ i j,i < j → j < R.length → pv i < pv j
section
variable {p:Int} (hp:1 < p) {n:Nat} {R R':Mx} {pv pv':Nat → Nat} {v:List Int}
theorem Red.coef (h:Red p n R pv) {c:Nat → Int} (hc:∀ j,j < n → (S R.length fun i => c i * ent R i j) % p = at0 v j % p) {k:Nat} (hk:k < R.length):c k % p = at0 v (pv k) % p:=by
 rw [← hc (pv k) (h.lt k hk),zA6 (k:=k) hk (fun i hi hne => by rw [h.off k i hk hi hne];simp),h.one k hk];simp
theorem Red.expand (h:Red p n R pv) (hv:Sp p n R v):∀ j,j < n → at0 v j % p = (S R.length fun i => at0 v (pv i) * ent R i j) % p:=by
 obtain ⟨c,hc⟩:=hv
 intro j hj
 rw [← hc j hj]
 exact zDp fun i hi => by rw [Int.mul_emod,h.coef hc hi,← Int.mul_emod]
theorem Red.lead (h:Red p n R pv) (hv:Sp p n R v) (hne:∃ j,j < n ∧ at0 v j % p ≠ 0):∃ i,i < R.length ∧ (∀ j,j < pv i → at0 v j % p = 0) ∧ at0 v (pv i) % p ≠ 0:=by
 have hx:=h.expand hv
 have h1:∃ i,i < R.length ∧ at0 v (pv i) % p ≠ 0:=by
  refine Classical.byContradiction fun hn => ?_
  obtain ⟨j,hj,hj2⟩:=hne
  refine hj2 ?_
  rw [hx j hj,zDp (g:=fun _ => 0) (fun i hi => by
   have:at0 v (pv i) % p = 0:=Classical.byContradiction fun h0 => hn ⟨i,hi,h0⟩
   rw [Int.mul_emod,this];simp),jE];rfl
 obtain ⟨i,⟨hi,hi2⟩,hmin⟩:=zAs h1
 refine ⟨i,hi,fun j hj => ?_,hi2⟩
 have hjn:j < n:=Nat.lt_trans hj (h.lt i hi)
 rw [hx j hjn,zDp (g:=fun _ => 0) (fun k hk => by
  rcases Nat.lt_or_ge k i with hki | hki
  ·have:at0 v (pv k) % p = 0:=Classical.byContradiction fun h0 => hmin k hki ⟨hk,h0⟩
   rw [Int.mul_emod,this];simp
  ·have h2:pv i ≤ pv k:=by
    rcases Nat.lt_or_ge i k with h3 | h3
    ·exact Nat.le_of_lt (h.mono i k h3 hk)
    ·rw [show i = k from by omega];exact Nat.le_refl _
   rw [h.low k hk j (by omega)];simp),jE];rfl
 include hp
theorem Red.row_lead (h:Red p n R pv) {i:Nat} (hi:i < R.length):(∃ j,j < n ∧ at0 (R.getD i []) j % p ≠ 0) ∧ (∀ j,j < pv i → at0 (R.getD i []) j % p = 0) ∧ at0 (R.getD i []) (pv i) % p ≠ 0:=by
 have h1:at0 (R.getD i []) (pv i) % p ≠ 0:=by
  have:=h.one i hi
  simp only [ent] at this
  rw [this,Int.emod_eq_of_lt (by omega) hp];omega
 refine ⟨⟨pv i,h.lt i hi,h1⟩,fun j hj => ?_,h1⟩
 have:=h.low i hi j hj
 simp only [ent] at this
 rw [this];rfl
theorem Red.piv_in (h:Red p n R pv) (h':Red p n R' pv') (hs:∀ i,i < R.length → Sp p n R' (R.getD i [])) {i:Nat} (hi:i < R.length):∃ k,k < R'.length ∧ pv' k = pv i:=by
 obtain ⟨g1,g2,g3⟩:=h.row_lead hp hi
 obtain ⟨k,hk,g4,g5⟩:=h'.lead (hs i hi) g1
 refine ⟨k,hk,?_⟩
 rcases Nat.lt_trichotomy (pv' k) (pv i) with h1 | h1 | h1
 ·exact absurd (g2 _ h1) g5
 ·exact h1
 ·exact absurd (g4 _ h1) g3
theorem Red.piv_eq (h:Red p n R pv) (h':Red p n R' pv') (hs:tZ p n R R'):∀ i,(i < R.length ↔ i < R'.length) ∧ (i < R.length → pv i = pv' i):=by
 intro i
 induction i using Nat.strongRecOn with
 | _ i ih =>
  have a:i < R.length → i < R'.length ∧ pv' i ≤ pv i:=fun hi => by
   obtain ⟨k,hk,e⟩:=h.piv_in hp h' hs.1 hi
   have hki:i ≤ k:=by
    refine Classical.byContradiction fun hn => ?_
    have h1:=(ih k (by omega)).2 (by omega)
    have h2:=h.mono k i (by omega) hi
    omega
   refine ⟨by omega,?_⟩
   rcases Nat.lt_or_ge i k with h3 | h3
   ·have:=h'.mono i k h3 hk;omega
   ·have hik:i = k:=by omega
    subst hik;omega
  have b:i < R'.length → i < R.length ∧ pv i ≤ pv' i:=fun hi => by
   obtain ⟨k,hk,e⟩:=h'.piv_in hp h hs.2 hi
   have hki:i ≤ k:=by
    refine Classical.byContradiction fun hn => ?_
    have h1:=(ih k (by omega)).2 hk
    have h2:=h'.mono k i (by omega) hi
    omega
   refine ⟨by omega,?_⟩
   rcases Nat.lt_or_ge i k with h3 | h3
   ·have:=h.mono i k h3 hk;omega
   ·have hik:i = k:=by omega
    subst hik;omega
  exact ⟨⟨fun hi => (a hi).1,fun hi => (b hi).1⟩,fun hi => by have:=(a hi).2;have:=(b (a hi).1).2;omega⟩
theorem Red.unique (h:Red p n R pv) (h':Red p n R' pv') (hs:tZ p n R R'):R = R':=by
 have hpe:=h.piv_eq hp h' hs
 have hl:R.length = R'.length:=by
  rcases Nat.lt_trichotomy R.length R'.length with g | g | g
  ·have:=(hpe R.length).1.2 g;omega
  ·exact g
  ·have:=(hpe R'.length).1.1 g;omega
 refine zFT (D:=R.length) rfl hl.symm fun i hi => ?_
 have hi':i < R'.length:=by omega
 have r1:=h.row i hi
 have r2:=h'.row i hi'
 rw [vD r1.1,vD r2.1]
 refine zW fun j hj => ?_
 have hx:=h'.expand (hs.1 i hi) j hj
 rw [wL (g:=fun k => (if k = i then 1 else 0) * ent R' k j) (fun k hk => by
  congr 1
  have e:=(hpe k).2 (by omega)
  by_cases hki:k = i
  ·subst hki;rw [if_pos rfl,← e];exact h.one k hi
  ·rw [if_neg hki,← e];exact h.off k i (by omega) hi (Ne.symm hki)),zA6 (k:=i) hi' (fun k _ hk => by simp [hk])] at hx
 simp only [if_true,Int.one_mul,ent] at hx
 have a1:=r1.2 j hj
 have a2:=r2.2 j hj
 rw [Int.emod_eq_of_lt a1.1 (by omega),Int.emod_eq_of_lt a2.1 (by omega)] at hx
 exact hx
end
end Go.Pl

namespace Go.Pl
open Go Go.Ab Go.Wk Go.Pc
def mkR (m:Nat) (F:Nat → List Int):Mx:=(List.range m).map F
theorem uV {m:Nat} {F:Nat → List Int}:(mkR m F).length = m:=by simp [mkR]
theorem qI {m:Nat} {F:Nat → List Int} {i:Nat} (h:i < m):(mkR m F).getD i [] = F i:=by simp [mkR,List.getD_eq_getElem?_getD,h]
theorem zIl {m:Nat} {F:Nat → List Int} {i:Nat} (h:i < m):ixO (mkR m F) (i:Int) = some (F i):=by rw [yC [] (by rw [uV];exact h),qI h]
theorem tH {m:Nat} {F G:Nat → List Int} (h:∀ i,i < m → F i = G i):mkR m F = mkR m G:=by
 simp only [mkR]
 exact List.map_congr_left fun i hi => h i (List.mem_range.1 hi)
theorem zUw {R:Mx} {m:Nat} (h:R.length = m):R = mkR m (fun i => R.getD i []):=zFT (D:=m) h uV fun i hi => by rw [qI hi]
theorem zEM {m:Nat} {F:Nat → List Int} {i:Nat} {a:List Int}:(mkR m F).set i a = mkR m (fun k => if k = i then a else F k):=by
 apply List.ext_getElem?
 intro k
 by_cases hk:k < m
 ·by_cases h:i = k
  ·subst h;simp [mkR,hk]
  ·rw [List.getElem?_set_ne h];simp [mkR,hk,Ne.symm h]
 ·rw [List.getElem?_eq_none (by simp [mkR];omega),List.getElem?_eq_none (by simp [mkR];omega)]
theorem zDs {m:Nat} {F:Nat → List Int} {i j:Nat} (h:i < m):ent (mkR m F) i j = at0 (F i) j:=by simp only [ent,qI h]
theorem zP2 {s:Nat → Int × Int × Int × Int} (n:Nat) {r:Int × Int} (h:∀ i,i < n → zNK (s i) = some (.inl (s (i + 1)))) (he:zNK (s n) = some (.inr r)) {p q:Int} (hq:zGG r.2 p = some q) (h1:r.1 = 1) (hs:s 0 = (p,(s 0).2.1,0,1)) :
  f_L (s 0).2.1 p = some (q,true):=by
 unfold f_L
 rw [← hs,zP s n h he,bs,hq,bs,h1];rfl
def zP3:List (Int × Int × Int × Int) → Nat → Int × Int × Int × Int:=fun l i => l.getD i (0,0,0,0)
theorem vT (l:List (Int × Int × Int × Int)) (n:Nat) {r:Int × Int} (h:∀ i,i < n → zNK (zP3 l i) = some (.inl (zP3 l (i + 1)))) (he:zNK (zP3 l n) = some (.inr r)) {p q x:Int} (hq:zGG r.2 p = some q) (h1:r.1 = 1) (hs:zP3 l 0 = (p,x,0,1)) :
  f_L x p = some (q,true):=by
 have:=zP2 (s:=zP3 l) n h he hq h1 (by rw [hs])
 rw [hs] at this;exact this
theorem lt1 {P:Nat → Prop} (h0:P 0):∀ i,i < 1 → P i:=fun i hi => by rw [show i = 0 from by omega];exact h0
theorem lt2 {P:Nat → Prop} (h0:P 0) (h1:P 1):∀ i,i < 2 → P i:=fun i hi => by match i,hi with | 0,_ => exact h0 | 1,_ => exact h1
theorem lt3 {P:Nat → Prop} (h0:P 0) (h1:P 1) (h2:P 2):∀ i,i < 3 → P i:=fun i hi => by match i,hi with | 0,_ => exact h0 | 1,_ => exact h1 | 2,_ => exact h2
theorem zDt {p x:Int} (hp:Prime p) (h0:1 ≤ x) (h1:x ≤ p - 1):∃ r,f_L x p = some (r,true) ∧ 0 ≤ r ∧ r ≤ p - 1 ∧ (x * r) % p = 1:=by
 have c:(p = 2 ∧ x = 1) ∨ (p = 3 ∧ (x = 1 ∨ x = 2)) ∨ (p = 5 ∧ (x = 1 ∨ x = 2 ∨ x = 3 ∨ x = 4)) ∨ (p = 7 ∧ (x = 1 ∨ x = 2 ∨ x = 3 ∨ x = 4 ∨ x = 5 ∨ x = 6)):=by unfold Prime at hp;omega
 rcases c with ⟨rfl,rfl⟩ | ⟨rfl,rfl | rfl⟩ | ⟨rfl,rfl | rfl | rfl | rfl⟩ | ⟨rfl,rfl | rfl | rfl | rfl | rfl | rfl⟩
 ·exact ⟨1,vT [(2,1,0,1),(1,0,1,-2)] 1 (lt1 (by decide +kernel)) (r:=(1,1)) (by decide +kernel) (by decide +kernel) rfl rfl,by decide,by decide,by decide⟩
 ·exact ⟨1,vT [(3,1,0,1),(1,0,1,-3)] 1 (lt1 (by decide +kernel)) (r:=(1,1)) (by decide +kernel) (by decide +kernel) rfl rfl,by decide,by decide,by decide⟩
 ·exact ⟨2,vT [(3,2,0,1),(2,1,1,-1),(1,0,-1,3)] 2 (lt2 (by decide +kernel) (by decide +kernel)) (r:=(1,-1)) (by decide +kernel) (by decide +kernel) rfl rfl,by decide,by decide,by decide⟩
 ·exact ⟨1,vT [(5,1,0,1),(1,0,1,-5)] 1 (lt1 (by decide +kernel)) (r:=(1,1)) (by decide +kernel) (by decide +kernel) rfl rfl,by decide,by decide,by decide⟩
 ·exact ⟨3,vT [(5,2,0,1),(2,1,1,-2),(1,0,-2,5)] 2 (lt2 (by decide +kernel) (by decide +kernel)) (r:=(1,-2)) (by decide +kernel) (by decide +kernel) rfl rfl,by decide,by decide,by decide⟩
 ·exact ⟨2,vT [(5,3,0,1),(3,2,1,-1),(2,1,-1,2),(1,0,2,-5)] 3 (lt3 (by decide +kernel) (by decide +kernel) (by decide +kernel)) (r:=(1,2)) (by decide +kernel) (by decide +kernel) rfl rfl,by decide,by decide,by decide⟩
 ·exact ⟨4,vT [(5,4,0,1),(4,1,1,-1),(1,0,-1,5)] 2 (lt2 (by decide +kernel) (by decide +kernel)) (r:=(1,-1)) (by decide +kernel) (by decide +kernel) rfl rfl,by decide,by decide,by decide⟩
 ·exact ⟨1,vT [(7,1,0,1),(1,0,1,-7)] 1 (lt1 (by decide +kernel)) (r:=(1,1)) (by decide +kernel) (by decide +kernel) rfl rfl,by decide,by decide,by decide⟩
 ·exact ⟨4,vT [(7,2,0,1),(2,1,1,-3),(1,0,-3,7)] 2 (lt2 (by decide +kernel) (by decide +kernel)) (r:=(1,-3)) (by decide +kernel) (by decide +kernel) rfl rfl,by decide,by decide,by decide⟩
 ·exact ⟨5,vT [(7,3,0,1),(3,1,1,-2),(1,0,-2,7)] 2 (lt2 (by decide +kernel) (by decide +kernel)) (r:=(1,-2)) (by decide +kernel) (by decide +kernel) rfl rfl,by decide,by decide,by decide⟩
 ·exact ⟨2,vT [(7,4,0,1),(4,3,1,-1),(3,1,-1,2),(1,0,2,-7)] 3 (lt3 (by decide +kernel) (by decide +kernel) (by decide +kernel)) (r:=(1,2)) (by decide +kernel) (by decide +kernel) rfl rfl,by decide,by decide,by decide⟩
 ·exact ⟨3,vT [(7,5,0,1),(5,2,1,-1),(2,1,-1,3),(1,0,3,-7)] 3 (lt3 (by decide +kernel) (by decide +kernel) (by decide +kernel)) (r:=(1,3)) (by decide +kernel) (by decide +kernel) rfl rfl,by decide,by decide,by decide⟩
 ·exact ⟨6,vT [(7,6,0,1),(6,1,1,-1),(1,0,-1,7)] 2 (lt2 (by decide +kernel) (by decide +kernel)) (r:=(1,-1)) (by decide +kernel) (by decide +kernel) rfl rfl,by decide,by decide,by decide⟩
end Go.Pl

namespace Go.Pl
open Go Go.Ab Go.Wk Go.Pc
structure zNx (p:Int) (n m:Nat) (rows:Mx) (c:Nat) (M:Mx) (d:Nat) (pv:Nat → Nat):Prop where
 len:M.length = m
 row:∀ i,i < m → Row p n (M.getD i [])
 dm:d ≤ m
 lt:∀ i,i < d → pv i < c
 one:∀ i,i < d → ent M i (pv i) = 1
 low:∀ i,i < d → ∀ j,j < pv i → ent M i j = 0
 off:∀ i k,i < d → k < m → k ≠ i → ent M k (pv i) = 0
 mono:∀ i j,i < j → j < d → pv i < pv j
 zero:∀ k,d ≤ k → k < m → ∀ j,j < c → ent M k j = 0
 sp:tZ p n M rows
theorem zAU {p:Int} {n m:Nat} {F:Nat → List Int} {i:Nat} (h:i < m):Sp p n (mkR m F) (F i):=by
 have:=sL (p:=p) (n:=n) (R:=mkR m F) (i:=i) (by rw [uV];exact h)
 rw [qI h] at this;exact this
theorem zP4 (a e r p:Int):a % p = ((a + (0 - e) * r) % p + e * r) % p:=by
 rw [Int.add_emod,Int.emod_emod,← Int.add_emod,show a + (0 - e) * r + e * r = a from by rw [Int.sub_mul,Int.zero_mul];omega]
section
variable {p:Int} (hp:Prime p) {n m:Nat} {rows:Mx} {c:Nat} {M:Mx} {d:Nat} {pv:Nat → Nat} (h:zNx p n m rows c M d pv) (hc:c < n) (hd:d < m)
 include hp h hc hd
theorem zNx.pivot {t:Nat} (ht:d ≤ t) (htm:t < m) (hne:ent M t c ≠ 0) {q:Int} (hq:(ent M t c * q) % p = 1) :
  zNx p n m rows (c + 1) (mkR m fun i => if i = d then mkv n fun j => (ent M t j * q) % p else vE p n (if i = t then M.getD d [] else M.getD i []) (0 - at0 (if i = t then M.getD d [] else M.getD i []) c) (mkv n fun j => (ent M t j * q) % p)) (d + 1) (fun i => if i = d then c else pv i):=by
 have h7:=hp.pos
 have pr:∀ j,j < n → at0 (mkv n fun j => (ent M t j * q) % p) j = (ent M t j * q) % p:=fun j hj => yE hj
 have p0:∀ j,j < c → (ent M t j * q) % p = 0:=fun j hj => by rw [h.zero t ht htm j hj];simp
 have prow:Row p n (mkv n fun j => (ent M t j * q) % p):=⟨zZ _ _,fun j hj => by
  have e1:=Int.emod_nonneg (ent M t j * q) (show p ≠ 0 by omega)
  have e2:=Int.emod_lt_of_pos (ent M t j * q) (show 0 < p by omega)
  rw [pr j hj];omega⟩
 have hG:∀ i,i < m → i ≠ d → Row p n (if i = t then M.getD d [] else M.getD i []):=fun i hi _ => by
  split
  ·exact h.row d hd
  ·exact h.row i hi
 have eo:∀ i j,i < m → i ≠ d → j < n → ent (mkR m fun i => if i = d then mkv n fun j => (ent M t j * q) % p else vE p n (if i = t then M.getD d [] else M.getD i []) (0 - at0 (if i = t then M.getD d [] else M.getD i []) c) (mkv n fun j => (ent M t j * q) % p)) i j = (at0 (if i = t then M.getD d [] else M.getD i []) j + (0 - at0 (if i = t then M.getD d [] else M.getD i []) c) * ((ent M t j * q) % p)) % p:=fun i j hi hne' hj => by
  rw [zDs hi,if_neg hne',vE,yE hj,pr j hj]
 have el:∀ i j,i < m → i ≠ d → j < c → ent (mkR m fun i => if i = d then mkv n fun j => (ent M t j * q) % p else vE p n (if i = t then M.getD d [] else M.getD i []) (0 - at0 (if i = t then M.getD d [] else M.getD i []) c) (mkv n fun j => (ent M t j * q) % p)) i j = at0 (if i = t then M.getD d [] else M.getD i []) j:=fun i j hi hne' hj => by
  rw [eo i j hi hne' (by omega),p0 j hj,Int.mul_zero,Int.add_zero]
  have:=(hG i hi hne').2 j (by omega)
  exact Int.emod_eq_of_lt this.1 (by omega)
 have ed:∀ j,j < n → ent (mkR m fun i => if i = d then mkv n fun j => (ent M t j * q) % p else vE p n (if i = t then M.getD d [] else M.getD i []) (0 - at0 (if i = t then M.getD d [] else M.getD i []) c) (mkv n fun j => (ent M t j * q) % p)) d j = (ent M t j * q) % p:=fun j hj => by
  rw [zDs hd,if_pos rfl,pr j hj]
 have ec:∀ i,i < m → i ≠ d → ent (mkR m fun i => if i = d then mkv n fun j => (ent M t j * q) % p else vE p n (if i = t then M.getD d [] else M.getD i []) (0 - at0 (if i = t then M.getD d [] else M.getD i []) c) (mkv n fun j => (ent M t j * q) % p)) i c = 0:=fun i hi hne' => by
  rw [eo i c hi hne' hc,hq,Int.mul_one]
  rw [show at0 (if i = t then M.getD d [] else M.getD i []) c + (0 - at0 (if i = t then M.getD d [] else M.getD i []) c) = 0 from by omega];simp
 have hlow:∀ i,i < d → (if i = t then M.getD d [] else M.getD i []) = M.getD i []:=fun i hi => by rw [if_neg (by omega)]
 have hzr:∀ i,d ≤ i → i < m → ∀ j,j < c → at0 (if i = t then M.getD d [] else M.getD i []) j = 0:=fun i hi hi2 j hj => by
  split
  ·exact h.zero d (Nat.le_refl _) hd j hj
  ·exact h.zero i hi hi2 j hj
 refine ⟨uV,fun i hi => ?_,by omega,fun i hi => ?_,fun i hi => ?_,fun i hi j hj => ?_,fun i k hi hk hne' => ?_,fun i j hij hj => ?_,fun k hk hk2 j hj => ?_,?_⟩
 ·rw [qI hi]
  split
  ·exact prow
  ·exact kG hp
 ·by_cases hid:i = d
  ·rw [if_pos hid];omega
  ·rw [if_neg hid];have:=h.lt i (by omega);omega
 ·by_cases hid:i = d
  ·subst hid;rw [if_pos rfl,ed c hc,hq]
  ·have h1:=h.lt i (by omega)
   rw [if_neg hid,el i _ (by omega) hid h1,hlow i (by omega)];exact h.one i (by omega)
 ·by_cases hid:i = d
  ·subst hid
   rw [if_pos rfl] at hj
   rw [ed j (by omega),p0 j hj]
  ·rw [if_neg hid] at hj
   have h1:=h.lt i (by omega)
   rw [el i j (by omega) hid (by omega),hlow i (by omega)];exact h.low i (by omega) j hj
 ·by_cases hid:i = d
  ·subst hid
   rw [if_pos rfl];exact ec k hk hne'
  ·have h1:=h.lt i (by omega)
   rw [if_neg hid]
   by_cases hkd:k = d
   ·subst hkd
    rw [ed _ (by omega),h.off i t (by omega) htm (by omega)];simp
   ·rw [el k _ hk hkd h1]
    split
    ·exact h.off i d (by omega) hd (Ne.symm hid)
    ·exact h.off i k (by omega) hk hne'
 ·by_cases hjd:j = d
  ·subst hjd
   rw [if_pos rfl,if_neg (by omega)];exact h.lt i (by omega)
  ·rw [if_neg hjd,if_neg (by omega)];exact h.mono i j hij (by omega)
 ·rcases Nat.lt_or_ge j c with hjc | hjc
  ·rw [el k j hk2 (by omega) hjc];exact hzr k (by omega) hk2 j hjc
  ·rw [show j = c from by omega];exact ec k hk2 (by omega)
 ·refine tZ.trans ⟨fun i hi => ?_,fun i hi => ?_⟩ h.sp
  ·rw [uV] at hi
   rw [qI hi]
   have hr:Sp p n M (mkv n fun j => (ent M t j * q) % p):=by
    refine sM (k:=q) (kY (u:=[]) fun j _ => by simp [at0]) (sL (R:=M) (i:=t) (by rw [h.len];exact htm)) fun j hj => ?_
    rw [pr j hj,Int.emod_emod,Int.mul_comm];simp [at0]
   split
   ·exact hr
   ·refine sM (k:=0 - at0 (if i = t then M.getD d [] else M.getD i []) c) (v:=if i = t then M.getD d [] else M.getD i []) ?_ hr fun j hj => ?_
    ·split
     ·exact sL (by rw [h.len];exact hd)
     ·exact sL (by rw [h.len];exact hi)
    ·rw [vE,yE hj,Int.emod_emod]
  ·rw [h.len] at hi
   have hr:=zAU (p:=p) (n:=n) (m:=m) (F:=fun i => if i = d then mkv n fun j => (ent M t j * q) % p else vE p n (if i = t then M.getD d [] else M.getD i []) (0 - at0 (if i = t then M.getD d [] else M.getD i []) c) (mkv n fun j => (ent M t j * q) % p)) hd
   simp only [if_true] at hr
   have hg:∀ k,k < m → k ≠ d → Sp p n (mkR m fun i => if i = d then mkv n fun j => (ent M t j * q) % p else vE p n (if i = t then M.getD d [] else M.getD i []) (0 - at0 (if i = t then M.getD d [] else M.getD i []) c) (mkv n fun j => (ent M t j * q) % p)) (if k = t then M.getD d [] else M.getD k []):=fun k hk hkd => by
    have h1:=zAU (p:=p) (n:=n) (m:=m) (F:=fun i => if i = d then mkv n fun j => (ent M t j * q) % p else vE p n (if i = t then M.getD d [] else M.getD i []) (0 - at0 (if i = t then M.getD d [] else M.getD i []) c) (mkv n fun j => (ent M t j * q) % p)) hk
    simp only [if_neg hkd] at h1
    refine sM (k:=at0 (if k = t then M.getD d [] else M.getD k []) c) h1 hr fun j hj => ?_
    rw [vE,yE hj,pr j hj]
    exact zP4 _ _ _ _
   by_cases hit:i = t
   ·
    subst hit
    refine sM (k:=ent M i c) (kY (u:=[]) fun j _ => by simp [at0]) hr fun j hj => ?_
    rw [pr j hj]
    have e1:(ent M i c * ((ent M i j * q) % p)) % p = (ent M i j * ((ent M i c * q) % p)) % p:=by
     rw [Int.mul_emod,Int.emod_emod,← Int.mul_emod,Int.mul_emod (ent M i j),Int.emod_emod,← Int.mul_emod]
     congr 1
     rw [← Int.mul_assoc,← Int.mul_assoc,Int.mul_comm (ent M i c)]
    rw [show at0 ([]:List Int) j = 0 from by simp [at0],Int.zero_add,e1,hq,Int.mul_one]
   ·by_cases hid:i = d
    ·subst hid
     have:=hg t htm (by omega)
     rw [if_pos rfl] at this;exact this
    ·have:=hg i hi hid
     rw [if_neg hit] at this;exact this
end
end Go.Pl

namespace Go.Pl
open Go Go.Ab Go.Wk Go.Pc
theorem qB {v:List Int} (h:v.length ≤ 1000000):f_v v = some v:=by
 unfold f_v
 rw [yK (by simp;omega),bs,List.nil_append]
theorem zGD {rows:Mx} (hm:rows.length ≤ 1000000) (hn:∀ i,i < rows.length → (rows.getD i []).length ≤ 1000000):zS6 rows = some rows:=by
 unfold zS6
 have:=zP (body:=zKh rows) (r:=rows) (fun i => (rows.take i,(i:Int))) rows.length (fun i hi => by
  unfold zKh
  simp only
  rw [yO hi,zH,yC [] hi,bs,qB (hn i hi),bs,yK (by simp;omega),bs,zC (by omega) (by omega),bs,cs,List.take_succ_eq_append_getElem hi,List.getD_eq_getElem?_getD,List.getElem?_eq_getElem hi]
  rfl) (by
  unfold zKh
  simp only
  rw [yY,zF,List.take_length])
 rw [show ((0:Nat):Int) = 0 from rfl,List.take_zero] at this
 rw [this,bs]
theorem zNy {M:Mx} {d c m n:Nat} (hm:M.length = m) (hd:d ≤ m) (hmm:m ≤ 1000000) (hrow:∀ i,i < m → (M.getD i []).length = n) (hc:c < n) :
  ∃ t:Nat,d ≤ t ∧ t ≤ m ∧ zG (zGH (M,(d:Int),(c:Int))) (d:Int) = some (t:Int) ∧ (∀ k,d ≤ k → k < t → ent M k c = 0) ∧ (t < m → ent M t c ≠ 0):=by
 have key:∀ k,k ≤ m - d → ∃ t:Nat,m - k ≤ t ∧ t ≤ m ∧ zG (zGH (M,(d:Int),(c:Int))) ((m - k:Nat):Int) = some (t:Int) ∧ (∀ q,m - k ≤ q → q < t → ent M q c = 0) ∧ (t < m → ent M t c ≠ 0):=by
  intro k
  induction k with
  | zero =>
   intro _
   refine ⟨m,by omega,Nat.le_refl _,?_,fun q h1 h2 => by omega,fun h => by omega⟩
   rw [xC]
   unfold zGH
   simp only
   rw [hm,show m - 0 = m from rfl,yY,zF]
  | succ k ih =>
   intro hk
   obtain ⟨t,h1,h2,h3,h4,h5⟩:=ih (by omega)
   have hlt:m - (k + 1) < m:=by omega
   by_cases hz:ent M (m - (k + 1)) c = 0
   ·refine ⟨t,by omega,h2,?_,fun q q1 q2 => ?_,h5⟩
    ·rw [xC]
     have e:zGH (M,(d:Int),(c:Int)) ((m - (k + 1):Nat):Int) = some (.inl ((m - k:Nat):Int)):=by
      unfold zGH
      simp only
      rw [hm,yO hlt,zH,yC [] (by omega),bs,yD (by rw [hrow _ hlt];exact hc),bs,zJB hz,zH,zC (by omega) (by omega),bs,cs,show m - (k + 1) + 1 = m - k from by omega]
     rw [e];exact h3
    ·rcases Nat.lt_or_ge (m - (k + 1)) q with g | g
     ·exact h4 q (by omega) q2
     ·rw [show q = m - (k + 1) from by omega];exact hz
   ·refine ⟨m - (k + 1),Nat.le_refl _,by omega,?_,fun q q1 q2 => by omega,fun _ => hz⟩
    rw [xC]
    have e:zGH (M,(d:Int),(c:Int)) ((m - (k + 1):Nat):Int) = some (.inr ((m - (k + 1):Nat):Int)):=by
     unfold zGH
     simp only
     rw [hm,yO hlt,zH,yC [] (by omega),bs,yD (by rw [hrow _ hlt];exact hc),bs,zJC hz,zF]
    rw [e]
 obtain ⟨t,h1,h2,h3,h4,h5⟩:=key (m - d) (Nat.le_refl _)
 rw [show m - (m - d) = d from by omega] at h1 h3 h4
 exact ⟨t,h1,h2,h3,h4,h5⟩
section
variable {p:Int} (hp:Prime p) {n m:Nat} {M:Mx} {d c t:Nat}
 include hp
theorem zKY {F:Nat → List Int} {q:Int} {b:Bool} (hd:d < m) (hr:Row p n (F d)) (hn:n ≤ 1000000) (hq:0 ≤ q ∧ q ≤ p - 1) {v:List Int} (hv:v.length = n) {s:Mx × Int × Int} (hs:s.2.1 = (d:Int)) :
  zG (zKi p s (q,b) v) (mkR m F,0) = some (mkR m fun i => if i = d then mkv n fun j => (at0 (F d) j * q) % p else F i):=by
 have h7:=hp.pos
 have:=zP (body:=zKi p s (q,b) v) (r:=mkR m fun i => if i = d then mkv n fun j => (at0 (F d) j * q) % p else F i) (fun k => (mkR m fun i => if i = d then mkv n (fun j => if j < k then (at0 (F d) j * q) % p else at0 (F d) j) else F i,(k:Int))) n (fun k hk => by
  have a1:=hr.2 k hk
  have a2:=zAS hp (k:=q) ⟨by omega,by omega⟩ a1
  have a3:=Int.mul_nonneg a1.1 hq.1
  rw [Int.mul_comm] at a2
  unfold zKi
  simp only
  rw [hv,yO hk,zH,hs,zIl hd]
  simp only [bs,if_true]
  rw [yD (by rw [zZ];exact hk),yE hk,if_neg (by omega)]
  simp only [bs]
  rw [zC (by omega) (by omega)]
  simp only [bs,uH]
  rw [if_neg (by omega)]
  simp only [bs]
  rw [Int.tmod_eq_emod_of_nonneg a3,zC (by omega) (by omega)]
  simp only [bs,Int.toNat_natCast,cs]
  rw [zEM]
  congr 3
  refine tH fun i _ => ?_
  by_cases hi:i = d
  ·rw [if_pos hi,if_pos hi,qG]
   refine zW fun j _ => ?_
   by_cases hj:j = k
   ·subst hj;rw [if_pos rfl,if_pos (by omega)]
   ·rw [if_neg hj]
    by_cases hj2:j < k
    ·rw [if_pos hj2,if_pos (by omega)]
    ·rw [if_neg hj2,if_neg (by omega)]
  ·rw [if_neg hi,if_neg hi,if_neg hi]) (by
  unfold zKi
  simp only
  rw [hv,yY,zF]
  congr 2
  refine tH fun i _ => ?_
  split
  ·exact zW fun j hj => by rw [if_pos hj]
  ·rfl)
 rw [show ((0:Nat):Int) = 0 from rfl] at this
 rw [← this]
 congr 2
 refine tH fun i _ => ?_
 split
 ·rename_i e;subst e
  conv => lhs;rw [vD hr.1]
  exact zW fun j _ => by rw [if_neg (by omega)]
 ·rfl
theorem zKZ {F:Nat → List Int} (hd:d < m) (hc:c < n) (hr:∀ i,i < m → Row p n (F i)) (hn:n ≤ 1000000) (hm:m ≤ 1000000) {r21:Mx} (hl:r21.length = m) {s:Mx × Int × Int} (hs:s.2.1 = (d:Int)) (hs2:s.2.2 = (c:Int)) :
  zG (zL7 p s r21) (mkR m F,0) = some (mkR m fun i => if i = d then F d else vE p n (F i) (0 - at0 (F i) c) (F d)):=by
 have h7:=hp.pos
 have:=zP (body:=zL7 p s r21) (r:=mkR m fun i => if i = d then F d else vE p n (F i) (0 - at0 (F i) c) (F d)) (fun k => (mkR m fun i => if i < k ∧ i ≠ d then vE p n (F i) (0 - at0 (F i) c) (F d) else F i,(k:Int))) m (fun k hk => by
  have a1:=(hr k hk).2 c hc
  unfold zL7
  simp only
  rw [hl,yO hk,zH,hs,hs2]
  by_cases hkd:k = d
  ·subst hkd
   rw [jJ rfl,zF,zC (by omega) (by omega),bs,cs]
   congr 3
   refine tH fun i _ => ?_
   by_cases hi:i = k
   ·subst hi;rw [if_neg (by omega),if_neg (by omega)]
   ·by_cases hi2:i < k
    ·rw [if_pos ⟨hi2,hi⟩,if_pos ⟨by omega,hi⟩]
    ·rw [if_neg (by omega),if_neg (by omega)]
  ·rw [sS (by omega),zH,zIl hk,zIl hd]
   simp only [bs,ne_eq,not_true_eq_false,and_false,if_false,Nat.lt_irrefl,false_and]
   rw [yD (by rw [(hr k hk).1];exact hc)]
   simp only [bs]
   rw [zC (by omega) (by omega)]
   simp only [bs]
   rw [jS hp (hr k hk) (hr d hd) (by omega) hn,bs,zC (by omega) (by omega)]
   simp only [bs,Int.toNat_natCast,cs]
   rw [zEM]
   congr 3
   refine tH fun i _ => ?_
   by_cases hi:i = k
   ·subst hi;rw [if_pos rfl,if_pos ⟨by omega,hkd⟩]
   ·rw [if_neg hi]
    by_cases hi2:i < k ∧ ¬ i = d
    ·rw [if_pos hi2,if_pos ⟨by omega,hi2.2⟩]
    ·rw [if_neg hi2,if_neg (by omega)]) (by
  unfold zL7
  simp only
  rw [hl,yY,zF]
  congr 2
  refine tH fun i hi => ?_
  by_cases hid:i = d
  ·rw [if_pos hid,if_neg (by omega),hid]
  ·rw [if_neg hid,if_pos ⟨hi,hid⟩])
 rw [show ((0:Nat):Int) = 0 from rfl] at this
 rw [← this]
 congr 2
end
end Go.Pl

namespace Go.Pl
open Go Go.Ab Go.Wk Go.Pc
theorem Red.empty {p:Int} {n:Nat}:Red p n [] (fun _ => 0):=⟨fun _ h => by simp at h,fun _ h => by simp at h,fun _ h => by simp at h,fun _ h => by simp at h,fun _ _ h => by simp at h,fun _ _ _ h => by simp at h⟩
theorem zNx.take {p:Int} {n m:Nat} {rows:Mx} {c:Nat} {M:Mx} {d:Nat} {pv:Nat → Nat} (h:zNx p n m rows c M d pv) (hcn:c ≤ n) (hz:∀ k,d ≤ k → k < m → ∀ j,j < n → ent M k j = 0):Red p n (M.take d) pv ∧ tZ p n (M.take d) rows:=by
 have hl:(M.take d).length = d:=by rw [List.length_take,h.len];exact Nat.min_eq_left h.dm
 have hg:∀ i,i < d → (M.take d).getD i [] = M.getD i []:=fun i hi => by simp only [List.getD_eq_getElem?_getD,List.getElem?_take,if_pos hi]
 have dm:=h.dm
 refine ⟨⟨fun i hi => ?_,fun i hi => ?_,fun i hi => ?_,fun i hi j hj => ?_,fun i k hi hk hne => ?_,fun i j hij hj => ?_⟩,tZ.trans ⟨fun i hi => ?_,fun i hi => ?_⟩ h.sp⟩
 ·rw [hl] at hi;rw [hg i hi];exact h.row i (by omega)
 ·rw [hl] at hi;have:=h.lt i hi;omega
 ·rw [hl] at hi;simp only [ent,hg i hi];exact h.one i hi
 ·rw [hl] at hi;simp only [ent,hg i hi];exact h.low i hi j hj
 ·rw [hl] at hi hk;simp only [ent,hg k hk];exact h.off i k hi (by omega) hne
 ·rw [hl] at hj;exact h.mono i j hij hj
 ·rw [hl] at hi;rw [hg i hi];exact sL (by rw [h.len];omega)
 ·rw [h.len] at hi
  rcases Nat.lt_or_ge i d with g | g
  ·have:=sL (p:=p) (n:=n) (R:=M.take d) (i:=i) (by rw [hl];exact g)
   rw [hg i g] at this;exact this
  ·exact kY fun j hj => by
    have:=hz i g hi j hj
    simp only [ent] at this
    rw [this];rfl
section
variable {p:Int} (hp:Prime p) {n:Nat} {rows:Mx} (hn:n ≤ 100000) (hm:rows.length ≤ 600000) (hr:∀ i,i < rows.length → Row p n (rows.getD i []))
 include hp hn hm hr
theorem zJD:∃ R pv,f_g p rows = some R ∧ Red p n R pv ∧ tZ p n R rows:=by
 have h7:=hp.pos
 unfold f_g
 rw [zGD (by omega) (fun i hi => by have:=(hr i hi).1;omega),bs]
 have main:=vM (body:=zL8 p) (s:=(rows,0,0)) (Q:=fun r => ∃ (M:Mx) (d:Nat) (pv:Nat → Nat),r = (M,(d:Int)) ∧ d ≤ M.length ∧ Red p n (M.take d) pv ∧ tZ p n (M.take d) rows)
  (fun i s => ∃ (M:Mx) (d:Nat) (pv:Nat → Nat),s = (M,(d:Int),(i:Int)) ∧ zNx p n rows.length rows i M d pv ∧ i ≤ n) n (fun c s hc hI => ?_) (fun s hI => ?_) ⟨rows,0,fun _ => 0,rfl,⟨rfl,hr,Nat.zero_le _,fun _ h => by omega,fun _ h => by omega,fun _ h => by omega,fun _ _ h => by omega,fun _ _ _ h => by omega,fun _ _ _ _ h => by omega,tZ.refl⟩,Nat.zero_le _⟩
 ·obtain ⟨r,h1,M,d,pv,rfl,hd,hR,hS⟩:=main
  rw [h1,bs]
  simp only
  have e:zT M 0 (d:Int) = some (M.take d):=by
   unfold zT
   rw [if_pos ⟨by omega,by omega,by omega⟩];simp
  rw [e,bs]
  exact ⟨_,_,rfl,hR,hS⟩
 ·
  obtain ⟨M,d,pv,rfl,h,hcn⟩:=hI
  have hl:=h.len
  have hdm:=h.dm
  by_cases h0:rows.length = 0
  ·refine .inr ⟨(M,(d:Int)),?_,M,d,pv,rfl,by omega,h.take hcn fun k hk hk2 => by omega⟩
   unfold zL8
   simp only
   rw [decide_eq_false (by omega),zF]
  have e0:zL8 p (M,(d:Int),(c:Int)) = cond (decide ((d:Int) < (M.length:Int))) ((zG (zGH (M,(d:Int),(c:Int))) (d:Int)).bind fun r6 =>
    cond (r6 == (M.length:Int)) ((rng ((c:Int) + 1)).bind fun v7 => some (.inl (M,(d:Int),v7))) (
     (ixO M r6).bind fun v8 => (ixO M (d:Int)).bind fun v9 => (ixO (sQ M (d:Int) r6 v8 v9) (d:Int)).bind fun v10 => (ixO v10 (c:Int)).bind fun v11 => (f_L v11 p).bind fun r12 =>
     (ixO (sQ M (d:Int) r6 v8 v9) (d:Int)).bind fun v13 => (zG (zKi p (M,(d:Int),(c:Int)) r12 v13) (sQ M (d:Int) r6 v8 v9,0)).bind fun r21 =>
     (zG (zL7 p (M,(d:Int),(c:Int)) r21) (r21,0)).bind fun r30 => (rng ((d:Int) + 1)).bind fun v31 => (rng ((c:Int) + 1)).bind fun v32 => some (.inl (r30,v31,v32)))) (some (.inr (M,(d:Int)))):=by
   unfold zL8
   simp only
   have hx:ixO M (0:Int) = some (M.getD 0 []):=by
    have:=yC (v:=M) (i:=0) [] (by omega)
    exact this
   rw [decide_eq_true (by omega),zH,hx]
   simp only [bs]
   rw [(h.row 0 (by omega)).1,yO hc,zH]
  rcases Nat.lt_or_ge d rows.length with hd | hd
  ·obtain ⟨t,t1,t2,t3,t4,t5⟩:=zNy (M:=M) (d:=d) (c:=c) (m:=rows.length) (n:=n) hl hdm (by omega) (fun i hi => (h.row i hi).1) hc
   rw [e0,hl,yO hd,zH,t3]
   simp only [bs]
   by_cases htm:t = rows.length
   ·
    left
    refine ⟨(M,(d:Int),((c + 1:Nat):Int)),?_,M,d,pv,rfl,⟨hl,h.row,hdm,fun i hi => by have:=h.lt i hi;omega,h.one,h.low,h.off,h.mono,fun k k1 k2 j hj => ?_,h.sp⟩,by omega⟩
    ·rw [zJB (by omega),zH,zC (by omega) (by omega),bs,cs]
    ·rcases Nat.lt_or_ge j c with g | g
     ·exact h.zero k k1 k2 j g
     ·rw [show j = c from by omega];exact t4 k k1 (by omega)
   ·have htl:t < rows.length:=by omega
    have hne:=t5 htl
    have hrt:=h.row t htl
    have hrc:=hrt.2 c hc
    obtain ⟨q,q1,q2,q3,q4⟩:=zDt (p:=p) (x:=ent M t c) hp (by simp only [ent] at hne ⊢;omega) (by simp only [ent];omega)
    left
    have hM:M = mkR rows.length (fun i => M.getD i []):=zUw hl
    obtain ⟨F,hF⟩:∃ F:Nat → List Int,∀ i,F i = if i = t then M.getD d [] else if i = d then M.getD t [] else M.getD i []:=⟨_,fun _ => rfl⟩
    have hsw:sQ M (d:Int) (t:Int) (M.getD t []) (M.getD d []) = mkR rows.length F:=by
     unfold sQ
     rw [Int.toNat_natCast,Int.toNat_natCast]
     conv => lhs;rw [hM]
     rw [zEM,zEM]
     exact tH fun i hi => by rw [hF,qI hd,qI htl]
    have hrow2:∀ i,i < rows.length → Row p n (F i):=fun i hi => by
     rw [hF]
     split
     ·exact h.row d hd
     ·split
      ·exact hrt
      ·exact h.row i hi
    have hFd:F d = M.getD t []:=by
     rw [hF]
     by_cases e:d = t
     ·rw [if_pos e,e]
     ·rw [if_neg e,if_pos rfl]
    obtain ⟨G,hG⟩:∃ G:Nat → List Int,∀ i,G i = if i = d then mkv n fun j => (at0 (F d) j * q) % p else F i:=⟨_,fun _ => rfl⟩
    have hGd:G d = mkv n fun j => (ent M t j * q) % p:=by rw [hG,if_pos rfl,hFd]
    have hGo:∀ i,i ≠ d → G i = if i = t then M.getD d [] else M.getD i []:=fun i hid => by rw [hG,if_neg hid,hF];simp only [hid,if_false]
    have hsc:zG (zKi p (M,(d:Int),(c:Int)) (q,true) (M.getD t [])) (mkR rows.length F,0) = some (mkR rows.length G):=by
     rw [zKY hp (F:=F) hd (hrow2 d hd) (by omega) ⟨q2,q3⟩ hrt.1 rfl]
     congr 1
     exact tH fun i _ => (hG i).symm
    have hF3:∀ i,i < rows.length → Row p n (G i):=fun i hi => by
     rw [hG]
     split
     ·refine ⟨zZ _ _,fun j hj => ?_⟩
      have e1:=Int.emod_nonneg (at0 (F d) j * q) (show p ≠ 0 by omega)
      have e2:=Int.emod_lt_of_pos (at0 (F d) j * q) (show 0 < p by omega)
      rw [yE hj];omega
     ·exact hrow2 i hi
    have hcl:=zKZ hp (c:=c) (F:=G) hd hc hF3 (by omega) (by omega) (r21:=mkR rows.length G) uV (s:=(M,(d:Int),(c:Int))) rfl rfl
    rw [zJC (by omega),zF,yC [] (by omega),yC [] (by omega)]
    simp only [bs]
    rw [hsw,zIl hd,hFd]
    simp only [bs]
    rw [yD (by rw [hrt.1];exact hc)]
    simp only [bs]
    rw [show at0 (M.getD t []) c = ent M t c from rfl,q1]
    simp only [bs]
    rw [hsc]
    simp only [bs]
    rw [hcl]
    simp only [bs]
    rw [zC (by omega) (by omega),zC (by omega) (by omega)]
    simp only [bs,cs]
    have hfin:=h.pivot hp hc hd t1 htl hne q4
    refine ⟨_,rfl,_,d + 1,fun i => if i = d then c else pv i,rfl,?_,by omega⟩
    have e3:(mkR rows.length fun i => if i = d then G d else vE p n (G i) (0 - at0 (G i) c) (G d)) = (mkR rows.length fun i => if i = d then mkv n fun j => (ent M t j * q) % p else vE p n (if i = t then M.getD d [] else M.getD i []) (0 - at0 (if i = t then M.getD d [] else M.getD i []) c) (mkv n fun j => (ent M t j * q) % p)):=by
     refine tH fun i hi => ?_
     rw [hGd]
     by_cases hid:i = d
     ·rw [if_pos hid,if_pos hid]
     ·rw [if_neg hid,if_neg hid,hGo i hid]
    rw [e3];exact hfin
  ·
   refine .inr ⟨(M,(d:Int)),?_,M,d,pv,rfl,by omega,h.take hcn fun k hk hk2 => by omega⟩
   rw [e0,decide_eq_false (by omega),zF]
 ·
  obtain ⟨M,d,pv,rfl,h,hcn⟩:=hI
  have hl:=h.len
  have hdm:=h.dm
  refine ⟨(M,(d:Int)),?_,M,d,pv,rfl,by omega,h.take hcn fun k hk hk2 j hj => h.zero k hk hk2 j hj⟩
  unfold zL8
  simp only
  by_cases h0:rows.length = 0
  ·rw [decide_eq_false (by omega),zF]
  ·have hx:ixO M (0:Int) = some (M.getD 0 []):=by
    have:=yC (v:=M) (i:=0) [] (by omega)
    exact this
   rw [decide_eq_true (by omega),zH,hx]
   simp only [bs]
   rw [(h.row 0 (by omega)).1,yY,zF]
end
end Go.Pl

namespace Go.Pl
open Go Go.Ab Go.Wk Go.Pc
theorem zHv {v:List Int} {n:Nat} (hl:v.length = n) (hn:n ≤ 1000000):∃ k:Nat,k ≤ n ∧ f_z v = some (k:Int) ∧ (∀ j,j < k → at0 v j = 0) ∧ (k < n → at0 v k ≠ 0):=by
 unfold f_z
 rcases chk (body:=zGI v) n 0 (Nat.zero_le _) (fun i => at0 v i = 0) (fun i => (i:Int)) (fun i _ hi _ => by
   unfold zGI
   rw [hl,yO hi,zH,yD (by omega),bs]
   by_cases h:at0 v i = 0
   ·rw [jJ h,zF,zC (by omega) (by omega),bs,cs];exact .inl ⟨rfl,h⟩
   ·rw [sS h,zH];exact .inr ⟨rfl,h⟩) (by
   unfold zGI
   rw [hl,yY,zF]) with ⟨h1,h2⟩ | ⟨i,_,hi,h1,h2⟩
 ·rw [show ((0:Nat):Int) = 0 from rfl] at h1
  rw [h1,bs]
  exact ⟨n,Nat.le_refl _,by simp only [hl],fun j hj => h2 j (Nat.zero_le _) hj,fun h => by omega⟩
 ·rw [show ((0:Nat):Int) = 0 from rfl] at h1
  rw [h1,bs]
  obtain ⟨k,⟨hk1,hk2⟩,hmin⟩:=zAs (p:=fun k => k < n ∧ at0 v k ≠ 0) ⟨i,hi,h2⟩
  have hz:∀ j,j < k → at0 v j = 0:=fun j hj => Classical.byContradiction fun h => hmin j hj ⟨by omega,h⟩
  have hki:k = i:=by
   have hloop:∀ q,q ≤ k → zG (zGI v) ((k - q:Nat):Int) = some (.inr (k:Int)):=by
    intro q
    induction q with
    | zero =>
     intro _
     rw [xC]
     have e:zGI v ((k - 0:Nat):Int) = some (.inr (.inr (k:Int))):=by
      unfold zGI
      rw [show k - 0 = k from rfl,hl,yO hk1,zH,yD (by omega),bs,sS hk2,zH]
     rw [e]
    | succ q ih =>
     intro hq
     rw [xC]
     have e:zGI v ((k - (q + 1):Nat):Int) = some (.inl ((k - q:Nat):Int)):=by
      unfold zGI
      rw [hl,yO (by omega),zH,yD (by omega),bs,jJ (hz _ (by omega)),zF,zC (by omega) (by omega),bs,cs,show k - (q + 1) + 1 = k - q from by omega]
     rw [e];exact ih (by omega)
   have:=hloop k (Nat.le_refl _)
   rw [Nat.sub_self,show ((0:Nat):Int) = 0 from rfl,h1] at this
   have:=Sum.inr.inj (Option.some.inj this)
   omega
  exact ⟨i,by omega,rfl,by rw [← hki];exact hz,fun _ => h2⟩
theorem zEN {v:List Int} {n k:Nat} (hl:v.length = n) (hn:n ≤ 1000000) (hk:k < n) (h0:∀ j,j < k → at0 v j = 0) (h1:at0 v k ≠ 0):f_z v = some (k:Int):=by
 obtain ⟨q,q1,q2,q3,q4⟩:=zHv hl hn
 have:q = k:=by
  rcases Nat.lt_trichotomy q k with g | g | g
  ·exact absurd (h0 q g) (q4 (by omega))
  ·exact g
  ·exact absurd (q3 k g) h1
 rw [q2,this]
theorem zP5 {p x:Int} (hp:Prime p) (h0:1 ≤ x) (h1:x ≤ p - 1):∃ r,zS7 x p = some r ∧ 0 ≤ r ∧ r ≤ p - 1 ∧ (x * r) % p = 1:=by
 have h7:=hp.pos
 have hx:∃ k:Nat,1 ≤ k ∧ (k:Int) < p ∧ (x * (k:Int)) % p = 1:=by
  obtain ⟨r,_,r1,r2,r3⟩:=zDt hp h0 h1
  refine ⟨r.toNat,?_,by omega,by rw [Int.toNat_of_nonneg r1];exact r3⟩
  rcases Int.lt_or_eq_of_le r1 with g | g
  ·omega
  ·rw [← g] at r3;simp at r3
 obtain ⟨k,⟨k1,k2,k3⟩,hmin⟩:=zAs hx
 have body:∀ i:Nat,1 ≤ i → (i:Int) < p → zKj x p (i:Int) = cond ((x * (i:Int)) % p == 1) (some (.inr (.inr (i:Int)))) (some (.inl ((i + 1:Nat):Int))):=fun i hi hip => by
  have a3:=Int.mul_nonneg (show 0 ≤ x by omega) (show 0 ≤ (i:Int) by omega)
  have a4:=zAS hp (k:=(i:Int)) ⟨by omega,by omega⟩ (b:=x) ⟨by omega,h1⟩
  rw [Int.mul_comm] at a4
  unfold zKj
  rw [decide_eq_true hip,zH,zJA hp (by omega) (by omega),bs,Int.emod_eq_of_lt (by omega) (by omega),zC (by omega) (by omega),bs]
  unfold uH
  rw [if_neg (by omega),bs,Int.tmod_eq_emod_of_nonneg a3]
  by_cases hh:(x * (i:Int)) % p = 1
  ·rw [zJB hh,zH,zH]
  ·rw [zJC hh,zF,zF,zC (by omega) (by omega),bs,cs]
 have hloop:∀ q,q + 1 ≤ k → zG (zKj x p) ((k - q:Nat):Int) = some (.inr (k:Int)):=by
  intro q
  induction q with
  | zero =>
   intro _
   rw [xC,show k - 0 = k from rfl,body k k1 k2,zJB k3,zH]
  | succ q ih =>
   intro hq
   have hne:(x * ((k - (q + 1):Nat):Int)) % p ≠ 1:=fun h => hmin (k - (q + 1)) (by omega) ⟨by omega,by omega,h⟩
   rw [xC,body _ (by omega) (by omega),zJC hne,zF,show k - (q + 1) + 1 = k - q from by omega]
   exact ih (by omega)
 have:=hloop (k - 1) (by omega)
 rw [show k - (k - 1) = 1 from by omega,show ((1:Nat):Int) = 1 from rfl] at this
 refine ⟨(k:Int),?_,by omega,by omega,k3⟩
 unfold zS7
 rw [this,bs]
section
variable {p:Int} (hp:Prime p) {n:Nat} (hn:n ≤ 100000)
 include hp hn
theorem zUx {r s:List Int} (hr:Row p n r):vE p n r p s = r:=by
 have _:=hp
 have _:=hn
 conv => rhs;rw [vD hr.1]
 refine zW fun j hj => ?_
 have:=hr.2 j hj
 rw [Int.add_mul_emod_self_left];exact Int.emod_eq_of_lt this.1 (by omega)
def cl (p:Int) (n:Nat) (out:Mx) (pv:Nat → Nat) (v:List Int):Nat → List Int
 | 0 => v
 | i + 1 => vE p n (cl p n out pv v i) (p - at0 (cl p n out pv v i) (pv i)) (out.getD i [])
variable {out:Mx} {pv:Nat → Nat} (h:Red p n out pv) {v:List Int} (hv:Row p n v)
 include h hv
theorem zBG:∀ i,Row p n (cl p n out pv v i):=by
 have _:=hn
 have _:=h
 intro i
 cases i with
 | zero => exact hv
 | succ i => exact kG hp
theorem zP6:∀ i,i ≤ out.length → ∀ k,k < i → at0 (cl p n out pv v i) (pv k) = 0:=by
 have _:=hn;have _:=hv
 have h7:=hp.pos
 intro i
 induction i with
 | zero => intro _ k hk;omega
 | succ i ih =>
  intro hi k hk
  have hlt:=h.lt k (by omega)
  rw [cl,vE,yE hlt]
  rcases Nat.lt_or_ge k i with g | g
  ·have h1:=ih (by omega) k g
   have h2:=h.off k i (by omega) (by omega) (by omega)
   simp only [ent] at h2
   rw [h1,h2];simp
  ·have hki:k = i:=by omega
   subst hki
   have h2:=h.one k (by omega)
   simp only [ent] at h2
   rw [h2,Int.mul_one,show at0 (cl p n out pv v k) (pv k) + (p - at0 (cl p n out pv v k) (pv k)) = p from by omega,Int.emod_self]
theorem zMC:∀ i,i ≤ out.length → ∃ cf:Nat → Int,∀ j,j < n → at0 (cl p n out pv v i) j % p = (at0 v j + S out.length fun k => cf k * ent out k j) % p:=by
 have _:=hp;have _:=h;have _:=hv
 have _:=hn
 intro i
 induction i with
 | zero => intro _;exact ⟨fun _ => 0,fun j _ => by rw [wL (g:=fun _ => 0) (fun i _ => by simp),jE,Int.add_zero];rfl⟩
 | succ i ih =>
  intro hi
  obtain ⟨cf,hcf⟩:=ih (by omega)
  refine ⟨fun k => cf k + (if k = i then p - at0 (cl p n out pv v i) (pv i) else 0),fun j hj => ?_⟩
  have e1:(S out.length fun k => (cf k + (if k = i then p - at0 (cl p n out pv v i) (pv i) else 0)) * ent out k j) = (S out.length fun k => cf k * ent out k j) + (p - at0 (cl p n out pv v i) (pv i)) * ent out i j:=by
   rw [wL (g:=fun k => cf k * ent out k j + (if k = i then p - at0 (cl p n out pv v i) (pv i) else 0) * ent out k j) (fun k _ => by rw [Int.add_mul]),zJz,zA6 (f:=fun k => (if k = i then p - at0 (cl p n out pv v i) (pv i) else 0) * ent out k j) (k:=i) (by omega) (fun k _ hk => by simp [hk])]
   simp
  rw [e1,cl,vE,yE hj,Int.emod_emod,← Int.add_assoc,Int.add_emod,hcf j hj,← Int.add_emod]
theorem zCK (hm:out.length ≤ 100000):f_W p out v = some (cl p n out pv v out.length):=by
 have h7:=hp.pos
 unfold f_W
 rw [tD (by rw [hv.1];omega),bs]
 have:=zP (body:=zRd p out) (r:=cl p n out pv v out.length) (fun i => (cl p n out pv v i,(i:Int))) out.length (fun i hi => by
  have hr:=zBG hp hn h hv i
  have ho:=h.row i hi
  have hlt:=h.lt i hi
  have hone:=h.one i hi
  have hlow:=h.low i hi
  simp only [ent] at hone hlow
  have he:=hr.2 (pv i) hlt
  unfold zRd
  simp only
  rw [yO hi,zH,yC [] hi,bs,zEN ho.1 (by omega) hlt hlow (by rw [hone];decide),bs,hr.1,yO hlt,zH,yD (by rw [hr.1];exact hlt),bs]
  by_cases hz:at0 (cl p n out pv v i) (pv i) = 0
  ·rw [jJ hz,zF,zC (by omega) (by omega),bs,cs,cl,hz,Int.sub_zero,zUx hp hn hr]
  ·rw [sS hz,zH,bs,zC (by omega) (by omega),bs,bs,vY hp hr ho ⟨by omega,by omega⟩ (by omega),bs,zC (by omega) (by omega),bs,cs]
   rfl) (by
  unfold zRd
  simp only
  rw [yY,zF])
 rw [show ((0:Nat):Int) = 0 from rfl] at this
 simp only [cl] at this
 rw [this,bs]
end
end Go.Pl
