/- The program's PushCocycle returns what the reference's returns, for all arguments; no conditions. -/
import Derived.Test.YtnggaddopliclaaGreatAbB
import Derived.Test.YtnggaddopliclaaGreatWF
namespace Go.Pc
abbrev Vec:=List Int
structure Lvl where
 o:Int
 w:Vec
 cs:List Vec
abbrev Pcp:=List Lvl
def zeros (n:Nat):Vec:=List.replicate n 0
def iter {α:Type}:Nat → (α → α) → α → α
 | 0,_,x => x
 | n + 1,f,x => iter n f (f x)
theorem vA {α:Type} (f:α → α):∀ (n:Nat) (x:α),iter (n + 1) f x = f (iter n f x)
 | 0,_ => rfl
 | n + 1,x => by rw [iter,vA f n (f x)];rfl
theorem zCB {α:Type} (f:α → α) (a:Nat):∀ (b:Nat) (x:α),iter (a + b) f x = iter a f (iter b f x)
 | 0,_ => rfl
 | b + 1,x => by
  show iter (a + b) f (f x) = _
  rw [zCB f a b (f x)];rfl
def img {α:Type} (m:α → α → α):List α → Vec → α → α
 | c :: cs,x :: xs,acc => img m cs xs (iter x.toNat (fun v => m v c) acc)
 | _,_,acc => acc
def V:Pcp → Vec → Prop
 | [],v => v = []
 | l :: P,v => match v with
  | [] => False
  | a :: x => (0 ≤ a ∧ a < l.o) ∧ V P x
def mul:Pcp → Vec → Vec → Vec
 | l :: P,a :: x,b :: y =>
  let r:=mul P (iter b.toNat (fun v => img (mul P) l.cs v (zeros P.length)) x) y
  if a + b ≥ l.o then (a + b - l.o) :: mul P l.w r else (a + b) :: r
 | _,_,_ => []
def Ok:Pcp → Prop
 | [] => True
 | l :: P => 1 < l.o ∧ V P l.w ∧ l.cs.length = P.length ∧ (∀ c ∈ l.cs,V P c) ∧ Ok P
structure Mon {α:Type} (S:α → Prop) (m:α → α → α) (e:α):Prop where
 cl:∀ {a b},S a → S b → S (m a b)
 ein:S e
 assoc:∀ {a b c},S a → S b → S c → m (m a b) c = m a (m b c)
 onel:∀ {a},S a → m e a = a
 oner:∀ {a},S a → m a e = a
structure Grp {α:Type} (S:α → Prop) (m:α → α → α) (e:α):Prop extends Mon S m e where
 inv:∀ {a},S a → ∃ b,S b ∧ m a b = e
theorem Grp.invl {α:Type} {S:α → Prop} {m:α → α → α} {e:α} (h:Grp S m e) {a:α} (ha:S a):∃ b,S b ∧ m a b = e ∧ m b a = e:=by
 obtain ⟨b,hb,h1⟩:=h.inv ha
 obtain ⟨c,hc,h2⟩:=h.inv hb
 refine ⟨b,hb,h1,?_⟩
 have:a = c:=by
  rw [← h.oner ha,← h2,← h.assoc ha hb hc,h1,h.onel hc]
 rw [this];exact h2
theorem Grp.cancel_l {α:Type} {S:α → Prop} {m:α → α → α} {e:α} (h:Grp S m e) {a b c:α} (ha:S a) (hb:S b) (hc:S c) (hh:m a b = m a c):b = c:=by
 obtain ⟨d,hd,_,h2⟩:=h.invl ha
 rw [← h.onel hb,← h.onel hc,← h2,h.assoc hd ha hb,h.assoc hd ha hc,hh]
section
variable {α:Type} {S:α → Prop} {m:α → α → α} {e:α}
def pw (m:α → α → α) (e:α) (x:α) (k:Nat):α:=iter k (fun v => m v x) e
theorem uL (h:Mon S m e) {x:α} (hx:S x):∀ k,S (pw m e x k)
 | 0 => h.ein
 | k + 1 => by rw [pw,vA];exact h.cl (uL h hx k) hx
theorem wU {f:α → α} (hf:∀ a,S a → S (f a)):∀ (k:Nat) {x:α},S x → S (iter k f x)
 | 0,_,hx => hx
 | k + 1,_,hx => wU hf k (hf _ hx)
theorem zCC (h:Mon S m e) {x a:α} (hx:S x) (ha:S a):∀ k,iter k (fun v => m v x) a = m a (pw m e x k)
 | 0 => (h.oner ha).symm
 | k + 1 => by
  rw [vA,zCC h hx ha k]
  show _ = m a (iter (k + 1) (fun v => m v x) e)
  rw [vA]
  exact h.assoc ha (uL h hx k) hx
theorem zEU (h:Mon S m e) {x:α} (hx:S x) (a b:Nat):pw m e x (a + b) = m (pw m e x a) (pw m e x b):=by
 rw [Nat.add_comm,pw,zCB,← zCC h hx (uL h hx a) b];rfl
theorem zNm (h:Mon S m e) {x:α} (hx:S x):pw m e x 1 = x:=h.onel hx
theorem zNn (h:Mon S m e) {x:α} (hx:S x) (k:Nat):pw m e x (k + 1) = m x (pw m e x k):=by
 rw [Nat.add_comm,zEU h hx 1 k,zNm h hx]
theorem tZ (h:∀ {a b},S a → S b → S (m a b)):∀ (cs:List α) (x:Vec) {a:α},(∀ c ∈ cs,S c) → S a → S (img m cs x a)
 | c :: cs,x :: xs,_,hc,ha => by
  simp only [img]
  exact tZ h cs xs (fun c h => hc c (by simp [h])) (wU (fun a ha => h ha (hc c (by simp))) _ ha)
 | [],_,_,_,ha => by simpa [img] using ha
 | _ :: _,[],_,_,ha => by simpa [img] using ha
theorem zDk (h:Mon S m e) (cs:List α) (x:Vec) {a:α} (hc:∀ c ∈ cs,S c) (ha:S a):S (img m cs x a):=tZ h.cl cs x hc ha
theorem zCD (h:Mon S m e):∀ (cs:List α) (x:Vec) {a:α},(∀ c ∈ cs,S c) → S a → img m cs x a = m a (img m cs x e)
 | c :: cs,x :: xs,a,hc,ha => by
  have h1:S c:=hc c (by simp)
  have h2:∀ c ∈ cs,S c:=fun c h => hc c (by simp [h])
  simp only [img]
  rw [zCC h h1 ha,zCD h cs xs h2 (h.cl ha (uL h h1 _)),zCC h h1 h.ein,zCD h cs xs h2 (h.cl h.ein (uL h h1 _)),h.onel (uL h h1 _),
   h.assoc ha (uL h h1 _) (zDk h cs xs h2 h.ein)]
 | [],_,a,_,ha => by simp [img,h.oner ha]
 | _ :: _,[],a,_,ha => by simp [img,h.oner ha]
theorem tL (h:Mon S m e) {c:α} {cs:List α} {x:Int} {xs:Vec} (hc:S c) (hcs:∀ c ∈ cs,S c):img m (c :: cs) (x :: xs) e = m (pw m e c x.toNat) (img m cs xs e):=by
 simp only [img]
 rw [zCD h cs xs hcs (wU (fun a ha => h.cl ha hc) _ h.ein)]
 rfl
theorem kS (m:α → α → α):∀ (cs:List α) (n:Nat) (a:α),img m cs (zeros n) a = a
 | [],_,_ => by simp [img]
 | _ :: _,0,_ => by simp [zeros,img]
 | c :: cs,n + 1,a => by
  simp only [zeros,List.replicate_succ,img,Int.toNat_zero,iter]
  exact kS m cs n a
theorem zEV (h:Mon S m e) {g:α} (hg:S g):∀ (cs ds:List α) (x:Vec),(∀ c ∈ cs,S c) → (∀ c ∈ ds,S c) → cs.length = ds.length → (∀ (k:Nat) c d,cs[k]? = some c → ds[k]? = some d → m c g = m g d) → m (img m cs x e) g = m g (img m ds x e)
 | [],[],x,_,_,_,_ => by simp [img,h.onel hg,h.oner hg]
 | c :: cs,d :: ds,[],_,_,_,_ => by simp [img,h.onel hg,h.oner hg]
 | c :: cs,d :: ds,x :: xs,hc,hd,hl,hp => by
  have hc0:S c:=hc c (by simp)
  have hd0:S d:=hd d (by simp)
  have hcs:∀ c ∈ cs,S c:=fun c h => hc c (by simp [h])
  have hds:∀ c ∈ ds,S c:=fun c h => hd c (by simp [h])
  have key:∀ k,m (pw m e c k) g = m g (pw m e d k):=by
   intro k
   induction k with
   | zero => simp [pw,iter,h.onel hg,h.oner hg]
   | succ k ih =>
    have h0:m c g = m g d:=hp 0 c d rfl rfl
    rw [pw,vA,pw,vA]
    show m (m (pw m e c k) c) g = m g (m (pw m e d k) d)
    rw [h.assoc (uL h hc0 k) hc0 hg,h0,← h.assoc (uL h hc0 k) hg hd0,ih,h.assoc hg (uL h hd0 k) hd0]
  rw [tL h hc0 hcs,tL h hd0 hds,h.assoc (uL h hc0 _) (zDk h _ _ hcs h.ein) hg,zEV h hg cs ds xs hcs hds (by simpa using hl) (fun k c d h1 h2 => hp (k + 1) c d (by simpa using h1) (by simpa using h2)),
   ← h.assoc (uL h hc0 _) hg (zDk h _ _ hds h.ein),key,h.assoc hg (uL h hd0 _) (zDk h _ _ hds h.ein)]
theorem zKI {β:Type} {T:β → Prop} {n:β → β → β} {f:β} (h:Mon S m e) (h':Mon T n f) (φ:α → β) (hin:∀ a,S a → T (φ a)) (h1:φ e = f) (hm:∀ a b,S a → S b → φ (m a b) = n (φ a) (φ b)):∀ (cs:List α) (x:Vec),(∀ c ∈ cs,S c) → φ (img m cs x e) = img n (cs.map φ) x f
 | [],_,_ => by simp [img,h1]
 | c :: cs,[],_ => by simp [img,h1]
 | c :: cs,x :: xs,hc => by
  have hc0:S c:=hc c (by simp)
  have hcs:∀ c ∈ cs,S c:=fun c h => hc c (by simp [h])
  have key:∀ k,φ (pw m e c k) = pw n f (φ c) k:=by
   intro k
   induction k with
   | zero => simp [pw,iter,h1]
   | succ k ih =>
    rw [pw,vA,pw,vA]
    show φ (m (pw m e c k) c) = n (pw n f (φ c) k) (φ c)
    rw [hm _ _ (uL h hc0 k) hc0,ih]
  rw [tL h hc0 hcs,List.map_cons,tL h' (hin c hc0) (by simp only [List.mem_map];rintro _ ⟨c,hc',rfl⟩;exact hin c (hcs c hc')),hm _ _ (uL h hc0 _) (zDk h _ _ hcs h.ein),key,zKI h h' φ hin h1 hm cs xs hcs]
end
theorem wH:∀ {P:Pcp},Ok P → V P (zeros P.length)
 | [],_ => rfl
 | l :: P,h => by
  simp only [Ok] at h
  simp only [List.length_cons,zeros,List.replicate_succ,V]
  exact ⟨by omega,wH h.2.2.2.2⟩
theorem xE:∀ {P:Pcp},Ok P → ∀ {x y:Vec},V P x → V P y → V P (mul P x y)
 | [],_,_,_,hx,hy => by simp [mul,V]
 | l :: P,h,[],_,hx,_ => by simp [V] at hx
 | l :: P,h,_ :: _,[],_,hy => by simp [V] at hy
 | l :: P,h,a :: x,b :: y,hx,hy => by
  simp only [Ok] at h
  simp only [V] at hx hy
  have h1:∀ v,V P v → V P (img (mul P) l.cs v (zeros P.length)):=fun v hv => tZ (xE h.2.2.2.2) l.cs v h.2.2.2.1 (wH h.2.2.2.2)
  have h2:=xE h.2.2.2.2 (wU h1 b.toNat hx.2) hy.2
  simp only [mul]
  split
  ·exact ⟨by omega,xE h.2.2.2.2 h.2.1 h2⟩
  ·exact ⟨by omega,h2⟩
def Rel {α:Type} (m:α → α → α) (e:α):Pcp → List α → Prop
 | [],s => s = []
 | l :: P,s => match s with
  | [] => False
  | g :: s => pw m e g l.o.toNat = img m s l.w e ∧ (∀ (k:Nat) c d,s[k]? = some c → l.cs[k]? = some d → m c g = m g (img m s d e)) ∧ Rel m e P s
section
variable {α:Type} {S:α → Prop} {m:α → α → α} {e:α}
theorem zTx (h:Mon S m e):∀ (P:Pcp) (s:List α),Ok P → (∀ g ∈ s,S g) → Rel m e P s → ∀ x y,V P x → V P y → img m s (mul P x y) e = m (img m s x e) (img m s y e)
 | [],s,_,_,hr,x,y,hx,hy => by
  simp only [Rel] at hr
  subst hr
  simp [img,h.onel h.ein]
 | l :: P,[],_,_,hr,_,_,_,_ => by simp [Rel] at hr
 | l :: P,g :: s,_,_,_,[],_,hx,_ => by simp [V] at hx
 | l :: P,g :: s,_,_,_,_ :: _,[],_,hy => by simp [V] at hy
 | l :: P,g :: s,hk,hs,hr,a :: x,b :: y,hx,hy => by
  simp only [Ok] at hk
  simp only [Rel] at hr
  simp only [V] at hx hy
  obtain ⟨ho,hw,hcl,hcs,hkP⟩:=hk
  obtain ⟨hr1,hr2,hr3⟩:=hr
  have hg:S g:=hs g (by simp)
  have hss:∀ c ∈ s,S c:=fun c hc => hs c (by simp [hc])
  have hlen:s.length = P.length:=by
   clear hr1 hr2 hx hy hw hcl hcs hs hss
   induction P generalizing s with
   | nil => simp only [Rel] at hr3;simp [hr3]
   | cons l P ih =>
    cases s with
    | nil => simp [Rel] at hr3
    | cons c s => simp only [Rel] at hr3;simp only [Ok] at hkP;simp [ih s hkP.2.2.2.2 hr3.2.2]
  have ih:=zTx h P s hkP hss hr3
  have hφ:∀ v,S (img m s v e):=fun v => zDk h s v hss h.ein
  have hmP:∀ {a b},V P a → V P b → V P (mul P a b):=xE hkP
  have hσin:∀ v,V P v → V P (img (mul P) l.cs v (zeros P.length)):=fun v hv => tZ hmP l.cs v hcs (wH hkP)
  have hσ:∀ v,V P v → m (img m s v e) g = m g (img m s (img (mul P) l.cs v (zeros P.length)) e):=by
   intro v hv
   have key:∀ (cs:List Vec) (v:Vec) (acc:Vec),(∀ c ∈ cs,V P c) → V P acc → img m s (img (mul P) cs v acc) e = img m (cs.map fun c => img m s c e) v (img m s acc e):=by
    intro cs
    induction cs with
    | nil => intro v acc _ _;simp [img]
    | cons c cs ihc =>
     intro v acc hc hacc
     cases v with
     | nil => simp [img]
     | cons z v =>
      have hc0:V P c:=hc c (by simp)
      have it:∀ k acc,V P acc → img m s (iter k (fun v => mul P v c) acc) e = iter k (fun v => m v (img m s c e)) (img m s acc e):=by
       intro k
       induction k with
       | zero => intro acc _;rfl
       | succ k ihk =>
        intro acc hacc
        simp only [iter]
        rw [ihk _ (hmP hacc hc0),ih _ _ hacc hc0]
      simp only [img,List.map_cons]
      rw [ihc v _ (fun c h => hc c (by simp [h])) (wU (fun a ha => hmP ha hc0) _ hacc),it _ _ hacc]
   rw [key l.cs v (zeros P.length) hcs (wH hkP),kS]
   refine zEV h hg s _ v hss (by simp only [List.mem_map];rintro _ ⟨c,_,rfl⟩;exact hφ c) (by simp [hlen,hcl]) ?_
   intro k c d hc hd
   simp only [List.getElem?_map,Option.map_eq_some_iff] at hd
   obtain ⟨d',hd',rfl⟩:=hd
   exact hr2 k c d' hc hd'
  have hσk:∀ k v,V P v → m (img m s v e) (pw m e g k) = m (pw m e g k) (img m s (iter k (fun v => img (mul P) l.cs v (zeros P.length)) v) e):=by
   intro k
   induction k with
   | zero => intro v _;simp [pw,iter,h.onel (hφ v),h.oner (hφ v)]
   | succ k ihk =>
    intro v hv
    rw [zNn h hg,← h.assoc (hφ v) hg (uL h hg k),hσ v hv,h.assoc hg (hφ _) (uL h hg k),ihk _ (hσin v hv),← h.assoc hg (uL h hg k) (hφ _)]
    rfl
  have hpa:=uL h hg a.toNat
  have hpb:=uL h hg b.toNat
  have hit:V P (iter b.toNat (fun v => img (mul P) l.cs v (zeros P.length)) x):=wU hσin _ hx.2
  have hmain:m (img m (g :: s) (a :: x) e) (img m (g :: s) (b :: y) e) = m (pw m e g (a.toNat + b.toNat)) (img m s (mul P (iter b.toNat (fun v => img (mul P) l.cs v (zeros P.length)) x) y) e):=by
   rw [tL h hg hss,tL h hg hss,h.assoc hpa (hφ x) (h.cl hpb (hφ y)),← h.assoc (hφ x) hpb (hφ y),hσk _ _ hx.2,h.assoc hpb (hφ _) (hφ y),← ih _ _ hit hy.2,← h.assoc hpa hpb (hφ _),zEU h hg]
  rw [hmain]
  simp only [mul]
  split
  ·rename_i hge
   rw [tL h hg hss,ih _ _ hw (hmP hit hy.2),← hr1,← h.assoc (uL h hg _) (uL h hg _) (hφ _),← zEU h hg]
   congr 2
   omega
  ·rw [tL h hg hss]
   congr 2
   omega
end
def wL (n j:Nat):Vec:=(zeros n).set j 1
def sig (P:Pcp) (l:Lvl) (v:Vec):Vec:=img (mul P) l.cs v (zeros P.length)
def vB:Pcp → Prop
 | [] => True
 | l :: P => vB P ∧ Rel (mul P) (zeros P.length) P l.cs ∧ sig P l l.w = l.w ∧ ∀ j,j < P.length → mul P l.w (iter l.o.toNat (sig P l) (wL P.length j)) = mul P (wL P.length j) l.w
theorem zGg (n:Nat):wL (n + 1) 0 = 1 :: zeros n:=rfl
theorem zL4 (n j:Nat):wL (n + 1) (j + 1) = 0 :: wL n j:=rfl
def xJ (n:Nat):List Vec:=(List.range n).map (wL n)
theorem zJk (n:Nat):xJ (n + 1) = (1 :: zeros n) :: (xJ n).map (0 :: ·):=by
 simp only [xJ,List.range_succ_eq_map,List.map_cons,List.map_map,zGg]
 congr 1
theorem zCd:∀ {P:Pcp},Ok P → ∀ {j:Nat},j < P.length → V P (wL P.length j)
 | [],_,_,hj => by simp at hj
 | l :: P,h,0,_ => by
  simp only [Ok] at h
  rw [List.length_cons,zGg];simp only [V];exact ⟨by omega,wH h.2.2.2.2⟩
 | l :: P,h,j + 1,hj => by
  simp only [Ok] at h
  rw [List.length_cons,zL4];simp only [V];exact ⟨by omega,zCd h.2.2.2.2 (by simpa using hj)⟩
theorem zCe {l:Lvl} {P:Pcp} (h:Ok (l :: P)) {v:Vec} (_hv:V P v):V P (sig P l v):=by
 simp only [Ok] at h
 exact tZ (xE h.2.2.2.2) l.cs v h.2.2.2.1 (wH h.2.2.2.2)
theorem yK (l:Lvl) (P:Pcp) (a b:Int) (x y:Vec):mul (l :: P) (a :: x) (b :: y) = if a + b ≥ l.o then (a + b - l.o) :: mul P l.w (mul P (iter b.toNat (sig P l) x) y) else (a + b) :: mul P (iter b.toNat (sig P l) x) y:=rfl
theorem zL5 {n k:Nat} {c:Vec} (h:(xJ n)[k]? = some c):k < n ∧ c = wL n k:=by
 simp only [xJ,List.getElem?_map,Option.map_eq_some_iff] at h
 obtain ⟨j,hj,rfl⟩:=h
 obtain ⟨hk,rfl⟩:=List.getElem?_eq_some_iff.1 hj
 simp at hk
 exact ⟨hk,by simp⟩
theorem normal:∀ (P:Pcp),Ok P → (∀ Q,Q <:+ P → Mon (V Q) (mul Q) (zeros Q.length)) → ∀ x,V P x → img (mul P) (xJ P.length) x (zeros P.length) = x
 | [],_,_,x,hx => by simp only [V] at hx;subst hx;simp [xJ,img,zeros]
 | l :: P,_,_,[],hx => by simp [V] at hx
 | l :: P,h,hM,a :: x,hx => by
  have hMl:=hM (l :: P) (List.suffix_refl _)
  have hMP:=hM P (List.suffix_cons _ _)
  have h':=h
  simp only [Ok] at h
  simp only [V] at hx
  rw [List.length_cons,zJk]
  have hz:V P (zeros P.length):=wH h.2.2.2.2
  have hu0:V (l :: P) (1 :: zeros P.length):=by simp only [V];exact ⟨by omega,hz⟩
  have hus:∀ c ∈ (xJ P.length).map (0 :: ·),V (l :: P) c:=by
   intro c hc
   simp only [xJ,List.map_map,List.mem_map,List.mem_range] at hc
   obtain ⟨j,hj,rfl⟩:=hc
   simp only [Function.comp,V]
   exact ⟨by omega,zCd h.2.2.2.2 hj⟩
  have hzl:V (l :: P) (zeros (P.length + 1)):=wH (P:=l :: P) h'
  rw [show zeros (P.length + 1) = zeros (l :: P).length from rfl]
  rw [tL hMl hu0 hus]
  have sz:∀ k:Nat,iter k (sig P l) (zeros P.length) = zeros P.length:=by
   intro k
   induction k with
   | zero => rfl
   | succ k ih => simp only [iter];rw [show sig P l (zeros P.length) = zeros P.length from kS _ _ _ _];exact ih
  have h1:∀ k:Nat,(k:Int) < l.o → pw (mul (l :: P)) (zeros (l :: P).length) (1 :: zeros P.length) k = (k:Int) :: zeros P.length:=by
   intro k
   induction k with
   | zero => intro _;rfl
   | succ k ih =>
    intro hk
    rw [pw,vA]
    show mul (l :: P) (pw (mul (l :: P)) (zeros (l :: P).length) (1 :: zeros P.length) k) (1 :: zeros P.length) = _
    rw [ih (by omega),yK,if_neg (by omega)]
    rw [sz,hMP.onel hz]
    rfl
  have h2:∀ (cs:List Vec) (y acc:Vec),(∀ c ∈ cs,V P c) → V P acc → img (mul (l :: P)) (cs.map (0 :: ·)) y (0 :: acc) = 0 :: img (mul P) cs y acc:=by
   intro cs
   induction cs with
   | nil => intro y acc _ _;simp [img]
   | cons c cs ih =>
    intro y acc hc hacc
    cases y with
    | nil => simp [img]
    | cons z y =>
     have hc0:V P c:=hc c (by simp)
     have it:∀ (k:Nat) (acc:Vec),V P acc → iter k (fun v => mul (l :: P) v (0 :: c)) (0 :: acc) = 0 :: iter k (fun v => mul P v c) acc:=by
      intro k
      induction k with
      | zero => intro _ _;rfl
      | succ k ihk =>
       intro acc hacc
       simp only [iter]
       rw [yK,if_neg (by omega)]
       exact ihk _ (xE h.2.2.2.2 hacc hc0)
     simp only [List.map_cons,img]
     rw [it _ _ hacc,ih _ _ (fun c h => hc c (by simp [h])) (wU (fun a ha => xE h.2.2.2.2 ha hc0) _ hacc)]
  have hun:∀ c ∈ xJ P.length,V P c:=by
   intro c hc
   simp only [xJ,List.mem_map,List.mem_range] at hc
   obtain ⟨j,hj,rfl⟩:=hc
   exact zCd h.2.2.2.2 hj
  rw [h1 a.toNat (by omega),show zeros (l :: P).length = 0 :: zeros P.length from rfl,h2 _ _ _ hun hz,normal P h.2.2.2.2 (fun Q hQ => hM Q (hQ.trans (List.suffix_cons _ _))) x hx.2,yK,if_neg (by omega)]
  simp only [Int.toNat_zero,iter]
  rw [hMP.onel hx.2]
  congr 1
  omega
theorem zKJ:∀ (P:Pcp),Ok P → vB P → Grp (V P) (mul P) (zeros P.length)
 | [],_,_ => by
  refine ⟨⟨fun _ _ => rfl,rfl,fun _ _ _ => rfl,?_,?_⟩,fun ha => ⟨[],rfl,rfl⟩⟩ <;>
  ·intro a ha
   simp only [V] at ha;subst ha;rfl
 | l :: P,h,hc => by
  have h':=h
  simp only [Ok] at h
  simp only [vB] at hc
  obtain ⟨ho,hw,hcl,hcs,hP⟩:=h
  obtain ⟨hcP,hrel,hfix,hinn⟩:=hc
  have N:=zKJ P hP hcP
  have hM:∀ Q,Q <:+ P → Mon (V Q) (mul Q) (zeros Q.length):=by
   intro Q hQ
   obtain ⟨t,ht⟩:=hQ
   have:Ok Q ∧ vB Q:=by
    clear N hw hcl hcs hrel hfix hinn h'
    induction t generalizing P with
    | nil => simp at ht;subst ht;exact ⟨hP,hcP⟩
    | cons a t ih =>
     simp at ht;subst ht
     simp only [Ok] at hP
     simp only [vB] at hcP
     exact ih (t ++ Q) hP.2.2.2.2 hcP.1 rfl
   have hlt:SizeOf.sizeOf Q ≤ SizeOf.sizeOf P:=by
    rw [← ht]
    clear N hw hcl hcs hrel hfix hinn h' hP hcP ht this
    induction t with
    | nil => simp
    | cons a t ih => simp only [List.cons_append,List.cons.sizeOf_spec];omega
   exact (zKJ Q this.1 this.2).toMon
  have hz:V P (zeros P.length):=wH hP
  have σin:∀ v,V P v → V P (sig P l v):=fun _ hv => zCe h' hv
  have σhom:∀ x y,V P x → V P y → sig P l (mul P x y) = mul P (sig P l x) (sig P l y):=fun x y hx hy => zTx N.toMon P l.cs hP hcs hrel x y hx hy
  have σz:sig P l (zeros P.length) = zeros P.length:=kS _ _ _ _
  have itin:∀ (k:Nat) v,V P v → V P (iter k (sig P l) v):=fun k v hv => wU σin k hv
  have ithom:∀ (k:Nat) x y,V P x → V P y → iter k (sig P l) (mul P x y) = mul P (iter k (sig P l) x) (iter k (sig P l) y):=by
   intro k
   induction k with
   | zero => intro _ _ _ _;rfl
   | succ k ih => intro x y hx hy;simp only [iter];rw [σhom x y hx hy,ih _ _ (σin x hx) (σin y hy)]
  have itz:∀ k:Nat,iter k (sig P l) (zeros P.length) = zeros P.length:=by
   intro k
   induction k with
   | zero => rfl
   | succ k ih => simp only [iter];rw [σz];exact ih
  have itw:∀ k:Nat,iter k (sig P l) l.w = l.w:=by
   intro k
   induction k with
   | zero => rfl
   | succ k ih => simp only [iter];rw [hfix];exact ih
  have hun:∀ c ∈ xJ P.length,V P c:=by
   intro c hc
   simp only [xJ,List.mem_map,List.mem_range] at hc
   obtain ⟨j,hj,rfl⟩:=hc
   exact zCd hP hj
  have inner:∀ x,V P x → mul P x l.w = mul P l.w (iter l.o.toNat (sig P l) x):=by
   intro x hx
   have hnf:=normal P hP hM x hx
   have hmap:=zKI N.toMon N.toMon (iter l.o.toNat (sig P l)) (fun a ha => itin _ a ha) (itz _) (fun a b ha hb => ithom _ a b ha hb) (xJ P.length) x hun
   rw [← hnf,hmap]
   refine zEV N.toMon hw _ _ x hun (by simp only [List.mem_map];rintro _ ⟨c,hc,rfl⟩;exact itin _ c (hun c hc)) (by simp) ?_
   intro k c d hc hd
   rw [List.getElem?_map,Option.map_eq_some_iff] at hd
   obtain ⟨c',hc',rfl⟩:=hd
   rw [hc] at hc'
   simp at hc';subst hc'
   obtain ⟨hk,rfl⟩:=zL5 hc
   exact (hinn k hk).symm
  have e:∀ (x y z:Vec) (b c:Int),V P x → V P y → V P z → 0 ≤ b → 0 ≤ c →
    mul P (iter c.toNat (sig P l) (mul P (iter b.toNat (sig P l) x) y)) z = mul P (iter (b + c).toNat (sig P l) x) (mul P (iter c.toNat (sig P l) y) z) ∧
    mul P (iter c.toNat (sig P l) (mul P l.w (mul P (iter b.toNat (sig P l) x) y))) z = mul P l.w (mul P (iter (b + c).toNat (sig P l) x) (mul P (iter c.toNat (sig P l) y) z)) ∧
    (l.o ≤ b + c → mul P (iter (b + c - l.o).toNat (sig P l) x) (mul P l.w (mul P (iter c.toNat (sig P l) y) z)) = mul P l.w (mul P (iter (b + c).toNat (sig P l) x) (mul P (iter c.toNat (sig P l) y) z))):=by
   intro x y z b c hx hy hz hb hcc
   have hbx:=itin b.toNat x hx
   have hcy:=itin c.toNat y hy
   have hbc:iter c.toNat (sig P l) (iter b.toNat (sig P l) x) = iter (b + c).toNat (sig P l) x:=by
    rw [← zCB];congr 1;omega
   have hbcx:=itin (b + c).toNat x hx
   have e1:mul P (iter c.toNat (sig P l) (mul P (iter b.toNat (sig P l) x) y)) z = mul P (iter (b + c).toNat (sig P l) x) (mul P (iter c.toNat (sig P l) y) z):=by
    rw [ithom _ _ _ hbx hy,hbc,N.assoc hbcx hcy hz]
   refine ⟨e1,?_,?_⟩
   ·rw [ithom _ _ _ hw (N.cl hbx hy),itw,N.assoc hw (itin _ _ (N.cl hbx hy)) hz,e1]
   ·intro hge
    have hcyz:=N.cl hcy hz
    rw [← N.assoc (itin _ x hx) hw hcyz,inner _ (itin _ x hx),← zCB,N.assoc hw (itin _ x hx) hcyz]
    congr 3
    omega
  refine ⟨⟨fun ha hb => xE h' ha hb,wH h',?_,?_,?_⟩,?_⟩
  ·intro A B C hA hB hC
   match A,B,C,hA,hB,hC with
   | a :: x,b :: y,c :: z,hA,hB,hC =>
    simp only [V] at hA hB hC
    obtain ⟨e1,e2,e3⟩:=e x y z b c hA.2 hB.2 hC.2 hB.1.1 hC.1.1
    by_cases c1:a + b ≥ l.o <;> by_cases c2:b + c ≥ l.o
    ·rw [yK,if_pos c1,yK l P b c,if_pos c2,yK,yK,e2,e3 c2]
     by_cases c3:a + b - l.o + c ≥ l.o
     ·rw [if_pos c3,if_pos (by omega)];congr 1;omega
     ·rw [if_neg c3,if_neg (by omega)];congr 1;omega
    ·rw [yK,if_pos c1,yK l P b c,if_neg c2,yK,yK,e2,if_neg (by omega),if_pos (by omega)]
     congr 1;omega
    ·rw [yK,if_neg c1,yK l P b c,if_pos c2,yK,yK,e1,e3 c2,if_pos (by omega),if_neg (by omega)]
     congr 1;omega
    ·rw [yK,if_neg c1,yK l P b c,if_neg c2,yK,yK,e1]
     by_cases c3:a + b + c ≥ l.o
     ·rw [if_pos c3,if_pos (by omega)];congr 1;omega
     ·rw [if_neg c3,if_neg (by omega)];congr 1;omega
  ·intro A hA
   match A,hA with
   | a :: x,hA =>
    simp only [V] at hA
    show mul (l :: P) (0 :: zeros P.length) (a :: x) = _
    rw [yK,if_neg (by omega),itz,N.onel hA.2,Int.zero_add]
  ·intro A hA
   match A,hA with
   | a :: x,hA =>
    simp only [V] at hA
    show mul (l :: P) (a :: x) (0 :: zeros P.length) = _
    rw [yK,if_neg (by omega)]
    simp only [Int.toNat_zero,iter]
    rw [N.oner hA.2,Int.add_zero]
  ·intro A hA
   match A,hA with
   | a :: x,hA =>
    simp only [V] at hA
    by_cases ha:a = 0
    ·obtain ⟨y,hy,h1⟩:=N.inv hA.2
     refine ⟨0 :: y,by simp only [V];exact ⟨by omega,hy⟩,?_⟩
     rw [yK,if_neg (by omega)]
     simp only [Int.toNat_zero,iter]
     rw [h1,ha];rfl
    ·have hx1:=itin (l.o - a).toNat x hA.2
     obtain ⟨y,hy,h1⟩:=N.inv (N.cl hw hx1)
     refine ⟨(l.o - a) :: y,by simp only [V];exact ⟨by omega,hy⟩,?_⟩
     rw [yK,if_pos (by omega),← N.assoc hw hx1 hy,h1,show a + (l.o - a) - l.o = 0 by omega]
     rfl
termination_by P => P
end Go.Pc

namespace Go.Pl
open Go Go.Ab
theorem bs {α β:Type} (x:α) (f:α → Option β):(some x).bind f = f x:=by simp only [Option.bind_some]
theorem zK {α:Type} (x y:α):cond true x y = x:=by simp only [cond_true]
theorem zG {α:Type} (x y:α):cond false x y = y:=by simp only [cond_false]
theorem zH {n:Int} (h1:-9223372036854775808 ≤ n) (h2:n ≤ 9223372036854775807):rng n = some n:=by
 unfold rng
 rw [if_pos]
 simp only [inR,Bool.and_eq_true,decide_eq_true_eq]
 omega
theorem uD {α:Type} (xs:List α) (i:Nat):ixO xs (i:Int) = xs[i]?:=by
 unfold ixO;rw [if_pos (by omega)];simp
theorem qQ {α:Type} {xs:List α} {i:Nat} (h:i < xs.length):ixO xs (i:Int) = some xs[i]:=by
 rw [uD];exact List.getElem?_eq_getElem h
theorem xF {n:Nat} (h:n ≤ 68719476736):yP (n:Int) = some n:=by
 unfold yP;rw [if_pos (by omega)];simp
theorem wA {α:Type} {xs ys:List α} (h:xs.length + ys.length ≤ 68719476736):wJ xs ys = some (xs ++ ys):=by
 unfold wJ;rw [if_pos h]
theorem zW {σ ρ:Type} {body:σ → Option (σ ⊕ ρ)} {r:ρ} (S:Nat → σ) (n:Nat) (h:∀ i,i < n → body (S i) = some (.inl (S (i + 1)))) (he:body (S n) = some (.inr r)):zJ body (S 0) = some r:=by
 have key:∀ k i,i + k = n → zJ body (S i) = some r:=by
  intro k
  induction k with
  | zero => intro i hi;rw [xK,show i = n from by omega,he]
  | succ k ih => intro i hi;rw [xK,h i (by omega)];exact ih (i + 1) (by omega)
 exact key n 0 (by omega)
theorem uN {σ ρ:Type} {body:σ → Option (σ ⊕ ρ)} {Q:ρ → Prop} (I:Nat → σ → Prop) (n:Nat) (h:∀ i s,i < n → I i s → (∃ s',body s = some (.inl s') ∧ I (i + 1) s') ∨ ∃ r,body s = some (.inr r) ∧ Q r)
  (he:∀ s,I n s → ∃ r,body s = some (.inr r) ∧ Q r) {s:σ} (h0:I 0 s):∃ r,zJ body s = some r ∧ Q r:=by
 have key:∀ k i s,i + k = n → I i s → ∃ r,zJ body s = some r ∧ Q r:=by
  intro k
  induction k with
  | zero =>
   intro i s hi hs
   obtain rfl:i = n:=by omega
   obtain ⟨r,h1,h2⟩:=he s hs
   exact ⟨r,by rw [xK,h1],h2⟩
  | succ k ih =>
   intro i s hi hs
   rcases h i s (by omega) hs with ⟨s',h1,h2⟩ | ⟨r,h1,h2⟩
   ·rw [xK,h1];exact ih (i + 1) s' (by omega) h2
   ·exact ⟨r,by rw [xK,h1],h2⟩
 exact key n 0 s (by omega) h0
def zKK {ρ:Type}:Option ρ → Unit ⊕ ρ
 | none => .inl ()
 | some r => .inr r
theorem cs (i:Nat):(i:Int) + 1 = ((i + 1:Nat):Int):=by omega
theorem zL6 {ρ:Type} {body:Int → Option (Int ⊕ (Unit ⊕ ρ))} (n:Nat) (t:Nat → Option ρ) (i0:Nat) (hn:i0 ≤ n)
  (h:∀ i,i0 ≤ i → i < n → (∀ j,i0 ≤ j → j < i → t j = none) → body (i:Int) = some (match t i with | none => .inl ((i + 1:Nat):Int) | some r => .inr (.inr r)))
  (he:(∀ j,i0 ≤ j → j < n → t j = none) → body (n:Int) = some (.inr (.inl ()))) :
  zJ body (i0:Int) = some (zKK ((List.range' i0 (n - i0)).findSome? t)):=by
 have key:∀ k i,i0 ≤ i → i + k = n → (∀ j,i0 ≤ j → j < i → t j = none) → zJ body (i:Int) = some (zKK ((List.range' i k).findSome? t)):=by
  intro k
  induction k with
  | zero =>
   intro i hi hk hp
   obtain rfl:i = n:=by omega
   rw [xK,he hp];rfl
  | succ k ih =>
   intro i hi hk hp
   rw [xK,h i hi (by omega) hp,List.range'_succ,List.findSome?_cons]
   cases ht:t i with
   | some r => rfl
   | none =>
    simp only
    exact ih (i + 1) (by omega) (by omega) fun j h1 h2 => by
     rcases Nat.lt_or_ge j i with h3 | h3
     ·exact hp j h1 h3
     ·rw [show j = i from by omega];exact ht
 exact key (n - i0) i0 (Nat.le_refl _) (by omega) fun j h1 h2 => by omega
theorem zNo {n:Nat} {b:Nat → Bool}:zKK ((List.range' 0 n).findSome? (fun i => if b i then none else some false)) = if (List.range n).all b then .inl () else .inr false:=by
 have key:∀ l:List Nat,zKK (l.findSome? (fun i => if b i then none else some false)) = if l.all b then .inl () else .inr false:=by
  intro l
  induction l with
  | nil => rfl
  | cons x l ih =>
   rw [List.findSome?_cons,List.all_cons]
   cases hb:b x
   ·rfl
   ·simpa using ih
 rw [key,List.range_eq_range']
theorem zL7 {body:Int → Option (Int ⊕ (Unit ⊕ Bool))} (n:Nat) (b:Nat → Bool)
  (h:∀ i,i < n → (∀ j,j < i → b j = true) → body (i:Int) = some (if b i then .inl ((i + 1:Nat):Int) else .inr (.inr false)))
  (he:(∀ j,j < n → b j = true) → body (n:Int) = some (.inr (.inl ()))) :
  zJ body 0 = some (if (List.range n).all b then .inl () else .inr false):=by
 have:=zL6 (body:=body) n (fun i => if b i then none else some false) 0 (Nat.zero_le _) (fun i _ hi hp => by
  rw [h i hi fun j hj => by
   have:=hp j (Nat.zero_le _) hj
   split at this
   ·assumption
   ·cases this]
  cases b i <;> rfl) (fun hp => he fun j hj => by
   have:=hp j (Nat.zero_le _) hj
   split at this
   ·assumption
   ·cases this)
 rw [Nat.sub_zero] at this
 exact this.trans (congrArg some (zNo (n:=n) (b:=b)))
theorem zNp {α:Type} {xs:List α} {z:α} {i:Nat} (h:i < xs.length):(xs.take i ++ List.replicate (xs.length - i) z).set i xs[i] = xs.take (i + 1) ++ List.replicate (xs.length - (i + 1)) z:=by
 have h1:(xs.take i).length = i:=by rw [List.length_take];omega
 rw [List.set_append_right _ _ (by omega),h1,Nat.sub_self,show xs.length - i = (xs.length - (i + 1)) + 1 from by omega,List.replicate_succ,List.set_cons_zero,List.take_succ_eq_append_getElem h]
 simp only [List.append_assoc,List.singleton_append]
theorem zGN {α:Type} {f:α → Option α} {body:List α × Int → Option ((List α × Int) ⊕ List α)} {x0:List α} {z:α}
  (hb:∀ s,body s = cond (decide (s.2 < (x0.length:Int))) ((ixO x0 s.2).bind fun v2 => (f v2).bind fun r3 => (ixO s.1 s.2).bind fun _ => (rng (s.2 + 1)).bind fun v5 => some (.inl (s.1.set s.2.toNat r3,v5))) (some (.inr s.1)))
  (hl:x0.length ≤ 68719476736) (hf:∀ x ∈ x0,f x = some x):zJ body (List.replicate x0.length z,0) = some x0:=by
 have:=zW (body:=body) (r:=x0) (fun i => (x0.take i ++ List.replicate (x0.length - i) z,(i:Int))) x0.length (fun i hi => by
  rw [hb]
  simp only [decide_eq_true (show ((i:Int)) < (x0.length:Int) from by omega),zK]
  rw [qQ hi,uD]
  simp only [bs,hf _ (List.getElem_mem hi)]
  rw [List.getElem?_eq_getElem (by simp;omega),bs,zH (by omega) (by omega),bs]
  simp only [Int.toNat_natCast,zNp hi,cs]) (by
  rw [hb]
  simp only [decide_eq_false (show ¬ ((x0.length:Int)) < (x0.length:Int) from by omega),zG,List.take_length,Nat.sub_self,List.replicate_zero,List.append_nil])
 simpa using this
theorem zP6 {α:Type} [BEq α] {t:α → α → Option Bool} {body:Int → Option (Int ⊕ (Unit ⊕ Bool))} {x y:List α}
  (hb:∀ i,body i = cond (decide (i < (x.length:Int))) ((ixO x i).bind fun v1 => (ixO y i).bind fun v2 => (t v1 v2).bind fun r3 => cond (!r3) (some (.inr (.inr false))) ((rng (i + 1)).bind fun v4 => some (.inl v4))) (some (.inr (.inl ()))))
  (hl:x.length ≤ 68719476736) (hxy:x.length = y.length) (ht:∀ u ∈ x,∀ v ∈ y,t u v = some (u == v)):zJ body 0 = some (if x == y then .inl () else .inr false):=by
 have h:=zL7 (body:=body) x.length (fun i => match x[i]?,y[i]? with | some u,some v => u == v | _,_ => true) (fun i hi _ => by
  have hi':i < y.length:=by omega
  rw [hb]
  simp only [decide_eq_true (show ((i:Int)) < (x.length:Int) from by omega),zK]
  rw [qQ hi,qQ hi']
  simp only [bs,ht _ (List.getElem_mem hi) _ (List.getElem_mem hi'),List.getElem?_eq_getElem hi,List.getElem?_eq_getElem hi']
  cases x[i] == y[i]
  ·rfl
  ·simp only [Bool.not_true,zG,if_true]
   rw [zH (by omega) (by omega),cs];rfl) (fun _ => by
  rw [hb]
  simp only [decide_eq_false (show ¬ ((x.length:Int)) < (x.length:Int) from by omega),zG])
 rw [h]
 congr 2
 have key:∀ (x y:List α),x.length = y.length → ((List.range x.length).all (fun i => match x[i]?,y[i]? with | some u,some v => u == v | _,_ => true)) = (x == y):=by
  intro x
  induction x with
  | nil => intro y hy;cases y with | nil => rfl | cons _ _ => simp at hy
  | cons u x ih =>
   intro y hy
   cases y with
   | nil => simp at hy
   | cons v y =>
    rw [List.length_cons,List.range_succ_eq_map,List.all_cons,List.all_map]
    simp only [List.getElem?_cons_zero,Function.comp_def,List.getElem?_cons_succ]
    rw [ih y (by simpa using hy)]
    rfl
 rw [key x y hxy]
theorem zGh {α:Type} [BEq α] {t:α → α → Option Bool} {f:Option Bool} {body:Int → Option (Int ⊕ (Unit ⊕ Bool))} {x y:List α}
  (hf:f = cond ((x.length:Int) != (y.length:Int)) (some false) ((zJ body 0).bind fun r => match r with | .inl _ => some true | .inr r => some r))
  (hb:∀ i,body i = cond (decide (i < (x.length:Int))) ((ixO x i).bind fun v1 => (ixO y i).bind fun v2 => (t v1 v2).bind fun r3 => cond (!r3) (some (.inr (.inr false))) ((rng (i + 1)).bind fun v4 => some (.inl v4))) (some (.inr (.inl ()))))
  (hl:x.length ≤ 68719476736) (ht:∀ u ∈ x,∀ v ∈ y,t u v = some (u == v)):f = some (x == y):=by
 rw [hf]
 by_cases hxy:x.length = y.length
 ·rw [zP6 hb hl hxy ht]
  have:((x.length:Int) != (y.length:Int)) = false:=by simp [hxy]
  rw [this]
  cases x == y <;> rfl
 ·have:((x.length:Int) != (y.length:Int)) = true:=by simp;omega
  rw [this]
  have h2:(x == y) = false:=by
   have key:∀ (x y:List α),x.length ≠ y.length → (x == y) = false:=by
    intro x
    induction x with
    | nil => intro y hy;cases y with | nil => simp at hy | cons _ _ => rfl
    | cons u x ih =>
     intro y hy
     cases y with
     | nil => rfl
     | cons v y =>
      show (u == v && x == y) = false
      rw [ih y (by simpa using hy),Bool.and_false]
   exact key x y hxy
  rw [h2];rfl
end Go.Pl

namespace Go.Pl
open Go Go.Ab
def sm {α:Type} (c:α → Nat):List α → Nat
 | [] => 0
 | x :: xs => c x + sm c xs
theorem zBn {α:Type} (c:α → Nat):∀ xs ys:List α,sm c (xs ++ ys) = sm c xs + sm c ys
 | [],ys => by simp [sm]
 | x :: xs,ys => by simp only [List.cons_append,sm,zBn c xs ys];omega
theorem zDZ {α:Type} (c:α → Nat) {xs:List α} {i:Nat} (h:i < xs.length):sm c (xs.take (i + 1)) = sm c (xs.take i) + c xs[i]:=by
 rw [List.take_succ_eq_append_getElem h,zBn];simp [sm]
theorem zAq {α:Type} (c:α → Nat) (xs:List α) (i:Nat):sm c (xs.take i) ≤ sm c xs:=by
 have:=zBn c (xs.take i) (xs.drop i)
 rw [List.take_append_drop] at this;omega
theorem zNq {α:Type} (c:α → Nat) {xs:List α} {x:α} (h:x ∈ xs):c x ≤ sm c xs:=by
 obtain ⟨i,hi,rfl⟩:=List.mem_iff_getElem.1 h
 have:=zDZ c hi
 have:=zAq c xs (i + 1)
 omega
def szR (c:Nat) (b:Int):Int:=if (c:Int) ≤ b then b - c else -1
theorem zQ7 {α:Type} {c:α → Nat} {t:α → Int → Option Int} {f:Option Int} {body:Int × Int → Option ((Int × Int) ⊕ (Int ⊕ Int))} {xs:List α} {b:Int}
  (hf:f = (rng (b - (xs.length:Int))).bind fun v1 => cond (decide (v1 < 0)) (some (-1)) ((zJ body (v1,0)).bind fun r => match r with | .inl r => some r | .inr r => some r))
  (hb:∀ s,body s = cond (decide (s.2 < (xs.length:Int))) ((ixO xs s.2).bind fun v2 => (t v2 s.1).bind fun r3 => cond (decide (r3 < 0)) (some (.inr (.inr (-1)))) ((rng (s.2 + 1)).bind fun v4 => some (.inl (r3,v4)))) (some (.inr (.inl s.1))))
  (hl:xs.length ≤ 9223372036854775807) (b0:0 ≤ b) (b1:b ≤ 1048576) (ht:∀ x ∈ xs,∀ b',0 ≤ b' → b' ≤ 1048576 → t x b' = some (szR (c x) b')):f = some (szR (xs.length + sm c xs) b):=by
 rw [hf,zH (by omega) (by omega),bs]
 by_cases h0:b - (xs.length:Int) < 0
 ·rw [decide_eq_true h0,zK,szR,if_neg (by omega)]
 ·rw [decide_eq_false h0,zG]
  obtain ⟨r,h1,h2⟩:=uN (body:=body) (Q:=fun r => (match r with | .inl r => some r | .inr r => some r) = some (szR (xs.length + sm c xs) b)) (fun i s => s.2 = (i:Int) ∧ 0 ≤ s.1 ∧ s.1 = b - xs.length - sm c (xs.take i)) xs.length (fun i s hi ⟨e1,e2,e3⟩ => by
   rw [hb,e1,decide_eq_true (by omega),zK,qQ hi,bs,ht _ (List.getElem_mem hi) _ e2 (by omega),bs]
   have h3:=zDZ c hi
   have h4:=zAq c xs (i + 1)
   unfold szR
   by_cases h5:(c xs[i]:Int) ≤ s.1
   ·rw [if_pos h5,decide_eq_false (by omega),zG,zH (by omega) (by omega),bs,cs]
    exact .inl ⟨_,rfl,rfl,by simp only;omega,by simp only;omega⟩
   ·rw [if_neg h5]
    refine .inr ⟨.inr (-1),rfl,?_⟩
    simp only
    rw [if_neg (by omega)]) (fun s ⟨e1,e2,e3⟩ => by
   rw [hb,e1,decide_eq_false (by omega),zG]
   rw [List.take_length] at e3
   refine ⟨_,rfl,?_⟩
   simp only
   rw [szR,if_pos (by omega),e3]
   congr 1;omega) (s:=(b - (xs.length:Int),0)) ⟨rfl,by simp only;omega,by simp [sm]⟩
  rw [h1,bs,h2]
def mkL {α:Type} (m:Int → α → α) (c:α → Nat):Int → List α → List α
 | _,[] => []
 | k,x :: xs => m k x :: mkL m c (k + c x) xs
theorem zCf {α:Type} (m:Int → α → α) (c:α → Nat):∀ (xs ys:List α) (k:Int),mkL m c k (xs ++ ys) = mkL m c k xs ++ mkL m c (k + sm c xs) ys
 | [],ys,k => by simp [mkL,sm]
 | x :: xs,ys,k => by
  simp only [List.cons_append,mkL,sm,zCf m c xs ys]
  rw [show k + (c x:Int) + (sm c xs:Int) = k + ((c x + sm c xs:Nat):Int) from by omega]
theorem vR {α:Type} (m:Int → α → α) (c:α → Nat):∀ (xs:List α) (k:Int),(mkL m c k xs).length = xs.length
 | [],_ => rfl
 | x :: xs,k => by simp [mkL,vR m c xs]
theorem zKL {α:Type} (m:Int → α → α) (c:α → Nat) {xs:List α} {i:Nat} (h:i < xs.length) (k:Int):(mkL m c k xs)[i]'(by rw [vR];exact h) = m (k + sm c (xs.take i)) xs[i]:=by
 have h1:xs = xs.take i ++ xs[i] :: xs.drop (i + 1):=by simp
 have h2:=zCf m c (xs.take i) (xs[i] :: xs.drop (i + 1)) k
 rw [← h1] at h2
 rw [List.getElem_of_eq h2]
 rw [List.getElem_append_right (by rw [vR,List.length_take];omega)]
 simp [mkL,vR,Nat.min_eq_left (Nat.le_of_lt h)]
theorem zDl {α:Type} {m:Int → α → α} {c:α → Nat} {t:α → Int → Option (Int × α)} {body:List α × Int × Int → Option ((List α × Int × Int) ⊕ (List α × Int))} {xs:List α} {k:Int}
  (hb:∀ s,body s = cond (decide (s.2.2 < (s.1.length:Int))) ((ixO s.1 s.2.2).bind fun v1 => (t v1 s.2.1).bind fun r2 => (rng (s.2.2 + 1)).bind fun v3 => some (.inl (s.1.set s.2.2.toNat r2.2,r2.1,v3))) (some (.inr (s.1,s.2.1))))
  (hl:xs.length ≤ 1048576) (k0:0 ≤ k) (k1:k + sm c xs ≤ 9223372036854775807) (ht:∀ x ∈ xs,∀ k':Int,0 ≤ k' → k' + c x ≤ 9223372036854775807 → t x k' = some (k' + c x,m k' x)):zJ body (xs,k,0) = some (mkL m c k xs,k + sm c xs):=by
 have:=zW (body:=body) (r:=(mkL m c k xs,k + sm c xs)) (fun i => (mkL m c k (xs.take i) ++ xs.drop i,k + sm c (xs.take i),(i:Int))) xs.length (fun i hi => by
  have h1:=zDZ c hi
  have h2:=zAq c xs (i + 1)
  have hlen:(mkL m c k (xs.take i)).length = i:=by rw [vR,List.length_take];omega
  have hg:(mkL m c k (xs.take i) ++ xs.drop i)[i]? = some xs[i]:=by
   rw [List.getElem?_append_right (by omega),hlen,Nat.sub_self,List.getElem?_drop,Nat.add_zero,List.getElem?_eq_getElem hi]
  rw [hb]
  simp only
  rw [decide_eq_true (by rw [List.length_append,hlen,List.length_drop];omega),zK,uD,hg,bs,ht _ (List.getElem_mem hi) _ (by omega) (by omega),bs,zH (by omega) (by omega),bs,cs]
  simp only [Int.toNat_natCast]
  rw [List.set_append_right _ _ (by omega),hlen,Nat.sub_self,List.drop_eq_getElem_cons hi,List.set_cons_zero,List.take_succ_eq_append_getElem hi,zCf,zBn,List.append_assoc]
  simp only [mkL,sm,List.singleton_append,Nat.add_zero]
  rw [show k + (sm c (xs.take i):Int) + (c xs[i]:Int) = k + ((sm c (xs.take i) + c xs[i]:Nat):Int) from by omega]) (by
  rw [hb]
  simp only
  rw [decide_eq_false (by rw [List.length_append,vR,List.length_take,List.length_drop];omega),zG]
  simp only [List.take_length,List.drop_length,List.append_nil])
 simpa [mkL,sm] using this
theorem zL8 {α:Type} {m:Int → α → α} {c:α → Nat} {t:α → Int → Option Int} {f:Option Int} {xs:List α} {k:Int} {body:Int × Int → Option ((Int × Int) ⊕ (Int ⊕ Int))}
  (hf:f = (zJ body (k,0)).bind fun r => match r with | .inl r => some r | .inr r => some r)
  (hb:∀ s,body s = cond (decide (s.2 < ((mkL m c k xs).length:Int))) ((ixO (mkL m c k xs) s.2).bind fun v1 => (t v1 s.1).bind fun r2 => cond (decide (r2 < 0)) (some (.inr (.inr (-1)))) ((rng (s.2 + 1)).bind fun v3 => some (.inl (r2,v3)))) (some (.inr (.inl s.1))))
  (hl:xs.length ≤ 1048576) (k0:0 ≤ k) (k1:k + sm c xs ≤ 9223372036854775807) (ht:∀ x ∈ xs,∀ k':Int,0 ≤ k' → k' + c x ≤ 9223372036854775807 → t (m k' x) k' = some (k' + c x)):f = some (k + sm c xs):=by
 have:=zW (body:=body) (r:=.inl (k + sm c xs)) (fun i => (k + sm c (xs.take i),(i:Int))) xs.length (fun i hi => by
  have h1:=zDZ c hi
  have h2:=zAq c xs (i + 1)
  rw [hb]
  simp only
  rw [vR,decide_eq_true (by omega),zK,qQ (by rw [vR];exact hi),bs,zKL m c hi,ht _ (List.getElem_mem hi) _ (by omega) (by omega),bs,decide_eq_false (by omega),zG,zH (by omega) (by omega),bs,cs,h1]
  rw [show k + (sm c (xs.take i):Int) + (c xs[i]:Int) = k + ((sm c (xs.take i) + c xs[i]:Nat):Int) from by omega]) (by
  rw [hb]
  simp only
  rw [vR,decide_eq_false (by omega),zG,List.take_length])
 rw [hf]
 simp only [List.take_zero,sm] at this
 rw [show k + ((0:Nat):Int) = k from by omega] at this
 rw [show ((0:Nat):Int) = 0 from rfl] at this
 rw [this];rfl
end Go.Pl

namespace Go.Pl
open Go Go.Ab Go.Wk
abbrev VI (n:Int):Prop:=(Lit.int .i64 n).wf = true
abbrev VL {α:Type} (V:α → Prop) (xs:List α):Prop:=xs.length ≤ maxLen ∧ ∀ x ∈ xs,V x
abbrev c1 (x:List Int):Nat:=x.length
abbrev c2 (x:List (List Int)):Nat:=x.length + sm c1 x
abbrev c3 (x:List (List (List Int))):Nat:=x.length + sm c2 x
theorem zHQ {x:List Int} {b:Int} (hl:x.length ≤ 9223372036854775807) (b0:0 ≤ b) (b1:b ≤ 1048576):zNS x b = some (szR (c1 x) b):=by
 unfold zNS szR
 rw [zH (by omega) (by omega),bs]
 by_cases h:(c1 x:Int) ≤ b
 ·rw [decide_eq_false (by simp only [c1] at h;omega),zG,if_pos h]
 ·rw [decide_eq_true (by simp only [c1] at h;omega),zK,if_neg h]
theorem zBo {x:List (List Int)} {b:Int} (h:VL (VL VI) x) (b0:0 ≤ b) (b1:b ≤ 1048576):zLR x b = some (szR (c2 x) b) :=
 zQ7 (c:=c1) rfl (fun _ => rfl) h.1 b0 b1 fun y hy _ h1 h2 => zHQ (h.2 y hy).1 h1 h2
theorem zEW {x:List (List (List Int))} {b:Int} (h:VL (VL (VL VI)) x) (b0:0 ≤ b) (b1:b ≤ 1048576):zPM x b = some (szR (c3 x) b) :=
 zQ7 (c:=c2) rfl (fun _ => rfl) h.1 b0 b1 fun y hy _ h1 h2 => zBo (h.2 y hy) h1 h2
abbrev S1 (x:List Int):Prop:=c1 x ≤ 1048576
abbrev S2 (x:List (List Int)):Prop:=c2 x ≤ 1048576
abbrev S3 (x:List (List (List Int))):Prop:=c3 x ≤ 1048576
theorem S2.mem {x:List (List Int)} (h:S2 x) {y:List Int} (hy:y ∈ x):S1 y:=by
 have:=zNq c1 hy
 simp only [S2,S1,c2] at h ⊢;omega
theorem S3.mem {x:List (List (List Int))} (h:S3 x) {y:List (List Int)} (hy:y ∈ x):S2 y:=by
 have:=zNq c2 hy
 simp only [S3,S2,c3] at h ⊢;omega
theorem S1.len {x:List Int} (h:S1 x):x.length ≤ 1048576:=h
theorem S2.len {x:List (List Int)} (h:S2 x):x.length ≤ 1048576:=by simp only [S2,c2] at h;omega
theorem S3.len {x:List (List (List Int))} (h:S3 x):x.length ≤ 1048576:=by simp only [S3,c3] at h;omega
theorem zHR {x:List Int} (h:S1 x):zLS x = some x:=by
 unfold zLS
 rw [xF (Nat.le_trans h (by decide)),bs,zGN (body:=zNU x) (f:=some) (fun _ => rfl) (Nat.le_trans h (by decide)) (fun _ _ => rfl),bs]
theorem zBp {x:List (List Int)} (h:S2 x):f_v x = some x:=by
 unfold f_v
 rw [xF (Nat.le_trans h.len (by decide)),bs,zGN (body:=zRG x) (f:=zLS) (fun _ => rfl) (Nat.le_trans h.len (by decide)) (fun _ hx => zHR (h.mem hx)),bs]
theorem zEX {x:List (List (List Int))} (h:S3 x):zNW x = some x:=by
 unfold zNW
 rw [xF (Nat.le_trans h.len (by decide)),bs,zGN (body:=zNV x) (f:=f_v) (fun _ => rfl) (Nat.le_trans h.len (by decide)) (fun _ hx => zBp (h.mem hx)),bs]
theorem zHS {x y:List Int} (h:S1 x):zOQ x y = some (x == y) :=
 zGh (t:=fun u v => some (u == v)) (body:=zOP x y) rfl (fun _ => rfl) (Nat.le_trans h.len (by decide)) fun _ _ _ _ => rfl
theorem qT {x y:List (List Int)} (h:S2 x):f_y x y = some (x == y) :=
 zGh (t:=zOQ) (body:=zRQ x y) rfl (fun _ => rfl) (Nat.le_trans h.len (by decide)) fun _ hu _ _ => zHS (h.mem hu)
theorem zEY {x y:List (List (List Int))} (h:S3 x):zPX x y = some (x == y) :=
 zGh (t:=f_y) (body:=zOR x y) rfl (fun _ => rfl) (Nat.le_trans h.len (by decide)) fun _ hu _ _ => qT (h.mem hu)
def m1 (k:Int) (x:List Int):List Int:=mkL (fun k _ => k) (fun _ => 1) k x
def m2 (k:Int) (x:List (List Int)):List (List Int):=mkL m1 c1 k x
def m3 (k:Int) (x:List (List (List Int))):List (List (List Int)):=mkL m2 (sm c1) k x
theorem zJl {α:Type}:∀ xs:List α,sm (fun _ => 1) xs = xs.length
 | [] => rfl
 | x :: xs => by simp [sm,zJl xs];omega
theorem zEZ {x:List Int} {k:Int} (h:S1 x) (k0:0 ≤ k) (k1:k + c1 x ≤ 9223372036854775807):f_R x k = some (k + c1 x,m1 k x):=by
 have h1:=zJl x
 have:=zDl (m:=fun k _ => k) (c:=fun _ => 1) (t:=fun v k => (rng (k + 1)).bind fun v2 => some (v2,k)) (body:=zPZ) (xs:=x) (k:=k) (fun s => by
  unfold zPZ
  congr 1
  cases ixO s.1 s.2.2 with
  | none => rfl
  | some v =>
   simp only [bs]
   cases rng (s.2.1 + 1) <;> rfl) h.len k0 (by rw [h1];exact k1) fun v _ k' h1 h2 => by
  have h2':k' + ((1:Nat):Int) ≤ 9223372036854775807:=h2
  rw [zH (by omega) (by omega),bs];rfl
 unfold f_R
 rw [this,bs,h1];rfl
theorem qC {x:List (List Int)} {k:Int} (h:S2 x) (k0:0 ≤ k) (k1:k + sm c1 x ≤ 9223372036854775807):f_G x k = some (k + sm c1 x,m2 k x):=by
 unfold f_G
 rw [zDl (body:=zRR) (m:=m1) (c:=c1) (t:=f_R) (fun _ => rfl) h.len k0 k1 fun y hy _ h1 h2 => zEZ (h.mem hy) h1 h2,bs];rfl
theorem zCE {x:List (List (List Int))} {k:Int} (h:S3 x) (k0:0 ≤ k) (k1:k + sm (sm c1) x ≤ 9223372036854775807):zOU x k = some (k + sm (sm c1) x,m3 k x):=by
 unfold zOU
 rw [zDl (body:=zOT) (m:=m2) (c:=sm c1) (t:=f_G) (fun _ => rfl) h.len k0 k1 fun y hy _ h1 h2 => qC (h.mem hy) h1 h2,bs];rfl
theorem zJm {x:List Int} {k:Int} (h:S1 x) (k0:0 ≤ k) (k1:k + c1 x ≤ 9223372036854775807):f_S (m1 k x) k = some (k + c1 x):=by
 have hl:=h.len
 have hml:(m1 k x).length = x.length:=vR _ _ _ _
 have:=zW (body:=zOW (m1 k x)) (r:=.inl (k + c1 x)) (fun i => (k + (i:Int),(i:Int))) x.length (fun i hi => by
  have hg:(m1 k x)[i]'(by rw [hml];exact hi) = k + sm (fun _ => 1) (x.take i):=zKL _ _ hi _
  unfold zOW
  rw [decide_eq_true (by simp only [hml];omega),zK,qQ (by rw [hml];exact hi),bs,hg,zJl,List.length_take,Nat.min_eq_left (by omega),show (k + (i:Int) != k + (i:Int)) = false from by simp,zG,zH (by simp only [c1] at k1;omega) (by simp only [c1] at k1;omega),bs,zH (by omega) (by omega),bs,cs]
  rw [show k + (i:Int) + 1 = k + ((i + 1:Nat):Int) from by omega]) (by
  unfold zOW
  rw [decide_eq_false (by simp only [hml];omega),zG])
 unfold f_S
 rw [show k + ((0:Nat):Int) = k from by omega,show ((0:Nat):Int) = 0 from rfl] at this
 rw [this];rfl
theorem zHT {x:List (List Int)} {k:Int} (h:S2 x) (k0:0 ≤ k) (k1:k + sm c1 x ≤ 9223372036854775807):zQb (m2 k x) k = some (k + sm c1 x) :=
 zL8 (body:=zOX (m2 k x)) (m:=m1) (c:=c1) (t:=f_S) rfl (fun _ => rfl) h.len k0 k1 fun _ hy _ h1 h2 => zJm (h.mem hy) h1 h2
def zKM (x:SPr):Prop:=VL VI x.zA ∧ VL (VL VI) x.zR ∧ VL (VL (VL VI)) x.zB
def zL9 (x:zC):Prop:=VI x.Prime ∧ VI x.Dim ∧ VL (VL (VL VI)) x.zE
def zHU (x:SPr):Nat:=c1 x.zA + c2 x.zR + c3 x.zB
def zJn (x:zC):Nat:=c3 x.zE
def zBB (x:SPr):Prop:=S1 x.zA ∧ S2 x.zR ∧ S3 x.zB
def zCF (x:zC):Prop:=S3 x.zE
theorem zHV {a b:Nat} {n:Int}:(szR a n < 0 ∧ szR (a + b) n = -1) ∨ (0 ≤ szR a n ∧ szR a n ≤ n ∧ szR b (szR a n) = szR (a + b) n ∧ (a:Int) ≤ n) ∨ n < 0:=by
 unfold szR
 by_cases h:(a:Int) ≤ n
 ·rw [if_pos h]
  refine .inr (.inl ⟨by omega,by omega,?_,h⟩)
  by_cases h2:(b:Int) ≤ n - a
  ·rw [if_pos h2,if_pos (by omega)];omega
  ·rw [if_neg h2,if_neg (by omega)]
 ·rw [if_neg h]
  by_cases h3:n < 0
  ·exact .inr (.inr h3)
  ·exact .inl ⟨by omega,by rw [if_neg (by omega)]⟩
theorem zFa {x:SPr} {b:Int} (h:zKM x) (b0:0 ≤ b) (b1:b ≤ 1048576):zPN x b = some (szR (zHU x) b):=by
 obtain ⟨h1,h2,h3⟩:=h
 unfold zPN zHU
 rw [zHQ h1.1 b0 b1,bs]
 rcases zHV (a:=c1 x.zA) (b:=c2 x.zR + c3 x.zB) (n:=b) with ⟨g1,g2⟩ | ⟨g1,g2,g3,g4⟩ | g1
 ·rw [decide_eq_true g1,zK,Nat.add_assoc,g2]
 ·rw [decide_eq_false (by omega),zG,zBo h2 g1 (by omega),bs,Nat.add_assoc,← g3]
  generalize szR (c1 x.zA) b = b' at g1 g2
  rcases zHV (a:=c2 x.zR) (b:=c3 x.zB) (n:=b') with ⟨k1,k2⟩ | ⟨k1,k2,k3,k4⟩ | k1
  ·rw [decide_eq_true k1,zK,k2]
  ·rw [decide_eq_false (by omega),zG,zEW h3 k1 (by omega),bs,← k3]
   generalize szR (c2 x.zR) b' = b'' at k1 k2
   unfold szR
   by_cases h4:(c3 x.zB:Int) ≤ b''
   ·rw [if_pos h4,decide_eq_false (by omega),zG]
   ·rw [if_neg h4];rfl
  ·omega
 ·omega
theorem zHW {x:zC} {b:Int} (h:zL9 x) (b0:0 ≤ b) (b1:b ≤ 1048576):zNT x b = some (szR (zJn x) b):=by
 obtain ⟨_,_,h3⟩:=h
 unfold zNT zJn
 rw [zEW h3 b0 b1,bs]
 unfold szR
 by_cases h4:(c3 x.zE:Int) ≤ b
 ·rw [if_pos h4,decide_eq_false (by omega),zG]
 ·rw [if_neg h4];rfl
theorem zCG {c:Nat} {b:Int} (b0:0 ≤ b) (b1:b ≤ 1048576):(decide (szR c b < 0) = true) ∨ (decide (szR c b < 0) = false ∧ 0 ≤ szR c b ∧ szR c b ≤ 1048576 ∧ c ≤ 1048576):=by
 unfold szR
 by_cases h:(c:Int) ≤ b
 ·rw [if_pos h];exact .inr ⟨decide_eq_false (by omega),by omega,by omega,by omega⟩
 ·rw [if_neg h];exact .inl rfl
theorem zBB.of {x:SPr} (h:zHU x ≤ 1048576):zBB x:=by
 unfold zHU at h
 exact ⟨by simp only [S1];omega,by simp only [S2];omega,by simp only [S3];omega⟩
theorem zCF.of {x:zC} (h:zJn x ≤ 1048576):zCF x:=h
theorem zFb {x:SPr} (h:zBB x):f_T x = some x:=by
 unfold f_T
 rw [zHR h.1,bs,zBp h.2.1,bs,zEX h.2.2,bs]
theorem zHX {x:zC} (h:zCF x):f_w x = some x:=by
 unfold f_w
 rw [zEX h,bs]
theorem zHY {x:zC} (h:zCF x):zOS x x = some true:=by
 unfold zOS
 rw [zEY h,bs]
 simp
theorem zFc {x:SPr} (h:zBB x):zPY x x = some true:=by
 unfold zPY
 rw [zHS h.1,bs,qT h.2.1,bs,zEY h.2.2,bs]
 simp
theorem zDm {x:List (List Int)}:sm c1 x ≤ c2 x:=by simp only [c2];omega
theorem zKN {α:Type} {f g:α → Nat} (h:∀ x,f x ≤ g x):∀ xs:List α,sm f xs ≤ sm g xs
 | [] => Nat.le_refl _
 | x :: xs => by have:=zKN h xs;have:=h x;simp only [sm];omega
theorem zGO {x:List (List (List Int))}:sm (sm c1) x ≤ c3 x:=by
 have:=zKN (f:=sm c1) (g:=c2) (fun _ => zDm) x
 simp only [c3];omega
theorem zFd {x:zC} {k:Int} (h:zCF x) (k0:0 ≤ k) (k1:k ≤ 1000000000):zOV x k = some (k + sm (sm c1) x.zE,zC.mk x.Prime x.Dim (m3 k x.zE)):=by
 have g3:=zGO (x:=x.zE)
 have h':=h
 simp only [zCF,S3] at h'
 unfold zOV
 rw [zCE h k0 (by omega),bs]
end Go.Pl

namespace Go.Pl
open Go Go.Ab Go.Wk
def IsB (o:Option Bool) (P:Prop):Prop:=(o = some true ∧ P) ∨ (o = some false ∧ ¬ P)
theorem IsB.iff {o:Option Bool} {P Q:Prop} (h:IsB o P) (hpq:P ↔ Q):IsB o Q:=by
 rcases h with ⟨h1,h2⟩ | ⟨h1,h2⟩
 ·exact .inl ⟨h1,hpq.1 h2⟩
 ·exact .inr ⟨h1,fun h => h2 (hpq.2 h)⟩
theorem IsB.of_bool {b:Bool} {P:Prop} (h:b = true ↔ P):IsB (some b) P:=by
 cases b
 ·exact .inr ⟨rfl,fun hp => by have:=h.2 hp;cases this⟩
 ·exact .inl ⟨rfl,h.1 rfl⟩
theorem chk {ρ:Type} {body:Int → Option (Int ⊕ (Unit ⊕ ρ))} (n i0:Nat) (hn:i0 ≤ n) (P:Nat → Prop) (bad:Nat → ρ)
  (h:∀ i,i0 ≤ i → i < n → (∀ j,i0 ≤ j → j < i → P j) → (body (i:Int) = some (.inl ((i + 1:Nat):Int)) ∧ P i) ∨ (body (i:Int) = some (.inr (.inr (bad i))) ∧ ¬ P i))
  (he:body (n:Int) = some (.inr (.inl ()))) :
  (zJ body (i0:Int) = some (.inl ()) ∧ ∀ j,i0 ≤ j → j < n → P j) ∨ ∃ i,i0 ≤ i ∧ i < n ∧ zJ body (i0:Int) = some (.inr (bad i)) ∧ ¬ P i:=by
 have key:∀ k i,i0 ≤ i → i + k = n → (∀ j,i0 ≤ j → j < i → P j) → (zJ body (i:Int) = some (.inl ()) ∧ ∀ j,i0 ≤ j → j < n → P j) ∨ ∃ q,i0 ≤ q ∧ q < n ∧ zJ body (i:Int) = some (.inr (bad q)) ∧ ¬ P q:=by
  intro k
  induction k with
  | zero =>
   intro i hi hk hp
   obtain rfl:i = n:=by omega
   exact .inl ⟨by rw [xK,he],hp⟩
  | succ k ih =>
   intro i hi hk hp
   rcases h i hi (by omega) hp with ⟨h1,h2⟩ | ⟨h1,h2⟩
   ·have:=ih (i + 1) (by omega) (by omega) fun j a b => by
     rcases Nat.lt_or_ge j i with c | c
     ·exact hp j a c
     ·rw [show j = i from by omega];exact h2
    rw [xK,h1]
    exact this
   ·exact .inr ⟨i,hi,by omega,by rw [xK,h1],h2⟩
 exact key (n - i0) i0 (Nat.le_refl _) (by omega) fun j a b => by omega
theorem uE {f:Option Bool} {body:Int → Option (Int ⊕ (Unit ⊕ Bool))} (n:Nat) (P:Nat → Prop)
  (hf:f = (zJ body 0).bind fun r => match r with | .inl _ => some true | .inr r => some r)
  (h:∀ i,i < n → (∀ j,j < i → P j) → (body (i:Int) = some (.inl ((i + 1:Nat):Int)) ∧ P i) ∨ (body (i:Int) = some (.inr (.inr false)) ∧ ¬ P i))
  (he:body (n:Int) = some (.inr (.inl ()))):IsB f (∀ i,i < n → P i):=by
 rcases chk n 0 (Nat.zero_le _) P (fun _ => false) (fun i _ hi hp => h i hi fun j hj => hp j (Nat.zero_le _) hj) he with ⟨h1,h2⟩ | ⟨i,_,hi,h1,h2⟩
 ·refine .inl ⟨?_,fun i hi => h2 i (Nat.zero_le _) hi⟩
  rw [hf];rw [show ((0:Nat):Int) = 0 from rfl] at h1;rw [h1,bs]
 ·refine .inr ⟨?_,fun hp => h2 (hp i hi)⟩
  rw [hf];rw [show ((0:Nat):Int) = 0 from rfl] at h1;rw [h1,bs]
theorem wV {o:Option Bool} {P:Prop} {ρ:Type} {bad:ρ} {i:Nat} {g:Option (Int ⊕ (Unit ⊕ ρ))} (h:IsB o P) (hi:i < 9223372036854775807)
  (hg:g = o.bind fun r => cond (!r) (some (.inr (.inr bad))) ((rng ((i:Int) + 1)).bind fun v => some (.inl v))):(g = some (.inl ((i + 1:Nat):Int)) ∧ P) ∨ (g = some (.inr (.inr bad)) ∧ ¬ P):=by
 subst hg
 rcases h with ⟨h1,h2⟩ | ⟨h1,h2⟩
 ·refine .inl ⟨?_,h2⟩
  rw [h1,bs,Bool.not_true,zG,zH (by omega) (by omega),bs,cs]
 ·refine .inr ⟨?_,h2⟩
  rw [h1,bs,Bool.not_false,zK]
theorem xM {i n:Nat} (h:i < n):decide ((i:Int) < (n:Int)) = true:=decide_eq_true (by omega)
theorem xQ {n:Nat}:decide ((n:Int) < (n:Int)) = false:=decide_eq_false (by omega)
theorem tT (x a b:Int):IsB (zJO x a b) (a ≤ x ∧ x ≤ b):=by
 unfold zJO
 by_cases h:x ≥ a
 ·rw [decide_eq_true h,zK];exact IsB.of_bool (by simp;omega)
 ·rw [decide_eq_false h,zG];exact .inr ⟨rfl,by omega⟩
theorem jR (x a b:Int):IsB (zLT x a b) (a ≤ x ∧ x ≤ b):=tT x a b
def Prime (p:Int):Prop:=p = 2 ∨ p = 3 ∨ p = 5 ∨ p = 7
theorem jE (x:Int):IsB (zLV x) (Prime x):=by
 unfold zLV Prime
 by_cases h2:x = 2
 ·subst h2;exact .inl ⟨rfl,.inl rfl⟩
 ·rw [show (x == 2) = false from by simpa using h2,zG]
  by_cases h3:x = 3
  ·subst h3;exact .inl ⟨rfl,.inr (.inl rfl)⟩
  ·rw [show (x == 3) = false from by simpa using h3,zG]
   by_cases h5:x = 5
   ·subst h5;exact .inl ⟨rfl,.inr (.inr (.inl rfl))⟩
   ·rw [show (x == 5) = false from by simpa using h5,zG]
    exact IsB.of_bool (by simp;omega)
theorem zCg (x:Int):IsB (zNX x) (Prime x):=jE x
abbrev at0 (v:List Int) (i:Nat):Int:=v.getD i 0
theorem yW {v:List Int} {i:Nat} (h:i < v.length):ixO v (i:Int) = some (at0 v i):=by
 rw [qQ h,at0,List.getD_eq_getElem?_getD,List.getElem?_eq_getElem h];rfl
def zTy (os v:List Int):Prop:=v.length = os.length ∧ ∀ i,i < v.length → 0 ≤ at0 v i ∧ at0 v i ≤ at0 os i - 1
def Exp (os v:List Int) (k:Nat):Prop:=zTy os v ∧ ∀ i,i ≤ k → at0 v i = 0
def Os (os:List Int):Prop:=os.length ≤ 9 ∧ ∀ i,i < os.length → Prime (at0 os i)
theorem Prime.pos {p:Int} (h:Prime p):2 ≤ p ∧ p ≤ 7:=by unfold Prime at h;omega
theorem zDn {x:SPr} {v:List Int} (ho:Os x.zA):IsB (zPU x v) (zTy x.zA v):=by
 unfold zPU
 by_cases h:v.length = x.zA.length
 ·rw [show ((v.length:Int) != (x.zA.length:Int)) = false from by simp [h],zG]
  have h6:=ho.1
  refine (uE v.length (fun i => 0 ≤ at0 v i ∧ at0 v i ≤ at0 x.zA i - 1) rfl (fun i hi _ => ?_) ?_).iff ⟨fun g => ⟨h,g⟩,fun g => g.2⟩
  ·have hp:=(ho.2 i (by omega)).pos
   refine wV (tT _ _ _) (by omega) ?_
   unfold zLj
   rw [xM hi,zK,yW hi,bs,yW (by omega),bs,zH (by omega) (by omega),bs]
  ·unfold zLj
   rw [xQ,zG]
 ·rw [show ((v.length:Int) != (x.zA.length:Int)) = true from by simp;omega,zK]
  exact .inr ⟨rfl,fun g => h g.1⟩
theorem zHZ {v:List Int} (hl:v.length ≤ 9):IsB (f_U v) (∀ i,i < v.length → at0 v i = 0):=by
 refine uE v.length (fun i => at0 v i = 0) rfl (fun i hi _ => ?_) ?_
 ·refine wV (o:=some (at0 v i == 0)) (IsB.of_bool (by simp)) (by omega) ?_
  unfold zLW
  rw [xM hi,zK,yW hi,bs,bs];rfl
 ·unfold zLW
  rw [xQ,zG]
theorem zA1 {x:SPr} {k:Nat} {v:List Int} (ho:Os x.zA) (hk:k < x.zA.length):IsB (zOs x k v) (Exp x.zA v k):=by
 have h6:=ho.1
 unfold zOs
 rcases zDn (v:=v) ho with ⟨h1,h2⟩ | ⟨h1,h2⟩
 ·have hl:=h2.1
  rw [h1,bs,zK,zH (by omega) (by omega),bs]
  have hs:yB v 0 ((k:Int) + 1) = some (v.take (k + 1)):=by
   unfold yB
   rw [if_pos (by omega)]
   simp only [Int.toNat_zero,List.drop_zero,Nat.sub_zero]
   congr 2
  rw [hs,bs]
  have hb:=zHZ (v:=v.take (k + 1)) (by rw [List.length_take];omega)
  have hiff:(∀ i,i < (v.take (k + 1)).length → at0 (v.take (k + 1)) i = 0) ↔ Exp x.zA v k:=by
   have e:∀ i,i ≤ k → at0 (v.take (k + 1)) i = at0 v i:=fun i hi => by
    simp only [at0,List.getD_eq_getElem?_getD,List.getElem?_take]
    rw [if_pos (by omega)]
   rw [List.length_take,Nat.min_eq_left (by omega)]
   exact ⟨fun g => ⟨h2,fun i hi => by rw [← e i hi];exact g i (by omega)⟩,fun g i hi => by rw [e i (by omega)];exact g.2 i (by omega)⟩
  rcases hb.iff hiff with ⟨g1,g2⟩ | ⟨g1,g2⟩
  ·rw [g1,bs];exact .inl ⟨rfl,g2⟩
  ·rw [g1,bs];exact .inr ⟨rfl,g2⟩
 ·rw [h1,bs,zG]
  exact .inr ⟨rfl,fun g => h2 g.1⟩
theorem zAP {os v:List Int} {k:Nat} (ho:Os os) (hk:k < os.length):IsB (zNY os v k) (Exp os v k):=by
 have h6:=ho.1
 unfold zNY
 by_cases h:v.length = os.length
 ·rw [show ((v.length:Int) != (os.length:Int)) = false from by simp [h],zG]
  refine (uE v.length (fun i => (0 ≤ at0 v i ∧ at0 v i ≤ at0 os i - 1) ∧ (i ≤ k → at0 v i = 0)) rfl (fun i hi _ => ?_) ?_).iff ⟨fun g => ⟨⟨h,fun i hi => (g i hi).1⟩,fun i hi => (g i (by omega)).2 hi⟩,fun g i hi => ⟨g.1.2 i hi,fun hk => g.2 i hk⟩⟩
  ·have hp:=(ho.2 i (by omega)).pos
   unfold zLg
   rw [xM hi,zK,yW hi,bs,yW (by omega),bs,zH (by omega) (by omega),bs]
   rcases jR (at0 v i) 0 (at0 os i - 1) with ⟨h1,h2⟩ | ⟨h1,h2⟩
   ·rw [h1,bs,Bool.not_true,zG]
    by_cases h3:(i:Int) ≤ (k:Int)
    ·rw [decide_eq_true h3,zK,bs]
     by_cases h4:at0 v i = 0
     ·rw [show (at0 v i != 0) = false from by simp only [h4];rfl,zG,zH (by omega) (by omega),bs,cs]
      exact .inl ⟨rfl,h2,fun _ => h4⟩
     ·rw [show (at0 v i != 0) = true from by simpa using h4,zK]
      exact .inr ⟨rfl,fun g => h4 (g.2 (by omega))⟩
    ·rw [decide_eq_false h3,zG,zH (by omega) (by omega),bs,cs]
     exact .inl ⟨rfl,h2,fun g => absurd (by omega) h3⟩
   ·rw [h1,bs,Bool.not_false,zK]
    exact .inr ⟨rfl,fun g => h2 g.1⟩
  ·unfold zLg
   rw [xQ,zG]
 ·rw [show ((v.length:Int) != (os.length:Int)) = true from by simp;omega,zK]
  exact .inr ⟨rfl,fun g => h g.1.1⟩
end Go.Pl

namespace Go.Pl
open Go Go.Ab Go.Wk
theorem zUf {σ ρ:Type} {body:σ → Option (σ ⊕ (Unit ⊕ ρ))} (S:Nat → σ) (n i0:Nat) (hn:i0 ≤ n) (P:Nat → Prop) (bad:Nat → ρ)
  (h:∀ i,i0 ≤ i → i < n → (∀ j,i0 ≤ j → j < i → P j) → (body (S i) = some (.inl (S (i + 1))) ∧ P i) ∨ (body (S i) = some (.inr (.inr (bad i))) ∧ ¬ P i))
  (he:body (S n) = some (.inr (.inl ()))) :
  (zJ body (S i0) = some (.inl ()) ∧ ∀ j,i0 ≤ j → j < n → P j) ∨ ∃ i,i0 ≤ i ∧ i < n ∧ zJ body (S i0) = some (.inr (bad i)) ∧ ¬ P i:=by
 have key:∀ k i,i0 ≤ i → i + k = n → (∀ j,i0 ≤ j → j < i → P j) → (zJ body (S i) = some (.inl ()) ∧ ∀ j,i0 ≤ j → j < n → P j) ∨ ∃ q,i0 ≤ q ∧ q < n ∧ zJ body (S i) = some (.inr (bad q)) ∧ ¬ P q:=by
  intro k
  induction k with
  | zero =>
   intro i hi hk hp
   obtain rfl:i = n:=by omega
   exact .inl ⟨by rw [xK,he],hp⟩
  | succ k ih =>
   intro i hi hk hp
   rcases h i hi (by omega) hp with ⟨h1,h2⟩ | ⟨h1,h2⟩
   ·have:=ih (i + 1) (by omega) (by omega) fun j a b => by
     rcases Nat.lt_or_ge j i with c | c
     ·exact hp j a c
     ·rw [show j = i from by omega];exact h2
    rw [xK,h1]
    exact this
   ·exact .inr ⟨i,hi,by omega,by rw [xK,h1],h2⟩
 exact key (n - i0) i0 (Nat.le_refl _) (by omega) fun j a b => by omega
theorem zA2 {a b:Int} (h:a = b):(a != b) = false:=by simp [h]
theorem zA3 {a b:Int} (h:a ≠ b):(a != b) = true:=by simp [h]
def pr (os:List Int):Nat → Int
 | 0 => 1
 | i + 1 => pr os i * at0 os i
def cp (os:List Int):Nat → Int
 | 0 => 1
 | i + 1 => if cp os i ≤ 729 then cp os i * at0 os i else cp os i
theorem zFe {os:List Int}:∀ {i:Nat},(∀ j,j < i → Prime (at0 os j)) → 1 ≤ pr os i
 | 0,_ => by simp [pr]
 | i + 1,h => by
  have h1:=zFe (os:=os) (i:=i) fun j hj => h j (by omega)
  have h2:=(h i (by omega)).pos
  simp only [pr]
  have:(1:Int) * 1 ≤ pr os i * at0 os i:=Int.mul_le_mul h1 (by omega) (by omega) (by omega)
  omega
theorem zKO {os:List Int} {i:Nat} (h:∀ j,j ≤ i → Prime (at0 os j)):pr os i ≤ pr os (i + 1):=by
 have h1:=zFe (os:=os) (i:=i) fun j hj => h j (by omega)
 have h2:=(h i (Nat.le_refl _)).pos
 simp only [pr]
 have:pr os i * 1 ≤ pr os i * at0 os i:=Int.mul_le_mul_of_nonneg_left (by omega) (by omega)
 omega
theorem zKP {os:List Int} {n:Nat} (h:∀ j,j < n → Prime (at0 os j)):∀ k,k ≤ n → pr os (n - k) ≤ pr os n
 | 0,_ => Int.le_refl _
 | k + 1,hk => by
  have h1:=zKP h k (by omega)
  have h2:=zKO (os:=os) (i:=n - (k + 1)) fun j hj => h j (by omega)
  rw [show n - (k + 1) + 1 = n - k from by omega] at h2
  omega
theorem zNr {os:List Int}:∀ {i:Nat},(∀ j,j < i → Prime (at0 os j)) → (cp os i = pr os i ∧ pr os i ≤ 729 ∨ 729 < cp os i ∧ cp os i ≤ 5103 ∧ 729 < pr os i)
 | 0,_ => by simp [cp,pr]
 | i + 1,h => by
  have h0:∀ j,j < i → Prime (at0 os j):=fun j hj => h j (by omega)
  have h2:=(h i (by omega)).pos
  have h3:=zKO (os:=os) (i:=i) fun j hj => h j (by omega)
  have hpp:=zFe h0
  simp only [cp]
  rcases zNr h0 with ⟨h1,h4⟩ | ⟨h1,h4,h5⟩
  ·rw [h1,if_pos h4]
   have h6:pr os i * at0 os i ≤ 729 * 7:=Int.mul_le_mul h4 h2.2 (by omega) (by omega)
   simp only [pr] at h3 ⊢
   generalize pr os i * at0 os i = b at h3 h6 ⊢
   simp only [true_and];omega
  ·rw [if_neg (by omega)]
   omega
def zDH (x:SPr) (i:Nat):Prop:=Exp x.zA (x.zR.getD i []) i ∧ (x.zB.getD i []).length + i + 1 = x.zA.length ∧ ∀ j,j < (x.zB.getD i []).length → Exp x.zA ((x.zB.getD i []).getD j []) i
structure zBC (x:SPr):Prop where
 os:True ∧ ∀ i,i < x.zA.length → Prime (at0 x.zA i)
 pl:x.zR.length = x.zA.length
 cl:x.zB.length = x.zA.length
 tl:∀ i,i < x.zA.length → zDH x i
structure Pres (x:SPr):Prop where
 os:Os x.zA
 pl:x.zR.length = x.zA.length
 cl:x.zB.length = x.zA.length
 tl:∀ i,i < x.zA.length → zDH x i
theorem Pres.w {x:SPr} (h:Pres x):zBC x:=⟨⟨trivial,h.os.2⟩,h.pl,h.cl,h.tl⟩
structure zGi (x:SPr):Prop extends Pres x where
 n6:x.zA.length ≤ 6
 pr:pr x.zA x.zA.length ≤ 729
theorem yO {α:Type} {v:List α} {i:Nat} (d:α) (h:i < v.length):ixO v (i:Int) = some (v.getD i d):=by
 rw [qQ h,List.getD_eq_getElem?_getD,List.getElem?_eq_getElem h];rfl
theorem zJo {x:SPr} (ho:Os x.zA) (hp:x.zR.length = x.zA.length) (hc:x.zB.length = x.zA.length) {i:Nat} (hi:i < x.zA.length) :
  (zJQ x i = some (.inl ((i + 1:Nat):Int)) ∧ zDH x i) ∨ (zJQ x i = some (.inr (.inr false)) ∧ ¬ zDH x i):=by
 have h6:=ho.1
 unfold zJQ
 rw [xM hi,zK,yO [] (by omega),bs]
 rcases zA1 (v:=x.zR.getD i []) ho hi with ⟨h1,h2⟩ | ⟨h1,h2⟩
 ·rw [h1,bs,Bool.not_true,zG,yO [] (by omega),bs,zH (by omega) (by omega),bs,zH (by omega) (by omega),bs]
  by_cases hl:(x.zB.getD i []).length + i + 1 = x.zA.length
  ·rw [zA2 (by omega),zG,bs]
   rcases chk (body:=zOt x i (x.zB.getD i [])) (x.zB.getD i []).length 0 (Nat.zero_le _) (fun j => Exp x.zA ((x.zB.getD i []).getD j []) i) (fun _ => false) (fun j _ hj _ => by
     refine wV (zA1 ho hi) (by omega) ?_
     unfold zOt
     rw [xM hj,zK,yO [] hj,bs]) (by
     unfold zOt
     rw [xQ,zG]) with ⟨g1,g2⟩ | ⟨j,_,hj,g1,g2⟩
   ·rw [show ((0:Nat):Int) = 0 from rfl] at g1
    rw [g1,bs]
    simp only
    rw [zH (by omega) (by omega),bs,cs]
    exact .inl ⟨rfl,h2,hl,fun j hj => g2 j (Nat.zero_le _) hj⟩
   ·rw [show ((0:Nat):Int) = 0 from rfl] at g1
    rw [g1,bs]
    exact .inr ⟨rfl,fun g => g2 (g.2.2 j hj)⟩
  ·rw [zA3 (by omega),zK]
   exact .inr ⟨rfl,fun g => hl g.2.1⟩
 ·rw [h1,bs,Bool.not_false,zK]
  exact .inr ⟨rfl,fun g => h2 g.1⟩
theorem zJp {x:SPr} (ho:Os x.zA) (hp:x.zR.length = x.zA.length) (hc:x.zB.length = x.zA.length) {i:Nat} (hi:i < x.zA.length) :
  (zJL x i = some (.inl ((i + 1:Nat):Int)) ∧ zDH x i) ∨ (zJL x i = some (.inr (.inr false)) ∧ ¬ zDH x i):=by
 have h6:=ho.1
 unfold zJL
 rw [xM hi,zK,yO [] (by omega),bs]
 rcases zAP (v:=x.zR.getD i []) ho hi with ⟨h1,h2⟩ | ⟨h1,h2⟩
 ·rw [h1,bs,Bool.not_true,zG,yO [] (by omega),bs,zH (by omega) (by omega),bs,zH (by omega) (by omega),bs]
  by_cases hl:(x.zB.getD i []).length + i + 1 = x.zA.length
  ·rw [zA2 (by omega),zG]
   rcases chk (body:=zOa x i) (x.zB.getD i []).length 0 (Nat.zero_le _) (fun j => Exp x.zA ((x.zB.getD i []).getD j []) i) (fun _ => false) (fun j _ hj _ => by
     refine wV (zAP ho hi) (by omega) ?_
     unfold zOa
     rw [yO [] (by omega),bs,xM hj,zK,bs,yO [] hj,bs]) (by
     unfold zOa
     rw [yO [] (by omega),bs,xQ,zG]) with ⟨g1,g2⟩ | ⟨j,_,hj,g1,g2⟩
   ·rw [show ((0:Nat):Int) = 0 from rfl] at g1
    rw [g1,bs]
    simp only
    rw [zH (by omega) (by omega),bs,cs]
    exact .inl ⟨rfl,h2,hl,fun j hj => g2 j (Nat.zero_le _) hj⟩
   ·rw [show ((0:Nat):Int) = 0 from rfl] at g1
    rw [g1,bs]
    exact .inr ⟨rfl,fun g => g2 (g.2.2 j hj)⟩
  ·rw [zA3 (by omega),zK]
   exact .inr ⟨rfl,fun g => hl g.2.1⟩
 ·rw [h1,bs,Bool.not_false,zK]
  exact .inr ⟨rfl,fun g => h2 g.1⟩
theorem zIa {x:SPr} (h6:x.zA.length ≤ 6) :
  (zJ (zJP x) (1,0) = some (.inl ()) ∧ Os x.zA ∧ pr x.zA x.zA.length ≤ 729) ∨ (zJ (zJP x) (1,0) = some (.inr false) ∧ ¬ (Os x.zA ∧ pr x.zA x.zA.length ≤ 729)):=by
 rcases zUf (body:=zJP x) (fun i => (pr x.zA i,(i:Int))) x.zA.length 0 (Nat.zero_le _) (fun i => Prime (at0 x.zA i) ∧ pr x.zA (i + 1) ≤ 729) (fun _ => false) (fun i _ hi hpre => by
   have hp:∀ j,j < i → Prime (at0 x.zA j):=fun j hj => (hpre j (Nat.zero_le _) hj).1
   have hpp:=zFe hp
   have hle:pr x.zA i ≤ 729:=by
    cases i with
    | zero => simp [pr]
    | succ i => exact (hpre i (Nat.zero_le _) (by omega)).2
   unfold zJP
   rw [xM hi,zK,yW hi,bs]
   rcases jE (at0 x.zA i) with ⟨h1,h2⟩ | ⟨h1,h2⟩
   ·have h3:=h2.pos
    have h4:pr x.zA i * at0 x.zA i ≤ 729 * 7:=Int.mul_le_mul hle h3.2 (by omega) (by omega)
    have h5:1 * 1 ≤ pr x.zA i * at0 x.zA i:=Int.mul_le_mul hpp (by omega) (by omega) (by omega)
    simp only
    rw [h1,bs,Bool.not_true,zG,zH (by omega) (by omega),bs]
    by_cases h7:pr x.zA i * at0 x.zA i > 729
    ·rw [decide_eq_true h7,zK]
     exact .inr ⟨rfl,fun g => by have:=g.2;simp only [pr] at this;omega⟩
    ·rw [decide_eq_false h7,zG,bs,zH (by omega) (by omega),bs,cs]
     exact .inl ⟨rfl,h2,by simp only [pr];omega⟩
   ·rw [h1,bs,Bool.not_false,zK]
    exact .inr ⟨rfl,fun g => h2 g.1⟩) (by
   unfold zJP
   rw [xQ,zG]) with ⟨g1,g2⟩ | ⟨i,_,hi,g1,g2⟩
 ·refine .inl ⟨g1,⟨by omega,fun i hi => (g2 i (Nat.zero_le _) hi).1⟩,?_⟩
  cases hn:x.zA.length with
  | zero => simp [pr]
  | succ n => exact (g2 n (Nat.zero_le _) (by omega)).2
 ·refine .inr ⟨g1,fun ⟨h1,h2⟩ => g2 ⟨h1.2 i hi,?_⟩⟩
  have:=zKP (os:=x.zA) (n:=x.zA.length) h1.2 (x.zA.length - (i + 1)) (by omega)
  rw [show x.zA.length - (x.zA.length - (i + 1)) = i + 1 from by omega] at this
  omega
theorem zGP {os:List Int} (ho:Os os):zPO os = some (cp os os.length):=by
 have h6:=ho.1
 unfold zPO
 rw [show (1,0) = (fun i => (cp os i,(i:Int))) 0 from rfl,zW (body:=zI9 os) (r:=cp os os.length) (fun i => (cp os i,(i:Int))) os.length (fun i hi => by
  have hp:=(ho.2 i hi).pos
  have hc:=zNr (os:=os) (i:=i) fun j hj => ho.2 j (by omega)
  have hpp:=zFe (os:=os) (i:=i) fun j hj => ho.2 j (by omega)
  unfold zI9
  rw [xM hi,zK]
  simp only [cp]
  by_cases h:cp os i ≤ 729
  ·have h4:cp os i * at0 os i ≤ 729 * 7:=Int.mul_le_mul h hp.2 (by omega) (by omega)
   have h5:1 * 1 ≤ cp os i * at0 os i:=Int.mul_le_mul (by omega) (by omega) (by omega) (by omega)
   rw [decide_eq_true h,zK,yW hi,bs,zH (by omega) (by omega),bs,zH (by omega) (by omega),bs,cs,if_pos h]
  ·rw [decide_eq_false h,zG,zH (by omega) (by omega),bs,cs,if_neg h]) (by
  unfold zI9
  rw [xQ,zG]),bs]
theorem zBx {x:SPr} (hl:x.zA.length ≤ 1048576):IsB (f_m x) (zGi x):=by
 unfold f_m
 by_cases h6:x.zA.length ≤ 6
 ·rw [decide_eq_false (by omega),zG]
  by_cases hp:x.zR.length = x.zA.length
  ·rw [zA2 (by omega),zG]
   by_cases hc:x.zB.length = x.zA.length
   ·rw [zA2 (by omega),zG]
    rcases zIa h6 with ⟨h1,h2,h3⟩ | ⟨h1,h2⟩
    ·rw [h1,bs]
     exact (uE (f:=(zJ (zJQ x) 0).bind fun r => match r with | .inl _ => some true | .inr r => some r) x.zA.length (zDH x) rfl (fun i hi _ => zJo h2 hp hc hi) (by
      unfold zJQ
      rw [xQ,zG])).iff ⟨fun g => ⟨⟨h2,hp,hc,g⟩,h6,h3⟩,fun g => g.tl⟩
    ·rw [h1,bs]
     exact .inr ⟨rfl,fun g => h2 ⟨g.os,g.pr⟩⟩
   ·rw [zA3 (by omega),zK]
    exact .inr ⟨rfl,fun g => hc g.cl⟩
  ·rw [zA3 (by omega),zK]
   exact .inr ⟨rfl,fun g => hp g.pl⟩
 ·rw [decide_eq_true (by omega),zK]
  exact .inr ⟨rfl,fun g => h6 g.n6⟩
theorem zBy {x:SPr} (hl:x.zA.length ≤ 1048576):IsB (f_o x) (zGi x):=by
 unfold f_o
 by_cases h6:x.zA.length ≤ 6
 ·rw [decide_eq_false (by omega),zG]
  by_cases hp:x.zR.length = x.zA.length
  ·rw [zA2 (by omega),zG]
   by_cases hc:x.zB.length = x.zA.length
   ·rw [zA2 (by omega),zG]
    rcases chk (body:=zNZ x) x.zA.length 0 (Nat.zero_le _) (fun i => Prime (at0 x.zA i)) (fun _ => false) (fun i _ hi _ => by
      refine wV (zCg _) (by omega) ?_
      unfold zNZ
      rw [xM hi,zK,yW hi,bs]) (by
      unfold zNZ
      rw [xQ,zG]) with ⟨g1,g2⟩ | ⟨i,_,hi,g1,g2⟩
    ·rw [show ((0:Nat):Int) = 0 from rfl] at g1
     have ho:Os x.zA:=⟨by omega,fun i hi => g2 i (Nat.zero_le _) hi⟩
     have hcp:=zNr (os:=x.zA) (i:=x.zA.length) ho.2
     rw [g1,bs]
     simp only
     rw [zGP ho,bs]
     by_cases h7:cp x.zA x.zA.length > 729
     ·rw [decide_eq_true h7,zK]
      exact .inr ⟨rfl,fun g => by have:=g.pr;omega⟩
     ·rw [decide_eq_false h7,zG]
      exact (uE (f:=(zJ (zJL x) 0).bind fun r => match r with | .inl _ => some true | .inr r => some r) x.zA.length (zDH x) rfl (fun i hi _ => zJp ho hp hc hi) (by
       unfold zJL
       rw [xQ,zG])).iff ⟨fun g => ⟨⟨ho,hp,hc,g⟩,h6,by omega⟩,fun g => g.tl⟩
    ·rw [show ((0:Nat):Int) = 0 from rfl] at g1
     rw [g1,bs]
     exact .inr ⟨rfl,fun g => g2 (g.os.2 i hi)⟩
   ·rw [zA3 (by omega),zK]
    exact .inr ⟨rfl,fun g => hc g.cl⟩
  ·rw [zA3 (by omega),zK]
   exact .inr ⟨rfl,fun g => hp g.pl⟩
 ·rw [decide_eq_true (by omega),zK]
  exact .inr ⟨rfl,fun g => h6 g.n6⟩
end Go.Pl

namespace Go.Pl
open Go Go.Ab Go.Wk Go.Pc
def lvl (x:SPr) (i:Nat):Lvl:=⟨at0 x.zA i,(x.zR.getD i []).drop (i + 1),(x.zB.getD i []).map (·.drop (i + 1))⟩
def suf (x:SPr) (k:Nat):Pcp:=(List.range' k (x.zA.length - k)).map (lvl x)
theorem yX (x:SPr) (k:Nat):(suf x k).length = x.zA.length - k:=by simp [suf]
theorem yF {x:SPr} {k:Nat} (h:k < x.zA.length):suf x k = lvl x k :: suf x (k + 1):=by
 unfold suf
 rw [show x.zA.length - k = (x.zA.length - (k + 1)) + 1 from by omega,List.range'_succ,List.map_cons]
theorem vV {x:SPr} {k:Nat} (h:x.zA.length ≤ k):suf x k = []:=by
 unfold suf;rw [show x.zA.length - k = 0 from by omega];rfl
theorem kT {os v:List Int} {k:Nat} (h:Exp os v k) (hk:k < os.length):v = zeros (k + 1) ++ v.drop (k + 1):=by
 have h1:=h.1.1
 apply List.ext_getElem?
 intro i
 rw [List.getElem?_append]
 simp only [zeros,List.length_replicate,List.getElem?_replicate,List.getElem?_drop]
 split
 ·rename_i hi
  have h2:=h.2 i (by omega)
  rw [List.getElem?_eq_getElem (by omega)]
  rw [at0,List.getD_eq_getElem?_getD,List.getElem?_eq_getElem (by omega)] at h2
  simpa using h2
 ·rw [show k + 1 + (i - (k + 1)) = i from by omega]
theorem zRx {x:SPr}:∀ (d k:Nat) (v:List Int),k + d = x.zA.length → v.length = d → (∀ i,i < d → 0 ≤ at0 v i ∧ at0 v i ≤ at0 x.zA (k + i) - 1) → V (suf x k) v
 | 0,k,v,hk,hv,_ => by
  rw [vV (by omega)]
  simpa [V] using hv
 | d + 1,k,v,hk,hv,h => by
  rw [yF (by omega)]
  match v,hv with
  | a :: v,hv =>
   have h0:=h 0 (by omega)
   simp only [at0,List.getD_cons_zero,Nat.add_zero] at h0
   refine ⟨⟨h0.1,by simp only [lvl,at0];omega⟩,zRx d (k + 1) v (by omega) (by simpa using hv) fun i hi => ?_⟩
   have:=h (i + 1) (by omega)
   simp only [at0,List.getD_cons_succ] at this
   rw [show k + 1 + i = k + (i + 1) from by omega]
   exact this
theorem zGj {x:SPr} {v:List Int} {k:Nat} (h:Exp x.zA v k) (hk:k < x.zA.length):V (suf x (k + 1)) (v.drop (k + 1)):=by
 have h1:=h.1.1
 refine zRx (x.zA.length - (k + 1)) (k + 1) _ (by omega) (by rw [List.length_drop];omega) fun i hi => ?_
 have:=h.1.2 (k + 1 + i) (by omega)
 have e:at0 (v.drop (k + 1)) i = at0 v (k + 1 + i):=by simp only [at0,List.getD_eq_getElem?_getD,List.getElem?_drop]
 rw [e];exact this
theorem zBC.ok {x:SPr} (h:zBC x):∀ (d k:Nat),k + d = x.zA.length → Pc.Ok (suf x k)
 | 0,k,hk => by rw [vV (by omega)];simp only [Pc.Ok]
 | d + 1,k,hk => by
  rw [yF (by omega)]
  obtain ⟨t1,t2,t3⟩:=h.tl k (by omega)
  refine ⟨by simp only [lvl];have:=(h.os.2 k (by omega)).pos;omega,zGj t1 (by omega),?_,fun c hc => ?_,zBC.ok h d (k + 1) (by omega)⟩
  ·rw [yX];simp only [lvl,List.length_map];omega
  ·simp only [lvl,List.mem_map] at hc
   obtain ⟨u,hu,rfl⟩:=hc
   obtain ⟨j,hj,rfl⟩:=List.mem_iff_getElem.1 hu
   have:=t3 j hj
   rw [List.getD_eq_getElem?_getD,List.getElem?_eq_getElem hj] at this
   exact zGj this (by omega)
theorem zBC.okAt {x:SPr} (h:zBC x) {k:Nat} (hk:k ≤ x.zA.length):Pc.Ok (suf x k):=h.ok (x.zA.length - k) k (by omega)
theorem Pres.okAt {x:SPr} (h:Pres x) {k:Nat} (hk:k ≤ x.zA.length):Pc.Ok (suf x k):=h.w.okAt hk
theorem zQ (n:Nat):(zeros n).length = n:=by simp [zeros]
theorem zDI (k:Nat):zeros (k + 1) = zeros k ++ [0]:=by simp [zeros,List.replicate_succ']
theorem zBD {k:Nat} {a b:Int} {v:Vec}:(zeros k ++ a :: v).set k b = zeros k ++ b :: v:=by
 rw [List.set_append_right _ _ (by rw [zQ];omega),zQ,Nat.sub_self,List.set_cons_zero]
theorem zAQ {k:Nat} {a:Int} {v:Vec}:ixO (zeros k ++ a :: v) (k:Int) = some a:=by
 rw [uD,List.getElem?_append_right (by rw [zQ];omega),zQ,Nat.sub_self];rfl
theorem zAr {k:Nat} {v:Vec}:zeros k ++ 0 :: v = zeros (k + 1) ++ v:=by rw [zDI,List.append_assoc];rfl
theorem kV {v:List Int} (h:v.length ≤ 1000000):f_u v = some v:=by
 unfold f_u
 rw [wA (by simp;omega),bs,List.nil_append]
end Go.Pl

namespace Go.Pl
open Go Go.Ab Go.Wk Go.Pc
theorem kW {m:Vec → Vec → Vec}:∀ (cs:List Vec) (x:Vec) (i:Nat) (acc:Vec),i < cs.length → i < x.length →
  img m (cs.take (i + 1)) (x.take (i + 1)) acc = iter (at0 x i).toNat (fun v => m v (cs.getD i [])) (img m (cs.take i) (x.take i) acc)
 | [],_,_,_,h,_ => by simp at h
 | _ :: _,[],_,_,_,h => by simp at h
 | c :: cs,a :: x,0,acc,_,_ => by simp only [Nat.zero_add,List.take_succ_cons,List.take_zero,img,at0,List.getD_cons_zero]
 | c :: cs,a :: x,i + 1,acc,h,h' => by
  simp only [List.take_succ_cons,img,at0,List.getD_cons_succ]
  exact kW cs x i _ (by simpa using h) (by simpa using h')
theorem vS {α β:Type} {body:α × Int → Option ((α × Int) ⊕ α)} {S:β → Prop} (e:β → α) (g:β → β) (n:Int) (hn:0 ≤ n) (hS:∀ a,S a → S (g a))
  (h:∀ a (i:Nat),S a → (i:Int) < n → body (e a,(i:Int)) = some (.inl (e (g a),((i + 1:Nat):Int)))) (he:∀ a,S a → body (e a,n) = some (.inr (e a))) {a:β} (ha:S a) :
  zJ body (e a,0) = some (e (iter n.toNat g a)):=by
 have hit:∀ k,S (iter k g a):=fun k => wU (S:=S) hS k ha
 exact zW (body:=body) (r:=e (iter n.toNat g a)) (fun i => (e (iter i g a),(i:Int))) n.toNat (fun i hi => by
  rw [h _ i (hit i) (by omega),vA]) (by
  rw [show ((n.toNat:Nat):Int) = n from by omega]
  exact he _ (hit _))
theorem zIb {k i:Nat} {v:Vec} (h:i < v.length):ixO (zeros k ++ v) ((k + i:Nat):Int) = some (at0 v i):=by
 rw [uD,List.getElem?_append_right (by rw [zQ];omega),zQ,show k + i - k = i from by omega,List.getElem?_eq_getElem h,at0,List.getD_eq_getElem?_getD,List.getElem?_eq_getElem h];rfl
theorem zCh {x:SPr} (ho:Os x.zA):∀ (d k:Nat) (v:List Int),k + d = x.zA.length → V (suf x k) v → v.length = d ∧ ∀ i,i < d → 0 ≤ at0 v i ∧ at0 v i < at0 x.zA (k + i) ∧ at0 v i ≤ 6
 | 0,k,v,hk,hv => by
  rw [vV (by omega)] at hv
  simp only [V] at hv
  subst hv
  exact ⟨rfl,fun i hi => by omega⟩
 | d + 1,k,v,hk,hv => by
  rw [yF (by omega)] at hv
  match v,hv with
  | a :: v,hv =>
   obtain ⟨h1,h2⟩:=zCh ho d (k + 1) v (by omega) hv.2
   refine ⟨by simp [h1],fun i hi => ?_⟩
   cases i with
   | zero =>
    have h3:=hv.1
    simp only [lvl] at h3
    have:=(ho.2 k (by omega)).pos
    simp only [at0,List.getD_cons_zero,Nat.add_zero] at h3 this ⊢
    omega
   | succ i =>
    have:=h2 i (by omega)
    simp only [at0,List.getD_cons_succ] at this ⊢
    rw [show k + (i + 1) = k + 1 + i from by omega]
    exact this
theorem zCH {x:SPr} (h:Pres x) {k i:Nat} (hk:k < x.zA.length) (hi:i < x.zA.length - (k + 1)) :
  ∃ c,ixO x.zB (k:Int) = some (x.zB.getD k []) ∧ ixO (x.zB.getD k []) (i:Int) = some (zeros (k + 1) ++ c) ∧ V (suf x (k + 1)) c ∧ (lvl x k).cs.getD i [] = c:=by
 obtain ⟨t1,t2,t3⟩:=h.tl k hk
 have hc:=h.cl
 have ht:=t3 i (by omega)
 refine ⟨((x.zB.getD k []).getD i []).drop (k + 1),yO [] (by omega),?_,zGj ht hk,?_⟩
 ·rw [yO [] (by omega),← kT ht hk]
 ·simp only [lvl,List.getD_eq_getElem?_getD,List.getElem?_map]
  rw [List.getElem?_eq_getElem (l:=x.zB[k]?.getD []) (by rw [List.getD_eq_getElem?_getD] at t2;omega)]
  rfl
def FAt (x:SPr) (k:Nat) (g:SPr → Int → List Int → List Int → Option (List Int)):Prop :=
 ∀ a b,V (suf x k) a → V (suf x k) b → g x k (zeros k ++ a) (zeros k ++ b) = some (zeros k ++ mul (suf x k) a b)
def FIm (x:SPr) (k:Nat) (g:SPr → Int → List Int → Option (List Int)):Prop :=
 ∀ v,V (suf x (k + 1)) v → g x k (zeros (k + 1) ++ v) = some (zeros (k + 1) ++ sig (suf x (k + 1)) (lvl x k) v)
theorem zJq {x:SPr} (h:Pres x) {k:Nat} (hk:k < x.zA.length) {g:SPr → Int → List Int → List Int → Option (List Int)} (hg:FAt x (k + 1) g):FIm x k (b_e g):=by
 intro v hv
 have h6:=h.os.1
 have ok:=h.okAt (k:=k + 1) (by omega)
 obtain ⟨hvl,hvr⟩:=zCh h.os (x.zA.length - (k + 1)) (k + 1) v (by omega) hv
 have hlen:=yX x (k + 1)
 have hcl:(lvl x k).cs.length = x.zA.length - (k + 1):=by
  have:=h.okAt (k:=k) (by omega)
  rw [yF hk] at this
  rw [this.2.2.1,hlen]
 have hcs:∀ c ∈ (lvl x k).cs,V (suf x (k + 1)) c:=by
  have:=h.okAt (k:=k) (by omega)
  rw [yF hk] at this
  exact this.2.2.2.1
 have hA:∀ i,V (suf x (k + 1)) (img (mul (suf x (k + 1))) ((lvl x k).cs.take i) (v.take i) (zeros (suf x (k + 1)).length)):=fun i =>
  tZ (xE ok) _ _ (fun c hc => hcs c (List.mem_of_mem_take hc)) (wH ok)
 unfold b_e
 rw [xF (by omega),bs,zH (by omega) (by omega),bs,cs]
 have hz:List.replicate x.zA.length (0:Int) = zeros (k + 1) ++ zeros (suf x (k + 1)).length:=by
  rw [hlen];simp only [zeros,List.replicate_append_replicate];congr 1;omega
 rw [hz]
 have:=zW (body:=zOc g x k (zeros (k + 1) ++ v)) (r:=zeros (k + 1) ++ sig (suf x (k + 1)) (lvl x k) v)
  (fun i => (zeros (k + 1) ++ img (mul (suf x (k + 1))) ((lvl x k).cs.take i) (v.take i) (zeros (suf x (k + 1)).length),((k + 1 + i:Nat):Int))) (x.zA.length - (k + 1)) (fun i hi => by
  have hr:=hvr i hi
  obtain ⟨c,c1,c2,c3,c4⟩:=zCH h hk hi
  unfold zOc
  rw [decide_eq_true (by simp only;omega),zK]
  rw [vS (S:=V (suf x (k + 1))) (body:=zOb g x k (zeros (k + 1) ++ v) (zeros (k + 1) ++ img (mul (suf x (k + 1))) ((lvl x k).cs.take i) (v.take i) (zeros (suf x (k + 1)).length),((k + 1 + i:Nat):Int))) (fun u => zeros (k + 1) ++ u) (fun u => mul (suf x (k + 1)) u c) (at0 v i) hr.1 (fun u hu => xE ok hu c3) (fun u q hu hq => by
   unfold zOb
   simp only
   rw [zIb (by omega),bs,decide_eq_true hq,zK,zH (by omega) (by omega),bs,c1,bs,zH (by omega) (by omega),bs,zH (by omega) (by omega),bs,
    show (((k + 1 + i:Nat):Int) - (k:Int) - 1) = (i:Int) from by omega,c2,bs,cs,hg u c hu c3,bs,zH (by omega) (by omega),bs,cs]) (fun u hu => by
   unfold zOb
   simp only
   rw [zIb (by omega),bs,decide_eq_false (by omega),zG]) (hA i),bs,zH (by omega) (by omega),bs,cs]
  rw [kW _ _ _ _ (by omega) (by omega),c4]
  rfl) (by
  unfold zOc
  rw [decide_eq_false (by simp only;omega),zG,List.take_of_length_le (by omega),List.take_of_length_le (by omega)]
  rfl)
 simp only [List.take_zero,img] at this
 rw [this,bs]
theorem zP7 {x:SPr} (h:Pres x) {k:Nat} (hk:k < x.zA.length) {g:SPr → Int → List Int → List Int → Option (List Int)} {gi:SPr → Int → List Int → Option (List Int)} (hg:FAt x (k + 1) g) (hi:FIm x k gi):FAt x k (b_a gi g):=by
 intro a b ha hb
 have h6:=h.os.1
 have hp:=(h.os.2 k hk).pos
 have ok:=h.okAt (k:=k + 1) (by omega)
 have ok0:=h.okAt (k:=k) (by omega)
 obtain ⟨hal,har⟩:=zCh h.os (x.zA.length - k) k a (by omega) ha
 obtain ⟨hbl,hbr⟩:=zCh h.os (x.zA.length - k) k b (by omega) hb
 rw [yF hk] at ha hb ok0
 obtain ⟨a0,a,rfl⟩:∃ a0 a',a = a0 :: a':=by cases a with | nil => simp at hal;omega | cons p q => exact ⟨p,q,rfl⟩
 obtain ⟨b0,b,rfl⟩:∃ a0 a',b = a0 :: a':=by cases b with | nil => simp at hbl;omega | cons p q => exact ⟨p,q,rfl⟩
 obtain ⟨⟨a1,a2⟩,ha⟩:=ha
 obtain ⟨⟨b1,b2⟩,hb⟩:=hb
 have hor:(lvl x k).o = at0 x.zA k:=rfl
 rw [hor] at a2 b2
 unfold b_a
 rw [decide_eq_false (by omega),zG,kV (by simp [zQ] at hal ⊢;omega),bs,kV (by simp [zQ] at hbl ⊢;omega),bs,zAQ,bs,zAQ,bs,Int.toNat_natCast,zBD,zBD,zAr,zAr]
 have hsig:∀ u,V (suf x (k + 1)) u → V (suf x (k + 1)) (sig (suf x (k + 1)) (lvl x k) u):=fun u hu => zCe ok0 hu
 have hit:V (suf x (k + 1)) (iter b0.toNat (sig (suf x (k + 1)) (lvl x k)) a):=wU hsig _ ha
 rw [vS (S:=V (suf x (k + 1))) (fun u => zeros (k + 1) ++ u) (sig (suf x (k + 1)) (lvl x k)) b0 b1 hsig (fun u q hu hq => by
   unfold zPP
   simp only
   rw [zAQ,bs,decide_eq_true hq,zK,hi u hu,bs,zH (by omega) (by omega),bs,cs]) (fun u hu => by
   unfold zPP
   simp only
   rw [zAQ,bs,decide_eq_false (by omega),zG]) ha,bs,zH (by omega) (by omega),bs,cs,hg _ _ hit hb,bs,bs,bs,zH (by omega) (by omega),bs,yW hk,bs]
 have hm:=xE ok hit hb
 have hml:=(zCh h.os (x.zA.length - (k + 1)) (k + 1) _ (by omega) hm).1
 have own:∀ u,V (suf x (k + 1)) u → f_u (zeros (k + 1) ++ u) = some (zeros (k + 1) ++ u):=fun u hu => kV (by
  have:=(zCh h.os (x.zA.length - (k + 1)) (k + 1) _ (by omega) hu).1
  rw [List.length_append,zQ];omega)
 rw [yF hk,yK,hor]
 by_cases hge:a0 + b0 ≥ at0 x.zA k
 ·have t1:=(h.tl k hk).1
  have hw:=zGj t1 hk
  have hwl:=h.pl
  rw [decide_eq_true hge,zK,if_pos hge,bs,zH (by omega) (by omega),bs,bs,yO [] (by omega),bs,kT t1 hk,hg _ _ hw hm,bs,own _ (xE ok hw hm),bs]
  rw [← zAr,zAQ,bs,zBD]
  rfl
 ·rw [decide_eq_false hge,zG,if_neg hge,own _ hm,bs,← zAr,zAQ,bs,zBD]
theorem zDo {x:SPr} (h:Pres x):∀ (d k:Nat),k + d = x.zA.length → (∀ m,2 * d + 1 ≤ m → FAt x k (zJN m)) ∧ (1 ≤ d → ∀ m,2 * d ≤ m → FIm x k (zJM m))
 | 0,k,hk => by
  refine ⟨fun m hm a b ha hb => ?_,fun h => by omega⟩
  have h6:=h.os.1
  obtain ⟨m,rfl⟩:∃ m',m = m' + 1:=⟨m - 1,by omega⟩
  show b_a _ _ x k _ _ = _
  unfold b_a
  rw [decide_eq_true (by omega),zK,xF (by omega),bs,vV (by omega)]
  simp only [mul,List.append_nil,zeros]
  rw [show k = x.zA.length from by omega]
 | d + 1,k,hk => by
  obtain ⟨h1,h2⟩:=zDo h d (k + 1) (by omega)
  have hI:∀ m,2 * (d + 1) ≤ m → FIm x k (zJM m):=fun m hm => by
   obtain ⟨m,rfl⟩:∃ m',m = m' + 1:=⟨m - 1,by omega⟩
   exact zJq h (by omega) (h1 m (by omega))
  refine ⟨fun m hm => ?_,fun _ => hI⟩
  obtain ⟨m,rfl⟩:∃ m',m = m' + 1:=⟨m - 1,by omega⟩
  exact zP7 h (by omega) (h1 m (by omega)) (hI m (by omega))
theorem zKQ {x:SPr} (h:Pres x) {k:Nat} (hk:k ≤ x.zA.length):FAt x k f_a:=fun a b ha hb =>
 kR (2 * (x.zA.length - k) + 1) fun m hm => (zDo h (x.zA.length - k) k (by omega)).1 m hm a b ha hb
theorem zJr {x:SPr} (h:Pres x) {k:Nat} (hk:k < x.zA.length):FIm x k f_e:=fun v hv =>
 kR (2 * (x.zA.length - k)) fun m hm => (zDo h (x.zA.length - k) k (by omega)).2 (by omega) m hm v hv
end Go.Pl

namespace Go.Pl
open Go Go.Ab Go.Wk Go.Pc
theorem zAR:∀ {P Q:Pcp},Q <:+ P → vB P → vB Q
 | [],Q,h,_ => by
  have:=List.suffix_nil.1 h
  subst this;simp only [vB]
 | l :: P,Q,h,hc => by
  rcases List.suffix_cons_iff.1 h with rfl | h
  ·exact hc
  ·exact zAR h hc.1
theorem zGk:∀ {P Q:Pcp},Q <:+ P → Pc.Ok P → Pc.Ok Q
 | [],Q,h,_ => by
  have:=List.suffix_nil.1 h
  subst this;simp only [Pc.Ok]
 | l :: P,Q,h,hc => by
  rcases List.suffix_cons_iff.1 h with rfl | h
  ·exact hc
  ·exact zGk h hc.2.2.2.2
theorem zJs (x:SPr) (k:Nat):suf x (k + 1) <:+ suf x k:=by
 by_cases h:k < x.zA.length
 ·rw [yF h];exact List.suffix_cons _ _
 ·rw [vV (by omega)];exact List.nil_suffix
theorem zCI {x:SPr} {k:Nat} (h:vB (suf x k)):∀ i,vB (suf x (k + i))
 | 0 => h
 | i + 1 => zAR (zJs x (k + i)) (zCI h i)
theorem zFf {x:SPr} (h:Pres x) {k:Nat} (hk:k ≤ x.zA.length) (hc:vB (suf x k)):Grp (V (suf x k)) (mul (suf x k)) (zeros (suf x k).length):=zKJ _ (h.okAt hk) hc
theorem zEa {x:SPr}:∀ (i k:Nat) (v:Vec),k + i ≤ x.zA.length → V (suf x k) v → ∃ q v',v = q ++ v' ∧ q.length = i ∧ V (suf x (k + i)) v' ∧
  ∀ a b,V (suf x (k + i)) a → V (suf x (k + i)) b → mul (suf x k) (q ++ a) (zeros i ++ b) = q ++ mul (suf x (k + i)) a b
 | 0,k,v,_,hv => ⟨[],v,rfl,rfl,hv,fun a b _ _ => rfl⟩
 | i + 1,k,v,hk,hv => by
  rw [yF (by omega)] at hv
  match v,hv with
  | e :: v,hv =>
   obtain ⟨q,v',h1,h2,h3,h4⟩:=zEa i (k + 1) v (by omega) hv.2
   rw [show k + 1 + i = k + (i + 1) from by omega] at h3 h4
   refine ⟨e :: q,v',by rw [h1];rfl,by simp [h2],h3,fun a b ha hb => ?_⟩
   have he:=hv.1
   rw [yF (by omega)]
   show mul (lvl x k :: suf x (k + 1)) (e :: (q ++ a)) (0 :: (zeros i ++ b)) = _
   rw [yK,Int.add_zero,if_neg (by omega)]
   simp only [Int.toNat_zero,iter]
   rw [h4 a b ha hb];rfl
def FTV (x:SPr) (k:Nat) (g:SPr → List Int → List Int → Option (List Int)):Prop :=
 ∀ p v u,p.length = k → V (suf x k) v → V (suf x k) u → g x (p ++ v) (zeros k ++ u) = some (p ++ mul (suf x k) v u)
def FTG (x:SPr) (k:Nat) (g:SPr → List Int → Int → Option (List Int)):Prop :=
 ∀ p v,p.length = k → V (suf x k) v → g x (p ++ v) (k:Int) = some (p ++ mul (suf x k) v (1 :: zeros (x.zA.length - (k + 1))))
theorem zGl {x:SPr} (h:Pres x) {k:Nat} (hk:k < x.zA.length) {g:SPr → List Int → List Int → Option (List Int)} (hg:FTV x (k + 1) g) {t:Vec} (ht:V (suf x (k + 1)) t)
  {body1:List Int × Int → Int → List Int × Int → Option ((List Int × Int) ⊕ List Int)} {body2:List Int × Int → Option ((List Int × Int) ⊕ List Int)}
  (hb2:∀ s,body2 s = cond (decide (s.2 < (t.length:Int))) ((ixO t s.2).bind fun v17 => (zJ (body1 s v17) (s.1,0)).bind fun r => (rng (s.2 + 1)).bind fun v => some (.inl (r,v))) (some (.inr s.1)))
  (hb1:∀ s v q,body1 s v q = cond (decide (q.2 < v)) ((ixO x.zB (k:Int)).bind fun cl => (ixO cl s.2).bind fun c => (g x q.1 c).bind fun r => (rng (q.2 + 1)).bind fun w => some (.inl (r,w))) (some (.inr q.1)))
  {p:Vec} (hp:p.length = k + 1) {u:Vec} (hu:V (suf x (k + 1)) u):zJ body2 (p ++ u,0) = some (p ++ img (mul (suf x (k + 1))) (lvl x k).cs t u):=by
 have h6:=h.os.1
 have ok:=h.okAt (k:=k + 1) (by omega)
 have ok0:=h.okAt (k:=k) (by omega)
 rw [yF hk] at ok0
 obtain ⟨htl,htr⟩:=zCh h.os (x.zA.length - (k + 1)) (k + 1) t (by omega) ht
 have hcl:(lvl x k).cs.length = x.zA.length - (k + 1):=by rw [ok0.2.2.1,yX]
 have hA:∀ i,V (suf x (k + 1)) (img (mul (suf x (k + 1))) ((lvl x k).cs.take i) (t.take i) u):=fun i =>
  tZ (xE ok) _ _ (fun c hc => ok0.2.2.2.1 c (List.mem_of_mem_take hc)) hu
 have:=zW (body:=body2) (r:=p ++ img (mul (suf x (k + 1))) (lvl x k).cs t u) (fun i => (p ++ img (mul (suf x (k + 1))) ((lvl x k).cs.take i) (t.take i) u,(i:Int))) t.length (fun i hi => by
  have hr:=htr i (by omega)
  obtain ⟨c,c1,c2,c3,c4⟩:=zCH h hk (i:=i) (by omega)
  rw [hb2]
  simp only
  rw [xM hi,zK,yW hi,bs]
  rw [vS (S:=V (suf x (k + 1))) (fun u => p ++ u) (fun u => mul (suf x (k + 1)) u c) (at0 t i) hr.1 (fun u hu => xE ok hu c3) (fun u q hu hq => by
   rw [hb1]
   simp only
   rw [decide_eq_true hq,zK,c1,bs,c2,bs,hg p u c hp hu c3,bs,zH (by omega) (by omega),bs,cs]) (fun u hu => by
   rw [hb1]
   simp only
   rw [decide_eq_false (by omega),zG]) (hA i),bs,zH (by omega) (by omega),bs,cs]
  rw [kW _ _ _ _ (by omega) (by omega),c4]) (by
  rw [hb2]
  simp only
  rw [xQ,zG,List.take_of_length_le (by omega),List.take_of_length_le (by omega)])
 simp only [List.take_zero,img] at this
 exact this
theorem zQ8 {p v:Vec} {a:Int} {k:Nat} (hp:p.length = k):ixO (p ++ a :: v) (k:Int) = some a:=by
 rw [uD,List.getElem?_append_right (by omega),hp,Nat.sub_self];rfl
theorem p_set {p v:Vec} {a b:Int} {k:Nat} (hp:p.length = k):(p ++ a :: v).set k b = p ++ b :: v:=by
 rw [List.set_append_right _ _ (by omega),hp,Nat.sub_self,List.set_cons_zero]
theorem zIc {x:SPr} (h:Pres x) {k:Nat} (hk:k < x.zA.length) (hc:vB (suf x (k + 1))) {g:SPr → List Int → List Int → Option (List Int)} (hg:FTV x (k + 1) g):FTG x k (b_b g):=by
 intro p v hp hv
 have h6:=h.os.1
 have G:=zFf h (k:=k + 1) (by omega) hc
 have ok:=h.okAt (k:=k + 1) (by omega)
 have ok0:=h.okAt (k:=k) (by omega)
 obtain ⟨hvl,hvr⟩:=zCh h.os (x.zA.length - k) k v (by omega) hv
 rw [yF hk] at hv ok0
 obtain ⟨e,t,rfl⟩:∃ a0 a',v = a0 :: a':=by cases v with | nil => simp at hvl;omega | cons p q => exact ⟨p,q,rfl⟩
 obtain ⟨⟨e1,e2⟩,ht⟩:=hv
 have hor:(lvl x k).o = at0 x.zA k:=rfl
 rw [hor] at e2
 have hpr:=(h.os.2 k hk).pos
 have htl:=(zCh h.os (x.zA.length - (k + 1)) (k + 1) t (by omega) ht).1
 have hsl:=yX x (k + 1)
 unfold b_b
 have hs:yB (p ++ e :: t) ((k + 1:Nat):Int) ((p ++ e :: t).length:Int) = some t:=by
  unfold yB
  rw [if_pos (by simp only [List.length_append,List.length_cons];omega)]
  have e3:(p ++ e :: t).drop (k + 1) = t:=by
   rw [List.drop_append,List.drop_of_length_le (by omega),hp,show k + 1 - k = 1 from by omega];rfl
  simp only [Int.toNat_natCast,e3,List.length_append,List.length_cons]
  rw [List.take_of_length_le (by omega)]
 have hclone:f_z t = some t:=by
  unfold f_z
  rw [wA (by simp;omega),bs,List.nil_append]
 rw [zH (by omega) (by omega),bs,cs,hs,bs,hclone,bs]
 have hz:=zW (body:=zOu k t) (r:=(p ++ [e]) ++ zeros t.length) (fun i => ((p ++ [e]) ++ (zeros i ++ t.drop i),(i:Int))) t.length (fun i hi => by
  have hl:((p ++ [e]) ++ zeros i).length = k + 1 + i:=by simp [zQ,hp];omega
  unfold zOu
  simp only
  rw [xM hi,zK,zH (by omega) (by omega),bs,zH (by omega) (by omega),bs,show (k:Int) + 1 + (i:Int) = ((k + 1 + i:Nat):Int) from by omega,uD,← List.append_assoc,List.getElem?_append_right (by omega),hl,Nat.sub_self,
   List.drop_eq_getElem_cons hi,List.getElem?_cons_zero,bs,zH (by omega) (by omega),bs,cs,Int.toNat_natCast,List.set_append_right _ _ (by omega),hl,Nat.sub_self,List.set_cons_zero,zDI]
  simp only [List.append_assoc,List.cons_append,List.nil_append]) (by
  unfold zOu
  simp only
  rw [xQ,zG,List.drop_length,List.append_nil])
 simp only [zeros,List.replicate_zero,List.drop_zero,List.nil_append,List.append_assoc,List.singleton_append] at hz
 rw [show ((0:Nat):Int) = 0 from rfl] at hz
 rw [hz,bs,Int.toNat_natCast,zQ8 hp,bs,zH (by omega) (by omega),bs,bs,p_set hp,zQ8 hp,bs,yW hk,bs]
 have hz2:List.replicate t.length (0:Int) = zeros (suf x (k + 1)).length:=by rw [hsl,htl];rfl
 rw [yF hk,yK,hor]
 have hone:mul (suf x (k + 1)) (iter (1:Int).toNat (sig (suf x (k + 1)) (lvl x k)) t) (zeros (x.zA.length - (k + 1))) = sig (suf x (k + 1)) (lvl x k) t:=by
  rw [← hsl]
  show mul _ (sig (suf x (k + 1)) (lvl x k) t) _ = _
  exact G.oner (zCe ok0 ht)
 rw [hone,hz2]
 by_cases heq:e + 1 = at0 x.zA k
 ·have t1:=(h.tl k hk).1
  have hw:=zGj t1 hk
  have hwl:=h.pl
  have hp1:(p ++ [(0:Int)]).length = k + 1:=by simp [hp]
  rw [show (e + 1 == at0 x.zA k) = true from by simpa using heq,zK,if_pos (by omega),bs,yO [] (by omega),bs,p_set hp]
  have hz3:p ++ 0 :: zeros (suf x (k + 1)).length = (p ++ [0]) ++ zeros (suf x (k + 1)).length:=by simp
  rw [hz3,kT t1 hk,hg _ _ _ hp1 G.ein hw,bs,G.onel hw]
  rw [zGl (body1:=zRK g x k) (body2:=zRL g x k t) h hk hg ht (fun _ => rfl) (fun _ _ _ => rfl) hp1 hw,bs]
  rw [zCD G.toMon _ _ ok0.2.2.2.1 hw,show e + 1 - at0 x.zA k = 0 from by omega]
  simp only [List.append_assoc,List.singleton_append]
  rfl
 ·have hp1:(p ++ [e + 1]).length = k + 1:=by simp [hp]
  rw [show (e + 1 == at0 x.zA k) = false from by simpa using heq,zG,if_neg (by omega)]
  have hz3:p ++ (e + 1) :: zeros (suf x (k + 1)).length = (p ++ [e + 1]) ++ zeros (suf x (k + 1)).length:=by simp
  rw [hz3,zGl (body1:=zRM g x k) (body2:=zRN g x k t) h hk hg ht (fun _ => rfl) (fun _ _ _ => rfl) hp1 G.ein,bs]
  simp only [List.append_assoc,List.singleton_append]
  rfl
theorem qR {n i:Nat} (h:i < n):wL n i = zeros i ++ 1 :: zeros (n - (i + 1)):=by
 have:zeros n = zeros i ++ 0 :: zeros (n - (i + 1)):=by
  simp only [zeros]
  rw [← List.replicate_succ,List.replicate_append_replicate]
  congr 1;omega
 rw [wL,this,zBD]
theorem zCJ (n:Nat):(xJ n).length = n:=by simp [xJ]
theorem zFg {n i:Nat} (h:i < n):(xJ n).getD i [] = wL n i:=by
 simp [xJ,List.getD_eq_getElem?_getD,h]
theorem zNs {x:SPr} (h:Pres x) {k:Nat} (hk:k ≤ x.zA.length) (hc:vB (suf x k)) {g:SPr → List Int → Int → Option (List Int)} (hg:∀ j,k ≤ j → j < x.zA.length → FTG x j g):FTV x k (b_c g):=by
 intro p v u hp hv hu
 have h6:=h.os.1
 have G:=zFf h hk hc
 have ok:=h.okAt hk
 obtain ⟨hul,hur⟩:=zCh h.os (x.zA.length - k) k u (by omega) hu
 have hsl:=yX x k
 have hV1:∀ j,j ≤ x.zA.length → j < x.zA.length → V (suf x j) (1 :: zeros (x.zA.length - (j + 1))):=fun j hj hj' => by
  rw [yF hj']
  have:=(h.os.2 j hj').pos
  refine ⟨⟨by omega,by show 1 < at0 x.zA j;omega⟩,?_⟩
  rw [← yX]
  exact wH (h.okAt (by omega))
 have hUn:∀ i,i < x.zA.length - k → V (suf x k) (wL (x.zA.length - k) i):=fun i hi => by
  rw [← hsl] at hi ⊢
  exact zCd ok hi
 have hUs:∀ c ∈ xJ (x.zA.length - k),V (suf x k) c:=fun c hc => by
  simp only [xJ,List.mem_map,List.mem_range] at hc
  obtain ⟨i,hi,rfl⟩:=hc
  exact hUn i hi
 have hA:∀ i,V (suf x k) (img (mul (suf x k)) ((xJ (x.zA.length - k)).take i) (u.take i) v):=fun i =>
  tZ (xE ok) _ _ (fun c hc => hUs c (List.mem_of_mem_take hc)) hv
 have hgen:∀ i w,i < x.zA.length - k → V (suf x k) w → g x (p ++ w) ((k + i:Nat):Int) = some (p ++ mul (suf x k) w (wL (x.zA.length - k) i)):=fun i w hi hw => by
  obtain ⟨q,w',h1,h2,h3,h4⟩:=zEa i k w (by omega) hw
  have h5:=hg (k + i) (by omega) (by omega) (p ++ q) w' (by simp [hp,h2]) h3
  rw [List.append_assoc,← h1] at h5
  rw [h5,qR hi,h1,show x.zA.length - k - (i + 1) = x.zA.length - (k + i + 1) from by omega,h4 w' _ h3 (hV1 (k + i) (by omega) (by omega)),List.append_assoc]
 unfold b_c
 have hul2:(zeros k ++ u).length = x.zA.length:=by simp [zQ];omega
 have:=zW (body:=zOw g x (zeros k ++ u)) (r:=p ++ mul (suf x k) v u) (fun j => (p ++ img (mul (suf x k)) ((xJ (x.zA.length - k)).take (j - k)) (u.take (j - k)) v,(j:Int))) x.zA.length (fun j hj => by
  unfold zOw
  simp only
  rw [hul2,xM hj,zK]
  rcases Nat.lt_or_ge j k with hjk | hjk
  ·have e0:ixO (zeros k ++ u) (j:Int) = some 0:=by
    rw [uD,List.getElem?_append_left (by rw [zQ];exact hjk)]
    simp [zeros,hjk]
   rw [e0,bs,show j - k = 0 from by omega,show j + 1 - k = 0 from by omega]
   rw [xK]
   unfold zOv
   simp only
   rw [show decide ((0:Int) < 0) = false from rfl,zG]
   simp only
   rw [bs,zH (by omega) (by omega),bs,cs]
  ·obtain ⟨i,rfl⟩:∃ i,j = k + i:=⟨j - k,by omega⟩
   have hi:i < x.zA.length - k:=by omega
   have hr:=hur i hi
   rw [zIb (by omega),bs,show k + i - k = i from by omega,show k + i + 1 - k = i + 1 from by omega]
   rw [vS (S:=V (suf x k)) (fun w => p ++ w) (fun w => mul (suf x k) w (wL (x.zA.length - k) i)) (at0 u i) hr.1 (fun w hw => xE ok hw (hUn i hi)) (fun w q hw hq => by
    unfold zOv
    simp only
    rw [decide_eq_true hq,zK,hgen i w hi hw,bs,zH (by omega) (by omega),bs,cs]) (fun w hw => by
    unfold zOv
    simp only
    rw [decide_eq_false (by omega),zG]) (hA i),bs,zH (by omega) (by omega),bs,cs]
   rw [kW _ _ _ _ (by rw [zCJ];exact hi) (by omega),zFg hi]) (by
  unfold zOw
  simp only
  rw [hul2,xQ,zG,List.take_of_length_le (by rw [zCJ];omega),List.take_of_length_le (by omega),zCD G.toMon _ _ hUs hv]
  have hn:=normal (suf x k) ok (fun Q hQ => (zKJ Q (zGk hQ ok) (zAR hQ hc)).toMon) u hu
  rw [hsl] at hn ⊢
  rw [hn])
 simp only [Nat.zero_sub,List.take_zero,img] at this
 rw [show ((0:Nat):Int) = 0 from rfl] at this
 rw [this,bs]
theorem zDp {x:SPr} (h:Pres x):∀ (d k:Nat),k + d = x.zA.length → vB (suf x k) → (∀ m,2 * d + 1 ≤ m → FTV x k (zLX m))
 | d,k,hk,hc => fun m hm => by
  obtain ⟨m,rfl⟩:∃ m',m = m' + 1:=⟨m - 1,by omega⟩
  refine zNs h (by omega) hc fun j hj hjn => ?_
  obtain ⟨m,rfl⟩:∃ m',m = m' + 1:=⟨m - 1,by omega⟩
  have hcj:vB (suf x (j + 1)):=by
   have:=zCI hc (j + 1 - k)
   rwa [show k + (j + 1 - k) = j + 1 from by omega] at this
  exact zIc h hjn hcj (zDp h (x.zA.length - (j + 1)) (j + 1) (by omega) hcj m (by omega))
 termination_by d => d
 decreasing_by omega
theorem zP8 {x:SPr} (h:Pres x) {k:Nat} (hk:k ≤ x.zA.length) (hc:vB (suf x k)):FTV x k f_c:=fun p v u hp hv hu =>
 kR (2 * (x.zA.length - k) + 1) fun m hm => zDp h (x.zA.length - k) k (by omega) hc m hm p v u hp hv hu
theorem zP9 {x:SPr} (h:Pres x) {k:Nat} (hk:k < x.zA.length) (hc:vB (suf x (k + 1))):FTG x k f_b:=fun p v hp hv =>
 kR (2 * (x.zA.length - k)) fun m hm => by
  obtain ⟨m,rfl⟩:∃ m',m = m' + 1:=⟨m - 1,by omega⟩
  exact zIc h hk hc (zDp h (x.zA.length - (k + 1)) (k + 1) (by omega) hc m (by omega)) p v hp hv
end Go.Pl

namespace Go.Pl
open Go Go.Ab Go.Wk Go.Pc
abbrev fv (k:Nat) (v:Vec):Vec:=zeros k ++ v
section
variable {x:SPr} (h:Pres x) {k:Nat} (hk:k ≤ x.zA.length) (hc:vB (suf x k))
 include h hk
theorem tU {v:Vec} (hv:V (suf x k) v):v.length = x.zA.length - k:=(zCh h.os (x.zA.length - k) k v (by omega) hv).1
theorem zAS {v:Vec} (hv:V (suf x k) v):(fv k v).length = x.zA.length:=by
 rw [List.length_append,zQ,tU h hk hv];omega
theorem zKR:List.replicate x.zA.length (0:Int) = fv k (zeros (suf x k).length):=by
 have _:=h
 rw [yX];simp only [fv,zeros,List.replicate_append_replicate];congr 1;omega
 include hc
theorem zJt {i:Nat} (hi:i < x.zA.length - k):V (suf x k) (wL (x.zA.length - k) i):=by
 have _:=hc
 have:=yX x k
 rw [← this] at hi ⊢
 exact zCd (h.okAt hk) hi
theorem zId {p:Vec} (hp:p.length = k) {i:Nat} (hi:i < x.zA.length - k) {w:Vec} (hw:V (suf x k) w):f_b x (p ++ w) ((k + i:Nat):Int) = some (p ++ mul (suf x k) w (wL (x.zA.length - k) i)):=by
 obtain ⟨q,w',h1,h2,h3,h4⟩:=zEa i k w (by omega) hw
 have hcj:vB (suf x (k + i + 1)):=zCI hc (i + 1)
 have h5:=zP9 h (k:=k + i) (by omega) hcj (p ++ q) w' (by simp [hp,h2]) h3
 have h7:V (suf x (k + i)) (1 :: zeros (x.zA.length - (k + i + 1))):=by
  have hj':k + i < x.zA.length:=by omega
  rw [yF hj']
  have:=(h.os.2 (k + i) hj').pos
  refine ⟨⟨by omega,by show 1 < at0 x.zA (k + i);omega⟩,?_⟩
  rw [← yX]
  exact wH (h.okAt (by omega))
 rw [List.append_assoc,← h1] at h5
 rw [h5,qR hi,h1,show x.zA.length - k - (i + 1) = x.zA.length - (k + i + 1) from by omega,h4 w' _ h3 h7,List.append_assoc]
theorem zFh {a b:Vec} (ha:V (suf x k) a) (hb:V (suf x k) b):f_c x (fv k a) (fv k b) = some (fv k (mul (suf x k) a b)) :=
 zP8 h hk hc (zeros k) a b (zQ k) ha hb
theorem zIe {a:Vec} (ha:V (suf x k) a):f_z (fv k a) = some (fv k a):=by
 have _:=hc
 have:=zAS h hk ha
 have h6:=h.os.1
 unfold f_z
 rw [wA (by simp only [List.length_nil];omega),bs,List.nil_append]
theorem zBE {a b:Vec} (ha:V (suf x k) a) (hb:V (suf x k) b):zO1 x (fv k a) (fv k b) = some (fv k (mul (suf x k) a b)):=by
 unfold zO1
 rw [zIe h hk hc ha,bs,zFh h hk hc ha hb,bs]
theorem zJu {c:Vec} (hcv:V (suf x k) c) {e:Int} (e0:0 ≤ e) (e1:e ≤ 1000):zPV x (fv k c) e = some (fv k (pw (mul (suf x k)) (zeros (suf x k).length) c e.toNat)):=by
 have h6:=h.os.1
 have ok:=h.okAt hk
 unfold zPV
 rw [zAS h hk hcv,xF (by omega),bs,zKR h hk]
 rw [vS (S:=V (suf x k)) (body:=zIE x (fv k c) e) (fun u => fv k u) (fun u => mul (suf x k) u c) e e0 (fun u hu => xE ok hu hcv) (fun u i hu hi => by
  unfold zIE
  simp only
  rw [decide_eq_true hi,zK,zFh h hk hc hu hcv,bs,zH (by omega) (by omega),bs,cs]) (fun u hu => by
  unfold zIE
  simp only
  rw [decide_eq_false (by omega),zG]) (wH ok),bs]
 rfl
theorem zIf {v:Vec} (hv:V (suf x k) v):∃ w,V (suf x k) w ∧ mul (suf x k) v w = zeros (suf x k).length ∧ f_A x (fv k v) = some (fv k w):=by
 have h6:=h.os.1
 have ok:=h.okAt hk
 have G:=zFf h hk hc
 have hvl:=zAS h hk hv
 have hsl:=yX x k
 unfold f_A
 rw [zIe h hk hc hv,bs,hvl,xF (by omega),bs,zKR h hk]
 let I:Nat → (List Int × List Int × Int) → Prop:=fun j s => ∃ A w,s = (fv k A,fv k w,(j:Int)) ∧ V (suf x k) A ∧ V (suf x k) w ∧ mul (suf x k) v w = A ∧ ∃ A',A = zeros (j - k) ++ A'
 have key:=uN (body:=zO0 x (fv k v)) (Q:=fun r => ∃ w,V (suf x k) w ∧ mul (suf x k) v w = zeros (suf x k).length ∧ r = fv k w) I x.zA.length (fun j s hj hI => by
  obtain ⟨A,w,rfl,hA,hw,hm,A',hA'⟩:=hI
  left
  unfold zO0
  simp only
  rw [hvl,xM hj,zK]
  rcases Nat.lt_or_ge j k with hjk | hjk
  ·have e0:ixO (fv k A) (j:Int) = some 0:=by
    rw [uD,List.getElem?_append_left (by rw [zQ];exact hjk)]
    simp [zeros,hjk]
   rw [xK]
   unfold zLY
   simp only
   rw [e0,bs,show ((0:Int) != 0) = false from rfl,zG]
   simp only
   rw [bs,zH (by omega) (by omega),bs,cs]
   exact ⟨_,rfl,A,w,rfl,hA,hw,hm,A,by rw [show j + 1 - k = 0 from by omega];rfl⟩
  ·obtain ⟨i,rfl⟩:∃ i,j = k + i:=⟨j - k,by omega⟩
   have hi:i < x.zA.length - k:=by omega
   rw [show k + i - k = i from by omega] at hA'
   have hAl:=tU h hk hA
   obtain ⟨a0,A',rfl⟩:∃ p q,A' = p :: q:=by
    cases A' with
    | nil => rw [hA',List.length_append,zQ,List.length_nil] at hAl;omega
    | cons p q => exact ⟨p,q,rfl⟩
   have hpr:=(h.os.2 (k + i) hj).pos
   have inner:=uN (body:=zLY x (fv k A,fv k w,((k + i:Nat):Int))) (s:=(fv k A,fv k w))
    (Q:=fun r => ∃ B u,r = (fv k B,fv k u) ∧ V (suf x k) B ∧ V (suf x k) u ∧ mul (suf x k) v u = B ∧ ∃ B',B = zeros (i + 1) ++ B')
    (fun q s => ∃ B u b B',s = (fv k B,fv k u) ∧ V (suf x k) B ∧ V (suf x k) u ∧ mul (suf x k) v u = B ∧ B = zeros i ++ b :: B' ∧ (b = 0 ∨ b = a0 + q)) 10 (fun q s hq hs => by
     obtain ⟨B,u,b,B',rfl,hB,hu,hmu,hB',hb⟩:=hs
     have hz:ixO (fv k B) ((k + i:Nat):Int) = some b:=by
      rw [fv,zIb (by rw [tU h hk hB];exact hi),hB',at0,List.getD_eq_getElem?_getD,List.getElem?_append_right (by rw [zQ];omega),zQ,Nat.sub_self];rfl
     unfold zLY
     simp only
     rw [hz,bs]
     by_cases hb0:b = 0
     ·subst hb0
      right
      rw [show ((0:Int) != 0) = false from rfl,zG]
      exact ⟨_,rfl,B,u,rfl,hB,hu,hmu,B',by rw [hB',zAr]⟩
     ·left
      have hbq:b = a0 + q:=by rcases hb with hb | hb;exact absurd hb hb0;exact hb
      rw [show (b != 0) = true from by simpa using hb0,zK,zId h hk hc (zQ k) hi hB,bs,zId h hk hc (zQ k) hi hu,bs]
      have hU:=zJt h hk hc hi
      obtain ⟨q',v',h1,h2,h3,h4⟩:=zEa i k B (by omega) hB
      have hqv:q' = zeros i ∧ v' = b :: B':=by
       rw [hB'] at h1
       have:=List.append_inj h1 (by rw [zQ,h2])
       exact ⟨this.1.symm,this.2.symm⟩
      obtain ⟨rfl,rfl⟩:=hqv
      have h7:V (suf x (k + i)) (1 :: zeros (x.zA.length - (k + i + 1))):=by
       rw [yF hj]
       refine ⟨⟨by omega,by show 1 < at0 x.zA (k + i);omega⟩,?_⟩
       rw [← yX]
       exact wH (h.okAt (by omega))
      have h8:=h4 (b :: B') _ h3 h7
      rw [show x.zA.length - (k + i + 1) = x.zA.length - k - (i + 1) from by omega,← qR hi,← h1,yF hj,yK] at h8
      refine ⟨_,rfl,mul (suf x k) B (wL (x.zA.length - k) i),mul (suf x k) u (wL (x.zA.length - k) i),?_⟩
      have hor:(lvl x (k + i)).o = at0 x.zA (k + i):=rfl
      rw [hor] at h8
      by_cases hge:b + 1 ≥ at0 x.zA (k + i)
      ·rw [if_pos hge] at h8
       refine ⟨_,_,rfl,xE ok hB hU,xE ok hu hU,?_,h8,?_⟩
       ·rw [← G.assoc hv hu hU,hmu]
       ·left
        rw [yF hj] at h3
        have:=h3.1.2
        rw [hor] at this
        omega
      ·rw [if_neg hge] at h8
       refine ⟨_,_,rfl,xE ok hB hU,xE ok hu hU,?_,h8,?_⟩
       ·rw [← G.assoc hv hu hU,hmu]
       ·right;omega) (fun s hs => by
     obtain ⟨B,u,b,B',rfl,hB,hu,hmu,hB',hb⟩:=hs
     have hz:ixO (fv k B) ((k + i:Nat):Int) = some b:=by
      rw [fv,zIb (by rw [tU h hk hB];exact hi),hB',at0,List.getD_eq_getElem?_getD,List.getElem?_append_right (by rw [zQ];omega),zQ,Nat.sub_self];rfl
     have hbr:=(zCh h.os (x.zA.length - k) k B (by omega) hB).2 i hi
     have ha:=(zCh h.os (x.zA.length - k) k A (by omega) hA).2 i hi
     have e1:at0 B i = b:=by rw [hB',at0,List.getD_eq_getElem?_getD,List.getElem?_append_right (by rw [zQ];omega),zQ,Nat.sub_self];rfl
     have e2:at0 A i = a0:=by rw [hA',at0,List.getD_eq_getElem?_getD,List.getElem?_append_right (by rw [zQ];omega),zQ,Nat.sub_self];rfl
     have hb0:b = 0:=by omega
     subst hb0
     unfold zLY
     simp only
     rw [hz,bs,show ((0:Int) != 0) = false from rfl,zG]
     exact ⟨_,rfl,B,u,rfl,hB,hu,hmu,B',by rw [hB',zAr]⟩) ⟨A,w,a0,A',rfl,hA,hw,hm,hA',.inr (by omega)⟩
   obtain ⟨r,r1,B,u,rfl,hB,hu,hmu,B',hB'⟩:=inner
   rw [r1,bs,zH (by omega) (by omega),bs,cs]
   exact ⟨_,rfl,B,u,rfl,hB,hu,hmu,B',by rw [hB',show k + i + 1 - k = i + 1 from by omega]⟩) (fun s hI => by
  obtain ⟨A,w,rfl,hA,hw,hm,A',hA'⟩:=hI
  unfold zO0
  simp only
  rw [hvl,xQ,zG]
  refine ⟨_,rfl,w,hw,?_,rfl⟩
  have hAl:=tU h hk hA
  rw [hA',List.length_append,zQ] at hAl
  rw [hm,hA',List.eq_nil_of_length_eq_zero (l:=A') (by omega),List.append_nil,hsl]) (s:=(fv k v,fv k (zeros (suf x k).length),0))
  ⟨v,_,rfl,hv,wH ok,G.oner hv,v,by rw [Nat.zero_sub];rfl⟩
 obtain ⟨r,r1,w,hw,hm,rfl⟩:=key
 rw [r1,bs]
 exact ⟨w,hw,hm,rfl⟩
theorem zAT {a b:Vec} (ha:V (suf x k) a) (hb:V (suf x k) b):∃ c,V (suf x k) c ∧ mul (suf x k) b c = mul (suf x k) a b ∧ zO2 x (fv k a) (fv k b) = some (fv k c):=by
 have ok:=h.okAt hk
 have G:=zFf h hk hc
 obtain ⟨w,hw,hm,h1⟩:=zIf h hk hc hb
 have hab:=xE ok ha hb
 refine ⟨mul (suf x k) w (mul (suf x k) a b),xE ok hw hab,?_,?_⟩
 ·rw [← G.assoc hb hw hab,hm,G.onel hab]
 ·unfold zO2
  rw [h1,bs,zBE h hk hc ha hb,bs,zBE h hk hc hw hab,bs]
end
theorem zCi {a b:List Int} (h:a.length ≤ 1000000):f_L a b = some (a == b) :=
 zGh (t:=fun u v => some (u == v)) (body:=zRO a b) rfl (fun _ => rfl) (by omega) fun _ _ _ _ => rfl
theorem zLA {a b:List Int} (h:a.length ≤ 1000000):f_P a b = some (a == b):=zCi h
end Go.Pl

namespace Go.Pl
open Go Go.Ab Go.Wk Go.Pc
theorem zIg {ρ:Type} {body:Int → Option (Int ⊕ (Unit ⊕ ρ))} (n i0:Nat) (hn:i0 ≤ n) (P:Nat → Prop) (B:ρ → Prop)
  (h:∀ i,i0 ≤ i → i < n → (∀ j,i0 ≤ j → j < i → P j) → (body (i:Int) = some (.inl ((i + 1:Nat):Int)) ∧ P i) ∨ (∃ r,body (i:Int) = some (.inr (.inr r)) ∧ B r ∧ ¬ P i))
  (he:body (n:Int) = some (.inr (.inl ()))) :
  (zJ body (i0:Int) = some (.inl ()) ∧ ∀ j,i0 ≤ j → j < n → P j) ∨ ∃ r i,i0 ≤ i ∧ i < n ∧ zJ body (i0:Int) = some (.inr r) ∧ B r ∧ ¬ P i:=by
 have key:∀ k i,i0 ≤ i → i + k = n → (∀ j,i0 ≤ j → j < i → P j) → (zJ body (i:Int) = some (.inl ()) ∧ ∀ j,i0 ≤ j → j < n → P j) ∨ ∃ r q,i0 ≤ q ∧ q < n ∧ zJ body (i:Int) = some (.inr r) ∧ B r ∧ ¬ P q:=by
  intro k
  induction k with
  | zero =>
   intro i hi hk hp
   obtain rfl:i = n:=by omega
   exact .inl ⟨by rw [xK,he],hp⟩
  | succ k ih =>
   intro i hi hk hp
   rcases h i hi (by omega) hp with ⟨h1,h2⟩ | ⟨r,h1,h2,h3⟩
   ·have:=ih (i + 1) (by omega) (by omega) fun j a b => by
     rcases Nat.lt_or_ge j i with c | c
     ·exact hp j a c
     ·rw [show j = i from by omega];exact h2
    rw [xK,h1]
    exact this
   ·exact .inr ⟨r,i,hi,by omega,by rw [xK,h1],h2,h3⟩
 exact key (n - i0) i0 (Nat.le_refl _) (by omega) fun j a b => by omega
theorem zFi {σ ρ:Type} {body:σ → Option (σ ⊕ ρ)} {Q:ρ → Prop} (I:σ → Prop) (m:σ → Nat)
  (h:∀ s,I s → (∃ s',body s = some (.inl s') ∧ I s' ∧ m s' < m s) ∨ ∃ r,body s = some (.inr r) ∧ Q r):∀ (k:Nat) (s:σ),m s ≤ k → I s → ∃ r,zJ body s = some r ∧ Q r
 | k,s,hk,hs => by
  rcases h s hs with ⟨s',h1,h2,h3⟩ | ⟨r,h1,h2⟩
  ·cases k with
   | zero => omega
   | succ k =>
    obtain ⟨r,h4,h5⟩:=zFi I m h k s' (by omega) h2
    exact ⟨r,by rw [xK,h1];exact h4,h5⟩
  ·exact ⟨r,by rw [xK,h1],h2⟩
theorem zRy {k:Nat} {a b:Vec}:(fv k a == fv k b) = true ↔ a = b:=by
 rw [beq_iff_eq];exact ⟨fun h => List.append_cancel_left h,fun h => by rw [h]⟩
theorem zAU {x:SPr} {v:List Int} {i k:Nat} (h:Exp x.zA v i) (hk:k ≤ i + 1) (hn:k ≤ x.zA.length):v = fv k (v.drop k) ∧ V (suf x k) (v.drop k):=by
 have h1:=h.1.1
 constructor
 ·apply List.ext_getElem?
  intro j
  rw [fv,List.getElem?_append]
  simp only [zeros,List.length_replicate,List.getElem?_replicate,List.getElem?_drop]
  split
  ·rename_i hj
   have h2:=h.2 j (by omega)
   rw [List.getElem?_eq_getElem (by omega)]
   rw [at0,List.getD_eq_getElem?_getD,List.getElem?_eq_getElem (by omega)] at h2
   simpa using h2
  ·rw [show k + (j - k) = j from by omega]
 ·refine zRx (x.zA.length - k) k _ (by omega) (by rw [List.length_drop];omega) fun j hj => ?_
  have:=h.1.2 (k + j) (by omega)
  have e:at0 (v.drop k) j = at0 v (k + j):=by simp only [at0,List.getD_eq_getElem?_getD,List.getElem?_drop]
  rw [e];exact this
structure LC (x:SPr) (k:Nat):Prop where
 c1:∀ j,k + 1 ≤ j → j < x.zA.length → pw (mul (suf x (k + 1))) (zeros (suf x (k + 1)).length) ((lvl x k).cs.getD (j - (k + 1)) []) (at0 x.zA j).toNat = sig (suf x (k + 1)) (lvl x k) ((x.zR.getD j []).drop (k + 1))
 c2:∀ i,k + 1 ≤ i → i < x.zA.length → ∀ j,i + 1 ≤ j → j < x.zA.length →
  mul (suf x (k + 1)) ((lvl x k).cs.getD (j - (k + 1)) []) ((lvl x k).cs.getD (i - (k + 1)) []) = mul (suf x (k + 1)) ((lvl x k).cs.getD (i - (k + 1)) []) (sig (suf x (k + 1)) (lvl x k) (((x.zB.getD i []).getD (j - (i + 1)) []).drop (k + 1)))
 c3:sig (suf x (k + 1)) (lvl x k) (lvl x k).w = (lvl x k).w
 c4:∀ j,k + 1 ≤ j → j < x.zA.length → mul (suf x (k + 1)) (lvl x k).w (iter (lvl x k).o.toNat (sig (suf x (k + 1)) (lvl x k)) (wL (x.zA.length - (k + 1)) (j - (k + 1)))) = mul (suf x (k + 1)) (wL (x.zA.length - (k + 1)) (j - (k + 1))) (lvl x k).w
section
variable {x:SPr} (h:Pres x) {k:Nat} (hk:k < x.zA.length) (hc:vB (suf x (k + 1)))
 include h hk
theorem qD {j:Nat} (h1:k + 1 ≤ j) (h2:j < x.zA.length):ixO x.zB (k:Int) = some (x.zB.getD k []) ∧ ixO (x.zB.getD k []) ((j:Int) - (k:Int) - 1) = some (fv (k + 1) ((lvl x k).cs.getD (j - (k + 1)) [])) ∧ V (suf x (k + 1)) ((lvl x k).cs.getD (j - (k + 1)) []):=by
 obtain ⟨c,c1,c2,c3,c4⟩:=zCH h hk (i:=j - (k + 1)) (by omega)
 rw [c4]
 refine ⟨c1,?_,c3⟩
 rw [show (j:Int) - (k:Int) - 1 = ((j - (k + 1):Nat):Int) from by omega]
 exact c2
theorem zNt {j:Nat} (h1:k + 1 ≤ j) (h2:j < x.zA.length):ixO x.zR (j:Int) = some (fv (k + 1) ((x.zR.getD j []).drop (k + 1))) ∧ V (suf x (k + 1)) ((x.zR.getD j []).drop (k + 1)):=by
 have t1:=(h.tl j h2).1
 have hl:=h.pl
 obtain ⟨e1,e2⟩:=zAU (k:=k + 1) t1 (by omega) (by omega)
 exact ⟨by rw [yO [] (by omega),← e1],e2⟩
theorem zNu {i j:Nat} (h1:k + 1 ≤ i) (h2:i + 1 ≤ j) (h3:j < x.zA.length):ixO x.zB (i:Int) = some (x.zB.getD i []) ∧ ixO (x.zB.getD i []) ((j:Int) - (i:Int) - 1) = some (fv (k + 1) (((x.zB.getD i []).getD (j - (i + 1)) []).drop (k + 1))) ∧ V (suf x (k + 1)) (((x.zB.getD i []).getD (j - (i + 1)) []).drop (k + 1)):=by
 obtain ⟨_,t2,t3⟩:=h.tl i (by omega)
 have hl:=h.cl
 obtain ⟨e1,e2⟩:=zAU (k:=k + 1) (t3 (j - (i + 1)) (by omega)) (by omega) (by omega)
 refine ⟨yO [] (by omega),?_,e2⟩
 rw [show (j:Int) - (i:Int) - 1 = ((j - (i + 1):Nat):Int) from by omega,yO [] (by omega),← e1]
theorem zRz:ixO x.zR (k:Int) = some (fv (k + 1) (lvl x k).w) ∧ V (suf x (k + 1)) (lvl x k).w:=by
 have t1:=(h.tl k hk).1
 have hl:=h.pl
 obtain ⟨e1,e2⟩:=zAU (k:=k + 1) t1 (by omega) (by omega)
 exact ⟨by rw [yO [] (by omega)];exact congrArg some e1,e2⟩
theorem zQ9 {v:Vec} (hv:V (suf x (k + 1)) v):V (suf x (k + 1)) (sig (suf x (k + 1)) (lvl x k) v):=by
 have ok0:=h.okAt (k:=k) (by omega)
 rw [yF hk] at ok0
 exact zCe ok0 hv
theorem zGm {j:Nat} (h1:k + 1 ≤ j) (h2:j < x.zA.length):zIF (x.zA.length:Int) (j:Int) = some (fv (k + 1) (wL (x.zA.length - (k + 1)) (j - (k + 1)))):=by
 have h6:=h.os.1
 unfold zIF
 rw [xF (by omega),bs,uD,List.getElem?_replicate,if_pos h2,bs,Int.toNat_natCast]
 congr 1
 rw [fv,qR (by omega),← List.append_assoc]
 have e1:zeros (k + 1) ++ zeros (j - (k + 1)) = zeros j:=by simp only [zeros,List.replicate_append_replicate];congr 1;omega
 have e2:List.replicate x.zA.length (0:Int) = zeros j ++ 0 :: zeros (x.zA.length - (j + 1)):=by
  simp only [zeros]
  rw [← List.replicate_succ,List.replicate_append_replicate];congr 1;omega
 rw [e1,e2,zBD,show x.zA.length - (k + 1) - (j - (k + 1) + 1) = x.zA.length - (j + 1) from by omega]
theorem zLB {j:Nat} (h1:k + 1 ≤ j) (h2:j < x.zA.length):zRH (x.zA.length:Int) (j:Int) = some (fv (k + 1) (wL (x.zA.length - (k + 1)) (j - (k + 1)))):=zGm h hk h1 h2
 include hc
theorem qS {v:Vec} (hv:V (suf x (k + 1)) v):f_x x k (fv (k + 1) v) = some (fv (k + 1) (sig (suf x (k + 1)) (lvl x k) v)):=by
 have h6:=h.os.1
 have ok:=h.okAt (k:=k + 1) (by omega)
 have ok0:=h.okAt (k:=k) (by omega)
 rw [yF hk] at ok0
 obtain ⟨hvl,hvr⟩:=zCh h.os (x.zA.length - (k + 1)) (k + 1) v (by omega) hv
 have hcl:(lvl x k).cs.length = x.zA.length - (k + 1):=by rw [ok0.2.2.1,yX]
 have t2:=(h.tl k hk).2.1
 have hcl2:=h.cl
 have hA:∀ i,V (suf x (k + 1)) (img (mul (suf x (k + 1))) ((lvl x k).cs.take i) (v.take i) (zeros (suf x (k + 1)).length)):=fun i =>
  tZ (xE ok) _ _ (fun c hc => ok0.2.2.2.1 c (List.mem_of_mem_take hc)) (wH ok)
 unfold f_x
 rw [zAS h (by omega) hv,xF (by omega),bs,yO [] (by omega),bs,zKR h (k:=k + 1) (by omega)]
 have:=zW (body:=zOz x k (fv (k + 1) v) (x.zB.getD k [])) (r:=fv (k + 1) (sig (suf x (k + 1)) (lvl x k) v))
  (fun i => (fv (k + 1) (img (mul (suf x (k + 1))) ((lvl x k).cs.take i) (v.take i) (zeros (suf x (k + 1)).length)),(i:Int))) (x.zB.getD k []).length (fun i hi => by
  have hr:=hvr i (by omega)
  obtain ⟨c,c1,c2,c3,c4⟩:=zCH h hk (i:=i) (by omega)
  unfold zOz
  simp only
  rw [xM hi,zK,c2,bs,zH (by omega) (by omega),bs,zH (by omega) (by omega),bs,show (k:Int) + 1 + (i:Int) = ((k + 1 + i:Nat):Int) from by omega,fv,zIb (by omega),bs]
  rw [vS (S:=V (suf x (k + 1))) (body:=zOy x (zeros (k + 1) ++ c) (at0 v i)) (fun u => fv (k + 1) u) (fun u => mul (suf x (k + 1)) u c) (at0 v i) hr.1 (fun u hu => xE ok hu c3) (fun u q hu hq => by
   unfold zOy
   simp only
   rw [decide_eq_true hq,zK,zFh h (by omega) hc hu c3,bs,zH (by omega) (by omega),bs,cs]) (fun u hu => by
   unfold zOy
   simp only
   rw [decide_eq_false (by omega),zG]) (hA i),bs,zH (by omega) (by omega),bs,cs]
  rw [kW _ _ _ _ (by omega) (by omega),c4]) (by
  unfold zOz
  simp only
  rw [xQ,zG,List.take_of_length_le (by omega),List.take_of_length_le (by omega)]
  rfl)
 simp only [List.take_zero,img] at this
 rw [show ((0:Nat):Int) = 0 from rfl] at this
 rw [this,bs]
theorem zAV {a b:Vec} (ha:V (suf x (k + 1)) a):IsB (f_L (fv (k + 1) a) (fv (k + 1) b)) (a = b):=by
 have _:=hc
 have h6:=h.os.1
 rw [zCi (by rw [zAS h (by omega) ha];omega)]
 exact IsB.of_bool zRy
theorem zIh {c:Vec} (hcv:V (suf x (k + 1)) c) {e:Int} (e0:0 ≤ e) (e1:e ≤ 1000):zPQ x ((k + 1:Nat):Int) (fv (k + 1) c) e = some (fv (k + 1) (pw (mul (suf x (k + 1))) (zeros (suf x (k + 1)).length) c e.toNat)):=by
 have h6:=h.os.1
 have ok:=h.okAt (k:=k + 1) (by omega)
 have G:=zFf h (k:=k + 1) (by omega) hc
 have hA:=zKQ h (k:=k + 1) (by omega)
 have pwV:∀ a,V (suf x (k + 1)) (pw (mul (suf x (k + 1))) (zeros (suf x (k + 1)).length) c a):=fun a => uL G.toMon hcv a
 unfold zPQ
 rw [xF (by omega),bs,zKR h (k:=k + 1) (by omega)]
 obtain ⟨r,r1,r2⟩:=zFi (body:=zLh x ((k + 1:Nat):Int)) (Q:=fun r => r = fv (k + 1) (pw (mul (suf x (k + 1))) (zeros (suf x (k + 1)).length) c e.toNat))
  (fun s => ∃ (m a q:Nat),s = ((m:Int),fv (k + 1) (pw (mul (suf x (k + 1))) (zeros (suf x (k + 1)).length) c a),fv (k + 1) (pw (mul (suf x (k + 1))) (zeros (suf x (k + 1)).length) c q)) ∧ a + q * m = e.toNat ∧ m ≤ 1000) (fun s => s.1.toNat) (fun s ⟨m,a,q,hs,he,hm⟩ => by
   subst hs
   unfold zLh
   simp only
   by_cases hm0:m = 0
   ·right
    subst hm0
    rw [show decide (((0:Nat):Int) > 0) = false from rfl,zG]
    refine ⟨_,rfl,?_⟩
    rw [← he,Nat.mul_zero];rfl
   ·left
    have hr:vQ (m:Int) 2 = some ((m % 2:Nat):Int):=by
     unfold vQ
     rw [if_neg (by decide),Int.tmod_eq_emod_of_nonneg (by omega)];rfl
    have hq:uJ (m:Int) 2 = some ((m / 2:Nat):Int):=by
     unfold uJ
     rw [if_neg (by decide),Int.tdiv_eq_ediv_of_nonneg (by omega)]
     rw [zH (by omega) (by omega)];rfl
    have hdm:=Nat.div_add_mod m 2
    have hqq:mul (suf x (k + 1)) (pw (mul (suf x (k + 1))) (zeros (suf x (k + 1)).length) c q) (pw (mul (suf x (k + 1))) (zeros (suf x (k + 1)).length) c q) = pw (mul (suf x (k + 1))) (zeros (suf x (k + 1)).length) c (q + q):=(zEU G.toMon hcv q q).symm
    rw [decide_eq_true (by omega),zK,hr,bs]
    rcases Nat.mod_two_eq_zero_or_one m with h2 | h2
    ·rw [h2,show ((((0:Nat):Int)) == 1) = false from rfl,zG,hA _ _ (pwV q) (pwV q),bs,hq,bs,hqq]
     refine ⟨_,rfl,⟨m / 2,a,q + q,rfl,?_,by omega⟩,by simp only;omega⟩
     rw [← he]
     have:m = m / 2 + m / 2:=by omega
     have e3:(q + q) * (m / 2) = q * m:=by
      rw [Nat.add_mul,← Nat.mul_add,← this]
     omega
    ·rw [h2,show ((((1:Nat):Int)) == 1) = true from rfl,zK,hA _ _ (pwV a) (pwV q),bs,hA _ _ (pwV q) (pwV q),bs,hq,bs,hqq,← zEU G.toMon hcv a q]
     refine ⟨_,rfl,⟨m / 2,a + q,q + q,rfl,?_,by omega⟩,by simp only;omega⟩
     rw [← he]
     have:m = m / 2 + m / 2 + 1:=by omega
     have e3:(q + q) * (m / 2) + q = q * m:=by
      have e4:q * m = q * (m / 2 + m / 2 + 1):=by rw [← this]
      rw [e4,Nat.mul_add,Nat.mul_add,Nat.mul_one,Nat.add_mul]
     omega) 1000000 (e,fv (k + 1) (zeros (suf x (k + 1)).length),fv (k + 1) c) (by simp only;omega) ⟨e.toNat,0,1,by rw [zNm G.toMon hcv,show ((e.toNat:Nat):Int) = e from by omega];rfl,by omega,by omega⟩
 rw [r1,bs,r2]
end
end Go.Pl

namespace Go.Pl
open Go Go.Ab Go.Wk Go.Pc
def zTz (o:Option yL) (P:Prop):Prop:=(o = some (yL.mk 0 0 0 0) ∧ P) ∨ ∃ r,o = some r ∧ r.Kind ≠ 0 ∧ ¬ P
theorem kb {a b c d:Int} (h:a ≠ 0):(yL.mk a b c d).Kind ≠ 0:=h
abbrev KB (r:yL):Prop:=r.Kind ≠ 0
theorem kX {o:Option Bool} {P:Prop} {bad:yL} {i:Nat} {g:Option (Int ⊕ (Unit ⊕ yL))} (h:IsB o P) (hi:i < 9223372036854775807) (hbad:bad.Kind ≠ 0)
  (hg:g = o.bind fun r => cond (!r) (some (.inr (.inr bad))) ((rng ((i:Int) + 1)).bind fun v => some (.inl v))):(g = some (.inl ((i + 1:Nat):Int)) ∧ P) ∨ (∃ r,g = some (.inr (.inr r)) ∧ KB r ∧ ¬ P):=by
 rcases wV h hi hg with h | ⟨h1,h2⟩
 ·exact .inl h
 ·exact .inr ⟨bad,h1,hbad,h2⟩
section
variable {x:SPr} (h:Pres x) {k:Nat} (hk:k < x.zA.length) (hc:vB (suf x (k + 1)))
 include h hk hc
theorem zFj:zTz (f_j x k) (LC x k):=by
 have h6:=h.os.1
 have ok:=h.okAt (k:=k + 1) (by omega)
 have G:=zFf h (k:=k + 1) (by omega) hc
 obtain ⟨w1,w2⟩:=zRz h hk
 have hsV:∀ v,V (suf x (k + 1)) v → V (suf x (k + 1)) (sig (suf x (k + 1)) (lvl x k) v):=fun v hv => zQ9 h hk hv
 unfold f_j
 rw [zH (by omega) (by omega),bs,cs]
 rcases zIg (body:=zO3 x k) x.zA.length (k + 1) (by omega) (fun j => pw (mul (suf x (k + 1))) (zeros (suf x (k + 1)).length) ((lvl x k).cs.getD (j - (k + 1)) []) (at0 x.zA j).toNat = sig (suf x (k + 1)) (lvl x k) ((x.zR.getD j []).drop (k + 1))) KB (fun j h1 h2 _ => by
   obtain ⟨c1,c2,c3⟩:=qD h hk h1 h2
   obtain ⟨p1,p2⟩:=zNt h hk h1 h2
   have hpr:=(h.os.2 j h2).pos
   refine kX (zAV h hk hc (uL G.toMon c3 (at0 x.zA j).toNat)) (by omega) (bad:=yL.mk 1 k j 0) (kb (by decide)) ?_
   unfold zO3
   rw [xM h2,zK,c1,bs,zH (by omega) (by omega),bs,zH (by omega) (by omega),bs,c2,bs,yW h2,bs,zJu h (by omega) hc c3 (by omega) (by omega),bs,p1,bs,qS h hk hc p2,bs]) (by
   unfold zO3
   rw [xQ,zG]) with ⟨g1,g2⟩ | ⟨r,j,j1,j2,g1,g2,g3⟩
 rotate_left
 ·rw [g1,bs]
  exact .inr ⟨r,rfl,g2,fun q => g3 (q.c1 j j1 j2)⟩
 rw [g1,bs]
 simp only
 rw [bs]
 rcases zIg (body:=zO5 x k) x.zA.length (k + 1) (by omega) (fun i => ∀ j,i + 1 ≤ j → j < x.zA.length →
   mul (suf x (k + 1)) ((lvl x k).cs.getD (j - (k + 1)) []) ((lvl x k).cs.getD (i - (k + 1)) []) = mul (suf x (k + 1)) ((lvl x k).cs.getD (i - (k + 1)) []) (sig (suf x (k + 1)) (lvl x k) (((x.zB.getD i []).getD (j - (i + 1)) []).drop (k + 1)))) KB (fun i h1 h2 _ => by
   obtain ⟨c1,c2,c3⟩:=qD h hk h1 h2
   unfold zO5
   rw [xM h2,zK,zH (by omega) (by omega),bs,cs]
   rcases zIg (body:=zO4 x k i) x.zA.length (i + 1) (by omega) (fun j => mul (suf x (k + 1)) ((lvl x k).cs.getD (j - (k + 1)) []) ((lvl x k).cs.getD (i - (k + 1)) []) = mul (suf x (k + 1)) ((lvl x k).cs.getD (i - (k + 1)) []) (sig (suf x (k + 1)) (lvl x k) (((x.zB.getD i []).getD (j - (i + 1)) []).drop (k + 1)))) KB (fun j h3 h4 _ => by
     obtain ⟨d1,d2,d3⟩:=qD h hk (j:=j) (by omega) h4
     obtain ⟨e1,e2,e3⟩:=zNu h hk h1 h3 h4
     obtain ⟨q,q1,q2,q3⟩:=zAT h (by omega) hc d3 c3
     refine kX ((zAV h hk hc (b:=sig (suf x (k + 1)) (lvl x k) (((x.zB.getD i []).getD (j - (i + 1)) []).drop (k + 1))) q1).iff (Q:=mul (suf x (k + 1)) ((lvl x k).cs.getD (j - (k + 1)) []) ((lvl x k).cs.getD (i - (k + 1)) []) = mul (suf x (k + 1)) ((lvl x k).cs.getD (i - (k + 1)) []) (sig (suf x (k + 1)) (lvl x k) (((x.zB.getD i []).getD (j - (i + 1)) []).drop (k + 1)))) ?_) (by omega) (bad:=yL.mk 2 k i j) (kb (by decide)) ?_
     ·exact ⟨fun e => by rw [← q2,e],fun e => G.cancel_l c3 q1 (hsV _ e3) (by rw [q2,e])⟩
     ·unfold zO4
      rw [xM h4,zK,d1,bs,zH (by omega) (by omega),bs,zH (by omega) (by omega),bs,d2,bs,bs,zH (by omega) (by omega),bs,zH (by omega) (by omega),bs,c2,bs,q3,bs,e1,bs,zH (by omega) (by omega),bs,zH (by omega) (by omega),bs,e2,bs,qS h hk hc e3,bs]) (by
     unfold zO4
     rw [xQ,zG]) with ⟨g1,g2⟩ | ⟨r,j,j1,j2,g1,g2,g3⟩
   ·left
    rw [g1,bs]
    exact ⟨rfl,g2⟩
   ·right
    rw [g1,bs]
    exact ⟨r,rfl,g2,fun q => g3 (q j j1 j2)⟩) (by
   unfold zO5
   rw [xQ,zG]) with ⟨k1,k2⟩ | ⟨r,j,j1,j2,k1,k2,k3⟩
 rotate_left
 ·rw [k1,bs]
  exact .inr ⟨r,rfl,k2,fun q => k3 (q.c2 j j1 j2)⟩
 rw [k1,bs]
 simp only
 rw [w1,bs,qS h hk hc w2,bs]
 rcases zAV h hk hc (b:=(lvl x k).w) (hsV _ w2) with ⟨m1,m2⟩ | ⟨m1,m2⟩
 rotate_left
 ·rw [m1,bs,Bool.not_false,zK]
  exact .inr ⟨_,rfl,kb (by decide),fun q => m2 q.c3⟩
 rw [m1,bs,Bool.not_true,zG,bs]
 rcases zIg (body:=zO7 x k (fv (k + 1) (lvl x k).w)) x.zA.length (k + 1) (by omega) (fun j => mul (suf x (k + 1)) (lvl x k).w (iter (lvl x k).o.toNat (sig (suf x (k + 1)) (lvl x k)) (wL (x.zA.length - (k + 1)) (j - (k + 1)))) = mul (suf x (k + 1)) (wL (x.zA.length - (k + 1)) (j - (k + 1))) (lvl x k).w) KB (fun j h1 h2 _ => by
   have hU:=zJt h (k:=k + 1) (by omega) hc (i:=j - (k + 1)) (by omega)
   have hpr:=(h.os.2 k hk).pos
   obtain ⟨q,q1,q2,q3⟩:=zAT h (k:=k + 1) (by omega) hc hU w2
   have hit:V (suf x (k + 1)) (iter (lvl x k).o.toNat (sig (suf x (k + 1)) (lvl x k)) (wL (x.zA.length - (k + 1)) (j - (k + 1)))):=wU hsV _ hU
   refine kX ((zAV h hk hc (b:=q) hit).iff ⟨fun e => by rw [e,q2],fun e => G.cancel_l w2 hit q1 (by rw [e,q2])⟩) (by omega) (bad:=yL.mk 4 k j 0) (kb (by decide)) ?_
   unfold zO7
   rw [xM h2,zK,zGm h hk h1 h2,bs,yW hk,bs]
   rw [vS (S:=V (suf x (k + 1))) (body:=zO6 x k (at0 x.zA k)) (fun u => fv (k + 1) u) (sig (suf x (k + 1)) (lvl x k)) (at0 x.zA k) (by omega) hsV (fun u i hu hi => by
    unfold zO6
    simp only
    rw [decide_eq_true hi,zK,qS h hk hc hu,bs,zH (by omega) (by omega),bs,cs]) (fun u hu => by
    unfold zO6
    simp only
    rw [decide_eq_false (by omega),zG]) hU,bs,bs,q3,bs]
   rfl) (by
   unfold zO7
   rw [xQ,zG]) with ⟨n1,n2⟩ | ⟨r,j,j1,j2,n1,n2,n3⟩
 ·rw [n1,bs]
  exact .inl ⟨rfl,⟨g2,k2,m2,n2⟩⟩
 ·rw [n1,bs]
  exact .inr ⟨r,rfl,n2,fun q => n3 (q.c4 j j1 j2)⟩
theorem zJv:zTz (f_k x k) (LC x k):=by
 have h6:=h.os.1
 have ok:=h.okAt (k:=k + 1) (by omega)
 have G:=zFf h (k:=k + 1) (by omega) hc
 obtain ⟨w1,w2⟩:=zRz h hk
 have hA:=zKQ h (k:=k + 1) (by omega)
 have hI:=zJr h hk
 have hsV:∀ v,V (suf x (k + 1)) v → V (suf x (k + 1)) (sig (suf x (k + 1)) (lvl x k) v):=fun v hv => zQ9 h hk hv
 have eqB:∀ {a b:Vec},V (suf x (k + 1)) a → IsB (f_P (fv (k + 1) a) (fv (k + 1) b)) (a = b):=fun ha => zAV h hk hc ha
 unfold f_k
 rw [zH (by omega) (by omega),bs,cs]
 rcases zIg (body:=zOd x k) x.zA.length (k + 1) (by omega) (fun j => pw (mul (suf x (k + 1))) (zeros (suf x (k + 1)).length) ((lvl x k).cs.getD (j - (k + 1)) []) (at0 x.zA j).toNat = sig (suf x (k + 1)) (lvl x k) ((x.zR.getD j []).drop (k + 1))) KB (fun j h1 h2 _ => by
   obtain ⟨c1,c2,c3⟩:=qD h hk h1 h2
   obtain ⟨p1,p2⟩:=zNt h hk h1 h2
   have hpr:=(h.os.2 j h2).pos
   refine kX (eqB (uL G.toMon c3 (at0 x.zA j).toNat)) (by omega) (bad:=yL.mk 1 k j 0) (kb (by decide)) ?_
   unfold zOd
   rw [xM h2,zK,zH (by omega) (by omega),bs,cs,c1,bs,zH (by omega) (by omega),bs,zH (by omega) (by omega),bs,c2,bs,yW h2,bs,zIh h hk hc c3 (by omega) (by omega),bs,p1,bs,hI _ p2,bs]) (by
   unfold zOd
   rw [xQ,zG]) with ⟨g1,g2⟩ | ⟨r,j,j1,j2,g1,g2,g3⟩
 rotate_left
 ·rw [g1,bs]
  exact .inr ⟨r,rfl,g2,fun q => g3 (q.c1 j j1 j2)⟩
 rw [g1,bs]
 simp only
 rw [bs]
 rcases zIg (body:=zOf x k) x.zA.length (k + 1) (by omega) (fun i => ∀ j,i + 1 ≤ j → j < x.zA.length →
   mul (suf x (k + 1)) ((lvl x k).cs.getD (j - (k + 1)) []) ((lvl x k).cs.getD (i - (k + 1)) []) = mul (suf x (k + 1)) ((lvl x k).cs.getD (i - (k + 1)) []) (sig (suf x (k + 1)) (lvl x k) (((x.zB.getD i []).getD (j - (i + 1)) []).drop (k + 1)))) KB (fun i h1 h2 _ => by
   obtain ⟨c1,c2,c3⟩:=qD h hk h1 h2
   unfold zOf
   rw [xM h2,zK,zH (by omega) (by omega),bs,cs]
   rcases zIg (body:=zOe x k i) x.zA.length (i + 1) (by omega) (fun j => mul (suf x (k + 1)) ((lvl x k).cs.getD (j - (k + 1)) []) ((lvl x k).cs.getD (i - (k + 1)) []) = mul (suf x (k + 1)) ((lvl x k).cs.getD (i - (k + 1)) []) (sig (suf x (k + 1)) (lvl x k) (((x.zB.getD i []).getD (j - (i + 1)) []).drop (k + 1)))) KB (fun j h3 h4 _ => by
     obtain ⟨d1,d2,d3⟩:=qD h hk (j:=j) (by omega) h4
     obtain ⟨e1,e2,e3⟩:=zNu h hk h1 h3 h4
     refine kX (eqB (xE ok d3 c3)) (by omega) (bad:=yL.mk 2 k i j) (kb (by decide)) ?_
     unfold zOe
     rw [xM h4,zK,d1,bs,zH (by omega) (by omega),bs,zH (by omega) (by omega),bs,c2,bs,bs,zH (by omega) (by omega),bs,zH (by omega) (by omega),bs,d2,bs,e1,bs,zH (by omega) (by omega),bs,zH (by omega) (by omega),bs,e2,bs,hI _ e3,bs,zH (by omega) (by omega),bs,cs,hA _ _ d3 c3,bs,bs,hA _ _ c3 (hsV _ e3),bs]) (by
     unfold zOe
     rw [xQ,zG]) with ⟨g1,g2⟩ | ⟨r,j,j1,j2,g1,g2,g3⟩
   ·left
    rw [g1,bs]
    exact ⟨rfl,g2⟩
   ·right
    rw [g1,bs]
    exact ⟨r,rfl,g2,fun q => g3 (q j j1 j2)⟩) (by
   unfold zOf
   rw [xQ,zG]) with ⟨k1,k2⟩ | ⟨r,j,j1,j2,k1,k2,k3⟩
 rotate_left
 ·rw [k1,bs]
  exact .inr ⟨r,rfl,k2,fun q => k3 (q.c2 j j1 j2)⟩
 rw [k1,bs]
 simp only
 rw [w1,bs,hI _ w2,bs]
 rcases eqB (b:=(lvl x k).w) (hsV _ w2) with ⟨m1,m2⟩ | ⟨m1,m2⟩
 rotate_left
 ·rw [m1,bs,Bool.not_false,zK]
  exact .inr ⟨_,rfl,kb (by decide),fun q => m2 q.c3⟩
 rw [m1,bs,Bool.not_true,zG,bs]
 rcases zIg (body:=zOh x k (fv (k + 1) (lvl x k).w)) x.zA.length (k + 1) (by omega) (fun j => mul (suf x (k + 1)) (lvl x k).w (iter (lvl x k).o.toNat (sig (suf x (k + 1)) (lvl x k)) (wL (x.zA.length - (k + 1)) (j - (k + 1)))) = mul (suf x (k + 1)) (wL (x.zA.length - (k + 1)) (j - (k + 1))) (lvl x k).w) KB (fun j h1 h2 _ => by
   have hU:=zJt h (k:=k + 1) (by omega) hc (i:=j - (k + 1)) (by omega)
   have hpr:=(h.os.2 k hk).pos
   have hit:V (suf x (k + 1)) (iter (lvl x k).o.toNat (sig (suf x (k + 1)) (lvl x k)) (wL (x.zA.length - (k + 1)) (j - (k + 1)))):=wU hsV _ hU
   refine kX (eqB (xE ok w2 hit)) (by omega) (bad:=yL.mk 4 k j 0) (kb (by decide)) ?_
   unfold zOh
   rw [xM h2,zK,zLB h hk h1 h2,bs]
   rw [vS (S:=V (suf x (k + 1))) (body:=zOg x k) (fun u => fv (k + 1) u) (sig (suf x (k + 1)) (lvl x k)) (at0 x.zA k) (by omega) hsV (fun u i hu hi => by
    unfold zOg
    simp only
    rw [yW hk,bs,decide_eq_true hi,zK,hI _ hu,bs,zH (by omega) (by omega),bs,cs]) (fun u hu => by
    unfold zOg
    simp only
    rw [yW hk,bs,decide_eq_false (by omega),zG]) hU,bs,zH (by omega) (by omega),bs,cs]
   have ho:(lvl x k).o = at0 x.zA k:=rfl
   rw [← ho,hA _ _ w2 hit,bs,bs,hA _ _ hU w2,bs]) (by
   unfold zOh
   rw [xQ,zG]) with ⟨n1,n2⟩ | ⟨r,j,j1,j2,n1,n2,n3⟩
 ·rw [n1,bs]
  exact .inl ⟨rfl,⟨g2,k2,m2,n2⟩⟩
 ·rw [n1,bs]
  exact .inr ⟨r,rfl,n2,fun q => n3 (q.c4 j j1 j2)⟩
end
end Go.Pl

namespace Go.Pl
open Go Go.Ab Go.Wk Go.Pc
theorem zDq {m:Vec → Vec → Vec}:∀ (i:Nat) (cs:List Vec) (w acc:Vec),i ≤ cs.length → img m cs (zeros i ++ w) acc = img m (cs.drop i) w acc
 | 0,cs,w,acc,_ => rfl
 | i + 1,[],w,acc,h => by simp at h
 | i + 1,c :: cs,w,acc,h => by
  show img m (c :: cs) (0 :: (zeros i ++ w)) acc = _
  simp only [img,Int.toNat_zero,iter,List.drop_succ_cons]
  exact zDq i cs w acc (by simpa using h)
theorem zFk {x:SPr} {v:List Int} {j k:Nat} (h:Exp x.zA v j) (hj:j < x.zA.length) (hk:k ≤ j + 1):v.drop k = zeros (j + 1 - k) ++ v.drop (j + 1):=by
 have:=kT h hj
 have h2:v.drop k = (zeros (j + 1) ++ v.drop (j + 1)).drop k:=by rw [← this]
 rw [h2,List.drop_append,zQ,show k - (j + 1) = 0 from by omega,List.drop_zero]
 congr 1
 simp only [zeros,List.drop_replicate]
section
variable {x:SPr} (h:zBC x) {k:Nat} (hk:k < x.zA.length)
 include h hk
theorem qU:(lvl x k).cs.length = x.zA.length - (k + 1):=by
 have ok0:=h.okAt (k:=k) (by omega)
 rw [yF hk] at ok0
 rw [ok0.2.2.1,yX]
theorem zPA {j:Nat} (h1:k + 1 ≤ j) (h2:j < x.zA.length):sig (suf x (k + 1)) (lvl x k) ((x.zR.getD j []).drop (k + 1)) = img (mul (suf x (k + 1))) ((lvl x k).cs.drop (j - k)) (lvl x j).w (zeros (suf x (k + 1)).length):=by
 have t1:=(h.tl j h2).1
 have hcl:=qU h hk
 rw [zFk t1 h2 (by omega),sig,zDq _ _ _ _ (by omega),show j + 1 - (k + 1) = j - k from by omega]
 rfl
theorem zKS:∀ (d i:Nat),k + 1 + i + d = x.zA.length → (Rel (mul (suf x (k + 1))) (zeros (suf x (k + 1)).length) (suf x (k + 1 + i)) ((lvl x k).cs.drop i) ↔
  (∀ j,k + 1 + i ≤ j → j < x.zA.length → pw (mul (suf x (k + 1))) (zeros (suf x (k + 1)).length) ((lvl x k).cs.getD (j - (k + 1)) []) (at0 x.zA j).toNat = sig (suf x (k + 1)) (lvl x k) ((x.zR.getD j []).drop (k + 1))) ∧
  (∀ a,k + 1 + i ≤ a → a < x.zA.length → ∀ j,a + 1 ≤ j → j < x.zA.length →
   mul (suf x (k + 1)) ((lvl x k).cs.getD (j - (k + 1)) []) ((lvl x k).cs.getD (a - (k + 1)) []) = mul (suf x (k + 1)) ((lvl x k).cs.getD (a - (k + 1)) []) (sig (suf x (k + 1)) (lvl x k) (((x.zB.getD a []).getD (j - (a + 1)) []).drop (k + 1)))))
 | 0,i,hi => by
  have hcl:=qU h hk
  rw [vV (x:=x) (k:=k + 1 + i) (by omega),List.drop_of_length_le (show (lvl x k).cs.length ≤ i by omega)]
  simp only [Rel,true_iff]
  exact ⟨fun j h1 h2 => by omega,fun a h1 h2 => by omega⟩
 | d + 1,i,hi => by
  have hcl:=qU h hk
  have ih:=zKS d (i + 1) (by omega)
  rw [show k + 1 + (i + 1) = k + 1 + i + 1 from by omega] at ih
  have hj:k + 1 + i < x.zA.length:=by omega
  have hg:(lvl x k).cs.drop i = (lvl x k).cs.getD i [] :: (lvl x k).cs.drop (i + 1):=by
   rw [List.drop_eq_getElem_cons (by omega),List.getD_eq_getElem?_getD,List.getElem?_eq_getElem (by omega)];rfl
  rw [yF hj,hg]
  simp only [Rel]
  rw [ih]
  have e1:=zPA h hk (j:=k + 1 + i) (by omega) hj
  rw [show k + 1 + i - k = i + 1 from by omega] at e1
  have ho:(lvl x (k + 1 + i)).o = at0 x.zA (k + 1 + i):=rfl
  rw [ho,← e1]
  have e2:∀ j,k + 1 + i + 1 ≤ j → j < x.zA.length → ∀ dd,(lvl x (k + 1 + i)).cs[j - (k + 1 + i + 1)]? = some dd → img (mul (suf x (k + 1))) ((lvl x k).cs.drop (i + 1)) dd (zeros (suf x (k + 1)).length) = sig (suf x (k + 1)) (lvl x k) (((x.zB.getD (k + 1 + i) []).getD (j - (k + 1 + i + 1)) []).drop (k + 1)):=fun j h1 h2 dd hdd => by
   obtain ⟨_,t2,t3⟩:=h.tl (k + 1 + i) hj
   have t:=t3 (j - (k + 1 + i + 1)) (by omega)
   rw [zFk t hj (by omega),sig,zDq _ _ _ _ (by omega),show k + 1 + i + 1 - (k + 1) = i + 1 from by omega]
   congr 1
   simp only [lvl,List.getElem?_map,Option.map_eq_some_iff] at hdd
   obtain ⟨u,hu,rfl⟩:=hdd
   rw [List.getD_eq_getElem?_getD (i:=j - (k + 1 + i + 1)),hu];rfl
  have e3:∀ j,k + 1 + i + 1 ≤ j → j < x.zA.length → ((lvl x k).cs.drop (i + 1))[j - (k + 1 + i + 1)]? = some ((lvl x k).cs.getD (j - (k + 1)) []) ∧ ∃ dd,(lvl x (k + 1 + i)).cs[j - (k + 1 + i + 1)]? = some dd:=fun j h1 h2 => by
   have hcl2:=qU h hj
   refine ⟨?_,?_⟩
   ·rw [List.getElem?_drop,show i + 1 + (j - (k + 1 + i + 1)) = j - (k + 1) from by omega,List.getD_eq_getElem?_getD,List.getElem?_eq_getElem (by omega)];rfl
   ·exact ⟨_,List.getElem?_eq_getElem (by omega)⟩
  constructor
  ·rintro ⟨a1,a2,a3,a4⟩
   refine ⟨fun j h1 h2 => ?_,fun a h1 h2 j h3 h4 => ?_⟩
   ·rcases Nat.lt_or_ge (k + 1 + i) j with hlt | hge
    ·exact a3 j (by omega) h2
    ·obtain rfl:j = k + 1 + i:=by omega
     rw [show k + 1 + i - (k + 1) = i from by omega]
     exact a1
   ·rcases Nat.lt_or_ge (k + 1 + i) a with hlt | hge
    ·exact a4 a (by omega) h2 j h3 h4
    ·obtain rfl:a = k + 1 + i:=by omega
     obtain ⟨f1,dd,f2⟩:=e3 j (by omega) h4
     have:=a2 _ _ _ f1 f2
     rw [e2 j (by omega) h4 dd f2] at this
     rw [show k + 1 + i - (k + 1) = i from by omega]
     exact this
  ·rintro ⟨a1,a2⟩
   refine ⟨?_,fun kk c dd h1 h2 => ?_,fun j h1 h2 => a1 j (by omega) h2,fun a h1 h2 => a2 a (by omega) h2⟩
   ·have:=a1 (k + 1 + i) (by omega) hj
    rw [show k + 1 + i - (k + 1) = i from by omega] at this
    exact this
   ·have hlt:kk < x.zA.length - (k + 1 + i + 1):=by
     have:=(List.getElem?_eq_some_iff.1 h1).1
     rw [List.length_drop] at this;omega
    have g:=a2 (k + 1 + i) (by omega) hj (k + 1 + i + 1 + kk) (by omega) (by omega)
    obtain ⟨f1,_⟩:=e3 (k + 1 + i + 1 + kk) (by omega) (by omega)
    rw [show k + 1 + i + 1 + kk - (k + 1 + i + 1) = kk from by omega] at f1 g
    rw [h1] at f1
    have f1:=Option.some.inj f1
    have g2:=e2 (k + 1 + i + 1 + kk) (by omega) (by omega) dd (by rw [show k + 1 + i + 1 + kk - (k + 1 + i + 1) = kk from by omega];exact h2)
    rw [show k + 1 + i + 1 + kk - (k + 1 + i + 1) = kk from by omega] at g2
    rw [g2,f1]
    rw [show k + 1 + i - (k + 1) = i from by omega] at g
    exact g
theorem kY:vB (suf x k) ↔ vB (suf x (k + 1)) ∧ LC x k:=by
 have hr:=zKS h hk (x.zA.length - (k + 1)) 0 (by omega)
 have hl:=yX x (k + 1)
 rw [List.drop_zero,Nat.add_zero] at hr
 rw [yF hk]
 simp only [vB]
 rw [hr]
 constructor
 ·rintro ⟨a,⟨b1,b2⟩,c,d⟩
  refine ⟨a,⟨b1,b2,c,fun j h1 h2 => ?_⟩⟩
  have:=d (j - (k + 1)) (by omega)
  rwa [hl] at this
 ·rintro ⟨a,b⟩
  refine ⟨a,⟨b.c1,b.c2⟩,b.c3,fun j hj => ?_⟩
  have:=b.c4 (k + 1 + j) (by omega) (by omega)
  rw [show k + 1 + j - (k + 1) = j from by omega] at this
  rwa [hl]
end
theorem zBq {x:SPr} (h:vB (suf x 0)) (k:Nat):vB (suf x k):=by
 have:=zCI h k
 rwa [Nat.zero_add] at this
def zCj (x:SPr):Prop:=Pres x ∧ vB (suf x 0) ∧ zGi x
theorem zCK {x:SPr} (hl:x.zA.length ≤ 1048576):IsB (zPW x) (zCj x):=by
 unfold zPW
 rcases zBx hl with ⟨h1,h2⟩ | ⟨h1,h2⟩
 ·have h6:=h2.os.1
  rw [h1,bs,zK]
  unfold f_H
  obtain ⟨r,r1,r2⟩:=uN (body:=zIG x) (Q:=fun r => ∃ s:Nat,r = (s:Int) ∧ vB (suf x s) ∧ (s = 0 ∨ ¬ vB (suf x (s - 1)))) (fun i s => i ≤ x.zA.length ∧ s = ((x.zA.length - i:Nat):Int) ∧ vB (suf x (x.zA.length - i))) x.zA.length (fun i s hi ⟨_,hs,hcs⟩ => by
    subst hs
    have hk:x.zA.length - i - 1 < x.zA.length:=by omega
    have e9:x.zA.length - (i + 1) = x.zA.length - i - 1:=by omega
    rw [e9]
    have e8:i + 1 ≤ x.zA.length:=by omega
    rw [show x.zA.length - i = x.zA.length - i - 1 + 1 from by omega] at hcs ⊢
    have hlev:=zFj h2.toPres hk hcs
    have hiff:=kY h2.toPres.w hk
    generalize x.zA.length - i - 1 = k at *
    unfold zIG
    rw [decide_eq_true (by omega),zK,zH (by omega) (by omega),bs,show (((k + 1:Nat):Int) - 1) = (k:Int) from by omega]
    rcases hlev with ⟨g1,g2⟩ | ⟨r,g1,g2,g3⟩
    ·left
     rw [g1,bs]
     simp only [beq_self_eq_true,Bool.and_true]
     rw [zK,bs]
     exact ⟨_,rfl,e8,rfl,hiff.2 ⟨hcs,g2⟩⟩
    ·right
     rw [g1,bs,show (r.Kind == 0) = false from by simpa using g2,Bool.false_and,zG]
     refine ⟨_,rfl,k + 1,rfl,hcs,.inr fun q => g3 (hiff.1 q).2⟩) (fun s ⟨_,hs,hcs⟩ => by
    rw [Nat.sub_self] at hs hcs
    subst hs
    unfold zIG
    rw [show decide (((0:Nat):Int) > 0) = false from rfl,zG]
    exact ⟨_,rfl,0,rfl,hcs,.inl rfl⟩) (s:=(x.zA.length:Int)) ⟨by omega,by rw [Nat.sub_zero],by rw [Nat.sub_zero,vV (by omega)];simp only [vB]⟩
  obtain ⟨s,rfl,hcs,hs⟩:=r2
  rw [r1,bs,bs]
  cases s with
  | zero => exact .inl ⟨rfl,h2.toPres,hcs,h2⟩
  | succ s =>
   refine .inr ⟨?_,fun q => ?_⟩
   ·congr 1
   ·rcases hs with hs | hs
    ·omega
    ·exact hs (zBq q.2.1 _)
 ·rw [h1,bs,zG]
  exact .inr ⟨rfl,fun q => h2 q.2.2⟩
theorem zJw {x:SPr} (hl:x.zA.length ≤ 1048576):IsB (zPR x) (zCj x):=by
 unfold zPR
 rcases zBy hl with ⟨h1,h2⟩ | ⟨h1,h2⟩
 ·have h6:=h2.os.1
  rw [h1,bs,zK]
  unfold zRJ zRI
  rw [zH (by omega) (by omega),bs]
  obtain ⟨r,r1,r2⟩:=uN (body:=zIA x) (Q:=fun r => (r = .inl () ∧ vB (suf x 0)) ∨ ∃ f,r = .inr f ∧ f.Kind ≠ 0 ∧ ¬ vB (suf x 0)) (fun i s => i ≤ x.zA.length ∧ s = ((x.zA.length - i:Nat):Int) - 1 ∧ vB (suf x (x.zA.length - i))) x.zA.length (fun i s hi ⟨_,hs,hcs⟩ => by
    subst hs
    have hk:x.zA.length - i - 1 < x.zA.length:=by omega
    have e9:x.zA.length - (i + 1) = x.zA.length - i - 1:=by omega
    rw [e9]
    have e8:i + 1 ≤ x.zA.length:=by omega
    rw [show x.zA.length - i = x.zA.length - i - 1 + 1 from by omega] at hcs ⊢
    have hlev:=zJv h2.toPres hk hcs
    have hiff:=kY h2.toPres.w hk
    generalize x.zA.length - i - 1 = k at *
    unfold zIA
    rw [show (((k + 1:Nat):Int) - 1) = (k:Int) from by omega,decide_eq_true (by omega),zK]
    rcases hlev with ⟨g1,g2⟩ | ⟨r,g1,g2,g3⟩
    ·left
     rw [g1,bs]
     simp only
     rw [show ((0:Int) != 0) = false from rfl,zG,zH (by omega) (by omega),bs]
     exact ⟨_,rfl,e8,rfl,hiff.2 ⟨hcs,g2⟩⟩
    ·right
     rw [g1,bs,show (r.Kind != 0) = true from by simpa using g2,zK]
     exact ⟨_,rfl,.inr ⟨r,rfl,g2,fun q => g3 (hiff.1 (zBq q _)).2⟩⟩) (fun s ⟨_,hs,hcs⟩ => by
    rw [Nat.sub_self] at hs hcs
    subst hs
    unfold zIA
    rw [show decide (((0:Nat):Int) - 1 ≥ 0) = false from rfl,zG]
    exact ⟨_,rfl,.inl ⟨rfl,hcs⟩⟩) (s:=(x.zA.length:Int) - 1) ⟨by omega,by rw [Nat.sub_zero],by rw [Nat.sub_zero,vV (by omega)];simp only [vB]⟩
  rw [r1,bs]
  rcases r2 with ⟨rfl,q⟩ | ⟨f,rfl,g1,g2⟩
  ·exact .inl ⟨rfl,h2.toPres,q,h2⟩
  ·simp only
   rw [bs,show (f.Kind == 0) = false from by simpa using g1]
   exact .inr ⟨rfl,fun q => g2 q.2.1⟩
 ·rw [h1,bs,zG]
  exact .inr ⟨rfl,fun q => h2 q.2.2⟩
end Go.Pl

namespace Go.Pl
open Go Go.Ab Go.Wk
abbrev Mx:=List (List Int)
def S:Nat → (Nat → Int) → Int
 | 0,_ => 0
 | n + 1,f => S n f + f n
theorem zAs {n:Nat} {f g:Nat → Int} (h:∀ i,i < n → f i = g i):S n f = S n g:=by
 induction n with
 | zero => rfl
 | succ n ih => simp only [S];rw [ih fun i hi => h i (by omega),h n (by omega)]
theorem zIi {p:Int} {f g:Nat → Int}:∀ {n:Nat},(∀ i,i < n → f i % p = g i % p) → S n f % p = S n g % p
 | 0,_ => rfl
 | n + 1,h => by
  simp only [S]
  rw [Int.add_emod,zIi (n:=n) fun i hi => h i (by omega),h n (by omega),← Int.add_emod]
theorem zGQ:∀ n:Nat,S n (fun _ => 0) = 0
 | 0 => rfl
 | n + 1 => by simp only [S,zGQ n];rfl
theorem zQA {f g:Nat → Int}:∀ n:Nat,S n (fun i => f i + g i) = S n f + S n g
 | 0 => rfl
 | n + 1 => by simp only [S,zQA n];omega
theorem zNv {f:Nat → Int} (a:Int):∀ n:Nat,S n (fun i => f i * a) = S n f * a
 | 0 => by simp [S]
 | n + 1 => by simp only [S,zNv a n,Int.add_mul]
theorem zJx {f:Nat → Int} (a:Int):∀ n:Nat,S n (fun i => a * f i) = a * S n f
 | 0 => by simp [S]
 | n + 1 => by simp only [S,zJx a n,Int.mul_add]
theorem zJy {f:Nat → Nat → Int} (m:Nat):∀ n:Nat,S n (fun i => S m (fun j => f i j)) = S m (fun j => S n (fun i => f i j))
 | 0 => by simp only [S];exact (zGQ m).symm
 | n + 1 => by simp only [S];rw [zJy m n,zQA]
theorem zFl {f:Nat → Int} {k:Nat}:∀ {n:Nat},k < n → (∀ i,i < n → i ≠ k → f i = 0) → S n f = f k
 | 0,h,_ => by omega
 | n + 1,h,hz => by
  simp only [S]
  by_cases hk:k = n
  ·subst hk
   rw [zAs (g:=fun _ => 0) fun i hi => hz i (by omega) (by omega),zGQ];omega
  ·rw [zFl (n:=n) (by omega) fun i hi => hz i (by omega),hz n (by omega) (by omega)];omega
def mkv (D:Nat) (f:Nat → Int):List Int:=(List.range D).map f
theorem yN (D:Nat) (f:Nat → Int):(mkv D f).length = D:=by simp [mkv]
theorem zBr {D:Nat} {f:Nat → Int} {i:Nat} (h:i < D):(mkv D f)[i]? = some (f i):=by simp [mkv,h]
theorem xW {D:Nat} {f:Nat → Int} {i:Nat} (h:i < D):at0 (mkv D f) i = f i:=by
 rw [at0,List.getD_eq_getElem?_getD,zBr h];rfl
theorem yA {D:Nat} {f g:Nat → Int} (h:∀ i,i < D → f i = g i):mkv D f = mkv D g:=by
 unfold mkv
 apply List.map_congr_left
 intro i hi
 exact h i (by simpa using hi)
theorem zCL {D:Nat} {f:Nat → Int} {j:Nat} {a:Int}:(mkv D f).set j a = mkv D (fun i => if i = j then a else f i):=by
 apply List.ext_getElem?
 intro i
 rw [List.getElem?_set,yN]
 by_cases hi:i < D
 ·by_cases hij:j = i
  ·subst hij;rw [if_pos rfl,if_pos hi,zBr hi,if_pos rfl]
  ·rw [if_neg hij,zBr hi,zBr hi,if_neg fun h => hij h.symm]
 ·have h1:∀ g:Nat → Int,(mkv D g)[i]? = none:=fun g => List.getElem?_eq_none (by rw [yN];omega)
  rw [h1,h1]
  by_cases hij:j = i
  ·subst hij;rw [if_pos rfl,if_neg hi]
  ·rw [if_neg hij]
theorem tR {v:List Int} {D:Nat} (h:v.length = D):v = mkv D (at0 v):=by
 apply List.ext_getElem?
 intro i
 by_cases hi:i < D
 ·rw [zBr hi,at0,List.getD_eq_getElem?_getD,List.getElem?_eq_getElem (by omega)];rfl
 ·rw [List.getElem?_eq_none (by omega),List.getElem?_eq_none (by rw [yN];omega)]
theorem tM (D:Nat):List.replicate D (0:Int) = mkv D (fun _ => 0):=by
 apply List.ext_getElem?
 intro i
 by_cases hi:i < D
 ·rw [zBr hi];simp [hi]
 ·rw [List.getElem?_eq_none (by simp;omega),List.getElem?_eq_none (by rw [yN];omega)]
abbrev ent (B:Mx) (l j:Nat):Int:=at0 (B.getD l []) j
def tF (p:Int) (D:Nat) (r:List Int) (B:Mx):List Int:=mkv D fun j => S D (fun l => at0 r l * ent B l j) % p
def PM (p:Int) (D:Nat) (A B:Mx):Mx:=A.map fun r => tF p D r B
def idM (D:Nat):Mx:=(List.range D).map fun i => mkv D fun j => if j = i then 1 else 0
def Row (p:Int) (D:Nat) (r:List Int):Prop:=r.length = D ∧ ∀ i,i < D → 0 ≤ at0 r i ∧ at0 r i ≤ p - 1
def Mat (p:Int) (D:Nat) (A:Mx):Prop:=A.length = D ∧ ∀ i,i < D → Row p D (A.getD i [])
theorem zAt {p:Int} {D i:Nat} {A B:Mx} (h:i < A.length):(PM p D A B).getD i [] = tF p D (A.getD i []) B:=by
 simp only [PM,List.getD_eq_getElem?_getD,List.getElem?_map,List.getElem?_eq_getElem h];rfl
theorem vC {p:Int} {D:Nat} {A B:Mx}:(PM p D A B).length = A.length:=by simp [PM]
theorem zAW {p:Int} {D:Nat} {A B:Mx} (hp:0 < p) (hA:A.length = D):Mat p D (PM p D A B):=by
 refine ⟨by rw [vC,hA],fun i hi => ?_⟩
 rw [zAt (by omega)]
 refine ⟨by rw [tF,yN],fun j hj => ?_⟩
 rw [tF,xW hj]
 have h1:=Int.emod_nonneg (S D fun l => at0 (A.getD i []) l * ent B l j) (show p ≠ 0 by omega)
 have h2:=Int.emod_lt_of_pos (S D fun l => at0 (A.getD i []) l * ent B l j) hp
 omega
theorem zJz {p:Int} {D i j:Nat} {A B:Mx} (hA:A.length = D) (hi:i < D) (hj:j < D):ent (PM p D A B) i j = S D (fun l => ent A i l * ent B l j) % p:=by
 rw [ent,zAt (by omega),tF,xW hj]
theorem zJ0 {D:Nat} {A B:Mx} (hA:A.length = D) (hB:B.length = D) (h:∀ i,i < D → A.getD i [] = B.getD i []):A = B:=by
 apply List.ext_getElem?
 intro i
 by_cases hi:i < D
 ·have:=h i hi
  rw [List.getD_eq_getElem?_getD,List.getD_eq_getElem?_getD,List.getElem?_eq_getElem (by omega),List.getElem?_eq_getElem (by omega)] at this
  rw [List.getElem?_eq_getElem (by omega),List.getElem?_eq_getElem (by omega)]
  exact congrArg some this
 ·rw [List.getElem?_eq_none (by omega),List.getElem?_eq_none (by omega)]
theorem zIj {p:Int} {D:Nat} {A B C:Mx} (hA:A.length = D) (hB:B.length = D):PM p D (PM p D A B) C = PM p D A (PM p D B C):=by
 refine zJ0 (by rw [vC,vC,hA]) (by rw [vC,hA]) fun i hi => ?_
 rw [zAt (A:=PM p D A B) (by rw [vC];omega),zAt (A:=A) (B:=PM p D B C) (by omega)]
 unfold tF
 refine yA fun j hj => ?_
 have e1:S D (fun l => at0 ((PM p D A B).getD i []) l * ent C l j) % p = S D (fun l => S D (fun q => ent A i q * ent B q l) * ent C l j) % p:=zIi fun l hl => by
  have:=zJz (p:=p) (B:=B) hA hi hl
  simp only [ent] at this ⊢
  rw [this,Int.mul_emod,Int.emod_emod,← Int.mul_emod]
 have e2:S D (fun l => at0 (A.getD i []) l * ent (PM p D B C) l j) % p = S D (fun q => ent A i q * S D (fun l => ent B q l * ent C l j)) % p:=zIi fun q hq => by
  rw [zJz hB hq hj,Int.mul_emod,Int.emod_emod,← Int.mul_emod]
 rw [e1,e2]
 congr 1
 have e3:(fun l => S D (fun q => ent A i q * ent B q l) * ent C l j) = fun l => S D (fun q => ent A i q * ent B q l * ent C l j):=funext fun l => (zNv _ _).symm
 have e4:(fun q => ent A i q * S D (fun l => ent B q l * ent C l j)) = fun q => S D (fun l => ent A i q * ent B q l * ent C l j):=funext fun q => by
  rw [← zJx]
  exact zAs fun l _ => by rw [Int.mul_assoc]
 rw [e3,e4]
 exact zJy D D
theorem uF (D:Nat):(idM D).length = D:=by simp [idM]
theorem zBs {D i:Nat} (h:i < D):(idM D).getD i [] = mkv D fun j => if j = i then 1 else 0:=by simp [idM,List.getD_eq_getElem?_getD,h]
theorem jS {p:Int} {D:Nat} (hp:2 ≤ p):Mat p D (idM D):=by
 refine ⟨uF D,fun i hi => ?_⟩
 rw [zBs hi]
 refine ⟨yN _ _,fun j hj => ?_⟩
 rw [xW hj]
 split <;> omega
theorem qV {p a:Int} (h:0 ≤ a ∧ a ≤ p - 1):a % p = a:=Int.emod_eq_of_lt h.1 (by omega)
theorem zGR {p:Int} {D:Nat} {B:Mx} (hB:Mat p D B):PM p D (idM D) B = B:=by
 refine zJ0 (by rw [vC,uF]) hB.1 fun i hi => ?_
 rw [zAt (by rw [uF];exact hi),zBs hi,tF]
 obtain ⟨h1,h2⟩:=hB.2 i hi
 refine Eq.trans (yA fun j hj => ?_) (tR h1).symm
 rw [zFl (k:=i) hi fun l hl hne => by rw [xW hl,if_neg hne,Int.zero_mul],xW hi,if_pos rfl,Int.one_mul]
 exact qV (h2 j hj)
theorem zIk {p:Int} {D:Nat} {A:Mx} (hA:Mat p D A):PM p D A (idM D) = A:=by
 refine zJ0 (by rw [vC,hA.1]) hA.1 fun i hi => ?_
 rw [zAt (by rw [hA.1];exact hi),tF]
 obtain ⟨h1,h2⟩:=hA.2 i hi
 refine Eq.trans (yA fun j hj => ?_) (tR h1).symm
 rw [zFl (k:=j) hj fun l hl hne => by rw [ent,zBs hl,xW hj,if_neg (fun h => hne h.symm),Int.mul_zero],ent,zBs hj,xW hj,if_pos rfl,Int.mul_one]
 exact qV (h2 j hj)
theorem zNw {p:Int} {D i j:Nat} {B:Mx} (hB:Mat p D B) (hi:i < D) (hj:j < D):ixO B (i:Int) = some (B.getD i []) ∧ ixO (B.getD i []) (j:Int) = some (ent B i j) ∧ (B.getD i []).length = D ∧ 0 ≤ ent B i j ∧ ent B i j ≤ p - 1:=by
 obtain ⟨h1,h2⟩:=hB.2 i hi
 have:=hB.1
 exact ⟨yO [] (by omega),yW (by omega),h1,h2 j hj⟩
def acc (p:Int) (D i:Nat) (r:List Int) (B:Mx):List Int:=mkv D fun j => S i (fun l => at0 r l * ent B l j) % p
def zBz (p:Int) (D i k:Nat) (r:List Int) (B:Mx):List Int:=mkv D fun j => if j < k then S (i + 1) (fun l => at0 r l * ent B l j) % p else S i (fun l => at0 r l * ent B l j) % p
theorem zGn {p:Int} {D i:Nat} {r:List Int} {B:Mx}:zBz p D i 0 r B = acc p D i r B:=yA fun j _ => by rw [if_neg (by omega)]
theorem zGo {p:Int} {D i:Nat} {r:List Int} {B:Mx}:zBz p D i D r B = acc p D (i + 1) r B:=yA fun j hj => by rw [if_pos hj]
theorem zIl {p:Int} {D i k:Nat} {r:List Int} {B:Mx} (hk:k < D) {a:Int} (ha:a = (at0 (zBz p D i k r B) k + at0 r i * ent B i k) % p):(zBz p D i k r B).set k a = zBz p D i (k + 1) r B:=by
 subst ha
 simp only [zBz]
 rw [zCL,xW hk,if_neg (by omega)]
 refine yA fun j hj => ?_
 by_cases hjk:j = k
 ·subst hjk
  rw [if_pos rfl,if_pos (by omega)]
  simp only [S]
  rw [Int.emod_add_emod]
 ·rw [if_neg hjk]
  by_cases hlt:j < k
  ·rw [if_pos hlt,if_pos (by omega)]
  ·rw [if_neg hlt,if_neg (by omega)]
theorem zIm {p:Int} {D i k j:Nat} {r:List Int} {B:Mx} (hp:0 < p) (hj:j < D):0 ≤ at0 (zBz p D i k r B) j ∧ at0 (zBz p D i k r B) j ≤ p - 1:=by
 rw [zBz,xW hj]
 split
 ·have h1:=Int.emod_nonneg (S (i + 1) fun l => at0 r l * ent B l j) (show p ≠ 0 by omega)
  have h2:=Int.emod_lt_of_pos (S (i + 1) fun l => at0 r l * ent B l j) hp
  omega
 ·have h1:=Int.emod_nonneg (S i fun l => at0 r l * ent B l j) (show p ≠ 0 by omega)
  have h2:=Int.emod_lt_of_pos (S i fun l => at0 r l * ent B l j) hp
  omega
theorem zFm {p:Int} {D i k:Nat} {r:List Int} {B:Mx}:(zBz p D i k r B).length = D:=yN _ _
theorem zKT {p:Int} {D i k j:Nat} {r:List Int} {B:Mx} (hj:j < D):ixO (zBz p D i k r B) (j:Int) = some (at0 (zBz p D i k r B) j):=yW (by rw [zFm];exact hj)
theorem zIn {p:Int} {D:Nat} {r:List Int} {B:Mx}:List.replicate D (0:Int) = acc p D 0 r B:=by
 rw [tM];exact yA fun j _ => by simp [S]
theorem zDr {a b p:Int} (hp:p ≤ 7) (ha:0 ≤ a ∧ a ≤ p - 1) (hb:0 ≤ b ∧ b ≤ p - 1):0 ≤ a * b ∧ a * b ≤ 36:=by
 have h1:0 ≤ a * b:=Int.mul_nonneg ha.1 hb.1
 have h2:a * b ≤ 6 * 6:=Int.mul_le_mul (by omega) (by omega) hb.1 (by omega)
 omega
section
variable {p:Int} {D:Nat} (hp:Prime p) (hD:D ≤ 8)
 include hp hD
theorem zFn {r:List Int} {B:Mx} (hr:Row p D r) (hB:Mat p D B):f_n p r B (D:Int) = some (tF p D r B):=by
 have h7:=hp.pos
 have hBl:=hB.1
 have hrl:=hr.1
 unfold f_n
 rw [xF (by omega),bs,zIn (p:=p) (r:=r) (B:=B)]
 have:=zW (body:=zIC p r B) (r:=acc p D D r B) (fun i => (acc p D i r B,(i:Int))) D (fun i hi => by
  have hri:=hr.2 i hi
  unfold zIC
  simp only
  rw [hrl,hBl,xM hi,zK,zK]
  have inner:=zW (body:=zIB p r B (acc p D i r B,(i:Int))) (r:=acc p D (i + 1) r B) (fun k => (zBz p D i k r B,(k:Int))) D (fun k hk => by
   obtain ⟨b1,b2,b3,b4⟩:=zNw hB hi hk
   have ha:=zIm (p:=p) (i:=i) (k:=k) (r:=r) (B:=B) (by omega) hk
   have hm:=zDr (by omega) hri b4
   unfold zIB
   simp only
   rw [zFm,xM hk,zK,b1,bs,b3,xM hk,zK,zKT hk,bs,yW (by omega),bs,bs,b2,bs,zH (by omega) (by omega),bs,zH (by omega) (by omega),bs]
   have hrem:vQ (at0 (zBz p D i k r B) k + at0 r i * ent B i k) p = some ((at0 (zBz p D i k r B) k + at0 r i * ent B i k) % p):=by
    unfold vQ
    rw [if_neg (by omega),Int.tmod_eq_emod_of_nonneg (by omega)]
   rw [hrem,bs,bs,zH (by omega) (by omega),bs,cs,Int.toNat_natCast,zIl hk rfl]) (by
   unfold zIB
   simp only
   rw [zFm,xQ,zG,zGo])
  rw [zGn,show ((0:Nat):Int) = 0 from rfl] at inner
  rw [inner,bs,zH (by omega) (by omega),bs,cs]) (by
  unfold zIC
  simp only
  rw [hrl,xQ,zG])
 rw [show ((0:Nat):Int) = 0 from rfl] at this
 rw [this,bs];rfl
theorem zGS {a:Int} (h0:0 ≤ a) (_h1:a ≤ 1000):zLZ a p = some (a % p):=by
 have _:=hD
 have h7:=hp.pos
 have e1:=Int.emod_nonneg a (show p ≠ 0 by omega)
 have e2:=Int.emod_lt_of_pos a (show 0 < p by omega)
 unfold zLZ vQ
 rw [if_neg (by omega),bs,Int.tmod_eq_emod_of_nonneg h0,zH (by omega) (by omega),bs,if_neg (by omega),bs,Int.tmod_eq_emod_of_nonneg (by omega)]
 congr 1
 rw [Int.add_emod_right,Int.emod_emod]
theorem zDs {i:Nat} {r:List Int} {B:Mx} (hi:i < D) (hr:Row p D r) (hB:Mat p D B):f_I (acc p D i r B) (B.getD i []) (at0 r i) p = some (acc p D (i + 1) r B):=by
 have h7:=hp.pos
 have hri:=hr.2 i hi
 unfold f_I
 have hl:(acc p D i r B).length = D:=yN _ _
 have inner:=zW (body:=zIJ (acc p D i r B) (B.getD i []) (at0 r i) p) (r:=acc p D (i + 1) r B) (fun k => (zBz p D i k r B,(k:Int))) D (fun k hk => by
  obtain ⟨b1,b2,b3,b4⟩:=zNw hB hi hk
  have ha:=zIm (p:=p) (i:=i) (k:=k) (r:=r) (B:=B) (by omega) hk
  have hm:=zDr (by omega) hri b4
  unfold zIJ
  simp only
  rw [hl,xM hk,zK,zKT hk,bs,b2,bs,zH (by omega) (by omega),bs,zH (by omega) (by omega),bs,zGS hp hD (by omega) (by omega),bs,bs,zH (by omega) (by omega),bs,cs,Int.toNat_natCast,zIl hk rfl]) (by
  unfold zIJ
  simp only
  rw [hl,xQ,zG,zGo])
 rw [zGn,show ((0:Nat):Int) = 0 from rfl] at inner
 rw [inner,bs]
theorem zDt {r:List Int} {B:Mx} {q:Int} (hr:Row p D r) (hB:Mat p D B) (hq:q = (D:Int)):f_F r (zL.mk p q B) = some (tF p D r B):=by
 subst hq
 have hrl:=hr.1
 unfold f_F
 simp only
 rw [xF (by omega),bs,zIn (p:=p) (r:=r) (B:=B)]
 have:=zW (body:=zIK r (zL.mk p (D:Int) B)) (r:=acc p D D r B) (fun i => (acc p D i r B,(i:Int))) D (fun i hi => by
  have hBl:=hB.1
  unfold zIK
  simp only
  rw [hrl,xM hi,zK,yW (by omega),bs,yO [] (by omega),bs,zDs hp hD hi hr hB,bs,zH (by omega) (by omega),bs,cs]) (by
  unfold zIK
  simp only
  rw [hrl,xQ,zG])
 rw [show ((0:Nat):Int) = 0 from rfl] at this
 rw [this,bs];rfl
theorem zGp {A B:Mx} {i:Nat} (hi:i < A.length):(PM p D A B).take i ++ [tF p D (A.getD i []) B] = (PM p D A B).take (i + 1):=by
 have _:=hp;have _:=hD
 rw [List.take_succ_eq_append_getElem (by rw [vC];exact hi)]
 congr 2
 have:=zAt (p:=p) (D:=D) (B:=B) hi
 rw [List.getD_eq_getElem?_getD,List.getElem?_eq_getElem (by rw [vC];exact hi)] at this
 exact this.symm
theorem sV {A B:Mx} (hA:Mat p D A) (hB:Mat p D B):f_t p A B (D:Int) = some (PM p D A B):=by
 have hAl:=hA.1
 unfold f_t
 have:=zW (body:=zID p A B (D:Int)) (r:=PM p D A B) (fun i => ((PM p D A B).take i,(i:Int))) D (fun i hi => by
  unfold zID
  simp only
  rw [hAl,xM hi,zK,yO [] (by omega),bs,zFn hp hD (hA.2 i hi) hB,bs,wA (by rw [List.length_take,vC];simp;omega),bs,zH (by omega) (by omega),bs,cs,zGp hp hD (by omega)]) (by
  unfold zID
  simp only
  rw [hAl,xQ,zG,List.take_of_length_le (by rw [vC];omega)])
 rw [show ((0:Nat):Int) = 0 from rfl,List.take_zero] at this
 rw [this,bs]
theorem zFD {A B:Mx} {q:Int} (hA:Mat p D A) (hB:Mat p D B):f_B (zL.mk p q A) (zL.mk p (D:Int) B) = some (zL.mk p (D:Int) (PM p D A B)):=by
 have hAl:=hA.1
 unfold f_B
 have:=zW (body:=zIL (zL.mk p q A) (zL.mk p (D:Int) B)) (r:=PM p D A B) (fun i => ((PM p D A B).take i,(i:Int))) D (fun i hi => by
  unfold zIL
  simp only
  rw [hAl,xM hi,zK,yO [] (by omega),bs,zDt hp hD (hA.2 i hi) hB rfl,bs,wA (by rw [List.length_take,vC];simp;omega),bs,zH (by omega) (by omega),bs,cs,zGp hp hD (by omega)]) (by
  unfold zIL
  simp only
  rw [hAl,xQ,zG,List.take_of_length_le (by rw [vC];omega)])
 rw [show ((0:Nat):Int) = 0 from rfl,List.take_zero] at this
 rw [this,bs]
theorem zIo {i:Nat} (_hi:i < D):(List.replicate D (0:Int)).set i 1 = mkv D fun j => if j = i then 1 else 0:=by
 have _:=hp;have _:=hD
 rw [tM,zCL]
theorem zKU {i:Nat} (hi:i < D):(idM D).take i ++ [mkv D fun j => if j = i then 1 else 0] = (idM D).take (i + 1):=by
 have _:=hp;have _:=hD
 rw [List.take_succ_eq_append_getElem (by rw [uF];exact hi)]
 congr 2
 have:=zBs hi
 rw [List.getD_eq_getElem?_getD,List.getElem?_eq_getElem (by rw [uF];exact hi)] at this
 exact this.symm
theorem zFo:f_V (D:Int) = some (idM D):=by
 unfold f_V
 have:=zW (body:=zOi (D:Int)) (r:=idM D) (fun i => ((idM D).take i,(i:Int))) D (fun i hi => by
  unfold zOi
  simp only
  rw [xM hi,zK,xF (by omega),bs,uD,List.getElem?_replicate,if_pos hi,bs,Int.toNat_natCast,zIo hp hD hi,wA (by rw [List.length_take,uF];simp;omega),bs,zH (by omega) (by omega),bs,cs,zKU hp hD hi]) (by
  unfold zOi
  simp only
  rw [xQ,zG,List.take_of_length_le (by rw [uF];omega)])
 rw [show ((0:Nat):Int) = 0 from rfl,List.take_zero] at this
 rw [this,bs]
theorem zFE:f_M p (D:Int) = some (zL.mk p (D:Int) (idM D)):=by
 unfold f_M
 have:=zW (body:=zOF (D:Int)) (r:=idM D) (fun i => ((idM D).take i,(i:Int))) D (fun i hi => by
  unfold zOF
  simp only
  rw [xM hi,zK,xF (by omega),bs,uD,List.getElem?_replicate,if_pos hi,bs,Int.toNat_natCast,zIo hp hD hi,wA (by rw [List.length_take,uF];simp;omega),bs,zH (by omega) (by omega),bs,cs,zKU hp hD hi]) (by
  unfold zOF
  simp only
  rw [xQ,zG,List.take_of_length_le (by rw [uF];omega)])
 rw [show ((0:Nat):Int) = 0 from rfl,List.take_zero] at this
 rw [this,bs]
end
end Go.Pl

namespace Go.Pl
open Go Go.Ab Go.Wk Go.Pc
def nw:Nat → List Int → List Nat
 | _,[] => []
 | o,a :: v => List.replicate a.toNat o ++ nw (o + 1) v
theorem zDu:∀ (o:Nat) (u v:List Int),nw o (u ++ v) = nw o u ++ nw (o + u.length) v
 | o,[],v => by simp [nw]
 | o,a :: u,v => by
  simp only [List.cons_append,nw,zDu (o + 1) u v,List.append_assoc,List.length_cons]
  rw [show o + 1 + u.length = o + (u.length + 1) from by omega]
theorem zKV {v:List Int} {i:Nat} (h:i < v.length):nw 0 (v.take (i + 1)) = nw 0 (v.take i) ++ List.replicate (at0 v i).toNat i:=by
 rw [List.take_succ_eq_append_getElem h,zDu,List.length_take,Nat.min_eq_left (by omega),Nat.zero_add]
 simp only [nw,List.append_nil]
 rw [at0,List.getD_eq_getElem?_getD,List.getElem?_eq_getElem h];rfl
theorem zNx {n:Nat}:∀ (o:Nat) (v:List Int),o + v.length ≤ n → ∀ w ∈ nw o v,w < n
 | o,[],_,w,h => by simp [nw] at h
 | o,a :: v,hv,w,h => by
  simp only [nw,List.mem_append,List.length_cons] at h hv
  rcases h with h | h
  ·have:=List.eq_of_mem_replicate h;omega
  ·exact zNx (o + 1) v (by omega) w h
theorem zFp:∀ (o:Nat) (v:List Int),(∀ i,i < v.length → at0 v i ≤ 6) → (nw o v).length ≤ 6 * v.length
 | o,[],_ => by simp [nw]
 | o,a :: v,h => by
  have h0:=h 0 (by simp)
  have:=zFp (o + 1) v fun i hi => by
   have:=h (i + 1) (by simpa using hi)
   simpa [at0] using this
  simp only [at0,List.getD_cons_zero] at h0
  simp only [nw,List.length_append,List.length_replicate,List.length_cons]
  omega
def wM (p:Int) (D:Nat) (A:List Mx) (ws:List Nat) (B:Mx):Mx:=ws.foldl (fun B w => PM p D B (A.getD w [])) B
theorem zDv {p:Int} {D:Nat} {A:List Mx} {u v:List Nat} {B:Mx}:wM p D A (u ++ v) B = wM p D A v (wM p D A u B):=by simp [wM,List.foldl_append]
theorem zFq {p:Int} {D:Nat} {A:List Mx} {w:Nat}:∀ (k:Nat) (B:Mx),wM p D A (List.replicate k w) B = iter k (fun B => PM p D B (A.getD w [])) B
 | 0,_ => rfl
 | k + 1,B => by
  rw [List.replicate_succ]
  show wM p D A (List.replicate k w) (PM p D B (A.getD w [])) = _
  rw [zFq k];rfl
theorem zDw {p:Int} {D:Nat} {A:List Mx} (hp:0 < p):∀ (ws:List Nat) {B:Mx},Mat p D B → Mat p D (wM p D A ws B)
 | [],_,hB => hB
 | _w :: ws,_,hB => zDw hp ws (zAW hp hB.1)
theorem zNy {p:Int} {D:Nat} {A:List Mx} (hp:0 < p) {C:Mx} (hC:C.length = D):∀ (ws:List Nat) {B:Mx},Mat p D B → wM p D A ws (PM p D C B) = PM p D C (wM p D A ws B)
 | [],_,_ => rfl
 | w :: ws,B,hB => by
  show wM p D A ws (PM p D (PM p D C B) (A.getD w [])) = PM p D C (wM p D A ws (PM p D B (A.getD w [])))
  rw [zIj hC hB.1,zNy hp hC ws (zAW hp hB.1)]
structure MOk (n:Nat) (m:zC) (D:Nat):Prop where
 p:Prime m.Prime
 d:m.Dim = (D:Int)
 d1:1 ≤ D
 d3:D ≤ 3
 len:m.zE.length = n
 mat:∀ i,i < n → Mat m.Prime D (m.zE.getD i [])
structure zR0 (n:Nat) (m:zC) (D:Nat):Prop where
 p:Prime m.Prime
 d:m.Dim = (D:Int)
 d3:D ≤ 30
 len:m.zE.length = n
 mat:∀ i,i < n → Mat m.Prime D (m.zE.getD i [])
theorem MOk.x {n D:Nat} {m:zC} (h:MOk n m D):zR0 n m D:=⟨h.p,h.d,by have:=h.d3;omega,h.len,h.mat⟩
structure zR1 (n:Nat) (m:zC) (D:Nat):Prop where
 p:Prime m.Prime
 d1:1 ≤ D
 d3:D ≤ 200
 len:m.zE.length = n
 mat:∀ i,i < n → Mat m.Prime D (m.zE.getD i [])
theorem MOk.b {n D:Nat} {m:zC} (h:MOk n m D):zR1 n m D:=⟨h.p,h.d1,by have:=h.d3;omega,h.len,h.mat⟩
section
variable {n D:Nat} {m:zC} (hm:MOk n m D) (hn:n ≤ 9)
 include hm hn
theorem zIp {v:List Int} (hl:v.length = n) (hv:∀ i,i < n → 0 ≤ at0 v i ∧ at0 v i ≤ 6):f_C m v = some (wM m.Prime D m.zE (nw 0 v) (idM D)):=by
 have h7:=hm.p.pos
 have h3:=hm.d3
 have hlen:=hm.len
 unfold f_C
 rw [hm.d,zFo hm.p (by omega),bs]
 have hI:∀ i,Mat m.Prime D (wM m.Prime D m.zE (nw 0 (v.take i)) (idM D)):=fun i => zDw (by omega) _ (jS h7.1)
 have:=zW (body:=zOl m v) (r:=wM m.Prime D m.zE (nw 0 v) (idM D)) (fun i => (wM m.Prime D m.zE (nw 0 (v.take i)) (idM D),(i:Int))) n (fun i hi => by
  have hvi:=hv i hi
  unfold zOl
  simp only
  rw [hl,xM hi,zK]
  rw [vS (S:=Mat m.Prime D) (body:=zOj m v (wM m.Prime D m.zE (nw 0 (v.take i)) (idM D),(i:Int))) (fun B => B) (fun B => PM m.Prime D B (m.zE.getD i [])) (at0 v i) hvi.1 (fun B hB => zAW (by omega) hB.1) (fun B q hB hq => by
   unfold zOj
   simp only
   rw [yW (by omega),bs,decide_eq_true hq,zK,yO [] (by omega),bs,hm.d,sV hm.p (by omega) hB (hm.mat i hi),bs,zH (by omega) (by omega),bs,cs]) (fun B hB => by
   unfold zOj
   simp only
   rw [yW (by omega),bs,decide_eq_false (by omega),zG]) (hI i),bs,zH (by omega) (by omega),bs,cs]
  rw [zKV (by omega),zDv,zFq]) (by
  unfold zOl
  simp only
  rw [hl,xQ,zG,List.take_of_length_le (by omega)])
 rw [show ((0:Nat):Int) = 0 from rfl,List.take_zero] at this
 simp only [nw,wM,List.foldl_nil] at this
 rw [this,bs];rfl
abbrev enW (ws:List Nat):List Int:=ws.map fun (w:Nat) => (w:Int) + 1
theorem jZ {i:Nat} (hi:i < n):zIH m (i:Int) = some (zL.mk m.Prime (D:Int) (m.zE.getD i [])):=by
 have _:=hn
 have hlen:=hm.len
 unfold zIH
 rw [yO [] (by omega),bs,hm.d]
theorem zBF {ws:List Nat} (hw:∀ w ∈ ws,w < n) (hl:ws.length ≤ 1000000):f_N m (enW ws) = some (zL.mk m.Prime (D:Int) (wM m.Prime D m.zE ws (idM D))):=by
 have h7:=hm.p.pos
 have h3:=hm.d3
 unfold f_N
 rw [hm.d,zFE hm.p (by omega),bs]
 have hI:∀ i,Mat m.Prime D (wM m.Prime D m.zE (ws.take i) (idM D)):=fun i => zDw (by omega) _ (jS h7.1)
 have hel:(enW ws).length = ws.length:=by simp only [enW,List.length_map]
 have:=zW (body:=zOG m (enW ws)) (r:=(m.Prime,(D:Int),wM m.Prime D m.zE ws (idM D))) (fun i => (m.Prime,(D:Int),wM m.Prime D m.zE (ws.take i) (idM D),(i:Int))) ws.length (fun i hi => by
  have hwi:=hw ws[i] (List.getElem_mem hi)
  unfold zOG
  simp only
  rw [hel,xM hi,zK,uD,List.getElem?_map,List.getElem?_eq_getElem hi]
  simp only [Option.map_some]
  rw [bs,zH (by omega) (by omega),bs,show ((ws[i]:Nat):Int) + 1 - 1 = ((ws[i]:Nat):Int) from by omega,jZ hm hn hwi,bs,zFD hm.p (by omega) (hI i) (hm.mat _ hwi),bs,zH (by omega) (by omega),bs,cs,List.take_succ_eq_append_getElem hi,zDv]
  rfl) (by
  unfold zOG
  simp only
  rw [hel,xQ,zG,List.take_of_length_le (by omega)])
 rw [show ((0:Nat):Int) = 0 from rfl,List.take_zero] at this
 simp only [wM,List.foldl_nil] at this
 simp only
 rw [this,bs];rfl
end
theorem zA4 {v:List Int} (hl:v.length ≤ 9) (hv:∀ i,i < v.length → 0 ≤ at0 v i ∧ at0 v i ≤ 6):f_D v = some (enW (nw 0 v)):=by
 unfold f_D
 have hlen:∀ i,(nw 0 (v.take i)).length ≤ 54:=fun i => by
  have:=zFp 0 (v.take i) fun j hj => by
   rw [List.length_take] at hj
   have e:at0 (v.take i) j = at0 v j:=by simp only [at0,List.getD_eq_getElem?_getD,List.getElem?_take];rw [if_pos (by omega)]
   rw [e];exact (hv j (by omega)).2
  rw [List.length_take] at this
  omega
 have:=zW (body:=zOB v) (r:=enW (nw 0 v)) (fun i => (enW (nw 0 (v.take i)),(i:Int))) v.length (fun i hi => by
  have hvi:=hv i hi
  have hli:=hlen i
  unfold zOB
  simp only
  rw [xM hi,zK,yW hi,bs]
  have inner:=zW (body:=zOA (enW (nw 0 (v.take i)),(i:Int)) (at0 v i)) (r:=enW (nw 0 (v.take (i + 1)))) (fun k => (enW (nw 0 (v.take i) ++ List.replicate k i),(k:Int))) (at0 v i).toNat (fun k hk => by
   unfold zOA
   simp only
   rw [decide_eq_true (by omega),zK,zH (by omega) (by omega),bs,wA (by simp only [List.length_map,List.length_append,List.length_replicate,List.length_cons,List.length_nil];omega),bs,zH (by omega) (by omega),bs,cs]
   congr 3
   rw [List.replicate_succ',← List.append_assoc]
   simp only [enW,List.map_append,List.map_cons,List.map_nil]
   rfl) (by
   unfold zOA
   simp only
   rw [decide_eq_false (by omega),zG,zKV hi])
  rw [show ((0:Nat):Int) = 0 from rfl,List.replicate_zero,List.append_nil] at inner
  rw [inner,bs,zH (by omega) (by omega),bs,cs]) (by
  unfold zOB
  simp only
  rw [xQ,zG,List.take_length])
 rw [show ((0:Nat):Int) = 0 from rfl,List.take_zero] at this
 simp only [nw,enW,List.map_nil] at this
 rw [this,bs]
theorem zNz {v o:Int} (h:zO9 1 (IntKind.wrap .u64 o) = some (0,o)):zO9 (IntKind.wrap .u64 (([v]:List Int).length:Int)) (IntKind.wrap .u64 o) = some (0,o):=by
 rw [show IntKind.wrap .u64 (([v]:List Int).length:Int) = 1 from by simp;decide]
 exact h
theorem zIq {v o:Int} (ho:Prime o):f_g [v] o = some (List.replicate o.toNat v):=by
 unfold f_g
 rcases ho with rfl | rfl | rfl | rfl
 ·have h:=zW (body:=sD) (r:=[v,v]) (fun i => match i with | 0 => ([v,0],1) | _ => ([v,v],2)) 1 (fun i hi => by
   match i,hi with
   | 0,_ => simp [sD,yB,xX,rng,inR]) (by simp [sD])
  rw [zNz (by decide +kernel),bs]
  have hl:yP (IntKind.wrap .i64 2) = some 2:=by decide +kernel
  simp only [hl,bs]
  rw [show decide ((2:Int) < 0) = false from rfl,zG,show decide ((0:Int) > 0) = false from rfl,zG,show decide ((2:Int) > 9223372036854775807) = false from by decide,zG]
  have e2:xX (List.replicate 2 (0:Int)) 0 (([v]:List Int).take ((List.replicate 2 (0:Int)).length - 0)) = [v,0]:=by simp [xX,List.replicate]
  have e3:((min ([v]:List Int).length ((List.replicate 2 (0:Int)).length - 0):Nat):Int) = 1:=by simp
  rw [e2,e3]
  have h':zJ sD ([v,0],1) = _:=h
  rw [h',bs]
  rfl
 ·have h:=zW (body:=sD) (r:=[v,v,v]) (fun i => match i with | 0 => ([v,0,0],1) | 1 => ([v,v,0],2) | _ => ([v,v,v],3)) 2 (fun i hi => by
   match i,hi with
   | 0,_ => simp [sD,yB,xX,rng,inR]
   | 1,_ => simp [sD,yB,xX,rng,inR]) (by simp [sD])
  rw [zNz (by decide +kernel),bs]
  have hl:yP (IntKind.wrap .i64 3) = some 3:=by decide +kernel
  simp only [hl,bs]
  rw [show decide ((3:Int) < 0) = false from rfl,zG,show decide ((0:Int) > 0) = false from rfl,zG,show decide ((3:Int) > 9223372036854775807) = false from by decide,zG]
  have e2:xX (List.replicate 3 (0:Int)) 0 (([v]:List Int).take ((List.replicate 3 (0:Int)).length - 0)) = [v,0,0]:=by simp [xX,List.replicate]
  have e3:((min ([v]:List Int).length ((List.replicate 3 (0:Int)).length - 0):Nat):Int) = 1:=by simp
  rw [e2,e3]
  have h':zJ sD ([v,0,0],1) = _:=h
  rw [h',bs]
  rfl
 ·have h:=zW (body:=sD) (r:=[v,v,v,v,v]) (fun i => match i with | 0 => ([v,0,0,0,0],1) | 1 => ([v,v,0,0,0],2) | 2 => ([v,v,v,v,0],4) | _ => ([v,v,v,v,v],5)) 3 (fun i hi => by
   match i,hi with
   | 0,_ => simp [sD,yB,xX,rng,inR]
   | 1,_ => simp [sD,yB,xX,rng,inR]
   | 2,_ => simp [sD,yB,xX,rng,inR]) (by simp [sD])
  rw [zNz (by decide +kernel),bs]
  have hl:yP (IntKind.wrap .i64 5) = some 5:=by decide +kernel
  simp only [hl,bs]
  rw [show decide ((5:Int) < 0) = false from rfl,zG,show decide ((0:Int) > 0) = false from rfl,zG,show decide ((5:Int) > 9223372036854775807) = false from by decide,zG]
  have e2:xX (List.replicate 5 (0:Int)) 0 (([v]:List Int).take ((List.replicate 5 (0:Int)).length - 0)) = [v,0,0,0,0]:=by simp [xX,List.replicate]
  have e3:((min ([v]:List Int).length ((List.replicate 5 (0:Int)).length - 0):Nat):Int) = 1:=by simp
  rw [e2,e3]
  have h':zJ sD ([v,0,0,0,0],1) = _:=h
  rw [h',bs]
  rfl
 ·have h:=zW (body:=sD) (r:=[v,v,v,v,v,v,v]) (fun i => match i with | 0 => ([v,0,0,0,0,0,0],1) | 1 => ([v,v,0,0,0,0,0],2) | 2 => ([v,v,v,v,0,0,0],4) | _ => ([v,v,v,v,v,v,v],7)) 3 (fun i hi => by
   match i,hi with
   | 0,_ => simp [sD,yB,xX,rng,inR]
   | 1,_ => simp [sD,yB,xX,rng,inR]
   | 2,_ => simp [sD,yB,xX,rng,inR]) (by simp [sD])
  rw [zNz (by decide +kernel),bs]
  have hl:yP (IntKind.wrap .i64 7) = some 7:=by decide +kernel
  simp only [hl,bs]
  rw [show decide ((7:Int) < 0) = false from rfl,zG,show decide ((0:Int) > 0) = false from rfl,zG,show decide ((7:Int) > 9223372036854775807) = false from by decide,zG]
  have e2:xX (List.replicate 7 (0:Int)) 0 (([v]:List Int).take ((List.replicate 7 (0:Int)).length - 0)) = [v,0,0,0,0,0,0]:=by simp [xX,List.replicate]
  have e3:((min ([v]:List Int).length ((List.replicate 7 (0:Int)).length - 0):Nat):Int) = 1:=by simp
  rw [e2,e3]
  have h':zJ sD ([v,0,0,0,0,0,0],1) = _:=h
  rw [h',bs]
  rfl
end Go.Pl

namespace Go.Pl
open Go Go.Ab Go.Wk Go.Pc
theorem IsB.b {o:Option Bool} {P:Prop} (h:IsB o P):IsB (o.bind fun r => some r) P:=by
 rcases h with ⟨h1,h2⟩ | ⟨h1,h2⟩
 ·exact .inl ⟨by rw [h1,bs],h2⟩
 ·exact .inr ⟨by rw [h1,bs],h2⟩
theorem zAX {p:Int} {D:Nat} {r:List Int} (hp:Prime p) (hD:D ≤ 8):IsB (zO8 r p (D:Int)) (Row p D r):=by
 have h7:=hp.pos
 unfold zO8
 by_cases h:r.length = D
 ·rw [zA2 (by omega),zG]
  refine (uE r.length (fun i => 0 ≤ at0 r i ∧ at0 r i ≤ p - 1) rfl (fun i hi _ => ?_) ?_).iff ⟨fun g => ⟨h,by rw [← h];exact g⟩,fun g => by rw [h];exact g.2⟩
  ·refine wV (tT _ _ _) (by omega) ?_
   unfold zLk
   rw [xM hi,zK,yW hi,bs,zH (by omega) (by omega),bs]
  ·unfold zLk
   rw [xQ,zG]
 ·rw [zA3 (by omega),zK]
  exact .inr ⟨rfl,fun g => h g.1⟩
theorem zAY {p:Int} {D:Nat} {r:List Int} (hp:Prime p) (hD:D ≤ 8):IsB (f_W p (D:Int) r) (Row p D r):=by
 have h7:=hp.pos
 unfold f_W
 by_cases h:r.length = D
 ·rw [zA2 (by omega),zG]
  refine (uE r.length (fun i => 0 ≤ at0 r i ∧ at0 r i ≤ p - 1) rfl (fun i hi _ => ?_) ?_).iff ⟨fun g => ⟨h,by rw [← h];exact g⟩,fun g => by rw [h];exact g.2⟩
  ·refine wV (jR _ _ _) (by omega) ?_
   unfold zPS
   rw [xM hi,zK,yW hi,bs,zH (by omega) (by omega),bs]
  ·unfold zPS
   rw [xQ,zG]
 ·rw [zA3 (by omega),zK]
  exact .inr ⟨rfl,fun g => h g.1⟩
theorem zLC {p:Int} {D:Nat} {B:Mx} (hp:Prime p) (hD:D ≤ 8):IsB (zPT p (D:Int) B) (Mat p D B):=by
 unfold zPT
 by_cases h:B.length = D
 ·rw [zA2 (by omega),zG]
  refine (uE B.length (fun i => Row p D (B.getD i [])) rfl (fun i hi _ => ?_) ?_).iff ⟨fun g => ⟨h,by rw [← h];exact fun i hi => by rw [h];exact g i hi⟩,fun g => by rw [h];exact g.2⟩
  ·refine wV (zAY hp hD) (by omega) ?_
   unfold zLi
   rw [xM hi,zK,yO [] hi,bs]
  ·unfold zLi
   rw [xQ,zG]
 ·rw [zA3 (by omega),zK]
  exact .inr ⟨rfl,fun g => h g.1⟩
theorem zFF {p:Int} {D:Nat} {B:Mx} (hp:Prime p) (hD:D ≤ 8) (hB:B.length = D):IsB (f_E (zL.mk p (D:Int) B)) (Mat p D B):=by
 unfold f_E
 simp only
 rcases jE p with ⟨h1,_⟩ | ⟨_,h2⟩
 ·rw [h1,bs,Bool.not_true,zG]
  rcases tT (D:Int) 0 8 with ⟨h3,_⟩ | ⟨_,h4⟩
  ·rw [h3,bs,Bool.not_true,zG,decide_eq_false (by omega),zG]
   refine (uE (body:=zII (zL.mk p (D:Int) B)) D (fun i => Row p D (B.getD i [])) rfl (fun i hi _ => ?_) ?_).iff ⟨fun g => ⟨hB,g⟩,fun g => g.2⟩
   ·refine wV (zAX hp hD) (by omega) ?_
    unfold zII
    simp only
    rw [hB,xM hi,zK,yO [] (by omega),bs]
   ·unfold zII
    simp only
    rw [hB,xQ,zG]
  ·exact absurd (by omega) h4
 ·exact absurd hp h2
theorem zCk {A B:Mx} (hA:A.length ≤ 1000) (h:∀ r ∈ A,r.length ≤ 1000):zOn A B = some (A == B) :=
 zGh (t:=f_P) (body:=zOm A B) rfl (fun _ => rfl) (by omega) fun u hu v _ => zLA (by have:=h u hu;omega)
theorem zBG {A B:Mx} (hA:A.length ≤ 1000) (h:∀ r ∈ A,r.length ≤ 1000):zOI A B = some (A == B):=by
 unfold zOI
 rw [zGh (f:=zRP A B) (t:=f_L) (body:=zOH A B) rfl (fun _ => rfl) (by omega) fun u hu v _ => zCi (by have:=h u hu;omega),bs]
theorem Mat.small {p:Int} {D:Nat} {A:Mx} (h:Mat p D A) (hD:D ≤ 8):A.length ≤ 1000 ∧ ∀ r ∈ A,r.length ≤ 1000:=by
 refine ⟨by have:=h.1;omega,fun r hr => ?_⟩
 obtain ⟨i,hi,rfl⟩:=List.mem_iff_getElem.1 hr
 have:=h.2 i (by rw [← h.1];exact hi)
 rw [List.getD_eq_getElem?_getD,List.getElem?_eq_getElem hi] at this
 have:=this.1
 simp only [Option.getD_some] at this
 omega
def zGT (x:SPr) (m:zC) (D:Nat):Prop :=
 ∀ i,i < x.zA.length → wM m.Prime D m.zE (List.replicate (at0 x.zA i).toNat i) (idM D) = wM m.Prime D m.zE (nw 0 (x.zR.getD i [])) (idM D) ∧
  ∀ j,i + 1 ≤ j → j < x.zA.length → PM m.Prime D (m.zE.getD j []) (m.zE.getD i []) = PM m.Prime D (m.zE.getD i []) (wM m.Prime D m.zE (nw 0 ((x.zB.getD i []).getD (j - (i + 1)) [])) (idM D))
theorem qW {x:SPr} {v:List Int} {i:Nat} (ho:Os x.zA) (h:Exp x.zA v i):v.length = x.zA.length ∧ ∀ j,j < x.zA.length → 0 ≤ at0 v j ∧ at0 v j ≤ 6:=by
 have h1:=h.1.1
 refine ⟨h1,fun j hj => ?_⟩
 have:=h.1.2 j (by omega)
 have:=(ho.2 j hj).pos
 omega
section
variable {x:SPr} {m:zC} {D:Nat} (h:Pres x) (hm:MOk x.zA.length m D)
 include h hm
theorem zLD {i:Nat} (hi:i < x.zA.length):(x.zR.getD i []).length = x.zA.length ∧ ∀ j,j < x.zA.length → 0 ≤ at0 (x.zR.getD i []) j ∧ at0 (x.zR.getD i []) j ≤ 6:=have _:=hm;qW h.os (h.tl i hi).1
theorem zJ1 {i j:Nat} (hi:i < x.zA.length) (hj:j < (x.zB.getD i []).length):((x.zB.getD i []).getD j []).length = x.zA.length ∧ ∀ q,q < x.zA.length → 0 ≤ at0 ((x.zB.getD i []).getD j []) q ∧ at0 ((x.zB.getD i []).getD j []) q ≤ 6:=have _:=hm;qW h.os ((h.tl i hi).2.2 j hj)
theorem zLE:IsB ((zJ (zOr x m) 0).bind fun r => match r with | .inl _ => some true | .inr r => some r) (zGT x m D):=by
 have h6:=h.os.1
 have h7:=hm.p.pos
 have h3:=hm.d3
 have hlen:=hm.len
 refine uE x.zA.length (fun i => wM m.Prime D m.zE (List.replicate (at0 x.zA i).toNat i) (idM D) = wM m.Prime D m.zE (nw 0 (x.zR.getD i [])) (idM D) ∧
  ∀ j,i + 1 ≤ j → j < x.zA.length → PM m.Prime D (m.zE.getD j []) (m.zE.getD i []) = PM m.Prime D (m.zE.getD i []) (wM m.Prime D m.zE (nw 0 ((x.zB.getD i []).getD (j - (i + 1)) [])) (idM D))) rfl (fun i hi _ => ?_) ?_
 ·have hpr:=(h.os.2 i hi).pos
  have hpl:=h.pl
  have hcl:=h.cl
  obtain ⟨p1,p2⟩:=zLD h hm hi
  have t2:=(h.tl i hi).2.1
  have hI:=jS (p:=m.Prime) (D:=D) h7.1
  unfold zOr
  rw [xM hi,zK,hm.d,zFo hm.p (by omega),bs]
  rw [vS (S:=Mat m.Prime D) (body:=zOp x m (i:Int)) (fun B => B) (fun B => PM m.Prime D B (m.zE.getD i [])) (at0 x.zA i) (by omega) (fun B hB => zAW (by omega) hB.1) (fun B q hB hq => by
   unfold zOp
   simp only
   rw [yW hi,bs,decide_eq_true hq,zK,yO [] (by omega),bs,hm.d,sV hm.p (by omega) hB (hm.mat i hi),bs,zH (by omega) (by omega),bs,cs]) (fun B hB => by
   unfold zOp
   simp only
   rw [yW hi,bs,decide_eq_false (by omega),zG]) hI,bs,yO [] (by omega),bs,zIp hm (by omega) p1 p2,bs,← zFq]
  have hs:=(zDw (p:=m.Prime) (D:=D) (A:=m.zE) (by omega) (List.replicate (at0 x.zA i).toNat i) hI).small (by omega)
  rw [zCk hs.1 hs.2,bs]
  by_cases hq:wM m.Prime D m.zE (List.replicate (at0 x.zA i).toNat i) (idM D) = wM m.Prime D m.zE (nw 0 (x.zR.getD i [])) (idM D)
  ·rw [show (wM m.Prime D m.zE (List.replicate (at0 x.zA i).toNat i) (idM D) == wM m.Prime D m.zE (nw 0 (x.zR.getD i [])) (idM D)) = true from by rw [beq_iff_eq];exact hq,Bool.not_true,zG,zH (by omega) (by omega),bs,cs]
   rcases chk (body:=zOq x m (i:Int)) x.zA.length (i + 1) (by omega) (fun j => PM m.Prime D (m.zE.getD j []) (m.zE.getD i []) = PM m.Prime D (m.zE.getD i []) (wM m.Prime D m.zE (nw 0 ((x.zB.getD i []).getD (j - (i + 1)) [])) (idM D))) (fun _ => false) (fun j h1 h2 _ => by
     obtain ⟨c1,c2⟩:=zJ1 h hm (j:=j - (i + 1)) hi (by omega)
     have hjm:=hm.mat j h2
     have him:=hm.mat i hi
     have hw:=zDw (p:=m.Prime) (D:=D) (A:=m.zE) (by omega) (nw 0 ((x.zB.getD i []).getD (j - (i + 1)) [])) hI
     have hs:=(zAW (p:=m.Prime) (B:=m.zE.getD i []) (by omega) hjm.1).small (by omega)
     refine wV (o:=some (PM m.Prime D (m.zE.getD j []) (m.zE.getD i []) == PM m.Prime D (m.zE.getD i []) (wM m.Prime D m.zE (nw 0 ((x.zB.getD i []).getD (j - (i + 1)) [])) (idM D)))) (IsB.of_bool (by rw [beq_iff_eq])) (by omega) ?_
     unfold zOq
     rw [xM h2,zK,yO (i:=j) [] (by omega),bs,yO (i:=i) [] (by omega),bs,hm.d,sV hm.p (by omega) hjm him,bs,bs,yO (i:=i) [] (by omega),bs,zH (by omega) (by omega),bs,zH (by omega) (by omega),bs,show (j:Int) - (i:Int) - 1 = ((j - (i + 1):Nat):Int) from by omega,yO [] (by omega),bs,zIp hm (by omega) c1 c2,bs,sV hm.p (by omega) him hw,bs,zCk hs.1 hs.2]) (by
     unfold zOq
     rw [xQ,zG]) with ⟨g1,g2⟩ | ⟨j,j1,j2,g1,g2⟩
   ·left
    rw [g1,bs,bs]
    exact ⟨rfl,hq,g2⟩
   ·right
    rw [g1,bs]
    exact ⟨rfl,fun g => g2 (g.2 j j1 j2)⟩
  ·rw [show (wM m.Prime D m.zE (List.replicate (at0 x.zA i).toNat i) (idM D) == wM m.Prime D m.zE (nw 0 (x.zR.getD i [])) (idM D)) = false from by rw [beq_eq_false_iff_ne];exact hq,Bool.not_false,zK]
   exact .inr ⟨rfl,fun g => hq g.1⟩
 ·unfold zOr
  rw [xQ,zG]
end
def zQB (x:SPr) (m:zC):Prop:=zCj x ∧ ∃ D,MOk x.zA.length m D ∧ zGT x m D
theorem zBH {x:SPr} {m:zC} (hl:x.zA.length ≤ 1048576):IsB (zLU x m) (zQB x m):=by
 unfold zLU
 rcases zJw hl with ⟨h1,h2⟩ | ⟨h1,h2⟩
 ·have h6:=h2.1.os.1
  rw [h1,bs,zK]
  unfold f_l
  rcases zCg m.Prime with ⟨p1,p2⟩ | ⟨p1,p2⟩
  ·rw [p1,bs,Bool.not_true,zG]
   rcases jR m.Dim 1 3 with ⟨d1,d2⟩ | ⟨d1,d2⟩
   ·rw [d1,bs,Bool.not_true,zG]
    obtain ⟨D,hD⟩:∃ D:Nat,m.Dim = (D:Int):=⟨m.Dim.toNat,by omega⟩
    by_cases hlen:m.zE.length = x.zA.length
    ·rw [zA2 (by omega),zG]
     rcases chk (body:=zOo x m) x.zA.length 0 (Nat.zero_le _) (fun i => Mat m.Prime D (m.zE.getD i [])) (fun _ => false) (fun i _ hi _ => by
       refine wV (zLC p2 (D:=D) (by omega)) (by omega) ?_
       unfold zOo
       rw [xM hi,zK,yO [] (by omega),bs,hD]) (by
       unfold zOo
       rw [xQ,zG]) with ⟨g1,g2⟩ | ⟨i,_,hi,g1,g2⟩
     ·rw [show ((0:Nat):Int) = 0 from rfl] at g1
      have hm:MOk x.zA.length m D:=⟨p2,hD,by omega,by omega,hlen,fun i hi => g2 i (Nat.zero_le _) hi⟩
      rw [g1,bs]
      refine (zLE h2.1 hm).b.iff ⟨fun k2 => ⟨h2,D,hm,k2⟩,fun ⟨_,D',hm',hr⟩ => ?_⟩
      have:D' = D:=by have:=hm'.d;omega
      rw [← this];exact hr
     ·rw [show ((0:Nat):Int) = 0 from rfl] at g1
      rw [g1,bs]
      refine .inr ⟨rfl,fun ⟨_,D',hm',_⟩ => g2 ?_⟩
      have:D' = D:=by have:=hm'.d;omega
      rw [← this];exact hm'.mat i hi
    ·rw [zA3 (by omega),zK]
     exact .inr ⟨rfl,fun ⟨_,D',hm',_⟩ => hlen hm'.len⟩
   ·rw [d1,bs,Bool.not_false,zK]
    exact .inr ⟨rfl,fun ⟨_,D',hm',_⟩ => d2 (by have:=hm'.d;have:=hm'.d1;have:=hm'.d3;omega)⟩
  ·rw [p1,bs,Bool.not_false,zK]
   exact .inr ⟨rfl,fun ⟨_,D',hm',_⟩ => p2 hm'.p⟩
 ·rw [h1,bs,zG]
  exact .inr ⟨rfl,fun g => h2 g.1⟩
end Go.Pl

namespace Go.Pl
open Go Go.Ab Go.Wk Go.Pc
abbrev Rl:=List Nat × List Nat
def r1 (x:SPr) (i:Nat):Rl:=(List.replicate (at0 x.zA i).toNat i,nw 0 (x.zR.getD i []))
def r2 (x:SPr) (i j:Nat):Rl:=([i + j + 1,i],i :: nw 0 ((x.zB.getD i []).getD j []))
def R2 (x:SPr) (i:Nat):List Rl:=(List.range (x.zB.getD i []).length).map (r2 x i)
def sA (x:SPr):List Rl:=(List.range x.zA.length).map (r1 x) ++ (List.range x.zA.length).flatMap (R2 x)
abbrev enR (q:Rl):List Int × List Int:=(enW q.1,enW q.2)
section
variable {x:SPr} (h:Pres x)
 include h
theorem zR2 {i:Nat} (hi:i < x.zA.length):(R2 x i).length ≤ 9:=by
 have:=(h.tl i hi).2.1
 have:=h.os.1
 simp only [R2,List.length_map,List.length_range];omega
theorem zJ2:∀ i,i ≤ x.zA.length → ((List.range i).flatMap (R2 x)).length ≤ 9 * i
 | 0,_ => by simp
 | i + 1,hi => by
  have:=zJ2 i (by omega)
  have:=zR2 h (i:=i) (by omega)
  rw [List.range_succ,List.flatMap_append,List.length_append]
  simp only [List.flatMap_cons,List.flatMap_nil,List.append_nil]
  omega
theorem zPB {k i:Nat}:enW (List.replicate k i) = List.replicate k ((i:Int) + 1):=by have _:=h;simp [enW]
theorem zCl:f_p x = some ((sA x).map enR):=by
 have h6:=h.os.1
 have hpl:=h.pl
 have hcl:=h.cl
 unfold f_p
 have l1:=zW (body:=zOC x) (r:=((List.range x.zA.length).map (r1 x)).map enR) (fun i => (((List.range i).map (r1 x)).map enR,(i:Int))) x.zA.length (fun i hi => by
  obtain ⟨p1,p2⟩:=qW h.os (h.tl i hi).1
  unfold zOC
  simp only
  rw [xM hi,zK,yW hi,bs,zH (by omega) (by omega),bs,zIq (h.os.2 i hi),bs,yO [] (by omega),bs,zA4 (by omega) (by rw [p1];exact p2),bs,wA (by simp only [List.length_map,List.length_range,List.length_cons,List.length_nil];omega),bs,bs,cs,List.range_succ]
  simp only [List.map_append,List.map_cons,List.map_nil,r1,enR,zPB h,cs]) (by
  unfold zOC
  simp only
  rw [xQ,zG])
 rw [show ((0:Nat):Int) = 0 from rfl] at l1
 simp only [List.range_zero,List.map_nil] at l1
 rw [l1,bs]
 have l3:=zW (body:=zOE x) (r:=(sA x).map enR) (fun i => (((List.range x.zA.length).map (r1 x) ++ (List.range i).flatMap (R2 x)).map enR,(i:Int))) x.zA.length (fun i hi => by
  have t2:=(h.tl i hi).2.1
  have hfm:=zJ2 h i (by omega)
  unfold zOE
  simp only
  rw [xM hi,zK,yO [] (by omega),bs]
  have l2:=zW (body:=zOD (((List.range x.zA.length).map (r1 x) ++ (List.range i).flatMap (R2 x)).map enR,(i:Int)) (x.zB.getD i [])) (r:=((List.range x.zA.length).map (r1 x) ++ (List.range (i + 1)).flatMap (R2 x)).map enR)
   (fun j => (((List.range x.zA.length).map (r1 x) ++ (List.range i).flatMap (R2 x) ++ (List.range j).map (r2 x i)).map enR,(j:Int))) (x.zB.getD i []).length (fun j hj => by
    obtain ⟨p1,p2⟩:=qW h.os ((h.tl i hi).2.2 j hj)
    have hnl:=zFp 0 ((x.zB.getD i []).getD j []) (by rw [p1];exact fun i hi => (p2 i hi).2)
    unfold zOD
    simp only
    rw [xM hj,zK,yO [] hj,bs,zH (by omega) (by omega),bs,zH (by omega) (by omega),bs,zH (by omega) (by omega),bs,zA4 (by omega) (by rw [p1];exact p2),bs,wA (by simp only [List.length_map,List.length_cons,List.length_nil];omega),bs,wA (by simp only [List.length_map,List.length_append,List.length_range,List.length_cons,List.length_nil];omega),bs,zH (by omega) (by omega),bs,cs,List.range_succ]
    have e1:(i:Int) + (j:Int) + 2 = ((i + j + 1:Nat):Int) + 1:=by omega
    simp only [List.map_append,List.map_cons,List.map_nil,r2,enR,enW,List.append_assoc,List.singleton_append,e1]
    rfl) (by
    unfold zOD
    simp only
    rw [xQ,zG,List.range_succ,List.flatMap_append]
    simp only [List.flatMap_cons,List.flatMap_nil,List.append_nil,List.append_assoc,R2])
  rw [show ((0:Nat):Int) = 0 from rfl] at l2
  simp only [List.range_zero,List.map_nil,List.append_nil] at l2
  rw [l2,bs,zH (by omega) (by omega),bs,cs]) (by
  unfold zOE
  simp only
  rw [xQ,zG]
  rfl)
 rw [show ((0:Nat):Int) = 0 from rfl] at l3
 simp only [List.range_zero,List.flatMap_nil,List.append_nil] at l3
 rw [l3,bs]
theorem zLF {q:Rl} (hq:q ∈ sA x):((∀ w ∈ q.1,w < x.zA.length) ∧ q.1.length ≤ 1000) ∧ (∀ w ∈ q.2,w < x.zA.length) ∧ q.2.length ≤ 1000:=by
 have h6:=h.os.1
 simp only [sA,List.mem_append,List.mem_map,List.mem_range,List.mem_flatMap,R2] at hq
 rcases hq with ⟨i,hi,rfl⟩ | ⟨i,hi,j,hj,rfl⟩
 ·obtain ⟨p1,p2⟩:=qW h.os (h.tl i hi).1
  have hnl:=zFp 0 (x.zR.getD i []) (by rw [p1];exact fun i hi => (p2 i hi).2)
  have hpr:=(h.os.2 i hi).pos
  refine ⟨⟨fun w hw => ?_,?_⟩,fun w hw => zNx 0 _ (by omega) w hw,by simp only [r1];omega⟩
  ·have:=List.eq_of_mem_replicate hw;omega
  ·simp only [r1,List.length_replicate];omega
 ·obtain ⟨p1,p2⟩:=qW h.os ((h.tl i hi).2.2 j hj)
  have t2:=(h.tl i hi).2.1
  have hnl:=zFp 0 ((x.zB.getD i []).getD j []) (by rw [p1];exact fun i hi => (p2 i hi).2)
  refine ⟨⟨fun w hw => ?_,by simp [r2]⟩,fun w hw => ?_,by simp only [r2,List.length_cons];omega⟩
  ·simp only [r2,List.mem_cons,List.not_mem_nil,or_false] at hw;omega
  ·simp only [r2,List.mem_cons] at hw
   rcases hw with rfl | hw
   ·exact hi
   ·exact zNx 0 _ (by omega) w hw
variable {m:zC} {D:Nat} (hm:MOk x.zA.length m D)
 include hm
theorem zIr:(∀ q ∈ sA x,wM m.Prime D m.zE q.1 (idM D) = wM m.Prime D m.zE q.2 (idM D)) ↔ zGT x m D:=by
 have h7:=hm.p.pos
 have hI:=jS (p:=m.Prime) (D:=D) h7.1
 have key:∀ i j,i < x.zA.length → j < x.zA.length → ∀ ws,(wM m.Prime D m.zE [j,i] (idM D) = wM m.Prime D m.zE (i :: ws) (idM D) ↔ PM m.Prime D (m.zE.getD j []) (m.zE.getD i []) = PM m.Prime D (m.zE.getD i []) (wM m.Prime D m.zE ws (idM D))):=fun i j hi hj ws => by
  have hi':=hm.mat i hi
  have hj':=hm.mat j hj
  have e1:wM m.Prime D m.zE [j,i] (idM D) = PM m.Prime D (m.zE.getD j []) (m.zE.getD i []):=by
   show PM _ _ (PM _ _ (idM D) _) _ = _
   rw [zGR hj']
  have e2:wM m.Prime D m.zE (i :: ws) (idM D) = PM m.Prime D (m.zE.getD i []) (wM m.Prime D m.zE ws (idM D)):=by
   show wM _ _ _ ws (PM _ _ (idM D) _) = _
   rw [zGR hi',← zNy (by omega) hi'.1 ws hI,zIk hi']
  rw [e1,e2]
 constructor
 ·intro g i hi
  have t2:=(h.tl i hi).2.1
  refine ⟨g (r1 x i) (by simp only [sA,List.mem_append,List.mem_map,List.mem_range];exact .inl ⟨i,hi,rfl⟩),fun j h1 h2 => ?_⟩
  have:=g (r2 x i (j - (i + 1))) (by
   simp only [sA,List.mem_append,List.mem_flatMap,List.mem_range,R2,List.mem_map]
   exact .inr ⟨i,hi,j - (i + 1),by omega,rfl⟩)
  simp only [r2] at this
  rw [show i + (j - (i + 1)) + 1 = j from by omega] at this
  exact (key i j hi h2 _).1 this
 ·intro g q hq
  simp only [sA,List.mem_append,List.mem_map,List.mem_range,List.mem_flatMap,R2] at hq
  rcases hq with ⟨i,hi,rfl⟩ | ⟨i,hi,j,hj,rfl⟩
  ·exact (g i hi).1
  ·have t2:=(h.tl i hi).2.1
   have:=(g i hi).2 (i + j + 1) (by omega) (by omega)
   rw [show i + j + 1 - (i + 1) = j from by omega] at this
   exact (key i (i + j + 1) hi (by omega) _).2 this
theorem zLG:IsB ((zJ (zOK m ((sA x).map enR)) 0).bind fun r => match r with | .inl _ => some true | .inr r => some r) (zGT x m D):=by
 have h6:=h.os.1
 have h7:=hm.p.pos
 have h3:=hm.d3
 have hI:=jS (p:=m.Prime) (D:=D) h7.1
 have hfm:=zJ2 h x.zA.length (Nat.le_refl _)
 have hrl:(sA x).length ≤ 1000:=by simp only [sA,List.length_append,List.length_map,List.length_range];omega
 refine (uE (sA x).length (fun k => wM m.Prime D m.zE ((sA x).getD k ([],[])).1 (idM D) = wM m.Prime D m.zE ((sA x).getD k ([],[])).2 (idM D)) rfl (fun k hk _ => ?_) ?_).iff ⟨fun g => (zIr h hm).1 fun q hq => ?_,fun g k hk => (zIr h hm).2 g _ ?_⟩
 ·have hmem:(sA x).getD k ([],[]) ∈ sA x:=by
   rw [List.getD_eq_getElem?_getD,List.getElem?_eq_getElem hk];exact List.getElem_mem hk
  obtain ⟨⟨g1,g2⟩,g3,g4⟩:=zLF h hmem
  have hs:=(zDw (p:=m.Prime) (D:=D) (A:=m.zE) (by omega) ((sA x).getD k ([],[])).1 hI).small (by omega)
  refine wV (o:=some (wM m.Prime D m.zE ((sA x).getD k ([],[])).1 (idM D) == wM m.Prime D m.zE ((sA x).getD k ([],[])).2 (idM D))) (IsB.of_bool (by rw [beq_iff_eq])) (by omega) ?_
  unfold zOK
  rw [List.length_map,xM hk,zK,uD,List.getElem?_map,List.getElem?_eq_getElem hk]
  rw [List.getD_eq_getElem?_getD,List.getElem?_eq_getElem hk] at g1 g2 g3 g4 hs ⊢
  simp only [Option.map_some,Option.getD_some] at g1 g2 g3 g4 hs ⊢
  rw [bs,zBF hm h6 g1 (Nat.le_trans g2 (by omega)),bs,zBF hm h6 g3 (Nat.le_trans g4 (by omega)),bs]
  simp only
  rw [zBG hs.1 hs.2]
 ·unfold zOK
  rw [List.length_map,xQ,zG]
 ·obtain ⟨k,hk,rfl⟩:=List.mem_iff_getElem.1 hq
  have:=g k hk
  rw [List.getD_eq_getElem?_getD,List.getElem?_eq_getElem hk] at this
  exact this
 ·rw [List.getD_eq_getElem?_getD,List.getElem?_eq_getElem hk];exact List.getElem_mem hk
end
theorem zBI {x:SPr} {m:zC} (hl:x.zA.length ≤ 1048576) (_hal:m.zE.length ≤ 1048576):IsB (f_q x m) (zQB x m):=by
 unfold f_q
 rcases zCK hl with ⟨h1,h2⟩ | ⟨h1,h2⟩
 ·have h6:=h2.1.os.1
  rw [h1,bs,Bool.not_true,zG]
  rcases jE m.Prime with ⟨p1,p2⟩ | ⟨p1,p2⟩
  ·rw [p1,bs,Bool.not_true,zG]
   rcases tT m.Dim 1 3 with ⟨d1,d2⟩ | ⟨d1,d2⟩
   ·rw [d1,bs,Bool.not_true,zG]
    obtain ⟨D,hD⟩:∃ D:Nat,m.Dim = (D:Int):=⟨m.Dim.toNat,by omega⟩
    by_cases hlen:m.zE.length = x.zA.length
    ·rw [zA2 (by omega),zG]
     rcases chk (body:=zOJ m) m.zE.length 0 (Nat.zero_le _) (fun i => Mat m.Prime D (m.zE.getD i [])) (fun _ => false) (fun i _ hi _ => by
       unfold zOJ
       rw [xM hi,zK,yO [] hi,bs,hD]
       by_cases hr:(m.zE.getD i []).length = D
       ·rw [zA2 (by omega),zG]
        refine wV (zFF p2 (D:=D) (by omega) hr) (by omega) ?_
        unfold zIH
        rw [yO [] hi,bs,bs,hD]
       ·rw [zA3 (by omega),zK]
        exact .inr ⟨rfl,fun g => hr g.1⟩) (by
       unfold zOJ
       rw [xQ,zG]) with ⟨g1,g2⟩ | ⟨i,_,hi,g1,g2⟩
     ·rw [show ((0:Nat):Int) = 0 from rfl] at g1
      have hm:MOk x.zA.length m D:=⟨p2,hD,by omega,by omega,hlen,fun i hi => g2 i (Nat.zero_le _) (by omega)⟩
      rw [g1,bs,zCl h2.1]
      simp only
      rw [bs]
      refine (zLG h2.1 hm).iff ⟨fun k2 => ⟨h2,D,hm,k2⟩,fun ⟨_,D',hm',hr⟩ => ?_⟩
      have:D' = D:=by have:=hm'.d;omega
      rw [← this];exact hr
     ·rw [show ((0:Nat):Int) = 0 from rfl] at g1
      rw [g1,bs]
      refine .inr ⟨rfl,fun ⟨_,D',hm',_⟩ => g2 ?_⟩
      have:D' = D:=by have:=hm'.d;omega
      rw [← this];exact hm'.mat i (by omega)
    ·rw [zA3 (by omega),zK]
     exact .inr ⟨rfl,fun ⟨_,D',hm',_⟩ => hlen hm'.len⟩
   ·rw [d1,bs,Bool.not_false,zK]
    exact .inr ⟨rfl,fun ⟨_,D',hm',_⟩ => d2 (by have:=hm'.d;have:=hm'.d1;have:=hm'.d3;omega)⟩
  ·rw [p1,bs,Bool.not_false,zK]
   exact .inr ⟨rfl,fun ⟨_,D',hm',_⟩ => p2 hm'.p⟩
 ·rw [h1,bs,Bool.not_false,zK]
  exact .inr ⟨rfl,fun g => h2 g.1⟩
end Go.Pl

namespace Go.Pl
open Go Go.Ab Go.Wk Go.Pc
theorem zGq {xs:List (List Int)} {i:Nat} (h:i < xs.length):(xs.take (i + 1)).flatten = (xs.take i).flatten ++ xs.getD i []:=by
 rw [List.take_succ_eq_append_getElem h,List.flatten_append,List.getD_eq_getElem?_getD,List.getElem?_eq_getElem h];simp
theorem zKW {xs:List (List Int)} (i:Nat):(xs.take i).flatten.length ≤ xs.flatten.length:=by
 have:xs.flatten = (xs.take i).flatten ++ (xs.drop i).flatten:=by rw [← List.flatten_append,List.take_append_drop]
 rw [this,List.length_append];omega
theorem zLH {k:Nat} (hk:k ≤ 1000000):zOL (k:Int) = some []:=by
 unfold zOL
 rw [decide_eq_false (by omega),zG,zH (by decide) (by decide),bs,zH (by omega) (by omega),bs]
 by_cases h:(k:Int) - (0 - 0) > 0
 ·rw [decide_eq_true h,zK]
  have e:vF ([]:List Int) ((k:Int) - (0 - 0)) 0 = some (List.replicate k 0):=by
   unfold vF
   rw [if_pos (by simp;omega)]
   simp
  rw [e,bs]
  rfl
 ·rw [decide_eq_false h,zG]
theorem zDJ {xs:List (List Int)} (hx:xs.length ≤ 1000) (hf:xs.flatten.length ≤ 1000000):f_r xs = some xs.flatten:=by
 unfold f_r
 have l1:=zW (body:=zOM xs) (r:=((xs.flatten.length:Nat):Int)) (fun i => ((((xs.take i).flatten.length:Nat):Int),(i:Int))) xs.length (fun i hi => by
  have h1:=zGq hi
  have h2:=zKW (xs:=xs) (i + 1)
  have h3:=congrArg List.length h1
  rw [List.length_append] at h3
  unfold zOM
  simp only
  rw [xM hi,zK,yO [] hi,bs,zH (by omega) (by omega),bs,decide_eq_false (by omega),zG,zH (by omega) (by omega),bs,cs,h3]
  congr 3) (by
  unfold zOM
  simp only
  rw [xQ,zG,List.take_length])
 rw [show ((0:Nat):Int) = 0 from rfl] at l1
 simp only [List.take_zero,List.flatten_nil,List.length_nil] at l1
 rw [show ((0:Nat):Int) = 0 from rfl] at l1
 rw [l1,bs,zLH hf,bs]
 have l2:=zW (body:=zON xs) (r:=xs.flatten) (fun i => ((xs.take i).flatten,(i:Int))) xs.length (fun i hi => by
  have h1:=zGq hi
  have h2:=zKW (xs:=xs) (i + 1)
  have h3:=congrArg List.length h1
  rw [List.length_append] at h3
  unfold zON
  simp only
  rw [xM hi,zK,yO [] hi,bs,wA (by omega),bs,zH (by omega) (by omega),bs,cs,h1]) (by
  unfold zON
  simp only
  rw [xQ,zG,List.take_length])
 rw [show ((0:Nat):Int) = 0 from rfl] at l2
 simp only [List.take_zero,List.flatten_nil] at l2
 rw [l2,bs]
theorem zIs {r:List Int} {a b:Nat} (hr:r.length ≤ 1000) (ha:a ≤ 1000) (hb:b ≤ 1000):zOO r (a:Int) (b:Int) = some (List.replicate a 0 ++ (r ++ List.replicate b 0)):=by
 unfold zOO
 rw [xF (by omega),bs,xF (by omega),bs,zDJ (by simp) (by simp;omega),bs]
 simp
end Go.Pl

namespace Go.Pl
open Go Go.Ab Go.Wk Go.Pc
section
variable {p:Int}
def zCm (p:Int) (D:Nat) (r:List Int) (k:Int) (s:List Int):List Int:=mkv D fun j => (at0 r j + k * at0 s j) % p
theorem zN0 {D:Nat} {r s:List Int} {k:Int}:(zCm p D r k s).length = D:=yN _ _
def zDx (p:Int) (D i:Nat) (r:List Int) (k:Int) (s:List Int):List Int:=mkv D fun j => if j < i then (at0 r j + k * at0 s j) % p else at0 r j
theorem zDy {D:Nat} {r s:List Int} {k:Int} (hr:r.length = D):zDx p D 0 r k s = r:=by
 conv => rhs;rw [tR hr]
 exact yA fun j _ => by rw [if_neg (by omega)]
theorem zDz {D:Nat} {r s:List Int} {k:Int}:zDx p D D r k s = zCm p D r k s:=yA fun j hj => by rw [if_pos hj]
theorem zFr {D i:Nat} {r s:List Int} {k a:Int} (ha:a = (at0 r i + k * at0 s i) % p):(zDx p D i r k s).set i a = zDx p D (i + 1) r k s:=by
 simp only [zDx]
 rw [zCL]
 refine yA fun j _ => ?_
 by_cases h:j = i
 ·subst h;rw [if_pos rfl,if_pos (by omega),ha]
 ·rw [if_neg h]
  by_cases h2:j < i
  ·rw [if_pos h2,if_pos (by omega)]
  ·rw [if_neg h2,if_neg (by omega)]
theorem zGU {D i:Nat} {r s:List Int} {k:Int} (hi:i < D):at0 (zDx p D i r k s) i = at0 r i:=by
 rw [zDx,xW hi,if_neg (by omega)]
theorem kZ {D i:Nat} {r s:List Int} {k:Int}:(zDx p D i r k s).length = D:=yN _ _
end
section
variable {p:Int} (hp:Prime p)
 include hp
theorem zIt {a:Int} (_h0:-1000 ≤ a) (_h1:a ≤ 1000):zLZ a p = some (a % p):=by
 have h7:=hp.pos
 have e1:=Int.tmod_lt_of_pos a (show 0 < p by omega)
 have e2:=Int.lt_tmod_of_pos a (show 0 < p by omega)
 have e3:(Int.tmod a p + p) % p = a % p:=by
  rw [Int.add_emod_right]
  have:=Int.tmod_add_mul_tdiv a p
  conv => rhs;rw [← this]
  rw [Int.add_mul_emod_self_left]
 unfold zLZ vQ
 rw [if_neg (by omega),bs,zH (by omega) (by omega),bs,if_neg (by omega),bs,Int.tmod_eq_emod_of_nonneg (by omega),e3]
theorem zN1 {a:Int} (_h0:-1000 ≤ a) (_h1:a ≤ 1000):zQc a p = some (a % p):=by
 have h7:=hp.pos
 have e1:=Int.tmod_lt_of_pos a (show 0 < p by omega)
 have e2:=Int.lt_tmod_of_pos a (show 0 < p by omega)
 have e3:(Int.tmod a p + p) % p = a % p:=by
  rw [Int.add_emod_right]
  have:=Int.tmod_add_mul_tdiv a p
  conv => rhs;rw [← this]
  rw [Int.add_mul_emod_self_left]
 unfold zQc vQ
 rw [if_neg (by omega),bs]
 by_cases h:Int.tmod a p < 0
 ·rw [decide_eq_true h,zK,zH (by omega) (by omega),bs,← e3,Int.emod_eq_of_lt (by omega) (by omega)]
 ·rw [decide_eq_false h,zG,← e3,Int.add_emod_right,Int.emod_eq_of_lt (by omega) (by omega)]
theorem zN2 {D:Nat} {r s:List Int} {k:Int}:Row p D (zCm p D r k s):=by
 have h7:=hp.pos
 refine ⟨yN _ _,fun i hi => ?_⟩
 have e:at0 (zCm p D r k s) i = (at0 r i + k * at0 s i) % p:=xW hi
 have e1:=Int.emod_nonneg (at0 r i + k * at0 s i) (show p ≠ 0 by omega)
 have e2:=Int.emod_lt_of_pos (at0 r i + k * at0 s i) (show 0 < p by omega)
 rw [e];omega
theorem zFs {k b:Int} (hk:-7 ≤ k ∧ k ≤ 7) (hb:0 ≤ b ∧ b ≤ p - 1):-49 ≤ k * b ∧ k * b ≤ 49:=by
 have h7:=hp.pos
 rcases Int.le_total 0 k with h | h
 ·have h1:=Int.mul_nonneg h hb.1
  have h2:=Int.mul_le_mul hk.2 (show b ≤ 7 by omega) hb.1 (by omega)
  omega
 ·have h1:=Int.mul_nonneg (show 0 ≤ -k by omega) hb.1
  have h2:=Int.mul_le_mul (show -k ≤ 7 by omega) (show b ≤ 7 by omega) hb.1 (by omega)
  rw [Int.neg_mul] at h1 h2
  omega
theorem zLI {D:Nat} {r s:List Int} {k:Int} (hr:Row p D r) (hs:Row p D s) (hk:-7 ≤ k ∧ k ≤ 7) (hD:D ≤ 1000000):f_I r s k p = some (zCm p D r k s):=by
 have h7:=hp.pos
 have:=zW (body:=zIJ r s k p) (r:=zCm p D r k s) (fun i => (zDx p D i r k s,(i:Int))) D (fun i hi => by
  have a1:=hr.2 i hi
  have a2:=hs.2 i hi
  have a3:=zFs hp hk a2
  unfold zIJ
  simp only
  rw [hr.1,xM hi,zK,yW (by rw [kZ];exact hi),bs,yW (by rw [hs.1];exact hi),bs,zH (by omega) (by omega),bs,zGU hi,zH (by omega) (by omega),bs,zIt hp (by omega) (by omega),bs,bs,zH (by omega) (by omega),bs,cs,Int.toNat_natCast,zFr rfl]) (by
  unfold zIJ
  simp only
  rw [hr.1,xQ,zG,zDz])
 rw [show ((0:Nat):Int) = 0 from rfl,zDy hr.1] at this
 unfold f_I
 rw [this,bs]
theorem zDK {D:Nat} {r s:List Int} {k:Int} (hr:Row p D r) (hs:Row p D s) (hk:-7 ≤ k ∧ k ≤ 7) (hD:D ≤ 1000000):f_K p r k s = some (zCm p D r k s):=by
 have h7:=hp.pos
 have:=zW (body:=zOY p k s) (r:=zCm p D r k s) (fun i => (zDx p D i r k s,(i:Int))) D (fun i hi => by
  have a1:=hr.2 i hi
  have a2:=hs.2 i hi
  have a3:=zFs hp hk a2
  unfold zOY
  simp only
  rw [kZ,xM hi,zK,hs.1,xM hi,zK,yW (by rw [kZ];exact hi),bs,yW (by rw [hs.1];exact hi),bs,zH (by omega) (by omega),bs,zGU hi,zH (by omega) (by omega),bs,zN1 hp (by omega) (by omega),bs,bs,zH (by omega) (by omega),bs,cs,Int.toNat_natCast,zFr rfl]) (by
  unfold zOY
  simp only
  rw [kZ,xQ,zG,zDz])
 rw [show ((0:Nat):Int) = 0 from rfl,zDy hr.1] at this
 unfold f_K
 rw [kV (by rw [hr.1];omega),bs,this,bs]
end
theorem zJ3 {p:Int} {D:Nat} {r s:List Int}:zCm p D r (p - 1) s = zCm p D r (-1) s:=yA fun j _ => by
 rw [show at0 r j + (p - 1) * at0 s j = at0 r j + -1 * at0 s j + p * at0 s j from by rw [Int.sub_mul];omega,Int.add_mul_emod_self_left]
theorem zLJ {p:Int} {D:Nat} {r s:List Int} (hr:Row p D r) (hs:Row p D s):(∀ j,j < D → at0 (zCm p D r (-1) s) j = 0) ↔ r = s:=by
 constructor
 ·intro h
  rw [tR hr.1,tR hs.1]
  refine yA fun j hj => ?_
  have h1:=h j hj
  rw [zCm,xW hj] at h1
  have a1:=hr.2 j hj
  have a2:=hs.2 j hj
  obtain ⟨c,hc⟩:=Int.dvd_of_emod_eq_zero h1
  have:c = 0:=by
   rcases Int.lt_trichotomy c 0 with h | h | h
   ·have:=Int.mul_le_mul_of_nonneg_left (show c ≤ -1 by omega) (show 0 ≤ p by omega);omega
   ·exact h
   ·have:=Int.mul_le_mul_of_nonneg_left (show 1 ≤ c by omega) (show 0 ≤ p by omega);omega
  rw [this] at hc;omega
 ·rintro rfl j hj
  rw [zCm,xW hj,show at0 r j + -1 * at0 r j = 0 from by omega];simp
end Go.Pl

namespace Go.Pl
open Go Go.Ab Go.Wk Go.Pc
def VOk (n:Nat) (p:Int) (D:Nat) (vals:Mx):Prop:=vals.length = n ∧ ∀ i,i < n → Row p D (vals.getD i [])
abbrev z0 (D:Nat):List Int:=List.replicate D 0
theorem zR3 {p:Int} {D:Nat} (hp:0 < p):Row p D (z0 D):=by
 refine ⟨by simp,fun i hi => ?_⟩
 have:at0 (z0 D) i = 0:=by simp [z0,at0,List.getD_eq_getElem?_getD,hi]
 rw [this];omega
theorem zAa {p:Int} {D:Nat} {r:List Int} {B:Mx} (hp:0 < p):Row p D (tF p D r B):=by
 refine ⟨yN _ _,fun i hi => ?_⟩
 have e1:=Int.emod_nonneg (S D (fun l => at0 r l * ent B l i)) (show p ≠ 0 by omega)
 have e2:=Int.emod_lt_of_pos (S D (fun l => at0 r l * ent B l i)) hp
 rw [tF,xW hi];omega
theorem zN3 {v:List Int} (hl:v.length ≤ 1000000):IsB (f_U v) (∀ i,i < v.length → at0 v i = 0):=by
 refine uE v.length (fun i => at0 v i = 0) rfl (fun i hi _ => ?_) ?_
 ·unfold zLW
  rw [xM hi,zK,yW hi,bs]
  by_cases h:at0 v i = 0
  ·rw [show (at0 v i != 0) = false from by simp only [h];rfl,zG,zH (by omega) (by omega),bs,cs];exact .inl ⟨rfl,h⟩
  ·rw [show (at0 v i != 0) = true from by simpa using h,zK];exact .inr ⟨rfl,h⟩
 ·unfold zLW
  rw [xQ,zG]
theorem zLK {v:List Int} (hl:v.length ≤ 1000000):IsB (zRU v) (∀ i,i < v.length → at0 v i = 0):=zN3 hl
end Go.Pl

namespace Go.Pl
open Go Go.Ab Go.Wk Go.Pc
theorem zLL {m:zC} {D:Nat} {vals:Mx} (hp:Prime m.Prime) (hd:m.Dim = (D:Int)) (hD:D ≤ 8) (hl:vals.length ≤ 1048576):IsB (zRV m vals) (∀ i,i < vals.length → Row m.Prime D (vals.getD i [])):=by
 refine uE vals.length (fun i => Row m.Prime D (vals.getD i [])) rfl (fun i hi _ => ?_) ?_
 ·refine wV (zAX hp hD (r:=vals.getD i [])) (by omega) ?_
  unfold zLl
  rw [xM hi,zK,yO [] hi,bs,hd]
 ·unfold zLl
  rw [xQ,zG]
end Go.Pl

namespace Go.Pl
open Go Go.Ab Go.Wk Go.Pc
theorem IsB.both {o o':Option Bool} {P:Prop} (h:IsB o P) (h':IsB o' P):(o = some true ∧ o' = some true ∧ P) ∨ (o = some false ∧ o' = some false ∧ ¬ P):=by
 rcases h with ⟨h1,h2⟩ | ⟨h1,h2⟩ <;> rcases h' with ⟨h3,h4⟩ | ⟨h3,h4⟩
 ·exact .inl ⟨h1,h3,h2⟩
 ·exact absurd h2 h4
 ·exact absurd h4 h2
 ·exact .inr ⟨h1,h3,h2⟩
end Go.Pl

namespace Go.Pl
open Go Go.Ab Go.Wk Go.Pc
def Sp (p:Int) (n:Nat) (R:Mx) (v:List Int):Prop:=∃ c:Nat → Int,∀ j,j < n → (S R.length fun i => c i * ent R i j) % p = at0 v j % p
def zUz (p:Int) (n:Nat) (R R':Mx):Prop:=(∀ i,i < R.length → Sp p n R' (R.getD i [])) ∧ ∀ i,i < R'.length → Sp p n R (R'.getD i [])
end Go.Pl

namespace Go.Pl
open Go Go.Ab Go.Wk Go.Pc
end Go.Pl

namespace Go.Pl
open Go Go.Ab Go.Wk Go.Pc
end Go.Pl

namespace Go.Pl
open Go Go.Ab Go.Wk Go.Pc
theorem zFt {v:List Int} (h:v.length ≤ 1000000):f_z v = some v:=by
 unfold f_z
 rw [wA (by simp;omega),bs,List.nil_append]
end Go.Pl

namespace Go.Pl
open Go Go.Ab Go.Wk Go.Pc
end Go.Pl

namespace Go.Pl
open Go Go.Ab Go.Wk Go.Pc
end Go.Pl

namespace Go.Pl
open Go Go.Ab Go.Wk Go.Pc
end Go.Pl

namespace Go.Pl
open Go Go.Ab Go.Wk Go.Pc
end Go.Pl

namespace Go.Pl
open Go Go.Ab Go.Wk Go.Pc
theorem zFu {β:Type} {body:List β × Int → Option ((List β × Int) ⊕ List β)} (n:Nat) (F:Nat → β) (h:∀ i acc,i < n → acc.length = i → body (acc,(i:Int)) = some (.inl (acc ++ [F i],((i + 1:Nat):Int)))) (he:∀ acc,body (acc,(n:Int)) = some (.inr acc)) :
  zJ body ([],0) = some ((List.range n).map F):=by
 have:=zW (body:=body) (r:=(List.range n).map F) (fun i => ((List.range i).map F,(i:Int))) n (fun i hi => by
  rw [h i _ hi (by simp),List.range_succ,List.map_append];rfl) (he _)
 exact this
def zAb (D k:Nat):List Int:=mkv D fun j => if j = k then 1 else 0
theorem zDQ {D k:Nat} (hk:k < D) (hD:D ≤ 1000000):zIF (D:Int) (k:Int) = some (zAb D k):=by
 unfold zIF
 rw [xF (by omega),bs,yW (by simp;exact hk),bs,Int.toNat_natCast]
 congr 1
 rw [tM,zCL,zAb]
end Go.Pl

namespace Go.Pl
open Go Go.Ab Go.Wk Go.Pc
abbrev gl {β:Type} (m:Nat) (F:Nat → β):List β:=(List.range m).map F
theorem tA {β:Type} {m:Nat} {F:Nat → β}:(gl m F).length = m:=by simp [gl]
theorem zIu {β:Type} {m:Nat} {F:Nat → β} {i:Nat} (h:i < m):ixO (gl m F) (i:Int) = some (F i):=by
 rw [qQ (by rw [tA];exact h)];simp [gl]
theorem tN {β:Type} {m:Nat} {F G:Nat → β} (h:∀ i,i < m → F i = G i):gl m F = gl m G:=List.map_congr_left fun i hi => h i (List.mem_range.1 hi)
theorem zJ4 {β:Type} {m:Nat} {F:Nat → β} {i:Nat} {a:β}:(gl m F).set i a = gl m (fun k => if k = i then a else F k):=by
 apply List.ext_getElem?
 intro k
 by_cases hk:k < m
 ·by_cases h:i = k
  ·subst h;simp [gl,hk]
  ·rw [List.getElem?_set_ne h];simp [gl,hk,Ne.symm h]
 ·rw [List.getElem?_eq_none (by simp [gl];omega),List.getElem?_eq_none (by simp [gl];omega)]
theorem zGV {β:Type} {m:Nat} {F:Nat → β}:gl m F ++ [F m] = gl (m + 1) F:=by simp [gl,List.range_succ]
def base (n i:Nat):Nat:=n + i * n - i * (i + 1) / 2
theorem zLM:∀ n,n < 7 → ∀ i,i < n → base n (i + 1) = base n i + (n - 1 - i):=by decide
theorem zEb:∀ n,n < 7 → ∀ i,i < n → base n i + (n - 1 - i) ≤ base n n:=by decide
theorem qE:∀ n,n < 7 → n ≤ base n n ∧ base n n ≤ 21 ∧ base n 0 = n:=by decide
theorem zJ5:∀ n:Nat,n < 7 → ∀ j:Nat,j < n → ∀ i:Nat,i < j → zRS (n:Int) (i:Int) (j:Int) = some ((base n i + (j - i - 1):Nat):Int):=by decide +kernel
def exP (n D:Nat) (x:SPr) (T:Mx) (i:Nat):List Int:=if i < n then x.zR.getD i [] ++ T.getD i [] else List.replicate (n + D) 0
def exF (n:Nat) (x:SPr) (m:zC) (T:Mx) (i j:Nat):List Int:=if j < n - 1 - i then (x.zB.getD i []).getD j [] ++ T.getD (base n i + j) [] else List.replicate n 0 ++ (m.zE.getD i []).getD (j - (n - 1 - i)) []
def unC (N i:Nat):Mx:=gl (N - 1 - i) fun j => zAb N (i + 1 + j)
def exC (n D:Nat) (x:SPr) (m:zC) (T:Mx) (i:Nat):Mx:=if i < n then gl (n + D - 1 - i) (exF n x m T i) else unC (n + D) i
def ext (n D:Nat) (x:SPr) (m:zC) (T:Mx):SPr:=⟨x.zA ++ List.replicate D m.Prime,gl (n + D) (exP n D x T),gl (n + D) (exC n D x m T)⟩
structure zGW (n D:Nat) (x:SPr) (m:zC) (T:Mx):Prop where
 hn:n ≤ 6
 o:x.zA.length = n
 p:x.zR.length = n
 c:x.zB.length = n
 cl:∀ i,i < n → (x.zB.getD i []).length = n - 1 - i
 pl:∀ i,(x.zR.getD i []).length ≤ 6
 ce:∀ i j,((x.zB.getD i []).getD j []).length ≤ 6
 t:T.length = base n n
 tl:∀ i,(T.getD i []).length ≤ 30
 m:zR0 n m D
end Go.Pl

namespace Go.Pl
open Go Go.Ab Go.Wk Go.Pc
theorem zKX {a b:List Int} (ha:a.length ≤ 1000) (hb:b.length ≤ 1000):f_r [a,b] = some (a ++ b):=by
 rw [zDJ (by simp) (by simp;omega)];simp
theorem zGr {v:Int} {k:Nat} (hk:k ≤ 1000):∀ d c:Nat,c ≤ k → (c = 0 → k = 0) → k - c ≤ d → zJ sD (List.replicate c v ++ List.replicate (k - c) 0,(c:Int)) = some (List.replicate k v):=by
 intro d
 induction d with
 | zero =>
  intro c h1 _ h3
  obtain rfl:c = k:=by omega
  rw [xK]
  unfold sD
  simp only
  rw [Nat.sub_self,List.replicate_zero,List.append_nil,List.length_replicate,xQ,zG]
 | succ d ih =>
  intro c h1 h2 h3
  by_cases hc:c = k
  ·subst hc
   rw [xK]
   unfold sD
   simp only
   rw [Nat.sub_self,List.replicate_zero,List.append_nil,List.length_replicate,xQ,zG]
  ·have hl:(List.replicate c v ++ List.replicate (k - c) (0:Int)).length = k:=by simp;omega
   have s1:yB (List.replicate c v ++ List.replicate (k - c) (0:Int)) (c:Int) (k:Int) = some (((List.replicate c v ++ List.replicate (k - c) (0:Int)).drop c).take (k - c)):=by
    unfold yB
    rw [if_pos ⟨by omega,by omega,by rw [hl];omega⟩]
    simp
   have s2:yB (List.replicate c v ++ List.replicate (k - c) (0:Int)) 0 (c:Int) = some (List.replicate c v):=by
    unfold yB
    rw [if_pos ⟨by omega,by omega,by rw [hl];omega⟩]
    simp
   have e1:(List.replicate c v).take (k - c) = List.replicate (min (k - c) c) v:=by rw [List.take_replicate]
   have e2:xX (List.replicate c v ++ List.replicate (k - c) (0:Int)) c (List.replicate (min (k - c) c) v) = List.replicate (c + min c (k - c)) v ++ List.replicate (k - (c + min c (k - c))) 0:=by
    unfold xX
    rw [List.take_left' (List.length_replicate),List.length_replicate,Nat.min_comm (k - c) c,List.replicate_append_replicate,List.drop_append,List.length_replicate,List.drop_of_length_le (by rw [List.length_replicate];omega),List.nil_append,List.drop_replicate]
    congr 2;omega
   have hb:sD (List.replicate c v ++ List.replicate (k - c) 0,(c:Int)) = some (.inl (List.replicate (c + min c (k - c)) v ++ List.replicate (k - (c + min c (k - c))) 0,((c + min c (k - c):Nat):Int))):=by
    unfold sD
    simp only
    rw [hl,xM (by omega),zK,s1,bs,s2,bs,List.length_replicate]
    simp only [Int.toNat_natCast]
    rw [e1,e2,← Int.natCast_add,zH (by omega) (by omega),bs]
   rw [xK,hb]
   exact ih (c + min c (k - c)) (by omega) (by omega) (by omega)
theorem zJ6 {v:Int} {k:Nat} (hk:k ≤ 30):f_g [v] (k:Int) = some (List.replicate k v):=by
 have key:∀ k:Nat,k < 31 → zO9 1 (IntKind.wrap .u64 (k:Int)) = some (0,(k:Int)) ∧ yP (IntKind.wrap .i64 (k:Int)) = some k:=by decide +kernel
 obtain ⟨k1,k2⟩:=key k (by omega)
 unfold f_g
 rw [decide_eq_false (by omega),zG,zNz k1,bs]
 simp only [k2,bs]
 rw [show decide ((0:Int) > 0) = false from rfl,zG,decide_eq_false (by omega),zG]
 by_cases h0:k = 0
 ·subst h0
  have:=zGr (v:=v) (k:=0) (by omega) 0 0 (by omega) (by omega) (by omega)
  rw [show xX (List.replicate 0 (0:Int)) 0 (([v]:List Int).take ((List.replicate 0 (0:Int)).length - 0)) = List.replicate 0 v ++ List.replicate (0 - 0) 0 from rfl,show ((min ([v]:List Int).length ((List.replicate 0 (0:Int)).length - 0):Nat):Int) = ((0:Nat):Int) from rfl,this,bs]
 ·have:=zGr (v:=v) (k:=k) (by omega) k 1 (by omega) (by omega) (by omega)
  have e1:xX (List.replicate k (0:Int)) 0 (([v]:List Int).take ((List.replicate k (0:Int)).length - 0)) = List.replicate 1 v ++ List.replicate (k - 1) 0:=by
   unfold xX
   have e0:([v]:List Int).take k = [v]:=List.take_of_length_le (by simp;omega)
   rw [List.length_replicate,Nat.sub_zero,e0,List.take_zero,List.nil_append,List.drop_replicate]
   rfl
  have e2:((min ([v]:List Int).length ((List.replicate k (0:Int)).length - 0):Nat):Int) = ((1:Nat):Int):=by simp;omega
  rw [e1,e2,this,bs]
theorem zLN {O:List Int} {N:Nat} (hO:O.length = N) (hN:N ≤ 100):f_s O = some ⟨O,gl N (fun _ => List.replicate N 0),gl N (unC N)⟩:=by
 have hin:∀ i,i < N → zJ (zMa O) ([],((i + 1:Nat):Int)) = some (unC N i):=fun i hi => by
  have:=zW (body:=zMa O) (r:=unC N i) (fun j => (gl j fun j => zAb N (i + 1 + j),((i + 1 + j:Nat):Int))) (N - 1 - i) (fun j hj => by
   unfold zMa
   simp only
   rw [hO,xM (by omega),zK,zDQ (by omega) (by omega),bs,wA (by rw [tA];simp;omega),bs,zH (by omega) (by omega),bs,cs,zGV (F:=fun j => zAb N (i + 1 + j))];rfl) (by
   unfold zMa
   simp only
   rw [hO,show i + 1 + (N - 1 - i) = N from by omega,xQ,zG,unC])
  exact this
 have:=zW (body:=zMb O) (r:=(gl N (fun _ => List.replicate N 0),gl N (unC N))) (fun i => (gl i (fun _ => List.replicate N (0:Int)),gl i (unC N),((i:Nat):Int))) N (fun i hi => by
  unfold zMb
  simp only
  rw [hO,xM hi,zK,xF (by omega),bs,wA (by rw [tA];simp;omega),bs,zH (by omega) (by omega),bs,cs,hin i hi,bs,wA (by rw [tA];simp;omega),bs,bs,zGV (F:=unC N),zGV (F:=fun _ => List.replicate N (0:Int))]) (by
  unfold zMb
  simp only
  rw [hO,xQ,zG])
 unfold f_s
 rw [zFt (by omega),bs]
 have e:zJ (zMb O) ([],[],0) = some (gl N (fun _ => List.replicate N 0),gl N (unC N)):=this
 rw [e,bs]
section
variable {n D:Nat} {x:SPr} {m:zC} {T:Mx} (h:zGW n D x m T)
 include h
def exG (n N:Nat) (x:SPr) (m:zC) (T:Mx) (i t q:Nat):List Int:=if q < t then exF n x m T i q else zAb N (i + 1 + q)
def exE (n D:Nat) (x:SPr) (m:zC) (T:Mx) (i t k:Nat):Mx:=if k < i then exC n D x m T k else if k = i then gl (n + D - 1 - i) (exG n (n + D) x m T i t) else unC (n + D) k
theorem zJ7 {i t:Nat}:exE n D x m T i t i = gl (n + D - 1 - i) (exG n (n + D) x m T i t):=by
 have _:=h
 rw [exE,if_neg (by omega),if_pos rfl]
theorem zKY {i t:Nat}:(gl (n + D) (exE n D x m T i t)).set i ((gl (n + D - 1 - i) (exG n (n + D) x m T i t)).set t (exF n x m T i t)) = gl (n + D) (exE n D x m T i (t + 1)):=by
 have _:=h
 rw [zJ4,zJ4]
 refine tN fun k _ => ?_
 by_cases hk:k = i
 ·subst hk
  rw [if_pos rfl,zJ7 h]
  refine tN fun q _ => ?_
  simp only [exG]
  by_cases hq:q = t
  ·subst hq;rw [if_pos rfl,if_pos (by omega)]
  ·rw [if_neg hq]
   by_cases h2:q < t
   ·rw [if_pos h2,if_pos (by omega)]
   ·rw [if_neg h2,if_neg (by omega)]
 ·rw [if_neg hk,exE,exE,if_neg hk,if_neg hk]
theorem zFv {i k:Nat}:exE n D x m T i 0 k = if k < i then exC n D x m T k else unC (n + D) k:=by
 have _:=h
 rw [exE]
 by_cases h1:k < i
 ·rw [if_pos h1,if_pos h1]
 ·rw [if_neg h1,if_neg h1]
  by_cases h2:k = i
  ·subst h2
   rw [if_pos rfl]
   exact tN fun q _ => by rw [exG,if_neg (by omega)]
  ·rw [if_neg h2]
theorem zN4 {i:Nat} (hi:i < n):gl (n + D) (exE n D x m T i (n + D - 1 - i)) = gl (n + D) (exE n D x m T (i + 1) 0):=by
 refine tN fun k _ => ?_
 rw [zFv h,exE]
 by_cases h1:k < i
 ·rw [if_pos h1,if_pos (by omega)]
 ·rw [if_neg h1]
  by_cases h2:k = i
  ·subst h2
   rw [if_pos rfl,if_pos (by omega),exC,if_pos hi]
   exact tN fun q hq => by rw [exG,if_pos hq]
  ·rw [if_neg h2,if_neg (by omega)]
theorem zT0 {i:Nat} (hi:i < n) {C:List Mx} {w:Int}:zJ (zMd T (C,w,(i:Int)) (x.zB.getD i [])) (gl (n + D) (exE n D x m T i 0),((base n i:Nat):Int),0) = some (gl (n + D) (exE n D x m T i (n - 1 - i)),((base n (i + 1):Nat):Int)):=by
 have h6:=h.hn
 have h3:=h.m.d3
 have hc:=h.cl i hi
 have hb:=zEb n (by omega) i hi
 have hbb:=qE n (by omega)
 have:=zW (body:=zMd T (C,w,(i:Int)) (x.zB.getD i [])) (r:=(gl (n + D) (exE n D x m T i (n - 1 - i)),((base n (i + 1):Nat):Int))) (fun j => (gl (n + D) (exE n D x m T i j),((base n i + j:Nat):Int),((j:Nat):Int))) (n - 1 - i) (fun j hj => by
  have a1:=h.ce i j
  have a2:=h.tl (base n i + j)
  have e:exF n x m T i j = (x.zB.getD i []).getD j [] ++ T.getD (base n i + j) []:=if_pos hj
  unfold zMd
  simp only
  rw [hc,xM hj,zK,yO [] (by omega),bs,zIu (by omega),bs,yO [] (by rw [h.t];omega),bs,zKX (by omega) (by omega),bs,zJ7 h,zIu (by omega),bs,zH (by omega) (by omega),bs,zH (by omega) (by omega),bs,cs,cs,← e,Int.toNat_natCast,Int.toNat_natCast,zKY h];rfl) (by
  unfold zMd
  simp only
  rw [hc,xQ,zG,zLM n (by omega) i hi])
 exact this
theorem zT1 {i:Nat} (hi:i < n) {C:List Mx} {w:Int}:zJ (zMe x (C,w,(i:Int)) (m.zE.getD i [])) (gl (n + D) (exE n D x m T i (n - 1 - i)),0) = some (gl (n + D) (exE n D x m T (i + 1) 0)):=by
 have h6:=h.hn
 have h3:=h.m.d3
 have hmt:=h.m.mat i hi
 have:=zW (body:=zMe x (C,w,(i:Int)) (m.zE.getD i [])) (r:=gl (n + D) (exE n D x m T (i + 1) 0)) (fun j => (gl (n + D) (exE n D x m T i (n - 1 - i + j)),((j:Nat):Int))) D (fun j hj => by
  have e:exF n x m T i (n - 1 - i + j) = List.replicate n 0 ++ (m.zE.getD i []).getD j []:=by
   rw [exF,if_neg (by omega),show n - 1 - i + j - (n - 1 - i) = j from by omega]
  have hr:=(hmt.2 j hj).1
  unfold zMe
  simp only
  rw [hmt.1,xM hj,zK,yO [] (by rw [hmt.1];exact hj),bs,zIu (by omega),bs,h.o,zH (by omega) (by omega),bs,zH (by omega) (by omega),bs,zH (by omega) (by omega),bs,show (0:Int) = ((0:Nat):Int) from rfl,zIs (by omega) (by omega) (by omega),bs,
   show (n:Int) - 1 - (i:Int) + (j:Int) = ((n - 1 - i + j:Nat):Int) from by omega,zJ7 h,zIu (by omega),bs,zH (by omega) (by omega),bs,cs,List.replicate_zero,List.append_nil,← e,Int.toNat_natCast,Int.toNat_natCast,zKY h];rfl) (by
  unfold zMe
  simp only
  rw [hmt.1,xQ,zG,show n - 1 - i + D = n + D - 1 - i from by omega,zN4 h hi])
 exact this
theorem zT2:zJ (zMf x m T) (gl (n + D) (unC (n + D)),((n:Nat):Int),0) = some (gl (n + D) (exC n D x m T)):=by
 have h6:=h.hn
 have h3:=h.m.d3
 have hbb:=qE n (by omega)
 have:=zW (body:=zMf x m T) (r:=gl (n + D) (exC n D x m T)) (fun i => (gl (n + D) (exE n D x m T i 0),((base n i:Nat):Int),((i:Nat):Int))) n (fun i hi => by
  unfold zMf
  simp only
  rw [h.o,xM hi,zK,yO [] (by rw [h.c];exact hi),bs,zT0 h hi,bs,yO [] (by rw [h.m.len];exact hi),bs,zT1 h hi,bs,zH (by omega) (by omega),bs,cs]) (by
  unfold zMf
  simp only
  rw [h.o,xQ,zG]
  congr 2
  refine tN fun k _ => ?_
  rw [zFv h,exC]
  by_cases hk:k < n
  ·rw [if_pos hk,if_pos hk]
  ·rw [if_neg hk,if_neg hk])
 have e:gl (n + D) (exE n D x m T 0 0) = gl (n + D) (unC (n + D)):=tN fun k _ => by rw [zFv h,if_neg (by omega)]
 rw [e,hbb.2.2] at this
 exact this
theorem zT3:zJ (zMc x T) (gl (n + D) (fun _ => List.replicate (n + D) 0),0,0) = some (gl (n + D) (exP n D x T),((n:Nat):Int)):=by
 have h6:=h.hn
 have h3:=h.m.d3
 have hbb:=qE n (by omega)
 have:=zW (body:=zMc x T) (r:=(gl (n + D) (exP n D x T),((n:Nat):Int))) (fun i => (gl (n + D) (fun k => if k < i then exP n D x T k else List.replicate (n + D) 0),((i:Nat):Int),((i:Nat):Int))) n (fun i hi => by
  have a1:=h.pl i
  have a2:=h.tl i
  have e:exP n D x T i = x.zR.getD i [] ++ T.getD i []:=if_pos hi
  unfold zMc
  simp only
  rw [h.p,xM hi,zK,yO [] (by rw [h.p];exact hi),bs,yO [] (by rw [h.t];omega),bs,zKX (by omega) (by omega),bs,zIu (by omega),bs,zH (by omega) (by omega),bs,bs,cs,← e,Int.toNat_natCast,zJ4]
  congr 3
  refine tN fun k _ => ?_
  by_cases hk:k = i
  ·subst hk;rw [if_pos rfl,if_pos (by omega)]
  ·rw [if_neg hk]
   by_cases h2:k < i
   ·rw [if_pos h2,if_pos (by omega)]
   ·rw [if_neg h2,if_neg (by omega)]) (by
  unfold zMc
  simp only
  rw [h.p,xQ,zG]
  congr 3
  refine tN fun k _ => ?_
  by_cases hk:k < n
  ·rw [if_pos hk]
  ·rw [if_neg hk,exP,if_neg hk])
 have e:gl (n + D) (fun k => if k < 0 then exP n D x T k else List.replicate (n + D) 0) = gl (n + D) (fun _ => List.replicate (n + D) 0):=tN fun k _ => if_neg (by omega)
 rw [e] at this
 exact this
theorem zPC {v:Int}:f_g [v] m.Dim = some (List.replicate D v):=by
 rw [h.m.d]
 exact zJ6 (by have:=h.m.d3;omega)
theorem zN5:f_i x m T = some (ext n D x m T):=by
 have h6:=h.hn
 have h3:=h.m.d3
 unfold f_i
 rw [zFt (by rw [h.o];omega),bs,zPC h,bs,wA (by rw [h.o];simp;omega),bs,zLN (N:=n + D) (by rw [List.length_append,h.o];simp) (by omega),bs]
 simp only
 rw [zT3 h,bs,zT2 h,bs]
 rfl
end
end Go.Pl

namespace Go.Pl
open Go Go.Ab Go.Wk Go.Pc
theorem zQC {α:Type} {c:α → Nat} {b:Nat}:∀ {xs:List α},(∀ x ∈ xs,c x ≤ b) → sm c xs ≤ xs.length * b
 | [],_ => by simp [sm]
 | x :: xs,h => by
  have h1:=zQC (xs:=xs) fun y hy => h y (by simp [hy])
  have h2:=h x (by simp)
  simp only [sm,List.length_cons,Nat.succ_mul];omega
theorem zJ8 {xs:Mx} {b:Nat} (h:∀ i,i < xs.length → (xs.getD i []).length ≤ b) (i:Nat):(xs.getD i []).length ≤ b:=by
 rcases Nat.lt_or_ge i xs.length with g | g
 ·exact h i g
 ·rw [List.getD_eq_getElem?_getD,List.getElem?_eq_none g];simp
theorem zJ9 {x:SPr} {n:Nat} (ho:x.zA.length = n) (hn:n ≤ 6):zQd x = some ((base n n:Nat):Int):=by
 unfold zQd
 rw [ho]
 have key:∀ n:Nat,n < 7 → ((rng ((n:Int) - 1)).bind fun v1 => (rng ((n:Int) * v1)).bind fun v2 => (uJ v2 2).bind fun v3 => (rng ((n:Int) + v3)).bind fun v4 => some v4) = some ((base n n:Nat):Int):=by decide +kernel
 exact key n (by omega)
theorem zJA {x:SPr} {n:Nat} (ho:x.zA.length = n) (hn:n ≤ 6):zQe x = some ((base n n:Nat):Int):=by
 unfold zQe
 rw [ho]
 have key:∀ n:Nat,n < 7 → ((rng ((n:Int) + 1)).bind fun v1 => (rng ((n:Int) * v1)).bind fun v2 => (uJ v2 2).bind fun v3 => some v3) = some ((base n n:Nat):Int):=by decide +kernel
 exact key n (by omega)
theorem zGW.ofX {x:SPr} {m:zC} {D:Nat} {T:Mx} (hx:zGi x) (hm:zR0 x.zA.length m D) (ht:T.length = base x.zA.length x.zA.length) (htl:∀ i,(T.getD i []).length ≤ 30):zGW x.zA.length D x m T:=by
 have h6:=hx.n6
 refine ⟨h6,rfl,hx.pl,hx.cl,fun i hi => by have:=(hx.tl i hi).2.1;omega,zJ8 fun i hi => ?_,fun i => ?_,ht,htl,hm⟩
 ·have:=(hx.tl i (by rw [← hx.pl];exact hi)).1.1.1
  omega
 ·rcases Nat.lt_or_ge i x.zA.length with g | g
  ·refine zJ8 fun j hj => ?_
   have:=((hx.tl i g).2.2 j hj).1.1
   omega
  ·have e:x.zB.getD i [] = []:=by rw [List.getD_eq_getElem?_getD,List.getElem?_eq_none (by rw [hx.cl];exact g)];rfl
   rw [e];simp
theorem zGW.of {x:SPr} {m:zC} {D:Nat} {T:Mx} (hx:zGi x) (hm:MOk x.zA.length m D) (ht:T.length = base x.zA.length x.zA.length) (htl:∀ i,(T.getD i []).length ≤ 3):zGW x.zA.length D x m T:=.ofX hx hm.x ht fun i => by have:=htl i;omega
end Go.Pl

namespace Go.Pl
open Go Go.Ab Go.Wk Go.Pc
def zN6 (x:SPr):Nat:=c1 x.zA + sm c1 x.zR + sm (sm c1) x.zB
def zQD (x:SPr) (k:Int):SPr:=⟨m1 k x.zA,m2 (k + c1 x.zA) x.zR,m3 (k + c1 x.zA + sm c1 x.zR) x.zB⟩
theorem zKZ {x:SPr} (h:zBB x):zN6 x ≤ 3145728:=by
 obtain ⟨h1,h2,h3⟩:=h
 have g2:=zDm (x:=x.zR)
 have g3:=zGO (x:=x.zB)
 simp only [S1] at h1
 simp only [S2] at h2
 simp only [S3] at h3
 simp only [zN6];omega
theorem zB0 {x:SPr} {k:Int} (h:zBB x) (k0:0 ≤ k) (k1:k ≤ 1000000000):zQa x k = some (k + zN6 x,zQD x k):=by
 have ht:=zKZ h
 simp only [zN6] at ht
 unfold zQa
 rw [zEZ h.1 k0 (by omega),bs,qC h.2.1 (by simp only;omega) (by simp only;omega),bs,zCE h.2.2 (by simp only;omega) (by simp only;omega),bs]
 simp only [zN6,zQD,Int.natCast_add,Int.add_assoc]
end Go.Pl

namespace Go.Pl
open Go Go.Ab Go.Wk Go.Pc
end Go.Pl

namespace Go.Pl
open Go Go.Ab Go.Wk Go.Pc
theorem zN7 {x:zL} (h:S2 x.Rows):zQl x x = some true:=by
 unfold zQl
 rw [bne_self_eq_false,zG,bne_self_eq_false,zG,qT h,bs,beq_self_eq_true,Bool.not_true,zG]
theorem zJB {x:zL} {k:Int} (h:S2 x.Rows) (k0:0 ≤ k) (k1:k ≤ 1000000000):zQm x k = some (k + sm c1 x.Rows,zL.mk x.Prime x.yS (m2 k x.Rows)):=by
 have g2:=zDm (x:=x.Rows)
 have h':=h
 simp only [S2] at h'
 unfold zQm
 rw [qC h k0 (by omega),bs]
end Go.Pl

namespace Go.Pl
open Go Go.Ab Go.Wk Go.Pc
end Go.Pl

namespace Go.Pl
open Go Go.Ab Go.Wk Go.Pc
end Go.Pl

namespace Go.Pl
open Go Go.Ab Go.Wk Go.Pc
end Go.Pl

namespace Go.Pl
open Go Go.Ab Go.Wk Go.Pc
theorem zEc {u v:List Int} {j:Nat}:at0 (u ++ v) j = if j < u.length then at0 u j else at0 v (j - u.length):=by
 simp only [at0,List.getD_eq_getElem?_getD]
 split
 ·next h => rw [List.getElem?_append_left h]
 ·next h => rw [List.getElem?_append_right (by omega)]
theorem zN8 {v:List Int} {c j:Nat}:at0 (v.drop c) j = at0 v (c + j):=by
 simp only [at0,List.getD_eq_getElem?_getD,List.getElem?_drop]
theorem zLa {f:Nat → Int} (t:Nat):∀ d:Nat,S (t + d) f = S t f + S d (fun i => f (t + i))
 | 0 => by simp [S]
 | d + 1 => by rw [← Nat.add_assoc];simp only [S];rw [zLa t d];omega
theorem tQ {F:Nat → List Int} {m i:Nat} (h:i < m):(gl m F).getD i [] = F i:=by simp [gl,List.getD_eq_getElem?_getD,h]
end Go.Pl

namespace Go.Pl
open Go Go.Ab Go.Wk Go.Pc
def zT4 (u:zL):Prop:=Prime u.Prime ∧ ∃ C:Nat,C ≤ 8 ∧ u.yS = (C:Int) ∧ u.Rows.length ≤ 8 ∧ ∀ i,i < u.Rows.length → Row u.Prime C (u.Rows.getD i [])
theorem zLO {u:zL}:IsB (f_E u) (zT4 u):=by
 unfold f_E
 rcases jE u.Prime with ⟨h1,h2⟩ | ⟨h1,h2⟩
 ·rw [h1,bs,Bool.not_true,zG]
  rcases tT u.yS 0 8 with ⟨h3,h4⟩ | ⟨h3,h4⟩
  ·obtain ⟨C,hC⟩:∃ C:Nat,u.yS = (C:Int):=⟨u.yS.toNat,by omega⟩
   rw [h3,bs,Bool.not_true,zG]
   by_cases hl:u.Rows.length ≤ 8
   ·rw [decide_eq_false (by omega),zG]
    refine (uE (body:=zII u) u.Rows.length (fun i => Row u.Prime C (u.Rows.getD i [])) rfl (fun i hi _ => ?_) ?_).iff ⟨fun g => ⟨h2,C,by omega,hC,hl,g⟩,fun ⟨_,C',_,e,_,g⟩ => by
     have:C' = C:=by omega
     rw [← this];exact g⟩
    ·refine wV (zAX h2 (D:=C) (by omega)) (by omega) ?_
     unfold zII
     rw [xM hi,zK,yO [] hi,bs,hC]
    ·unfold zII
     rw [xQ,zG]
   ·rw [decide_eq_true (by omega),zK]
    exact .inr ⟨rfl,fun ⟨_,_,_,_,g,_⟩ => hl g⟩
  ·rw [h3,bs,Bool.not_false,zK]
   exact .inr ⟨rfl,fun ⟨_,C,g1,g2,_⟩ => h4 (by omega)⟩
 ·rw [h1,bs,Bool.not_false,zK]
  exact .inr ⟨rfl,fun g => h2 g.1⟩
theorem zGs {u:zL}:IsB (zQk u) (zT4 u):=by
 unfold zQk
 rcases zCg u.Prime with ⟨h1,h2⟩ | ⟨h1,h2⟩
 ·rw [h1,bs,Bool.not_true,zG]
  rcases jR u.yS 0 8 with ⟨h3,h4⟩ | ⟨h3,h4⟩
  ·obtain ⟨C,hC⟩:∃ C:Nat,u.yS = (C:Int):=⟨u.yS.toNat,by omega⟩
   rw [h3,bs,Bool.not_true,zG]
   by_cases hl:u.Rows.length ≤ 8
   ·rw [decide_eq_false (by omega),zG]
    refine (uE (body:=zIP u) u.Rows.length (fun i => Row u.Prime C (u.Rows.getD i [])) rfl (fun i hi _ => ?_) ?_).iff ⟨fun g => ⟨h2,C,by omega,hC,hl,g⟩,fun ⟨_,C',_,e,_,g⟩ => by
     have:C' = C:=by omega
     rw [← this];exact g⟩
    ·refine wV (zAY h2 (D:=C) (by omega)) (by omega) ?_
     unfold zIP
     rw [xM hi,zK,yO [] hi,bs,hC]
    ·unfold zIP
     rw [xQ,zG]
   ·rw [decide_eq_true (by omega),zK]
    exact .inr ⟨rfl,fun ⟨_,_,_,_,g,_⟩ => hl g⟩
  ·rw [h3,bs,Bool.not_false,zK]
   exact .inr ⟨rfl,fun ⟨_,C,g1,g2,_⟩ => h4 (by omega)⟩
 ·rw [h1,bs,Bool.not_false,zK]
  exact .inr ⟨rfl,fun g => h2 g.1⟩
end Go.Pl

namespace Go.Pl
open Go Go.Ab Go.Wk Go.Pc
def zPD (x:zL):Prop:=VI x.Prime ∧ VI x.yS ∧ VL (VL VI) x.Rows
theorem zN9 {x:zL} {b:Int} (h:zPD x) (b0:0 ≤ b) (b1:b ≤ 1048576):zQj x b = some (szR (c2 x.Rows) b):=by
 unfold zQj
 rw [zBo h.2.2 b0 b1,bs]
 by_cases g:szR (c2 x.Rows) b < 0
 ·rw [decide_eq_true g,zK]
  unfold szR at g ⊢
  split
  ·next h1 => rw [if_pos h1] at g;omega
  ·rfl
 ·rw [decide_eq_false g,zG]
theorem zNA {x:zL} (h:S2 x.Rows):f_X x = some x:=by
 unfold f_X
 rw [zBp h,bs]
end Go.Pl

namespace Go.Pl
open Go Go.Ab Go.Wk Go.Pc
section
variable {n D:Nat} {m:zC} (hm:MOk n m D) (hn:n ≤ 9)
 include hm hn
def zT5 (m:zC) (D:Nat) (rows:Mx):Prop:=∀ i,i < rows.length → Row m.Prime D (rows.getD i [])
theorem zGX {rows:Mx} (hl:rows.length ≤ 1048576):IsB (zRT m rows) (zT5 m D rows):=by
 have _:=hn
 have h3:=hm.d3
 refine uE (body:=zIM m rows) rows.length (fun i => Row m.Prime D (rows.getD i [])) rfl (fun i hi _ => ?_) ?_
 ·refine wV (zAY hm.p (D:=D) (by omega)) (by omega) ?_
  unfold zIM
  rw [xM hi,zK,yO [] hi,bs,hm.d]
 ·unfold zIM
  rw [xQ,zG]
end
end Go.Pl

namespace Go.Pl
open Go Go.Ab Go.Wk Go.Pc
end Go.Pl

namespace Go.Pl
open Go Go.Ab Go.Wk Go.Pc
def vW (p:Int) (D E:Nat) (r:List Int) (B:Mx):List Int:=mkv E fun j => S D (fun l => at0 r l * ent B l j) % p
section
variable {p:Int} (hp:Prime p)
 include hp
theorem zIv {D E:Nat} {r:List Int} {B:Mx}:Row p E (vW p D E r B):=by
 have h7:=hp.pos
 refine ⟨yN _ _,fun j hj => ?_⟩
 rw [vW,xW hj]
 have e1:=Int.emod_nonneg (S D fun l => at0 r l * ent B l j) (show p ≠ 0 by omega)
 have e2:=Int.emod_lt_of_pos (S D fun l => at0 r l * ent B l j) (show 0 < p by omega)
 omega
theorem zIw {D E:Nat} (hD:D ≤ 1000) (hE:E ≤ 1000) {r:List Int} {B:Mx} (hr:Row p D r) (hl:B.length = D) (hB:∀ i,i < D → Row p E (B.getD i [])):f_F r (zL.mk p (E:Int) B) = some (vW p D E r B):=by
 have h7:=hp.pos
 have hrl:=hr.1
 unfold f_F
 simp only
 rw [xF (by omega),bs]
 have:=zW (body:=zIK r (zL.mk p (E:Int) B)) (r:=vW p D E r B) (fun i => (vW p i E r B,(i:Int))) D (fun i hi => by
  have ha:=hr.2 i hi
  unfold zIK
  simp only
  rw [hrl,xM hi,zK,yW (by omega),bs,yO [] (by omega),bs,zLI hp (zIv hp) (hB i hi) (by omega) (by omega),bs,zH (by omega) (by omega),bs,cs]
  congr 3
  refine yA fun j hj => ?_
  rw [vW,xW hj]
  simp only [S]
  rw [Int.add_emod,Int.emod_emod,← Int.add_emod]) (by
  unfold zIK
  simp only
  rw [hrl,xQ,zG])
 rw [show ((0:Nat):Int) = 0 from rfl] at this
 have e:List.replicate E (0:Int) = vW p 0 E r B:=by
  rw [tM]
  exact yA fun j _ => by simp [S]
 rw [e,this,bs]
theorem zAZ {D E:Nat} (hD:D ≤ 1000) (hE:E ≤ 1000) {A B:Mx} {q:Int} (hA:∀ i,i < A.length → Row p D (A.getD i [])) (hAl:A.length ≤ 1000) (hl:B.length = D) (hB:∀ i,i < D → Row p E (B.getD i [])) :
  f_B (zL.mk p q A) (zL.mk p (E:Int) B) = some (zL.mk p (E:Int) (gl A.length fun k => vW p D E (A.getD k []) B)):=by
 unfold f_B
 have:=zFu (body:=zIL (zL.mk p q A) (zL.mk p (E:Int) B)) A.length (fun k => vW p D E (A.getD k []) B) (fun i acc hi ha => by
  unfold zIL
  simp only
  rw [xM hi,zK,yO [] hi,bs,zIw hp hD hE (hA i hi) hl hB,bs,wA (by simp;omega),bs,zH (by omega) (by omega),bs,cs]) (fun acc => by
  unfold zIL
  simp only
  rw [xQ,zG])
 rw [this,bs]
end
end Go.Pl

namespace Go.Pl
open Go Go.Ab Go.Wk Go.Pc
end Go.Pl

namespace Go.Pl
open Go Go.Ab Go.Wk Go.Pc
theorem zFw {α:Type} {f:α → α} {a:α} (h:f a = a):∀ k,iter k f a = a
 | 0 => rfl
 | k + 1 => by show iter k f (f a) = a;rw [h];exact zFw h k
theorem zNB {p:Int} {D:Nat} {A:List Mx}:∀ (v:Vec) (o:Nat) (B:Mx),o + v.length ≤ A.length → wM p D A (nw o v) B = img (PM p D) (A.drop o) v B
 | [],o,B,_ => by simp [nw,wM,img]
 | a :: v,o,B,h => by
  simp only [List.length_cons] at h
  have e:A.drop o = A.getD o [] :: A.drop (o + 1):=by
   rw [List.drop_eq_getElem_cons (by omega),List.getD_eq_getElem?_getD,List.getElem?_eq_getElem (by omega)];rfl
  rw [e]
  simp only [nw,img]
  rw [zDv,zFq,zNB v (o + 1) _ (by omega)]
theorem zIx:∀ (k o:Nat),nw o (zeros k) = []
 | 0,_ => rfl
 | k + 1,o => by
  rw [show zeros (k + 1) = 0 :: zeros k from rfl]
  simp only [nw]
  rw [zIx k];rfl
section
variable {x:SPr} {m:zC} {D:Nat} (h:Pres x) (hm:zR1 x.zA.length m D) (hr:zGT x m D)
 include hm
 include h hr
theorem zLb:∀ (d k:Nat),k + d = x.zA.length → Rel (PM m.Prime D) (idM D) (suf x k) (m.zE.drop k)
 | 0,k,hk => by
  rw [vV (by omega),List.drop_of_length_le (by rw [hm.len];omega)];exact rfl
 | d + 1,k,hkd => by
  have h6:=h.os.1
  have hk:k < x.zA.length:=by omega
  have hlen:=hm.len
  have e:m.zE.drop k = m.zE.getD k [] :: m.zE.drop (k + 1):=by
   rw [List.drop_eq_getElem_cons (by omega),List.getD_eq_getElem?_getD,List.getElem?_eq_getElem (by omega)];rfl
  obtain ⟨t1,t2,t3⟩:=h.tl k hk
  obtain ⟨r1,r2⟩:=hr k hk
  have hword:∀ v,Exp x.zA v k → wM m.Prime D m.zE (nw 0 v) (idM D) = img (PM m.Prime D) (m.zE.drop (k + 1)) (v.drop (k + 1)) (idM D):=fun v hv => by
   have hl:=hv.1.1
   conv => lhs;rw [kT hv hk]
   rw [zDu,zIx,List.nil_append,zQ,zNB _ _ _ (by rw [List.length_drop];omega),Nat.zero_add]
  rw [yF hk,e]
  refine ⟨?_,fun q c dd hc hd => ?_,zLb d (k + 1) (by omega)⟩
  ·show pw (PM m.Prime D) (idM D) (m.zE.getD k []) (lvl x k).o.toNat = img (PM m.Prime D) (m.zE.drop (k + 1)) ((x.zR.getD k []).drop (k + 1)) (idM D)
   rw [← hword _ t1,← r1,zFq]
   rfl
  ·rw [List.getElem?_drop] at hc
   have hq:k + 1 + q < m.zE.length:=by
    rcases Nat.lt_or_ge (k + 1 + q) m.zE.length with g | g
    ·exact g
    ·rw [List.getElem?_eq_none g] at hc;simp at hc
   have hcm:c = m.zE.getD (k + 1 + q) []:=by rw [List.getD_eq_getElem?_getD,hc];rfl
   have hdm:dd = ((x.zB.getD k []).getD q []).drop (k + 1):=by
    simp only [lvl,List.getElem?_map] at hd
    rw [List.getD_eq_getElem?_getD]
    cases hg:(x.zB.getD k [])[q]? with
    | none => rw [hg] at hd;simp at hd
    | some u => rw [hg] at hd;simp only [Option.map_some,Option.some.injEq] at hd;exact hd.symm
   have:=r2 (k + 1 + q) (by omega) (by omega)
   rw [show k + 1 + q - (k + 1) = q from by omega] at this
   rw [hcm,hdm,this,hword _ (t3 q (by omega))]
end
end Go.Pl

namespace Go.Pl
open Go Go.Ab Go.Wk Go.Pc
end Go.Pl

namespace Go.Pl
open Go Go.Ab Go.Wk Go.Pc
end Go.Pl

namespace Go.Pl
open Go Go.Ab Go.Wk Go.Pc
end Go.Pl

namespace Go.Pl
open Go Go.Ab Go.Wk Go.Pc
end Go.Pl

namespace Go.Pl
open Go Go.Ab Go.Wk Go.Pc
end Go.Pl

namespace Go.Pl
open Go Go.Ab Go.Wk Go.Pc
end Go.Pl

namespace Go.Pl
open Go Go.Ab Go.Wk Go.Pc
end Go.Pl
