import PyProof.Rows.All
import Wide.All
import OpenK.AllK
import Wide.FinOn
import Lean
import PySem.Challenge.RW_sj0181_01
set_option Elab.async false
set_option genSizeOf false
set_option backward.match.sparseCases false
namespace Mine.Pl
inductive Msg where
 |hello (b:Bool)|i0 (s:Nat)|ans (s t k:Nat)|i1 (t:Nat)|dat (t k:Nat)
 deriving DecidableEq
inductive Ss where
 |down|init|exst|exch (t k:Nat)|full (t k:Nat)
inductive Ms where
 |down|init|exst|exch (k s:Nat)|full (s:Nat)
structure W where
 n0:Nat
 n1:Nat
 S:Ss
 M:Ms
 l0:List Msg
 l1:List Msg
noncomputable def K (s t:Nat):Nat:=max 1 (max ((t+1)%4) (s%4-1))
theorem K_pos(s t:Nat):1<=K s t:=by unfold K; omega
theorem K_le(s t:Nat):K s t<=3:=by unfold K; omega
noncomputable def W.newS (w:W):W:={ w with n0:=w.n0+1,S:=.exst,l1:=w.l1++[.i0 (w.n0+1)] }
noncomputable def W.newM (w:W):W:={ w with n1:=w.n1+1,M:=.exst,l0:=w.l0++[.i1 (w.n1+1)] }
noncomputable def fullS (n0 t k:Nat):Ss:=if k=K n0 t then .full t k else .exch t k
noncomputable def W.comeS (w:W) (m:Msg):W:=match m with
 | .hello true=>match w.S with
  | .down=>w.newS
  | .init=>w.newS
  |_=>w
 | .hello false=>{ w with S:=.init }
 | .i1 t=>match w.S with
  | .exst=>{ w with S:=.exch t 0,l1:=w.l1++[.ans w.n0 t 0] }
  | .exch t' k'=>if t=t'/\k'=0 then { w with l1:=w.l1++[.ans w.n0 t 0] } else w.newS
  | .full _ _=>w.newS
  |_=>w
 | .dat t k=>match w.S with
  | .exch t' k'=>if t=t'/\k=k' then { w with l1:=w.l1++[.ans w.n0 t k] }
   else if t=t'/\k=k'+1 then { w with S:=fullS w.n0 t k,l1:=w.l1++[.ans w.n0 t k] } else w.newS
  | .full t' k'=>if t=t'/\k=k' then { w with l1:=w.l1++[.ans w.n0 t k] } else w.newS
  |_=>w
 |_=>w
noncomputable def W.comeM (w:W) (m:Msg):W:=match m with
 | .hello true=>match w.M with
  | .down=>w.newM
  | .init=>w.newM
  |_=>w
 | .hello false=>{ w with M:=.init }
 | .i0 _=>match w.M with
  | .exch _ _=>w.newM
  | .full _=>w.newM
  |_=>w
 | .ans s t k=>match w.M with
  | .exst=>if t=w.n1/\k=0 then { w with M:=.exch 1 s,l0:=w.l0++[.dat t 1] } else w
  | .exch k' s'=>if t=w.n1/\k+1=k' then w
   else if t=w.n1/\k=k' then (if k'=K s' t then { w with M:=.full s' } else { w with M:=.exch (k'+1) s',l0:=w.l0++[.dat t (k'+1)] })
   else w.newM
  | .full s'=>if t=w.n1/\k=K s' t then w else w.newM
  |_=>w
 |_=>w
noncomputable def W.helloS (w:W):W:={ w with l1:=w.l1++[.hello (match w.S with | .down=>false|_=>true)] }
noncomputable def W.helloM (w:W):W:={ w with l0:=w.l0++[.hello (match w.M with | .down=>false|_=>true)] }
noncomputable def W.againS (w:W):W:=match w.S with
 | .exst=>{ w with l1:=w.l1++[.i0 w.n0] }
 |_=>w
noncomputable def W.againM (w:W):W:=match w.M with
 | .exst=>{ w with l0:=w.l0++[.i1 w.n1] }
 | .exch k _=>{ w with l0:=w.l0++[.dat w.n1 k] }
 |_=>w
noncomputable def W.goneS (w:W):W:=({ w with S:=.down }).helloS
noncomputable def W.goneM (w:W):W:=({ w with M:=.down }).helloM
noncomputable def key:Msg->Option Nat
 | .i1 t=>some (4*t)
 | .dat t k=>some (4*t+k)
 |_=>none
noncomputable def keys (l:List Msg):List Nat:=l.filterMap key
noncomputable def ahead:List Msg->List Nat
 |[]=>[]
 |m::l=>if Msg.hello false∈l then (match key m with|some x=>x::ahead l|none=>ahead l) else []
noncomputable def fresh (n:Nat):List Msg->List (Nat × Nat)
 |[]=>[]
 | .hello false::_=>[]
 | .ans s t k::l=>if t=n then (s,k)::fresh n l else fresh n l
 |_::l=>fresh n l
noncomputable def metc:Ss->Option Nat
 | .exch t k=>some (4*t+k)
 | .full t k=>some (4*t+k)
 |_=>none
noncomputable def live:Ms->Prop
 | .down=>False
 | .init=>False
 |_=>True
noncomputable def idx (n1:Nat):Ms->Nat
 | .exch k _=>k
 | .full s=>K s n1
 |_=>0
noncomputable def acc (n1:Nat):Ms->List (Nat × Nat)
 | .exch k s=>[(s,k-1)]
 | .full s=>[(s,K s n1)]
 |_=>[]
noncomputable def W.done (w:W):List (Nat × Nat):=acc w.n1 w.M++fresh w.n1 w.l1
noncomputable def ok0 (n1:Nat):Msg->Prop
 | .hello _=>True
 | .i1 t=>1<=t/\t<=n1
 | .dat t k=>1<=t/\t<=n1/\1<=k/\k<=3
 |_=>False
noncomputable def ok1 (n0 n1:Nat):Msg->Prop
 | .hello _=>True
 | .i0 s=>1<=s/\s<=n0
 | .ans s t k=>1<=s/\s<=n0/\1<=t/\t<=n1/\k<=3
 |_=>False
noncomputable def okS (n0 n1:Nat):Ss->Prop
 | .exst=>1<=n0
 | .exch t k=>1<=n0/\1<=t/\t<=n1/\k<K n0 t
 | .full t k=>1<=n0/\1<=t/\t<=n1/\k=K n0 t
 |_=>True
noncomputable def okM (n0 n1:Nat):Ms->Prop
 | .exst=>1<=n1
 | .exch k s=>1<=n1/\1<=s/\s<=n0/\1<=k/\k<=K s n1
 | .full s=>1<=n1/\1<=s/\s<=n0
 |_=>True
structure Inv (w:W):Prop where
 a:∀ m∈w.l0,ok0 w.n1 m
 b:∀ m∈w.l1,ok1 w.n0 w.n1 m
 s:okS w.n0 w.n1 w.S
 m:okM w.n0 w.n1 w.M
 srt:(keys w.l0).Pairwise (·<=·)
 met:∀ y,metc w.S=some y->∀ x∈keys w.l0,y<=x
 c:live w.M->∀ x∈keys w.l0,x<=4*w.n1+idx w.n1 w.M
 j:live w.M->∀ y,metc w.S=some y->y<=4*w.n1+idx w.n1 w.M
 t1:live w.M->Msg.hello false∈w.l0->∀ y,metc w.S=some y->y<4*w.n1
 t2:live w.M->∀ x∈ahead w.l0,x<4*w.n1
 f1:live w.M->∀ p∈w.done,∀ q∈w.done,p.1=q.1
 f2:live w.M->(w.done.map (·.2)).Pairwise (·<=·)
 f3:live w.M->∀ p∈w.done,p.2<=idx w.n1 w.M
 g:live w.M->Msg.hello false∉w.l1->∀ p∈w.done,p.1=w.n0/\∃ y,metc w.S=some y/\4*w.n1+p.2<=y/\4*w.n1+idx w.n1 w.M<=y+1
 h1:live w.M->∀ p∈w.done,Msg.hello false∉w.l0/\∀ x∈keys w.l0,4*w.n1+p.2<=x
 h2:live w.M->∀ p∈w.done,∀ y,metc w.S=some y->4*w.n1+p.2<=y/\(1<=p.2->w.n0=p.1)
theorem Inv.match_{w:W} (I:Inv w) {t k s:Nat} (hS:w.S=.full t k) (hM:w.M=.full s):t=w.n1/\s=w.n0:=by
 have hl:live w.M:=by rw [hM]; trivial
 have hp:(s,K s w.n1)∈w.done:=by unfold W.done; rw [hM]; exact .head _
 obtain⟨h1,h2⟩:=I.h2 hl _ hp (4*t+k) (by rw [hS]; rfl);have hK:=K_pos s w.n1;have hj:=I.j hl (4*t+k) (by rw [hS]; rfl)
 have hi:idx w.n1 w.M=K s w.n1:=by rw [hM]; rfl
 have hs:=I.s;rw [hS] at hs;obtain⟨_,_,h5,h6⟩:=hs
 have:=K_le w.n0 t
 have:=K_le s w.n1
 dsimp only at h1 h2;refine⟨by grind,(h2 hK).symm⟩
end Mine.Pl
namespace Mine.Pl
theorem zEe(m:Msg) (l:List Msg):keys (m::l)=(match key m with|some x=>x::keys l|none=>keys l):=by
 unfold keys; rw [List.filterMap_cons]; cases key m<;>rfl
theorem zIg(l:List Msg) (m:Msg):keys (l++[m])=keys l++(match key m with|some x=>[x]|none=>[]):=by
 unfold keys; rw [List.filterMap_append,List.filterMap_cons]; cases key m<;>rfl
theorem zRi{l l':List Msg} (h:l'.Sublist l):(keys l').Sublist (keys l):=h.filterMap _
theorem key_mem{l:List Msg} {x:Nat}:x∈keys l↔∃ m∈l,key m=some x:=by
 unfold keys; rw [List.mem_filterMap]
theorem ahead_keys{l:List Msg} {x:Nat} (h:x∈ahead l):x∈keys l:=by
 induction l with
 |nil=>exact h
 |cons m l ih =>
  rw [zEe]; unfold ahead at h
  split at h
  ·cases hk:key m with
   |none=>rw [hk] at h; exact ih h
   |some y=>rw [hk] at h; exact (List.mem_cons.mp h).elim (λe=>e▸.head _) (λe=>.tail _ (ih e))
  ·cases h
theorem zLh{m:Msg} {l:List Msg} {x:Nat} (h:x∈ahead l):x∈ahead (m::l):=by
 have hf:Msg.hello false∈l:=by
  cases l with
  |nil=>cases h
  |cons a l =>
   unfold ahead at h
   by_cases hc:Msg.hello false∈l
   ·exact .tail _ hc
   ·rw [if_neg hc] at h; cases h
 unfold ahead; rw [if_pos hf]
 cases key m<;>first|exact h|exact .tail _ h
theorem ahead_head{m:Msg} {l:List Msg} {x:Nat} (hk:key m=some x) (h:Msg.hello false∈l):x∈ahead (m::l):=by
 unfold ahead; rw [if_pos h,hk]; exact .head _
theorem zJv{l:List Msg} {m:Msg} (hm:m≠.hello false):ahead (l++[m])=ahead l:=by
 induction l with
 |nil=>rw [List.nil_append]; unfold ahead; rw [if_neg (by simp)]
 |cons a l ih =>
  rw [List.cons_append]; unfold ahead; rw [ih]
  by_cases h:Msg.hello false∈l
  ·rw [if_pos h,if_pos (List.mem_append_left _ h)]
  ·rw [if_neg h,if_neg (by simp [h,Ne.symm hm])]
theorem zJl{n s t k:Nat} {l:List Msg}:fresh n (.ans s t k::l)=if t=n then (s,k)::fresh n l else fresh n l:=rfl
theorem zFl{n:Nat} {l:List Msg} (h:Msg.hello false∈l) (m:Msg):fresh n (l++[m])=fresh n l:=by
 induction l with
 |nil=>cases h
 |cons a l ih =>
  rcases List.mem_cons.mp h with h'|h'
  ·subst h'; rfl
  ·rw [List.cons_append]
   cases a with
   |hello b=>cases b; rfl; exact ih h'
   |i0 s=>exact ih h'
   |ans s t k=>rw [zJl,zJl,ih h']
   |i1 t=>exact ih h'
   |dat t k=>exact ih h'
theorem zJk{n:Nat} {l:List Msg} (h:Msg.hello false∉l) (m:Msg):fresh n (l++[m])=fresh n l++fresh n [m]:=by
 induction l with
 |nil=>rfl
 |cons a l ih =>
  have h':Msg.hello false∉l:=λe=>h (.tail _ e);rw [List.cons_append]
  cases a with
  |hello b=>cases b; exact absurd (.head _) h; exact ih h'
  |i0 s=>exact ih h'
  |ans s t k =>
   show (if t=n then _ else _)=(if t=n then _ else _)++_;rw [ih h']; split<;>rfl
  |i1 t=>exact ih h'
  |dat t k=>exact ih h'
theorem zEf{n:Nat} {l:List Msg} {m:Msg} (h:fresh n [m]=[]):fresh n (l++[m])=fresh n l:=by
 by_cases hf:Msg.hello false∈l
 ·exact zFl hf m
 ·rw [zJk hf,h,List.append_nil]
theorem fresh_pop{n:Nat} {m:Msg} {l:List Msg} (h:m≠.hello false):(fresh n l).Sublist (fresh n (m::l)):=by
 cases m with
 |hello b=>cases b; exact absurd rfl h; exact List.Sublist.refl _
 |i0 s=>exact List.Sublist.refl _
 |ans s t k=>show (fresh n l).Sublist (if t=n then _ else _); split; exact List.sublist_cons_self _ _; exact List.Sublist.refl _
 |i1 t=>exact List.Sublist.refl _
 |dat t k=>exact List.Sublist.refl _
theorem fresh_none{n:Nat} {l:List Msg} (h:∀ s t k,Msg.ans s t k∈l->t≠n):fresh n l=[]:=by
 induction l with
 |nil=>rfl
 |cons a l ih =>
  have ih':=ih λs t k e=>h s t k (.tail _ e)
  cases a with
  |hello b=>cases b; rfl; exact ih'
  |i0 s=>exact ih'
  |ans s t k=>rw [zJl,if_neg (h s t k (.head _)),ih']
  |i1 t=>exact ih'
  |dat t k=>exact ih'
theorem Inv.dead{w:W} (hl:¬ live w.M) (a:∀ m∈w.l0,ok0 w.n1 m) (b:∀ m∈w.l1,ok1 w.n0 w.n1 m)
  (s:okS w.n0 w.n1 w.S) (m:okM w.n0 w.n1 w.M) (srt:(keys w.l0).Pairwise (·<=·))
  (met:∀ y,metc w.S=some y->∀ x∈keys w.l0,y<=x):Inv w :=
 ⟨a,b,s,m,srt,met,λh=>absurd h hl,λh=>absurd h hl,λh=>absurd h hl,λh=>absurd h hl,λh=>absurd h hl,
  λh=>absurd h hl,λh=>absurd h hl,λh=>absurd h hl,λh=>absurd h hl,λh=>absurd h hl⟩
noncomputable def W.zero:W:=⟨0,0,.down,.down,[],[]⟩
theorem Inv.zero:Inv .zero :=
 .dead (λh=>h) (λ_ h=>nomatch h) (λ_ h=>nomatch h) trivial trivial .nil (λ_ h=>nomatch h)
theorem Inv.pop0{w:W} (I:Inv w) {m:Msg} {l':List Msg} (h:w.l0=m::l'):Inv { w with l0:=l' }:=by
 have hs:(keys l').Sublist (keys w.l0):=zRi (h▸List.sublist_cons_self _ _);have hm:∀ x,x∈l'->x∈w.l0:=λx e=>h▸.tail _ e
 exact⟨λx e=>I.a x (hm x e),I.b,I.s,I.m,I.srt.sublist hs,λy e x ex=>I.met y e x (hs.subset ex),
  λhl x e=>I.c hl x (hs.subset e),I.j,λhl e=>I.t1 hl (hm _ e),λhl x e=>I.t2 hl x (h▸zLh e),
  I.f1,I.f2,I.f3,I.g,λhl p e=>⟨λe'=>(I.h1 hl p e).1 (hm _ e'),λx ex=>(I.h1 hl p e).2 x (hs.subset ex)⟩,I.h2⟩
theorem Inv.pop1{w:W} (I:Inv w) {m:Msg} {l':List Msg} (h:w.l1=m::l') (hne:m≠.hello false):Inv { w with l1:=l' }:=by
 have hm:∀ x,x∈l'->x∈w.l1:=λx e=>h▸.tail _ e
 have hd:(W.done { w with l1:=l' }).Sublist w.done:=by
  unfold W.done; rw [h]; exact (List.Sublist.refl _).append (fresh_pop hne)
 exact⟨I.a,λx e=>I.b x (hm x e),I.s,I.m,I.srt,I.met,I.c,I.j,I.t1,I.t2,
  λhl p e q e'=>I.f1 hl p (hd.subset e) q (hd.subset e'),λhl=>(I.f2 hl).sublist (hd.map _),λhl p e=>I.f3 hl p (hd.subset e),
  λhl hf p e=>I.g hl (λe'=>(List.mem_cons.mp (h▸e')).elim (λx=>hne x.symm) hf) p (hd.subset e),
  λhl p e=>I.h1 hl p (hd.subset e),λhl p e=>I.h2 hl p (hd.subset e)⟩
theorem Inv.put1{w:W} (I:Inv w) {m:Msg} (ho:ok1 w.n0 w.n1 m) (hf:fresh w.n1 [m]=[]):Inv { w with l1:=w.l1++[m] }:=by
 have hd:W.done { w with l1:=w.l1++[m] }=w.done:=by
  unfold W.done; exact congrArg _ (zEf hf)
 refine⟨I.a,λx e=>?_,I.s,I.m,I.srt,I.met,I.c,I.j,I.t1,I.t2,?_,?_,?_,?_,?_,?_⟩
 ·rcases List.mem_append.mp e with e|e
  ·exact I.b x e
  ·rw [List.mem_singleton.mp e]; exact ho
 ·rw [hd]; exact I.f1
 ·rw [hd]; exact I.f2
 ·rw [hd]; exact I.f3
 ·rw [hd]; exact λhl hf p e=>I.g hl (λe'=>hf (List.mem_append_left _ e')) p e
 ·rw [hd]; exact I.h1
 ·rw [hd]; exact I.h2
theorem Inv.put0h{w:W} (I:Inv w):Inv { w with l0:=w.l0++[.hello true] }:=by
 have hk:keys (w.l0++[.hello true])=keys w.l0:=by rw [zIg]; exact List.append_nil _
 have hm:∀ x,x∈w.l0++[Msg.hello true]->x∈w.l0\/x=.hello true:=λx e=>(List.mem_append.mp e).imp id List.mem_singleton.mp;have hf:Msg.hello false∈w.l0++[Msg.hello true]->Msg.hello false∈w.l0:=λe=>(hm _ e).elim id λe=>nomatch e
 refine⟨λx e=>(hm x e).elim (I.a x) (λe=>by rw [e]; trivial),I.b,I.s,I.m,?_,?_,?_,I.j,λhl e=>I.t1 hl (hf e),?_,I.f1,I.f2,I.f3,I.g,λhl p e=>⟨λe'=>(I.h1 hl p e).1 (hf e'),?_⟩,I.h2⟩
 ·exact hk▸I.srt
 ·exact λy e x ex=>I.met y e x (hk▸ex)
 ·exact λhl x ex=>I.c hl x (hk▸ex)
 ·rw [zJv (by simp)]; exact I.t2
 ·exact λx ex=>(I.h1 hl p e).2 x (hk▸ex)
theorem Inv.put0{w:W} (I:Inv w) {m:Msg} (ho:ok0 w.n1 m) (hk:key m=some (4*w.n1+idx w.n1 w.M)) (hl:live w.M):Inv { w with l0:=w.l0++[m] }:=by
 have hk':keys (w.l0++[m])=keys w.l0++[4*w.n1+idx w.n1 w.M]:=by rw [zIg,hk]
 have hn:m≠.hello false:=λe=>by rw [e] at hk; cases hk
 have hm:∀ x,x∈w.l0++[m]->x∈w.l0\/x=m:=λx e=>(List.mem_append.mp e).imp id List.mem_singleton.mp;have hf:Msg.hello false∈w.l0++[m]->Msg.hello false∈w.l0:=λe=>(hm _ e).elim id λe=>absurd e.symm hn;have hx:∀ x,x∈keys (w.l0++[m])->x∈keys w.l0\/x=4*w.n1+idx w.n1 w.M:=λx e=>(List.mem_append.mp (hk'▸e)).imp id List.mem_singleton.mp
 refine⟨λx e=>(hm x e).elim (I.a x) (λe=>e▸ho),I.b,I.s,I.m,?_,?_,?_,I.j,λhl e=>I.t1 hl (hf e),?_,I.f1,I.f2,I.f3,I.g,λhl p e=>⟨λe'=>(I.h1 hl p e).1 (hf e'),?_⟩,I.h2⟩
 ·show (keys (w.l0++[m])).Pairwise _;rw [hk']; exact List.pairwise_append.mpr ⟨I.srt,List.pairwise_singleton _ _,λx ex y ey=>by rw [List.mem_singleton.mp ey]; exact I.c hl x ex⟩
 ·exact λy e x ex=>(hx x ex).elim (I.met y e x) (λe'=>e'▸I.j hl y e)
 ·exact λhl x ex=>(hx x ex).elim (I.c hl x) (λe=>e▸Nat.le_refl _)
 ·rw [zJv hn]; exact I.t2
 ·exact λx ex=>(hx x ex).elim ((I.h1 hl p e).2 x) (λe'=>e'▸Nat.add_le_add_left (I.f3 hl p e) _)
end Mine.Pl
set_option backward.match.sparseCases true
namespace Mine.Pl
theorem okS.mono{n0 n1:Nat} {S:Ss} (h:okS n0 n1 S):okS n0 (n1+1) S:=by
 cases S<;>first|exact h|exact⟨h.1,h.2.1,Nat.le_succ_of_le h.2.2.1,h.2.2.2⟩
theorem okM.mono{n0 n1:Nat} {M:Ms} (h:okM n0 n1 M):okM (n0+1) n1 M:=by
 cases M with
 |down=>trivial
 |init=>trivial
 |exst=>exact h
 |exch k s=>exact⟨h.1,h.2.1,Nat.le_succ_of_le h.2.2.1,h.2.2.2⟩
 |full s=>exact⟨h.1,h.2.1,Nat.le_succ_of_le h.2.2⟩
theorem ok0.mono{n1:Nat} {m:Msg} (h:ok0 n1 m):ok0 (n1+1) m:=by
 cases m with
 |hello b=>trivial
 |i0 s=>exact h
 |ans s t k=>exact h
 |i1 t=>exact⟨h.1,Nat.le_succ_of_le h.2⟩
 |dat t k=>exact⟨h.1,Nat.le_succ_of_le h.2.1,h.2.2⟩
theorem ok1.mono{n0 n1:Nat} {m:Msg} (h:ok1 n0 n1 m):ok1 (n0+1) n1 m/\ok1 n0 (n1+1) m:=by
 cases m with
 |hello b=>exact⟨trivial,trivial⟩
 |i0 s=>exact⟨⟨h.1,Nat.le_succ_of_le h.2⟩,h⟩
 |ans s t k=>exact⟨⟨h.1,Nat.le_succ_of_le h.2.1,h.2.2⟩,⟨h.1,h.2.1,h.2.2.1,Nat.le_succ_of_le h.2.2.2.1,h.2.2.2.2⟩⟩
 |i1 t=>exact⟨h,h⟩
 |dat t k=>exact⟨h,h⟩
theorem ok0.key{n1:Nat} {m:Msg} {x:Nat} (h:ok0 n1 m) (hk:key m=some x):4<=x/\x<=4*n1+3:=by
 cases m with
 |i1 t=>obtain⟨h1,h2⟩:=h; cases hk; grind
 |dat t k=>obtain⟨h1,h2,h3,h4⟩:=h; cases hk; grind
 |_=>cases hk
theorem Inv.keyle{w:W} (I:Inv w) {x:Nat} (h:x∈keys w.l0):x<=4*w.n1+3:=by
 obtain⟨m,hm,hk⟩:=key_mem.mp h;exact ((I.a m hm).key hk).2
theorem okS.metle{n0 n1:Nat} {S:Ss} (h:okS n0 n1 S) {y:Nat} (hy:metc S=some y):y<=4*n1+3:=by
 cases S with
 |exch t k=>obtain⟨h1,h2,h3,h4⟩:=h; have:=K_le n0 t; cases hy; grind
 |full t k=>obtain⟨h1,h2,h3,h4⟩:=h; have:=K_le n0 t; cases hy; grind
 |_=>cases hy
theorem Inv.newS{w:W} (I:Inv w) (h:live w.M->Msg.hello false∉w.l1->w.done=[]):Inv w.newS:=by
 have hd:W.done w.newS=w.done:=by
  unfold W.done W.newS; exact congrArg _ (zEf rfl)
 refine⟨I.a,λx e=>?_,Nat.succ_pos _,I.m.mono,I.srt,(λ_ e=>nomatch e),I.c,(λ_ _ e=>nomatch e),(λ_ _ _ e=>nomatch e),I.t2,hd▸I.f1,hd▸I.f2,hd▸I.f3,?_,hd▸I.h1,(λ_ _ _ _ e=>nomatch e)⟩
 ·rcases List.mem_append.mp e with e|e
  ·exact (I.b x e).mono.1
  ·rw [List.mem_singleton.mp e]; exact⟨Nat.succ_pos _,Nat.le_refl _⟩
 ·intro hl hf p e;rw [hd,h hl λe'=>hf (List.mem_append_left _ e')] at e;cases e
theorem Inv.newM{w:W} (I:Inv w):Inv w.newM:=by
 have hd:W.done w.newM=[]:=by
  unfold W.done W.newM;refine (List.nil_append _).trans (fresh_none λs t k e=>?_)
  have:=(I.b _ e).2.2.2.1
  show t≠w.n1+1
  grind
 have hk':keys w.newM.l0=keys w.l0++[4*(w.n1+1)]:=by unfold W.newM; rw [zIg]; rfl
 have hx:∀ x,x∈keys w.newM.l0->x∈keys w.l0\/x=4*(w.n1+1):=λx e=>(List.mem_append.mp (hk'▸e)).imp id List.mem_singleton.mp
 refine⟨λx e=>?_,λx e=>(I.b x e).mono.2,I.s.mono,Nat.succ_pos _,?_,?_,?_,?_,?_,?_,?_,?_,?_,?_,?_,?_⟩
 ·rcases List.mem_append.mp e with e|e
  ·exact (I.a x e).mono
  ·rw [List.mem_singleton.mp e]; exact⟨Nat.succ_pos _,Nat.le_refl _⟩
 ·rw [hk']; exact List.pairwise_append.mpr ⟨I.srt,List.pairwise_singleton _ _,λx ex y ey=>by rw [List.mem_singleton.mp ey]; have:=I.keyle ex; lia⟩
 ·intro y e x ex
  rcases hx x ex with ex|ex
  ·exact I.met y e x ex
  ·have:=I.s.metle e; lia
 ·intro _ x ex;show x<=4*(w.n1+1)+0
  rcases hx x ex with ex|ex
  ·have:=I.keyle ex; lia
  ·grind
 ·intro _ y e;show y<=4*(w.n1+1)+0
  have:=I.s.metle e; grind
 ·intro _ _ y e;show y<4*(w.n1+1)
  have:=I.s.metle e; lia
 ·intro _ x ex;show x<4*(w.n1+1);unfold W.newM at ex;rw [zJv (by simp)] at ex
  have:=I.keyle (ahead_keys ex); grind
 all_goals rw [hd]
 ·exact λ_ _ e=>nomatch e
 ·exact λ_=>.nil
 ·exact λ_ _ e=>nomatch e
 ·exact λ_ _ _ e=>nomatch e
 ·exact λ_ _ e=>nomatch e
 ·exact λ_ _ e=>nomatch e
theorem idx_none{w:W} (hl:live w.M) (h:acc w.n1 w.M=[]):idx w.n1 w.M=0:=by
 cases hM:w.M with
 |exst=>rfl
 |exch k s=>rw [hM] at h; cases h
 |full s=>rw [hM] at h; cases h
 |_=>rw [hM] at hl; cases hl
theorem Inv.answer{w:W} (I:Inv w) {m:Msg} {r l':List Msg} {t k:Nat} {S':Ss} (h:w.l0=m::r) (hl':l'=r\/l'=w.l0)
  (hk:key m=some (4*t+k)) (hk3:k<=3) (ht:1<=t/\t<=w.n1) (hS:metc S'=some (4*t+k)) (hok:okS w.n0 w.n1 S') (hn0:1<=w.n0)
  (hnew:metc w.S=none->k=0):Inv { w with S:=S',l0:=l',l1:=w.l1++[.ans w.n0 t k] }:=by
 have hhead:4*t+k∈keys w.l0:=by rw [h,zEe,hk]; exact .head _
 have hrest:∀ x∈keys w.l0,4*t+k<=x:=by
  intro x ex;have hs:=I.srt;rw [h,zEe,hk] at hs;rw [h,zEe,hk] at ex
  rcases List.mem_cons.mp ex with e|e
  ·exact Nat.le_of_eq e.symm
  ·exact (List.pairwise_cons.mp hs).1 x e
 have hsub:l'.Sublist w.l0:=by
  rcases hl' with e|e
  ·rw [e,h]; exact List.sublist_cons_self _ _
  ·rw [e]; exact List.Sublist.refl _
 have hks:=zRi hsub
 have hnm:m≠.hello false:=λe=>by rw [e] at hk; cases hk
 have hf0:Msg.hello false∈l'->Msg.hello false∈r:=λe=>by
  have:=hsub.subset e
  rw [h] at this;exact (List.mem_cons.mp this).elim (λe=>absurd e.symm hnm) id
 have hah:∀ x,x∈ahead l'->x∈ahead w.l0:=by
  intro x ex
  rcases hl' with e|e
  ·rw [h]; exact zLh (e▸ex)
  ·exact e▸ex
 have hthead:live w.M->Msg.hello false∈r->4*t+k<4*w.n1:=λhl e=>I.t2 hl _ (h▸ahead_head hk e);have hmet:∀ y,metc w.S=some y->y<=4*t+k:=λy e=>I.met y e _ hhead
 have hdone:(Msg.hello false∈w.l1\/t≠w.n1)/\acc w.n1 w.M++fresh w.n1 (w.l1++[.ans w.n0 t k])=w.done \/
   Msg.hello false∉w.l1/\t=w.n1/\acc w.n1 w.M++fresh w.n1 (w.l1++[.ans w.n0 t k])=w.done++[(w.n0,k)]:=by
  by_cases hf:Msg.hello false∈w.l1
  ·exact .inl ⟨.inl hf,by rw [zFl hf]; rfl⟩
  ·by_cases e:t=w.n1
   ·refine .inr ⟨hf,e,?_⟩;rw [zJk hf,<-List.append_assoc];exact congrArg _ (if_pos e)
   ·refine .inl ⟨.inr e,?_⟩;rw [zJk hf,<-List.append_assoc];exact (congrArg _ (if_neg e)).trans (List.append_nil _)
 have old:live w.M->∀ p∈w.done,(Msg.hello false∉w.l1->p.1=w.n0/\4*w.n1+idx w.n1 w.M<=4*t+k+1)/\4*w.n1+p.2<=4*t+k/\(1<=p.2->w.n0=p.1):=by
  intro hl p ep;have h1:=(I.h1 hl p ep).2 _ hhead
  refine⟨λhf=>?_,h1,λhp=>?_⟩
  ·obtain⟨g1,y,g2,g3,g4⟩:=I.g hl hf p ep
   have:=hmet y g2
   exact⟨g1,by lia⟩
  ·cases hm:metc w.S with
   |none=>have:=hnew hm; grind
   |some y=>exact (I.h2 hl p ep y hm).2 hp
 have hidx:live w.M->Msg.hello false∉w.l1->t=w.n1->idx w.n1 w.M<=k+1:=by
  intro hl hf et
  cases hd:w.done with
  |nil=>rw [idx_none hl (List.append_eq_nil_iff.mp hd).1]; grind
  |cons p ps=>have:=((old hl p (hd▸.head _)).1 hf).2; grind
 have mem:∀ p,p∈W.done { w with S:=S',l0:=l',l1:=w.l1++[.ans w.n0 t k] }->p∈w.done\/Msg.hello false∉w.l1/\t=w.n1/\p=(w.n0,k):=by
  intro p ep
  rcases hdone with⟨_,e⟩|⟨hf,et,e⟩
  ·exact .inl ((congrArg (p∈·) e).mp ep)
  ·exact (List.mem_append.mp ((congrArg (p∈·) e).mp ep)).imp id λe=>⟨hf,et,List.mem_singleton.mp e⟩
 refine⟨λx e=>I.a x (hsub.subset e),λx e=>?_,hok,I.m,I.srt.sublist hks,λy e x ex=>?_,λhl x e=>I.c hl x (hks.subset e),λhl y e=>?_,λhl e y e'=>?_,
  λhl x e=>I.t2 hl x (hah x e),?_,?_,?_,?_,?_,?_⟩
 ·rcases List.mem_append.mp e with e|e
  ·exact I.b x e
  ·rw [List.mem_singleton.mp e]; exact⟨hn0,Nat.le_refl _,ht.1,ht.2,hk3⟩
 ·have:y=4*t+k:=Option.some.inj (e.symm.trans hS)
  rw [this]; exact hrest x (hks.subset ex)
 ·have:y=4*t+k:=Option.some.inj (e.symm.trans hS)
  rw [this]; exact I.c hl _ hhead
 ·have:y=4*t+k:=Option.some.inj (e'.symm.trans hS)
  rw [this]; exact hthead hl (hf0 e)
 ·intro hl p ep q eq
  rcases mem p ep with ep|⟨hf,et,ep⟩<;>rcases mem q eq with eq|⟨hf',et',eq⟩
  ·exact I.f1 hl p ep q eq
  ·rw [eq]; exact ((old hl p ep).1 hf').1
  ·rw [ep]; exact ((old hl q eq).1 hf).1.symm
  ·rw [ep,eq]
 ·intro hl
  rcases hdone with⟨_,e⟩|⟨hf,et,e⟩
  ·exact (congrArg (λl:List (Nat × Nat)=>(l.map (·.2)).Pairwise (·<=·)) e).mpr (I.f2 hl)
  ·refine (congrArg (λl:List (Nat × Nat)=>(l.map (·.2)).Pairwise (·<=·)) e).mpr ?_;show ((w.done++[(w.n0,k)]).map (·.2)).Pairwise (·<=·);rw [List.map_append];refine List.pairwise_append.mpr ⟨I.f2 hl,List.pairwise_singleton _ _,λx ex y ey=>?_⟩;obtain⟨p,ep,e⟩:=List.mem_map.mp ex;rw [List.mem_singleton.mp ey,<-e]
   have:=(old hl p ep).2.1
   show p.2<=k
   grind
 ·intro hl p ep
  rcases mem p ep with ep|⟨hf,et,ep⟩
  ·exact I.f3 hl p ep
  ·have:=I.c hl _ hhead
   rw [ep];show k<=idx w.n1 w.M
   grind
 ·intro hl hf p ep;have hf':Msg.hello false∉w.l1:=λe=>hf (List.mem_append_left _ e)
  refine⟨?_,_,hS,?_⟩
  ·rcases mem p ep with ep|⟨_,et,ep⟩
   ·exact ((old hl p ep).1 hf').1
   ·rw [ep]
  ·show 4*w.n1+p.2<=4*t+k/\4*w.n1+idx w.n1 w.M<=4*t+k+1
   rcases mem p ep with ep|⟨_,et,ep⟩
   ·exact⟨(old hl p ep).2.1,((old hl p ep).1 hf').2⟩
   ·have:=hidx hl hf' et
    rw [ep];refine⟨?_,by lia⟩;show 4*w.n1+k<=_
    grind
 ·intro hl p ep
  rcases mem p ep with ep|⟨_,et,ep⟩
  ·exact⟨λe=>(I.h1 hl p ep).1 (hsub.subset e),λx ex=>(I.h1 hl p ep).2 x (hks.subset ex)⟩
  ·refine⟨λe=>?_,λx ex=>?_⟩
   ·have:=hthead hl (hf0 e)
    grind
   ·have:=hrest x (hks.subset ex)
    rw [ep];show 4*w.n1+k<=x
    grind
 ·intro hl p ep y e
  have:y=4*t+k:=Option.some.inj (e.symm.trans hS)
  rw [this]
  rcases mem p ep with ep|⟨_,et,ep⟩
  ·exact (old hl p ep).2
  ·rw [ep];refine⟨?_,λ_=>rfl⟩;show 4*w.n1+k<=_
   grind
end Mine.Pl
namespace Mine.Pl
theorem Inv.initS{w:W} (I:Inv w) (hh:Msg.hello false∈w.l0):Inv { w with S:=.init } :=
 ⟨I.a,I.b,trivial,I.m,I.srt,(λ_ e=>nomatch e),I.c,(λ_ _ e=>nomatch e),(λ_ _ _ e=>nomatch e),I.t2,I.f1,I.f2,I.f3,
  (λhl _ p ep=>absurd hh (I.h1 hl p ep).1),I.h1,(λ_ _ _ _ e=>nomatch e)⟩
theorem Inv.nw{w:W} (I:Inv w) {x y:Nat} (ey:metc w.S=some y) (hx:x∈keys w.l0) (hne:live w.M->Msg.hello false∉w.l1->w.done≠[]->x≠y/\x≠y+1) (hl:live w.M) (hf:Msg.hello false∉w.l1):w.done=[]:=by
 cases hd:w.done with
 |nil=>rfl
 |cons p ps =>
  obtain⟨_,y',ey',g2,g3⟩:=I.g hl hf p (hd▸.head _);cases ey.symm.trans ey';have h4:=I.met _ ey _ hx;have h5:=I.c hl _ hx;have h6:=hne hl hf (hd▸nofun);clear g2 I hne;lia
theorem Inv.nw1{w:W} (I:Inv w) {t y:Nat} (ey:metc w.S=some y) (hx:4*t∈keys w.l0) (ht:t<=w.n1) (hne:y≠4*t) (hl:live w.M) (hf:Msg.hello false∉w.l1):w.done=[]:=by
 cases hd:w.done with
 |nil=>rfl
 |cons p ps =>
  obtain⟨_,y',ey',g2,g3⟩:=I.g hl hf p (hd▸.head _);cases ey.symm.trans ey';have h4:=I.met _ ey _ hx;clear g3 I;lia
theorem Inv.idxK{w:W} (I:Inv w) (hl:live w.M) (hf:Msg.hello false∉w.l1):idx w.n1 w.M<=K w.n0 w.n1:=by
 have g:=I.g hl hf;have m:=I.m;unfold W.done at g;clear hf I
 cases hM:w.M with
 |exst=>exact Nat.zero_le _
 |exch k s=>rw [hM] at g m; exact (g (s,k-1) (.head _)).1▸m.2.2.2.2
 |full s=>rw [hM] at g; exact (g (s,K s w.n1) (.head _)).1▸Nat.le_refl _
 |down=>rw [hM] at hl; exact hl.elim
 |init=>rw [hM] at hl; exact hl.elim
theorem Inv.nwf{w:W} (I:Inv w) {t k t' k':Nat} (ey:metc w.S=some (4*t'+k')) (hx:4*t+k∈keys w.l0) (h1:1<=k) (h3:k<=3) (ht:t'<=w.n1) (hk:k'=K w.n0 t') (hc:¬(t=t'/\k=k')) (hl:live w.M) (hf:Msg.hello false∉w.l1) (hd:w.done≠[]) :
  4*t+k≠4*t'+k'/\4*t+k≠4*t'+k'+1:=by
 have hmet:=I.met _ ey _ hx;have hc':=I.c hl _ hx;have kl:=K_le w.n0 t'
 cases hd':w.done with
 |nil=>exact absurd hd' hd
 |cons p ps =>
  obtain⟨_,y',ey',g2,_⟩:=I.g hl hf p (hd'▸.head _);cases ey.symm.trans ey';have q:=I.idxK hl hf;clear I hd hd' hx ey ey' hf hl
  have et:t'=w.n1:=by clear hc hmet hc' q h1; lia
  subst et;clear g2 ht;lia
theorem ne4{t k t' k' m:Nat} (h1:1<=k) (h3:k<=3) (hm:m<=3) (hk:k'<m) (hc:¬(t=t'/\k=k')) (hc':¬(t=t'/\k=k'+1)):4*t+k≠4*t'+k'/\4*t+k≠4*t'+k'+1:=by lia
theorem ne0{t t' k' m:Nat} (hm:m<=3) (hk:k'<m) (hc:¬(t=t'/\k'=0)):4*t'+k'≠4*t:=by lia
theorem ne1{t t' k' m:Nat} (hm:m<=3) (h1:1<=m) (hk:k'=m):4*t'+k'≠4*t:=by lia
theorem Inv.comeS{w:W} (I:Inv w) {m:Msg} {r l':List Msg} (h:w.l0=m::r) (hl':l'=r\/l'=w.l0) :
  Inv (({ w with l0:=l' }:W).comeS m):=by
 obtain⟨n0,n1,S,M,l0,l1⟩:=w;dsimp only at h hl';have J:Inv (⟨n0,n1,S,M,l',l1⟩:W):=hl'.elim (λe=>e▸I.pop0 h) (λe=>e▸I);have hm:ok0 n1 m:=I.a m (h▸.head _);have hs:=I.s
 have hkm:∀ x,key m=some x->x∈keys l0:=λx e=>by rw [h,zEe,e]; exact .head _
 cases m with
 |hello b =>
  cases b with
  |false =>
   have K:=I.initS (h▸.head _);exact hl'.elim (λe=>e▸K.pop0 h) (λe=>e▸K)
  |true =>
   have hg:metc S=none->live M->Msg.hello false∉l1->(W.done ⟨n0,n1,S,M,l0,l1⟩)=[]:=by
    intro e hl hf
    cases hd:(W.done ⟨n0,n1,S,M,l0,l1⟩) with
    |nil=>rfl
    |cons p ps =>
     obtain⟨_,y,ey,_⟩:=I.g hl hf p (hd▸.head _);exact nomatch e.symm.trans ey
   clear I h hl' hm hs hkm
   cases S with
   |down=>exact J.newS (hg rfl)
   |init=>exact J.newS (hg rfl)
   |_=>exact J
 |i0 s=>exact absurd hm id
 |ans s t k=>exact absurd hm id
 |i1 t =>
  obtain⟨h1,h2⟩:=hm;have hx:=hkm _ rfl;clear hkm
  cases S with
  |down=>exact J
  |init=>exact J
  |exst=>exact I.answer h hl' (k:=0) rfl (Nat.zero_le 3) ⟨h1,h2⟩ (by rfl) ⟨hs,h1,h2,K_pos _ _⟩ (hs) (λ_=>rfl)
  |exch t' k' =>
   show Inv (if t=t'/\k'=0 then _ else _)
   by_cases hc:t=t'/\k'=0
   ·rw [if_pos hc];obtain⟨rfl,rfl⟩:=hc;exact I.answer h hl' (k:=0) (S':=.exch t 0) rfl (Nat.zero_le 3) ⟨h1,h2⟩ rfl hs hs.1 (λ_=>rfl)
   ·rw [if_neg hc];exact J.newS (I.nw1 rfl hx h2 (ne0 (K_le n0 t') hs.2.2.2 hc))
  |full t' k'=>exact J.newS (I.nw1 rfl hx h2 (ne1 (K_le n0 t') (K_pos n0 t') hs.2.2.2))
 |dat t k =>
  obtain⟨h1,h2,h3,h4⟩:=hm;have hx:=hkm _ rfl;clear hkm
  cases S with
  |down=>exact J
  |init=>exact J
  |exst=>exact J
  |exch t' k' =>
   show Inv (if t=t'/\k=k' then _ else if t=t'/\k=k'+1 then _ else _)
   by_cases hc:t=t'/\k=k'
   ·rw [if_pos hc];obtain⟨rfl,rfl⟩:=hc;exact I.answer h hl' (S':=.exch t k) rfl h4 ⟨h1,h2⟩ rfl hs hs.1 (nofun)
   ·rw [if_neg hc]
    by_cases hc':t=t'/\k=k'+1
    ·rw [if_pos hc'];obtain⟨rfl,rfl⟩:=hc'
     refine I.answer h hl' (S':=fullS n0 t (k'+1)) rfl h4 ⟨h1,h2⟩ ?_ ?_ hs.1 (nofun)<;>clear I J h hl' hx<;>unfold fullS<;>by_cases q:k'+1=K n0 t
     ·rw [if_pos q]; rfl
     ·rw [if_neg q]; rfl
     ·rw [if_pos q]; exact⟨hs.1,hs.2.1,hs.2.2.1,q⟩
     ·rw [if_neg q]; exact⟨hs.1,hs.2.1,hs.2.2.1,Nat.lt_of_le_of_ne hs.2.2.2 q⟩
    ·rw [if_neg hc'];exact J.newS (I.nw rfl hx (λ_ _ _=>ne4 h3 h4 (K_le n0 t') hs.2.2.2 hc hc'))
  |full t' k' =>
   show Inv (if t=t'/\k=k' then _ else _)
   by_cases hc:t=t'/\k=k'
   ·rw [if_pos hc];obtain⟨rfl,rfl⟩:=hc;exact I.answer h hl' (S':=.full t k) rfl h4 ⟨h1,h2⟩ rfl hs hs.1 (nofun)
   ·rw [if_neg hc];exact J.newS (I.nw rfl hx (I.nwf rfl hx h3 h4 hs.2.2.1 hs.2.2.2 hc))
end Mine.Pl
namespace Mine.Pl
theorem Inv.adv{w:W} (I:Inv w) {m:Msg} {r l':List Msg} {M':Ms} (h:w.l1=m::r) (hl':l'=r\/l'=w.l1) (hne:m≠.hello false)
  (hl:live w.M) (hok:okM w.n0 w.n1 M') (hi:idx w.n1 w.M<=idx w.n1 M')
  (hD:∀ p,p∈acc w.n1 M'++fresh w.n1 l'->p∈w.done) (hs:((acc w.n1 M'++fresh w.n1 l').map (·.2)).Pairwise (·<=·))
  {p0:Nat × Nat} (hp0:p0∈w.done) (hi0:idx w.n1 M'<=p0.2+1):Inv { w with M:=M',l1:=l' }:=by
 have hm:∀ x,x∈l'->x∈w.l1:=λx e=>hl'.elim (λe'=>h▸.tail _ (e'▸e)) (λe'=>e'▸e)
 have hf:Msg.hello false∉l'->Msg.hello false∉w.l1:=λe e'=>by
  rcases hl' with e1|e1
  ·rw [h] at e'; exact (List.mem_cons.mp e').elim (λx=>hne x.symm) (λx=>e (e1▸x))
  ·exact e (e1▸e')
 refine⟨I.a,λx e=>I.b x (hm x e),I.s,hok,I.srt,I.met,λ_ x ex=>Nat.le_trans (I.c hl x ex) (Nat.add_le_add_left hi _),
  λ_ y ey=>Nat.le_trans (I.j hl y ey) (Nat.add_le_add_left hi _),λ_=>I.t1 hl,λ_=>I.t2 hl,λ_ p e q e'=>I.f1 hl p (hD p e) q (hD q e'),
  λ_=>hs,λ_ p e=>Nat.le_trans (I.f3 hl p (hD p e)) hi,λ_ hf' p e=>?_,λ_ p e=>I.h1 hl p (hD p e),λ_ p e=>I.h2 hl p (hD p e)⟩
 obtain⟨g1,y,g2,g3,g4⟩:=I.g hl (hf hf') p0 hp0;obtain⟨g1',y',g2',g3',g4'⟩:=I.g hl (hf hf') p (hD p e);cases g2.symm.trans g2';refine⟨g1',y,g2,g3',?_⟩;show 4*w.n1+idx w.n1 M'<=y+1
 grind
theorem Inv.comeM{w:W} (I:Inv w) {m:Msg} {r l':List Msg} (h:w.l1=m::r) (hl':l'=r\/l'=w.l1) :
  Inv (({ w with l1:=l' }:W).comeM m):=by
 obtain⟨n0,n1,S,M,l0,l1⟩:=w;dsimp only at h hl';have hmem:∀ x,x∈l'->x∈l1:=λx e=>hl'.elim (λe'=>h▸.tail _ (e'▸e)) (λe'=>e'▸e)
 by_cases hne:m=.hello false
 ·subst hne;exact .dead id I.a (λx e=>I.b x (hmem x e)) I.s trivial I.srt I.met
 have J:Inv (⟨n0,n1,S,M,l0,l'⟩:W):=by
  rcases hl' with e|e
  ·subst e; exact I.pop1 h hne
  ·subst e; exact I
 have hm:ok1 n0 n1 m:=I.b m (h▸.head _)
 cases m with
 |hello b =>
  cases b with
  |false=>exact absurd rfl hne
  |true=>cases M<;>first|exact J|exact J.newM
 |i1 t=>exact absurd hm id
 |dat t k=>exact absurd hm id
 |i0 s=>cases M<;>first|exact J|exact J.newM
 |ans s t k =>
  obtain⟨h1,h2,h3,h4,h5⟩:=hm
  have hin:t=n1->fresh n1 l1=(s,k)::fresh n1 r:=λe=>by
   rw [h]; exact if_pos e
  have hfr:t=n1->fresh n1 l'=fresh n1 r\/fresh n1 l'=(s,k)::fresh n1 r:=λe=>hl'.imp (λe'=>by rw [e']) (λe'=>by rw [e',hin e])
  have go:∀ (A:List (Nat × Nat)) (M':Ms),t=n1->acc n1 M=A->acc n1 M'=[(s,k)]->live M->okM n0 n1 M'->idx n1 M<=idx n1 M'->idx n1 M'<=k+1 ->
    Inv (⟨n0,n1,S,M',l0,l'⟩:W):=by
   intro A M' et hA hA' hl hok hi hi'
   have hd:W.done ⟨n0,n1,S,M,l0,l1⟩=A++(s,k)::fresh n1 r:=by
    unfold W.done; rw [hA,hin et]
   have f2:=I.f2 hl;rw [hd,List.map_append] at f2;have f2':=(List.pairwise_append.mp f2).2.1
   refine I.adv h hl' hne hl hok hi ?_ ?_ (p0:=(s,k)) (hd▸List.mem_append_right _ (.head _)) hi'
   ·intro p ep;show p∈W.done _;rw [hd];refine List.mem_append_right _ ?_;have ep:p∈acc n1 M'++fresh n1 l':=ep;rw [hA'] at ep
    rcases List.mem_cons.mp ep with e|e
    ·exact e▸.head _
    ·rcases hfr et with e'|e'
     ·exact .tail _ (e'▸e)
     ·exact e'▸e
   ·show ((acc n1 M'++fresh n1 l').map (·.2)).Pairwise (·<=·);rw [hA']
    rcases hfr et with e'|e'
    ·rw [e']; exact f2'
    ·rw [e'];refine List.pairwise_cons.mpr ⟨λx ex=>?_,f2'⟩
     rcases List.mem_cons.mp ex with e|e
     ·exact Nat.le_of_eq e.symm
     ·exact (List.pairwise_cons.mp f2').1 x e
  cases M with
  |down=>exact J
  |init=>exact J
  |exst =>
   show Inv (if t=n1/\k=0 then _ else _)
   split
   ·rename_i hc;obtain⟨et,rfl⟩:=hc
    have:=go [] (.exch 1 s) et rfl rfl trivial ⟨by grind,h1,h2,by grind,K_pos _ _⟩ (by decide:0<=1) (by decide:1<=1)
    subst et;exact this.put0 (m:=.dat t 1) ⟨h3,h4,by grind,by grind⟩ rfl trivial
   ·exact J
  |exch k' s' =>
   show Inv (if t=n1/\k+1=k' then _ else if t=n1/\k=k' then (if k'=K s' t then _ else _) else _)
   split
   ·exact J
   ·split
    ·rename_i hc;obtain⟨et,rfl⟩:=hc
     have es:s'=s:=I.f1 trivial (s',k-1) (.head _) (s,k) (.tail _ (by
      show (s,k)∈fresh n1 l1
      rw [hin et]; exact .head _))
     obtain⟨m1,m2,m3,m4,m5⟩:=I.m;dsimp only at m1 m2 m3 m4 m5;have kl:=K_le s' n1;subst es et
     split
     ·rename_i hk
      refine go [(s',k-1)] (.full s') rfl rfl ?_ trivial ⟨by grind,m2,m3⟩ ?_ ?_
      ·show [(s',K s' t)]=_; rw [<-hk]
      ·show k<=K s' t; omega
      ·show K s' t<=k+1; grind
     ·rename_i hk
      have:=go [(s',k-1)] (.exch (k+1) s') rfl rfl rfl trivial ⟨by grind,m2,m3,by grind,by lia⟩ (Nat.le_succ _) (Nat.le_refl _)
      exact this.put0 (m:=.dat t (k+1)) ⟨h3,h4,by grind,by lia⟩ rfl trivial
    ·exact J.newM
  |full s' =>
   show Inv (if t=n1/\k=K s' t then _ else _)
   split
   ·exact J
   ·exact J.newM
end Mine.Pl
namespace Mine.Pl
theorem Inv.goneS'{w:W} (I:Inv w):Inv { w with S:=.down,l1:=w.l1++[.hello false] }:=by
 have hd:W.done { w with S:=.down,l1:=w.l1++[.hello false] }=w.done:=by
  unfold W.done; exact congrArg _ (zEf rfl)
 refine⟨I.a,λx e=>?_,trivial,I.m,I.srt,(λ_ e=>nomatch e),I.c,(λ_ _ e=>nomatch e),(λ_ _ _ e=>nomatch e),I.t2,hd▸I.f1,hd▸I.f2,hd▸I.f3,?_,hd▸I.h1,(λ_ _ _ _ e=>nomatch e)⟩
 ·rcases List.mem_append.mp e with e|e
  ·exact I.b x e
  ·rw [List.mem_singleton.mp e]; exact trivial
 ·exact λ_ hf=>absurd (List.mem_append_right _ (.head _)) hf
theorem Inv.goneM'{w:W} (I:Inv w):Inv { w with M:=.down,l0:=w.l0++[.hello false] }:=by
 have hk:keys (w.l0++[.hello false])=keys w.l0:=by rw [zIg]; exact List.append_nil _
 refine .dead id (λx e=>?_) I.b I.s trivial (hk▸I.srt) (λy e x ex=>I.met y e x (hk▸ex))
 rcases List.mem_append.mp e with e|e
 ·exact I.a x e
 ·rw [List.mem_singleton.mp e]; exact trivial
theorem Inv.helloS{w:W} (I:Inv w):Inv w.helloS:=by
 obtain⟨n0,n1,S,M,l0,l1⟩:=w
 cases S with
 |down=>exact I.goneS'
 |_=>exact I.put1 (m:=.hello true) trivial rfl
theorem Inv.helloM{w:W} (I:Inv w):Inv w.helloM:=by
 obtain⟨n0,n1,S,M,l0,l1⟩:=w
 cases M with
 |down=>exact I.goneM'
 |_=>exact I.put0h
theorem Inv.goneS{w:W} (I:Inv w):Inv w.goneS:=I.goneS'
theorem Inv.goneM{w:W} (I:Inv w):Inv w.goneM:=I.goneM'
theorem Inv.againS{w:W} (I:Inv w):Inv w.againS:=by
 obtain⟨n0,n1,S,M,l0,l1⟩:=w
 cases S with
 |exst=>exact I.put1 (m:=.i0 n0) ⟨I.s,Nat.le_refl _⟩ rfl
 |_=>exact I
theorem Inv.againM{w:W} (I:Inv w):Inv w.againM:=by
 obtain⟨n0,n1,S,M,l0,l1⟩:=w
 cases M with
 |exst=>exact I.put0 (m:=.i1 n1) ⟨I.m,Nat.le_refl _⟩ rfl trivial
 |exch k s =>
  obtain⟨m1,m2,m3,m4,m5⟩:=I.m
  have:=K_le s n1
  exact I.put0 (m:=.dat n1 k) ⟨m1,Nat.le_refl _,m4,Nat.le_trans m5 this⟩ rfl trivial
 |_=>exact I
noncomputable def W.deed (w:W) (f:Nat) (at1:Bool):W :=
 if f=7 then (if at1 then w.goneM else w.goneS)
 else if f=6 then (if at1 then w.againM else w.againS)
 else match (if at1 then w.l1 else w.l0) with
  |[]=>if at1 then w.helloM else w.helloS
  |m::r =>
   if f<3 then (if at1 then ({ w with l1:=r }:W).comeM m else ({ w with l0:=r }:W).comeS m)
   else if f=3 then (if at1 then w.comeM m else w.comeS m)
   else if f=4/\m≠.hello false then (if at1 then { w with l1:=r } else { w with l0:=r })
   else (if at1 then w.helloM else w.helloS)
theorem Inv.deed{w:W} (I:Inv w) (f:Nat) (at1:Bool):Inv (w.deed f at1):=by
 unfold W.deed
 split
 ·cases at1 with
  |true=>exact I.goneM
  |false=>exact I.goneS
 split
 ·cases at1 with
  |true=>exact I.againM
  |false=>exact I.againS
 cases at1 with
 |true =>
  show Inv (match w.l1 with|[]=>_|m::r=>_)
  split
  ·exact I.helloM
  rename_i m r h
  split
  ·exact I.comeM h (.inl rfl)
  split
  ·exact I.comeM (l':=w.l1) h (.inr rfl)
  split
  ·rename_i hc;exact I.pop1 h hc.2
  ·exact I.helloM
 |false =>
  show Inv (match w.l0 with|[]=>_|m::r=>_)
  split
  ·exact I.helloS
  rename_i m r h
  split
  ·exact I.comeS h (.inl rfl)
  split
  ·exact I.comeS (l':=w.l0) h (.inr rfl)
  split
  ·exact I.pop0 h
  ·exact I.helloS
end Mine.Pl
set_option backward.match.sparseCases false
namespace Mine.Pl
noncomputable def stepM (n1:Nat) (M:Ms) (m:Msg):W:=(⟨0,n1,.down,M,[],[]⟩:W).comeM m
theorem ifP{α:Type} {C:α->Prop} {c:Prop} [Decidable c] {a b:α} (p:C a) (q:C b):C (if c then a else b):=by
 by_cases h:c
 ·rw [if_pos h]; exact p
 ·rw [if_neg h]; exact q
theorem zOs{C:W->Prop} {w:W} {m:Msg} (same:C w) (new:C w.newS) (st:∀ S,C { w with S:=S }) (put:∀ S x,C { w with S:=S,l1:=w.l1++[x] }):C (w.comeS m):=by
 obtain⟨n0,n1,S,M,l0,l1⟩:=w
 cases m with
 |hello b=>cases b with
  |false=>exact st .init
  |true=>cases S with
   |down=>exact new
   |init=>exact new
   |_=>exact same
 |i0 s=>exact same
 |ans s t k=>exact same
 |i1 t=>cases S with
  |down=>exact same
  |init=>exact same
  |exst=>exact put (.exch t 0) _
  |exch t' k'=>exact ifP (c:=t=t'/\k'=0) (put (.exch t' k') _) new
  |full t' k'=>exact new
 |dat t k=>cases S with
  |exch t' k'=>exact ifP (c:=t=t'/\k=k') (put (.exch t' k') _) (ifP (put _ _) new)
  |full t' k'=>exact ifP (c:=t=t'/\k=k') (put (.full t' k') _) new
  |_=>exact same
theorem zOu{C:W->Prop} {w:W} {m:Msg} (same:C w) (new:C w.newM) (st:∀ M,C { w with M:=M }) (put:∀ M x,C { w with M:=M,l0:=w.l0++[x] }):C (w.comeM m):=by
 obtain⟨n0,n1,S,M,l0,l1⟩:=w
 cases m with
 |hello b=>cases b with
  |false=>exact st .init
  |true=>cases M with
   |down=>exact new
   |init=>exact new
   |_=>exact same
 |i1 t=>exact same
 |dat t k=>exact same
 |i0 s=>cases M with
  |exch k s'=>exact new
  |full s'=>exact new
  |_=>exact same
 |ans s t k=>cases M with
  |down=>exact same
  |init=>exact same
  |exst=>exact ifP (c:=t=n1/\k=0) (put (.exch 1 s) _) same
  |exch k' s'=>exact ifP (c:=t=n1/\k+1=k') same (ifP (c:=t=n1/\k=k') (ifP (c:=k'=K s' t) (st _) (put _ _)) new)
  |full s'=>exact ifP (c:=t=n1/\k=K s' t) same new
theorem iteE{α β:Type} {c:Prop} [Decidable c] {f:α->β} {a b:α} {a' b':β} (p:a'=f a) (q:b'=f b):(if c then a' else b')=f (if c then a else b):=by
 by_cases h:c
 ·rw [if_pos h,if_pos h]; exact p
 ·rw [if_neg h,if_neg h]; exact q
theorem zNh(w:W) (m:Msg):w.comeM m=⟨w.n0,(stepM w.n1 w.M m).n1,w.S,(stepM w.n1 w.M m).M,w.l0++(stepM w.n1 w.M m).l0,w.l1⟩:=by
 obtain⟨n0,n1,S,M,l0,l1⟩:=w
 have e0:∀ M,(⟨n0,n1,S,M,l0,l1⟩:W)=⟨n0,n1,S,M,l0++[],l1⟩:=λM=>by rw [List.append_nil]
 cases m with
 |hello b =>
  cases b with
  |false=>exact e0 .init
  |true=>cases M with
   |down=>rfl
   |init=>rfl
   |_=>exact e0 _
 |i1 t=>exact e0 _
 |dat t k=>exact e0 _
 |i0 s=>cases M with
  |exch=>rfl
  |full=>rfl
  |_=>exact e0 _
 |ans s t k =>
  let f:W->W:=λv=>⟨n0,v.n1,S,v.M,l0++v.l0,l1⟩
  cases M with
  |down=>exact e0 _
  |init=>exact e0 _
  |exst=>exact iteE (f:=f) (c:=t=n1/\k=0) rfl (e0 _)
  |exch k' s'=>exact iteE (f:=f) (c:=t=n1/\k+1=k') (e0 _) (iteE (f:=f) (c:=t=n1/\k=k') (iteE (f:=f) (c:=k'=K s' t) (e0 _) rfl) rfl)
  |full s'=>exact iteE (f:=f) (c:=t=n1/\k=K s' t) (e0 _) rfl
noncomputable def endv:Ms->Nat
 | .exst=>6
 | .exch k _=>2*(3-k)
 |_=>0
noncomputable def R (n1:Nat) (M:Ms):List Msg->Nat
 |[]=>endv M
 |m::l=>1+2*(stepM n1 M m).l0.length+R (stepM n1 M m).n1 (stepM n1 M m).M l
theorem endv_le(M:Ms):endv M<=6:=by cases M<;>simp only [endv]<;>lia
theorem zQx(n1:Nat) (M:Ms) (m:Msg):(stepM n1 M m).l0.length<=1 :=
 zOu (C:=λv=>v.l0.length<=1) (Nat.zero_le _) (Nat.le_refl _) (λ_=>Nat.zero_le _) λ_ _=>Nat.le_refl _
theorem R_le(l:List Msg):∀ n1 M,R n1 M l<=3*l.length+6:=by
 induction l with
 |nil=>exact λ_ M=>endv_le M
 |cons m l ih =>
  intro n1 M;have h1:=zQx n1 M m;have h2:=ih (stepM n1 M m).n1 (stepM n1 M m).M;show 1+2*(stepM n1 M m).l0.length+R (stepM n1 M m).n1 (stepM n1 M m).M l<=3*(l.length+1)+6;lia
noncomputable def Resp (n0:Nat) (S:Ss) (m:Msg):Prop :=
 m=.i0 n0/\S=.exst\/∃ t k,m=.ans n0 t k/\metc S=some (4*t+k)/\k<=3
theorem ifD{α:Type} {C:α->Prop} {c:Prop} [Decidable c] {a b:α} (p:c->C a) (q:¬c->C b):C (if c then a else b):=by
 by_cases h:c
 ·rw [if_pos h]; exact p h
 ·rw [if_neg h]; exact q h
noncomputable def Costs (n:Nat) (v:W):Prop:=1+2*v.l0.length+endv v.M<=n
theorem R_one{n0 n1 t k:Nat} {S:Ss} {M:Ms} {l0 l1:List Msg} (I:Inv ⟨n0,n1,S,M,l0,l1⟩) (hf:Msg.hello false∉l1) (hmet:metc S=some (4*t+k)) (hk:k<=3):Costs (endv M+1) (stepM n1 M (.ans n0 t k)):=by
 cases M with
 |down=>exact Nat.le_refl _
 |init=>exact Nat.le_refl _
 |exst=>exact ifD (C:=Costs 7) (c:=t=n1/\k=0) (λ_=>Nat.le_refl _) (λ_=>Nat.le_refl _)
 |exch k' s' =>
  obtain⟨_,y,e,g2,g3⟩:=I.g trivial hf (s',k'-1) (.head _);cases hmet.symm.trans e;have hj:4*t+k<=4*n1+k':=I.j trivial _ hmet;have m5:k'<=K s' n1:=I.m.2.2.2.2;have kl:=Nat.le_trans m5 (K_le s' n1);have g2:4*n1+(k'-1)<=4*t+k:=g2;have g3:4*n1+k'<=4*t+k+1:=g3;clear I hf hmet e
  refine ifD (C:=Costs (2*(3-k')+1)) (c:=t=n1/\k+1=k') (λ_=>Nat.le_of_eq (Nat.add_comm _ _)) λhc=>ifD (C:=Costs (2*(3-k')+1)) (c:=t=n1/\k=k') (λhc'=>ifD (C:=Costs (2*(3-k')+1)) (c:=k'=K s' t) (λ_=>Nat.le_add_left _ _) λhc''=>?_) λhc'=>?_
  ·obtain⟨rfl,rfl⟩:=hc';have h:k<3:=Nat.lt_of_lt_of_le (Nat.lt_of_le_of_ne m5 hc'') (K_le s' t);show 1+2*1+2*(3-(k+1))<=2*(3-k)+1;clear hc hj g2 g3 hc'' m5; lia
  ·exfalso; lia
 |full s' =>
  obtain⟨_,y,e,g2,g3⟩:=I.g trivial hf (s',K s' n1) (.head _);cases hmet.symm.trans e;have hj:4*t+k<=4*n1+K s' n1:=I.j trivial _ hmet;have kl:=K_le s' n1;have kp:=K_pos s' n1;have g2:4*n1+K s' n1<=4*t+k:=g2;clear I hf hmet e g3;refine ifD (C:=Costs 1) (c:=t=n1/\k=K s' t) (λ_=>Nat.le_refl _) λhc=>(hc ?_).elim
  have:t=n1:=by clear hc; lia
  subst this;exact⟨rfl,by lia⟩
theorem R_app{m:Msg} (l:List Msg):∀ {w:W},Inv w->w.l1=l++[m]->Resp w.n0 w.S m->R w.n1 w.M (l++[m])<=R w.n1 w.M l+1:=by
 induction l with
 |nil =>
  intro w I h hr;obtain⟨n0,n1,S,M,l0,l1⟩:=w;dsimp only at h hr ⊢
  have hf:Msg.hello false∉l1:=by
   rw [h]; intro e
   have:=List.mem_singleton.mp e
   rcases hr with⟨hr,_⟩|⟨t,k,hr,_⟩<;>rw [hr] at this<;>cases this
  show 1+2*(stepM n1 M m).l0.length+endv (stepM n1 M m).M<=endv M+1
  rcases hr with⟨rfl,rfl⟩|⟨t,k,rfl,hmet,hk⟩
  ·cases M with
   |exch k s =>
    obtain⟨_,y,e,_⟩:=I.g trivial hf (s,k-1) (.head _);cases e
   |full s =>
    obtain⟨_,y,e,_⟩:=I.g trivial hf (s,K s n1) (.head _);cases e
   |_=>exact Nat.le_of_eq (Nat.add_comm _ _)
  ·exact R_one I hf hmet hk
 |cons a l ih =>
  intro w I h hr;have J:=I.comeM (l':=l++[m]) (h.trans List.cons_append) (.inl rfl);rw [zNh] at J
  have:=ih J rfl hr
  show 1+2*(stepM w.n1 w.M a).l0.length+R (stepM w.n1 w.M a).n1 (stepM w.n1 w.M a).M (l++[m])<=1+2*(stepM w.n1 w.M a).l0.length+R (stepM w.n1 w.M a).n1 (stepM w.n1 w.M a).M l+1;dsimp only at this;lia
end Mine.Pl
namespace Mine.Pl
noncomputable def W.kick (w:W):W:=w.helloS.againS.helloM.againM
noncomputable def W.turn (w:W):W:=match w.l0 with
 |m::r=>({ w with l0:=r }:W).comeS m
 |[]=>match w.l1 with
  |m::r=>({ w with l1:=r }:W).comeM m
  |[]=>w.helloM
noncomputable def W.isFull (w:W):Bool:=match w.S,w.M with
 | .full _ _,.full _=>true
 |_,_=>false
noncomputable def loop:Nat->W->Bool
 |0,_=>false
 |n+1,w=>if w.l0=[]/\w.l1=[] then (if w.isFull then true else loop n w.kick.turn) else loop n w.turn
noncomputable def Phi (w:W):Nat:=2*w.l0.length+R w.n1 w.M w.l1
theorem Inv.kick{w:W} (I:Inv w):Inv w.kick:=I.helloS.againS.helloM.againM
noncomputable def Form (n1:Nat) (M:Ms) (r l1:List Msg) (v:W):Prop:=∃ n0 S X,v=⟨n0,n1,S,M,r,l1++X⟩/\(X=[]\/∃ a,X=[a]/\Resp n0 S a)
theorem Form.same{n0 n1:Nat} {S:Ss} {M:Ms} {r l1:List Msg}:Form n1 M r l1 ⟨n0,n1,S,M,r,l1⟩:=⟨n0,S,[],by rw [List.append_nil],.inl rfl⟩
theorem Form.new{n0 n1:Nat} {S:Ss} {M:Ms} {r l1:List Msg}:Form n1 M r l1 (W.newS ⟨n0,n1,S,M,r,l1⟩):=⟨n0+1,.exst,_,rfl,.inr ⟨_,rfl,.inl ⟨rfl,rfl⟩⟩⟩
theorem Form.ans{n0 n1:Nat} {S:Ss} {M:Ms} {r l1:List Msg} {t k:Nat} (h1:metc S=some (4*t+k)) (h2:k<=3):Form n1 M r l1 ⟨n0,n1,S,M,r,l1++[.ans n0 t k]⟩:=⟨n0,S,_,rfl,.inr ⟨_,rfl,.inr ⟨t,k,rfl,h1,h2⟩⟩⟩
theorem comeS_form{w:W} (I:Inv w) {m:Msg} {r:List Msg} (h:w.l0=m::r):∃ n0 S X,({ w with l0:=r }:W).comeS m=⟨n0,w.n1,S,w.M,r,w.l1++X⟩ /\
  (X=[]\/∃ a,X=[a]/\Resp n0 S a):=by
 obtain⟨n0,n1,S,M,l0,l1⟩:=w;have hm:ok0 n1 m:=I.a m (h▸.head _);clear I h;show Form n1 M r l1 (W.comeS ⟨n0,n1,S,M,r,l1⟩ m)
 cases m with
 |hello b =>
  cases b with
  |false=>exact Form.same (S:=.init)
  |true=>cases S with
   |down=>exact Form.new
   |init=>exact Form.new
   |_=>exact Form.same
 |i0 s=>exact hm.elim
 |ans s t k=>exact hm.elim
 |i1 t =>
  cases S with
  |down=>exact Form.same
  |init=>exact Form.same
  |exst=>exact Form.ans (S:=.exch t 0) rfl (Nat.zero_le _)
  |exch t' k'=>exact ifD (c:=t=t'/\k'=0) (λhc=>by obtain⟨rfl,rfl⟩:=hc; exact Form.ans rfl (Nat.zero_le _)) λ_=>Form.new
  |full t' k'=>exact Form.new
 |dat t k =>
  have hk:=hm.2.2.2
  cases S with
  |exch t' k' =>
   refine ifD (c:=t=t'/\k=k') (λhc=>by obtain⟨rfl,rfl⟩:=hc; exact Form.ans rfl hk) λ_=>ifD (c:=t=t'/\k=k'+1) (λ_=>Form.ans (S:=fullS n0 t k) ?_ hk) λ_=>Form.new;unfold fullS;exact ifD (C:=λS=>metc S=some (4*t+k)) (λ_=>rfl) λ_=>rfl
  |full t' k'=>exact ifD (c:=t=t'/\k=k') (λhc=>by obtain⟨rfl,rfl⟩:=hc; exact Form.ans rfl hk) λ_=>Form.new
  |_=>exact Form.same
theorem Inv.turn{w:W} (I:Inv w) (h:¬(w.l0=[]/\w.l1=[])):Inv w.turn/\Phi w.turn+1<=Phi w:=by
 unfold W.turn
 split
 ·rename_i m r h0;have J:=I.comeS h0 (.inl rfl);refine⟨J,?_⟩;obtain⟨n0,S,X,e,hX⟩:=comeS_form I h0;rw [e] at J ⊢;unfold Phi;rw [h0];show 2*r.length+R w.n1 w.M (w.l1++X)+1<=2*(r.length+1)+R w.n1 w.M w.l1
  rcases hX with rfl|⟨a,rfl,ha⟩
  ·rw [List.append_nil]; lia
  ·have:R w.n1 w.M (w.l1++[a])<=R w.n1 w.M w.l1+1:=R_app (w:=⟨n0,w.n1,S,w.M,r,w.l1++[a]⟩) w.l1 J rfl ha
   lia
 ·rename_i h0
  split
  ·rename_i m r h1;refine⟨I.comeM h1 (.inl rfl),?_⟩;rw [zNh];unfold Phi;rw [h0,h1];show 2*([]++(stepM w.n1 w.M m).l0).length+R (stepM w.n1 w.M m).n1 (stepM w.n1 w.M m).M r+1<=2*0+(1+2*(stepM w.n1 w.M m).l0.length+R (stepM w.n1 w.M m).n1 (stepM w.n1 w.M m).M r);rw [List.nil_append]; lia
  ·exact absurd ⟨h0,‹_›⟩ h
theorem loop_up{n:Nat}:∀ {w:W},loop n w=true->loop (n+1) w=true:=by
 induction n with
 |zero=>exact λh=>nomatch h
 |succ n ih =>
  intro w h;unfold loop at h ⊢
  by_cases he:w.l0=[]/\w.l1=[]
  ·rw [if_pos he] at h ⊢
   by_cases hf:w.isFull=true
   ·rw [if_pos hf]
   ·rw [if_neg hf] at h ⊢; exact ih h
  ·rw [if_neg he] at h ⊢; exact ih h
theorem loop_mono{n k:Nat} {w:W} (h:loop n w=true):loop (n+k) w=true:=by
 induction k with
 |zero=>exact h
 |succ k ih=>exact loop_up ih
theorem loop_to{c:Nat} (hc:∀ w,Inv w->w.l0=[]->w.l1=[]->loop c w=true):∀ n w,Inv w->Phi w<=n->loop (n+c) w=true:=by
 intro n
 induction n with
 |zero =>
  intro w I h
  by_cases he:w.l0=[]/\w.l1=[]
  ·rw [Nat.zero_add]; exact hc w I he.1 he.2
  ·have:=(I.turn he).2; lia
 |succ n ih =>
  intro w I h
  by_cases he:w.l0=[]/\w.l1=[]
  ·rw [Nat.add_comm]; exact loop_mono (hc w I he.1 he.2)
  ·rw [Nat.add_right_comm];unfold loop;rw [if_neg he];exact ih _ (I.turn he).1 (by have:=(I.turn he).2; lia)
end Mine.Pl
set_option backward.match.sparseCases true
namespace Mine.Pl
theorem zP4{n n0 n1 S M m r l1}:loop (n+1) ⟨n0,n1,S,M,m::r,l1⟩=loop n ((⟨n0,n1,S,M,r,l1⟩:W).comeS m):=by
 rw [loop,if_neg (λh=>nomatch h.1)]; rfl
theorem zM0{n n0 n1 S M m r}:loop (n+1) ⟨n0,n1,S,M,[],m::r⟩=loop n ((⟨n0,n1,S,M,[],r⟩:W).comeM m):=by
 rw [loop,if_neg (λh=>nomatch h.2)]; rfl
theorem loop_kick{n n0 n1 S M} (h:(⟨n0,n1,S,M,[],[]⟩:W).isFull=false):loop (n+1) ⟨n0,n1,S,M,[],[]⟩=loop n (⟨n0,n1,S,M,[],[]⟩:W).kick.turn:=by
 rw [loop,if_pos ⟨rfl,rfl⟩,if_neg (by rw [h]; nofun)]
theorem zOg{n n0 n1 t k s}:loop (n+1) ⟨n0,n1,.full t k,.full s,[],[]⟩=true:=by
 rw [loop,if_pos ⟨rfl,rfl⟩,if_pos (by rfl)]
theorem runP(n0 n1 n:Nat):∀ j k,1<=k->k+j=K n0 n1->loop (n+2+2*j) ⟨n0,n1,fullS n0 n1 k,.exch k n0,[],[.ans n0 n1 k]⟩=true:=by
 intro j
 induction j with
 |zero =>
  intro k hk e;have e:k=K n0 n1:=e;rw [show n+2+2*0=n+1+1 from rfl,zM0]
  have:(⟨n0,n1,fullS n0 n1 k,.exch k n0,[],[]⟩:W).comeM (.ans n0 n1 k)=⟨n0,n1,.full n1 k,.full n0,[],[]⟩:=by
   unfold W.comeM fullS; dsimp only;rw [if_neg (by grind),if_pos ⟨rfl,rfl⟩,if_pos e,if_pos e]
  rw [this]; exact zOg
 |succ j ih =>
  intro k hk e;rw [show n+2+2*(j+1)=(n+2+2*j)+1+1 by grind,zM0]
  have:(⟨n0,n1,fullS n0 n1 k,.exch k n0,[],[]⟩:W).comeM (.ans n0 n1 k)=⟨n0,n1,.exch n1 k,.exch (k+1) n0,[.dat n1 (k+1)],[]⟩:=by
   unfold W.comeM fullS; dsimp only;rw [if_neg (by grind),if_pos ⟨rfl,rfl⟩,if_neg (by grind),if_neg (by grind)]; rfl
  rw [this,zP4]
  have:(⟨n0,n1,.exch n1 k,.exch (k+1) n0,[],[]⟩:W).comeS (.dat n1 (k+1))=⟨n0,n1,fullS n0 n1 (k+1),.exch (k+1) n0,[],[.ans n0 n1 (k+1)]⟩:=by
   unfold W.comeS; dsimp only;rw [if_neg (by grind),if_pos ⟨rfl,rfl⟩]; rfl
  rw [this];exact ih (k+1) (by grind) (by lia)
theorem runP'(n0 n1 n k:Nat) (h1:1<=k) (h2:k<=K n0 n1):loop (n+6) ⟨n0,n1,fullS n0 n1 k,.exch k n0,[],[.ans n0 n1 k]⟩=true:=by
 have h3:=K_le n0 n1
 have:=runP n0 n1 (n+4-2*(K n0 n1-k)) (K n0 n1-k) k h1 (by grind)
 rwa [show n+4-2*(K n0 n1-k)+2+2*(K n0 n1-k)=n+6 by lia] at this
theorem runQ(n0 n1 n:Nat):loop (n+8) ⟨n0,n1,.exch n1 0,.exst,[],[.ans n0 n1 0]⟩=true:=by
 rw [zM0]
 have:(⟨n0,n1,.exch n1 0,.exst,[],[]⟩:W).comeM (.ans n0 n1 0)=⟨n0,n1,.exch n1 0,.exch 1 n0,[.dat n1 1],[]⟩:=by
  unfold W.comeM; dsimp only;rw [if_pos ⟨rfl,rfl⟩]; rfl
 rw [this,zP4]
 have:(⟨n0,n1,.exch n1 0,.exch 1 n0,[],[]⟩:W).comeS (.dat n1 1)=⟨n0,n1,fullS n0 n1 1,.exch 1 n0,[],[.ans n0 n1 1]⟩:=by
  unfold W.comeS; dsimp only;rw [if_neg (by grind),if_pos ⟨rfl,rfl⟩]; rfl
 rw [this];exact runP' n0 n1 n 1 (Nat.le_refl _) (K_pos _ _)
theorem st0{n n0 n1 S M m r l1 w} (h:(⟨n0,n1,S,M,r,l1⟩:W).comeS m=w) (h':loop n w=true):loop (n+1) ⟨n0,n1,S,M,m::r,l1⟩=true:=by
 rw [zP4,h]; exact h'
theorem st1{n n0 n1 S M m r w} (h:(⟨n0,n1,S,M,[],r⟩:W).comeM m=w) (h':loop n w=true):loop (n+1) ⟨n0,n1,S,M,[],m::r⟩=true:=by
 rw [zM0,h]; exact h'
theorem stk{n n0 n1 S M w} (h:(⟨n0,n1,S,M,[],[]⟩:W).isFull=false) (h2:(⟨n0,n1,S,M,[],[]⟩:W).kick.turn=w) (h':loop n w=true):loop (n+1) ⟨n0,n1,S,M,[],[]⟩=true:=by
 rw [loop_kick h,h2]; exact h'
theorem q1(n0 n1 n:Nat) (t:Nat) (ht:t=n1):loop (n+8) ⟨n0,n1,.exch t 0,.exst,[],[.ans n0 t 0]⟩=true:=by subst ht; exact runQ n0 t n
theorem zJe(n n0 n1):loop (n+20) ⟨n0,n1,.init,.init,[],[]⟩=true :=
 stk rfl rfl<|st1 rfl<|st0 rfl<|st1 rfl<|runQ _ _ (n+8)
theorem zJf(n n0 n1):loop (n+20) ⟨n0,n1,.exst,.init,[],[]⟩=true :=
 stk rfl rfl<|st1 rfl<|st0 rfl<|st1 rfl<|runQ _ _ (n+8)
theorem zDf(n n0 n1):loop (n+20) ⟨n0,n1,.init,.exst,[],[]⟩=true :=
 stk rfl rfl<|st0 rfl<|st1 rfl<|st1 rfl<|runQ _ _ (n+8)
theorem zDg(n n0 n1):loop (n+20) ⟨n0,n1,.exst,.exst,[],[]⟩=true :=
 stk rfl rfl<|st0 rfl<|st1 rfl<|st1 rfl<|runQ _ _ (n+8)
theorem zQd(n n0 n1):loop (n+20) ⟨n0,n1,.exch n1 0,.exst,[],[]⟩=true :=
 stk rfl rfl<|st0 (if_pos ⟨rfl,rfl⟩)<|st1 rfl<|runQ _ _ (n+9)
theorem zOk(n n0 n1 t k) (h:¬(n1=t/\k=0)):loop (n+40) ⟨n0,n1,.exch t k,.exst,[],[]⟩=true :=
 stk rfl rfl<|st0 (if_neg h)<|st1 rfl<|st1 rfl<|zDg (n+16) _ _
theorem zQa(n n0 n1 t k):loop (n+40) ⟨n0,n1,.full t k,.exst,[],[]⟩=true :=
 stk rfl rfl<|st0 rfl<|st1 rfl<|st1 rfl<|zDg (n+16) _ _
theorem zJg(n n0 n1 t k) (h:t<=n1):loop (n+40) ⟨n0,n1,.exch t k,.init,[],[]⟩=true :=
 stk rfl rfl<|st1 rfl<|st0 (if_neg λh'=>absurd (show n1+1=t from h'.1) (by grind))<|st1 rfl<|zDg (n+16) _ _
theorem zP9(n n0 n1 t k):loop (n+40) ⟨n0,n1,.full t k,.init,[],[]⟩=true :=
 stk rfl rfl<|st1 rfl<|st0 rfl<|st1 rfl<|zDg (n+16) _ _
theorem zQg(n n0 n1):loop (n+40) ⟨n0,n1,.down,.init,[],[]⟩=true :=
 stk rfl rfl<|st1 rfl<|st1 rfl<|zJf (n+17) _ _
theorem zQi(n n0 n1):loop (n+40) ⟨n0,n1,.down,.down,[],[]⟩=true :=
 stk rfl rfl<|st1 rfl<|zJe (n+18) _ _
theorem zQc(n n0 n1):loop (n+40) ⟨n0,n1,.exst,.down,[],[]⟩=true :=
 stk rfl rfl<|st1 rfl<|st0 rfl<|st1 rfl<|zDf (n+16) _ _
theorem zP8(n n0 n1):loop (n+40) ⟨n0,n1,.init,.down,[],[]⟩=true :=
 stk rfl rfl<|st1 rfl<|st0 rfl<|zDf (n+17) _ _
theorem zQf(n n0 n1 t k):loop (n+40) ⟨n0,n1,.exch t k,.down,[],[]⟩=true :=
 stk rfl rfl<|st1 rfl<|st0 rfl<|zDf (n+17) _ _
theorem zQb(n n0 n1 t k):loop (n+40) ⟨n0,n1,.full t k,.down,[],[]⟩=true :=
 stk rfl rfl<|st1 rfl<|st0 rfl<|zDf (n+17) _ _
theorem zQh(n n0 n1):loop (n+60) ⟨n0,n1,.down,.exst,[],[]⟩=true :=
 stk rfl rfl<|st0 rfl<|st1 rfl<|st1 rfl<|st1 rfl<|zJg (n+15) _ _ _ _ (Nat.le_refl _)
theorem zQe(n n0 n1 k) (h:1<=k) (h2:k<=K n0 n1):loop (n+20) ⟨n0,n1,.exch n1 (k-1),.exch k n0,[],[]⟩=true:=by
 refine stk rfl rfl<|st0 (w:=⟨n0,n1,fullS n0 n1 k,.exch k n0,[],[.hello true,.ans n0 n1 k]⟩) ?_<|st1 rfl<|runP' _ _ (n+11) k h h2
 show (⟨n0,n1,.exch n1 (k-1),.exch k n0,[],[.hello true]⟩:W).comeS (.dat n1 k)=_;unfold W.comeS; dsimp only;rw [if_neg (by lia),if_pos (by lia)]; rfl
theorem zJd(n n0 n1 k) (h:1<=k) (h2:k<=K n0 n1):loop (n+20) ⟨n0,n1,fullS n0 n1 k,.exch k n0,[],[]⟩=true:=by
 have h3:=runP' n0 n1 (n+11) k h h2;unfold fullS at h3 ⊢
 split at h3
 ·rename_i e;rw [if_pos e]
  exact stk rfl rfl<|st0 (if_pos ⟨rfl,rfl⟩)<|st1 rfl h3
 ·rename_i e;rw [if_neg e]
  exact stk rfl rfl<|st0 (if_pos ⟨rfl,rfl⟩)<|st1 rfl h3
theorem kicks(w:W) (I:Inv w) (h0:w.l0=[]) (h1:w.l1=[]):loop 60 w=true:=by
 obtain⟨n0,n1,S,M,l0,l1⟩:=w;dsimp only at h0 h1;subst h0 h1;have hs:=I.s;have hm:=I.m
 cases M with
 |down=>cases S with
  |down=>exact zQi 20 _ _
  |init=>exact zP8 20 _ _
  |exst=>exact zQc 20 _ _
  |exch t k=>exact zQf 20 _ _ _ _
  |full t k=>exact zQb 20 _ _ _ _
 |init=>cases S with
  |down=>exact zQg 20 _ _
  |init=>exact zJe 40 _ _
  |exst=>exact zJf 40 _ _
  |exch t k=>exact zJg 20 _ _ _ _ hs.2.2.1
  |full t k=>exact zP9 20 _ _ _ _
 |exst=>cases S with
  |down=>exact zQh 0 _ _
  |init=>exact zDf 40 _ _
  |exst=>exact zDg 40 _ _
  |exch t k =>
   by_cases h:n1=t/\k=0
   ·obtain⟨rfl,rfl⟩:=h;exact zQd 40 _ _
   ·exact zOk 20 _ _ _ _ h
  |full t k=>exact zQa 20 _ _ _ _
 |exch k s =>
  obtain⟨g1,y,e,g2,g3⟩:=I.g trivial (λh=>nomatch h) (s,k-1) (.head _);have hj:=I.j trivial y e;obtain⟨m1,m2,m3,m4,m5⟩:=hm;dsimp only [idx] at g1 g2 g3 hj m1 m2 m3 m4 m5 e;have kl:=K_le s n1;subst g1
  cases S with
  |exch t k' =>
   cases e;obtain⟨s1,s2,s3,s4⟩:=hs;dsimp only at s1 s2 s3 s4;have kl':=K_le s t
   have:t=n1:=by lia
   subst this
   by_cases hk:k'=k
   ·subst hk
    have:=zJd 40 s t k' m4 m5
    unfold fullS at this
    rwa [if_neg (by grind)] at this
   ·have:k'=k-1:=by lia
    rw [this];exact zQe 40 s t k m4 m5
  |full t k' =>
   cases e;obtain⟨s1,s2,s3,s4⟩:=hs;dsimp only at s1 s2 s3 s4;have kl':=K_le s t
   have:t=n1:=by lia
   subst this
   have:k=k':=by lia
   subst this
   have:=zJd 40 s t k m4 m5
   unfold fullS at this
   rwa [if_pos s4] at this
  |_=>cases e
 |full s =>
  obtain⟨g1,y,e,g2,g3⟩:=I.g trivial (λh=>nomatch h) (s,K s n1) (.head _);have hj:=I.j trivial y e;dsimp only [idx] at g1 g2 g3 hj e;have kl:=K_le s n1;subst g1
  cases S with
  |exch t k' =>
   cases e;obtain⟨s1,s2,s3,s4⟩:=hs;dsimp only at s1 s2 s3 s4;have kl':=K_le s t
   have:t=n1:=by grind
   subst this;lia
  |full t k'=>exact zOg
  |_=>cases e
theorem live_of{w:W} (I:Inv w) (h:w.l0.length+w.l1.length<=17):loop 120 w=true:=by
 have h2:=R_le w.l1 w.n1 w.M;refine loop_to (c:=60) kicks 60 w I ?_;unfold Phi; grind
end Mine.Pl
set_option backward.match.sparseCases false
namespace Mine.Pl
noncomputable def W.len (w:W):Nat:=w.l0.length+w.l1.length
theorem len_app{n0 n1:Nat} {S:Ss} {M:Ms} {l0 l1:List Msg} {a:Msg} {w:W} (h0:w.l0=l0) (h1:w.l1=l1):(⟨n0,n1,S,M,l0,l1++[a]⟩:W).len<=w.len+1:=by
 unfold W.len; rw [List.length_append,h0,h1]; exact Nat.le_refl _
theorem zOr(w:W) (m:Msg):(w.comeS m).len<=w.len+1 :=
 zOs (C:=λv=>v.len<=w.len+1) (Nat.le_succ _) (len_app rfl rfl) (λ_=>Nat.le_succ _) λ_ _=>len_app rfl rfl
theorem zOt(w:W) (m:Msg):(w.comeM m).len<=w.len+1:=by
 rw [zNh]
 have:=zQx w.n1 w.M m
 unfold W.len; dsimp only;rw [List.length_append]; lia
theorem zGt(w:W):w.helloS.len<=w.len+1:=by
 unfold W.helloS W.len; dsimp only; rw [List.length_append]; exact Nat.le_refl _
theorem zGu(w:W):w.helloM.len<=w.len+1:=by
 unfold W.helloM W.len; dsimp only; rw [List.length_append,List.length_singleton]; lia
theorem againS_len(w:W):w.againS.len<=w.len+1:=by
 unfold W.againS W.len; split
 ·dsimp only; rw [List.length_append]; exact Nat.le_refl _
 ·lia
theorem againM_len(w:W):w.againM.len<=w.len+1:=by
 unfold W.againM W.len; split
 ·dsimp only; rw [List.length_append,List.length_singleton]; lia
 ·dsimp only; rw [List.length_append,List.length_singleton]; lia
 ·lia
theorem deed_len(w:W) (f:Nat) (at1:Bool):(w.deed f at1).len<=w.len+1:=by
 unfold W.deed
 split
 ·cases at1 with
  |true=>exact zGu { w with M:=.down }
  |false=>exact zGt { w with S:=.down }
 split
 ·cases at1 with
  |true=>exact againM_len w
  |false=>exact againS_len w
 cases at1 with
 |true =>
  show W.len (match w.l1 with|[]=>_|m::r=>_)<=_
  split
  ·exact zGu w
  rename_i m r h
  have hl:({ w with l1:=r }:W).len+1=w.len:=by unfold W.len; rw [h]; rfl
  split
  ·exact Nat.le_trans (zOt _ _) (by lia)
  split
  ·exact zOt _ _
  split
  ·show ({ w with l1:=r }:W).len<=_; lia
  ·exact zGu w
 |false =>
  show W.len (match w.l0 with|[]=>_|m::r=>_)<=_
  split
  ·exact zGt w
  rename_i m r h
  have hl:({ w with l0:=r }:W).len+1=w.len:=by unfold W.len; rw [h]; simp only [List.length_cons]; lia
  split
  ·exact Nat.le_trans (zOr _ _) (by lia)
  split
  ·exact zOr _ _
  split
  ·show ({ w with l0:=r }:W).len<=_; lia
  ·exact zGt w
noncomputable def W.start:W:=⟨1,0,.exst,.init,[],[.i0 1]⟩
theorem Inv.start:Inv .start:=by
 have h1:=Inv.zero.helloS;have h2:=h1.comeM (m:=.hello false) (r:=[]) rfl (.inl rfl);have h3:=h2.helloM;exact h3.comeS (m:=.hello true) (r:=[]) rfl (.inl rfl)
structure Kept (k:Nat) (w:W):Prop where
 inv:Inv w
 len:w.len<=k+1
theorem Kept.start:Kept 0 .start:=⟨.start,Nat.le_refl _⟩
theorem Kept.deed{k:Nat} {w:W} (h:Kept k w) (f:Nat) (at1:Bool):Kept (k+1) (w.deed f at1) :=
 ⟨h.inv.deed f at1,Nat.le_trans (deed_len w f at1) (by have:=h.len; lia)⟩
theorem Kept.live{w:W} (h:Kept 16 w):loop 120 w=true:=live_of h.inv h.len
theorem loop_next{n:Nat} {w:W} (h:loop (n+1) w=true) (he:¬(w.l0=[]/\w.l1=[])):loop n w.turn=true:=by
 rw [loop,if_neg he] at h; exact h
theorem loop_next'{n:Nat} {w:W} (h:loop (n+1) w=true) (he:w.l0=[]/\w.l1=[]) (hf:¬ w.isFull=true):loop n w.kick.turn=true:=by
 rw [loop,if_pos he,if_neg hf] at h; exact h
theorem deed_turn{w:W} (he:¬(w.l0=[]/\w.l1=[])):w.turn=w.deed 0 (w.l0.isEmpty):=by
 obtain⟨n0,n1,S,M,l0,l1⟩:=w
 cases l0 with
 |cons m r=>rfl
 |nil=>cases l1 with
  |cons m r=>rfl
  |nil=>exact absurd ⟨rfl,rfl⟩ he
end Mine.Pl
namespace Mine.Pl
noncomputable def Sz (m:Nat) (w:W):Prop:=w.n0<=m/\w.n1<=m/\w.l0.length<=m/\w.l1.length<=m
theorem Sz.le{m m':Nat} {w:W} (h:Sz m w) (l:m<=m'):Sz m' w:=⟨Nat.le_trans h.1 l,Nat.le_trans h.2.1 l,Nat.le_trans h.2.2.1 l,Nat.le_trans h.2.2.2 l⟩
theorem Sz.newS{m:Nat} {w:W} (h:Sz m w):Sz (m+1) w.newS:=by
 obtain⟨a,b,c,d⟩:=h;exact⟨by show w.n0+1<=_; omega,by show w.n1<=_; omega,by show w.l0.length<=_; omega,by show (w.l1++[_]).length<=_; simp; omega⟩
theorem Sz.newM{m:Nat} {w:W} (h:Sz m w):Sz (m+1) w.newM:=by
 obtain⟨a,b,c,d⟩:=h;exact⟨by show w.n0<=_; omega,by show w.n1+1<=_; omega,by show (w.l0++[_]).length<=_; simp; omega,by show w.l1.length<=_; omega⟩
theorem Sz.put1{m:Nat} {w:W} (h:Sz m w) (S:Ss) (x:Msg):Sz (m+1) { w with S:=S,l1:=w.l1++[x] }:=by
 obtain⟨a,b,c,d⟩:=h;exact⟨by show w.n0<=_; omega,by show w.n1<=_; omega,by show w.l0.length<=_; omega,by show (w.l1++[_]).length<=_; simp; omega⟩
theorem Sz.put0{m:Nat} {w:W} (h:Sz m w) (M:Ms) (x:Msg):Sz (m+1) { w with M:=M,l0:=w.l0++[x] }:=by
 obtain⟨a,b,c,d⟩:=h;exact⟨by show w.n0<=_; omega,by show w.n1<=_; omega,by show (w.l0++[_]).length<=_; simp; omega,by show w.l1.length<=_; omega⟩
theorem Sz.st{m:Nat} {w:W} (h:Sz m w) (S:Ss) (M:Ms):Sz (m+1) { w with S:=S,M:=M }:=h.le (Nat.le_succ m)
theorem Sz.comeS{m:Nat} {w:W} (h:Sz m w) (x:Msg):Sz (m+1) (w.comeS x) :=
 zOs (h.le (Nat.le_succ m)) h.newS (λ_=>h.st _ w.M) λ_ _=>h.put1 _ _
theorem Sz.comeM{m:Nat} {w:W} (h:Sz m w) (x:Msg):Sz (m+1) (w.comeM x) :=
 zOu (h.le (Nat.le_succ m)) h.newM (λ_=>h.st w.S _) λ_ _=>h.put0 _ _
theorem Sz.helloS{m:Nat} {w:W} (h:Sz m w):Sz (m+1) w.helloS:=h.put1 w.S _
theorem Sz.helloM{m:Nat} {w:W} (h:Sz m w):Sz (m+1) w.helloM:=h.put0 w.M _
theorem Sz.againS{m:Nat} {w:W} (h:Sz m w):Sz (m+1) w.againS:=by
 obtain⟨n0,n1,S,M,l0,l1⟩:=w
 cases S with
 |exst=>exact h.put1 .exst _
 |_=>exact h.le (Nat.le_succ m)
theorem Sz.againM{m:Nat} {w:W} (h:Sz m w):Sz (m+1) w.againM:=by
 obtain⟨n0,n1,S,M,l0,l1⟩:=w
 cases M with
 |exst=>exact h.put0 .exst _
 |exch k s=>exact h.put0 (.exch k s) _
 |_=>exact h.le (Nat.le_succ m)
theorem Sz.goneS{m:Nat} {w:W} (h:Sz m w):Sz (m+1) w.goneS:=h.put1 .down _
theorem Sz.goneM{m:Nat} {w:W} (h:Sz m w):Sz (m+1) w.goneM:=h.put0 .down _
theorem Sz.pop0{m:Nat} {w:W} (h:Sz m w) {x:Msg} {r:List Msg} (e:w.l0=x::r):Sz m { w with l0:=r }:=by
 obtain⟨a,b,c,d⟩:=h;rw [e] at c;exact⟨a,b,by show r.length<=m; simp at c; omega,d⟩
theorem Sz.pop1{m:Nat} {w:W} (h:Sz m w) {x:Msg} {r:List Msg} (e:w.l1=x::r):Sz m { w with l1:=r }:=by
 obtain⟨a,b,c,d⟩:=h;rw [e] at d;exact⟨a,b,c,by show r.length<=m; simp at d; omega⟩
theorem Sz.deed{m:Nat} {w:W} (h:Sz m w) (f:Nat) (at1:Bool):Sz (m+1) (w.deed f at1):=by
 unfold W.deed
 split
 ·cases at1 with
  |true=>exact h.goneM
  |false=>exact h.goneS
 split
 ·cases at1 with
  |true=>exact h.againM
  |false=>exact h.againS
 cases at1 with
 |true =>
  show Sz _ (match w.l1 with|[]=>_|x::r=>_)
  split
  ·exact h.helloM
  rename_i x r e
  split
  ·exact (h.pop1 e).comeM x
  split
  ·exact h.comeM x
  split
  ·exact (h.pop1 e).le (Nat.le_succ m)
  ·exact h.helloM
 |false =>
  show Sz _ (match w.l0 with|[]=>_|x::r=>_)
  split
  ·exact h.helloS
  rename_i x r e
  split
  ·exact (h.pop0 e).comeS x
  split
  ·exact h.comeS x
  split
  ·exact (h.pop0 e).le (Nat.le_succ m)
  ·exact h.helloS
theorem Sz.kick{m:Nat} {w:W} (h:Sz m w):Sz (m+4) w.kick:=h.helloS.againS.helloM.againM
theorem Sz.start:Sz 1 .start:=⟨Nat.le_refl _,Nat.zero_le _,Nat.zero_le _,Nat.le_refl _⟩
theorem kick_l0(w:W):w.kick.l0≠[]:=by
 have key:∀ x:W,x.helloM.againM.l0≠[]:=λx=>by
  obtain⟨n0,n1,S,M,l0,l1⟩:=x;cases M<;>exact List.append_ne_nil_of_right_ne_nil _ (List.cons_ne_nil _ _)
 exact key _
end Mine.Pl
open PySem PySem.W PySem.Calls PyProof.Rows PySem.Spec
set_option maxRecDepth 100000
set_option maxHeartbeats 4000000
set_option genInjectivity false
namespace Mine
inductive Bi where
 |len|abs|list|tuple|range
inductive V where
 |none|bool (b:Bool)|int (i:Int)|sym (i:Int)|str (x:Str)
 |tup (ds:List V)|lst (ds:List V)|dct (ks:List Str) (ds:List V)
 |fn (k:Str)|raw (b:Bi)
 |ref (n:Nat)
 deriving Inhabited
inductive AO where
 |list (pre mid post:List V)
 |dict (ks:List Str) (ds:List V)
 |attrs (ks:List Str) (ds:List V)
 |inst (cls:Str) (d:Nat)
 |tab
 |cell (v:Option V)
 |lam (ps:List Str) (body:Expr) (scope:Scope) (cs:List (Str × Nat))
 |iter (v:V) (i:Nat)
 |riter (i n:Nat)
 |range (n:Nat)
 |dead
 deriving Inhabited
inductive Ob where
 |eq (a b:Int) (r:Bool)
 |le (a b:Int) (r:Bool)
 |len (n:Nat)
 |deep (xs ys:List V) (r:Bool)
 |item (ds:List V) (i:Int)
structure S0 where
 fr:List (List Str × List V)
 σ:List AO
 orc:List Bool
structure Fn where
 ps:List Str
 dflt:List V
 body:List Stmt
 scope:Scope
 lam:Bool
structure Prog where
 globs:List (Str × V)
 fns:List (Str × Fn)
 meths:List (Str × Str)
 cmeths:List ((Str × Str) × Str)
 init:List (Str × Str)
 mutL:List Nat
 mutD:List Str
 attrs:List Str
structure Cx where
 scope:Scope
 cells:List (Str × Nat)
 dep:Nat
 lam:Bool
noncomputable abbrev M (α:Type):=S0->Option (α × S0 × List Ob)
noncomputable def M.p {α:Type} (a:α):M α:=λs=>some (a,s,[])
noncomputable def M.b {α β:Type} (m:M α) (k:α->M β):M β:=λs =>
 match m s with
 |some (a,s₁,o₁)=>match k a s₁ with
  |some (b,sA,oA)=>some (b,sA,o₁++oA)
  |none=>none
 |none=>none
noncomputable def fail {α:Type}:M α:=λ_=>none
noncomputable def ofOpt {α:Type} (o:Option α):M α:=λs=>match o with
 |some a=>some (a,s,[])
 |none=>none
noncomputable def getσ:M (List AO):=λs=>some (s.σ,s,[])
noncomputable def obj (n:Nat):M AO:=λs=>match s.σ[n]? with
 |some o=>some (o,s,[])
 |none=>none
noncomputable def putO (n:Nat) (o:AO):M Unit:=λs=>some ((),{ s with σ:=s.σ.set n o },[])
noncomputable def allocO (o:AO):M Nat:=λs=>some (s.σ.length,{ s with σ:=s.σ++[o] },[])
noncomputable def sizeO:M Nat:=λs=>some (s.σ.length,s,[])
noncomputable def topF:M (List Str × List V):=λs=>match s.fr with
 |f::_=>some (f,s,[])
 |[]=>none
noncomputable def putF (f:List Str × List V):M Unit:=λs=>match s.fr with
 |_::r=>some ((),{ s with fr:=f::r },[])
 |[]=>none
noncomputable def pushF (f:List Str × List V):M Unit:=λs=>some ((),{ s with fr:=f::s.fr },[])
noncomputable def popF:M Unit:=λs=>match s.fr with
 |_::r=>some ((),{ s with fr:=r },[])
 |[]=>none
noncomputable def askEq (a b:Int):M Bool:=λs=>match s.orc with
 |r::t=>some (r,{ s with orc:=t },[.eq a b r])
 |[]=>none
noncomputable def askLe (a b:Int):M Bool:=λs=>match s.orc with
 |r::t=>some (r,{ s with orc:=t },[.le a b r])
 |[]=>none
noncomputable def askDeep (xs ys:List V):M Bool:=λs=>match s.orc with
 |r::t=>some (r,{ s with orc:=t },[.deep xs ys r])
 |[]=>none
noncomputable def allOf:AO->Option (List V)
 | .list pre mid post=>some (pre++mid++post)
 |_=>none
noncomputable def askLen (n:Nat):M Unit:=λs=>some ((),s,[.len n])
noncomputable def asInt:V->Option (Int × Bool)
 | .int i=>some (i,false)
 | .sym i=>some (i,true)
 |_=>none
noncomputable def mkI (s:Bool) (i:Int):V:=match s with
 |true=>.sym i
 |false=>.int i
noncomputable def intLe (a b:Int) (s:Bool):M Bool:=match s with
 |true=>askLe a b
 |false=>M.p (decide (a<=b))
noncomputable def eqL:List Nat->List Nat->Bool
 |[],[]=>true
 |a::as,b::bs=>match Nat.beq a b with
  |true=>eqL as bs
  |false=>false
 |_,_=>false
noncomputable def eqS (x y:Str):Bool:=eqL x.cps.toList y.cps.toList
noncomputable def hasS (x:Str):List Str->Bool
 |[]=>false
 |y::r=>match eqS x y with
  |true=>true
  |false=>hasS x r
noncomputable def assoc {α:Type} (x:Str):List Str->List α->Option α
 |k::ks,d::ds=>match eqS x k with
  |true=>some d
  |false=>assoc x ks ds
 |_,_=>none
noncomputable def setA {α:Type} (x:Str) (v:α):List Str->List α->Option (List α)
 |k::ks,d::ds=>match eqS x k with
  |true=>some (v::ds)
  |false=>(setA x v ks ds).map (d::·)
 |_,_=>none
noncomputable def putA {α:Type} (x:Str) (v:α):List Str->List α->List Str × List α
 |k::ks,d::ds=>match eqS x k with
  |true=>(k::ks,v::ds)
  |false=>let r:=putA x v ks ds; (k::r.1,d::r.2)
 |_,_=>([x],[v])
noncomputable def lookS {α:Type} (x:Str):List (Str × α)->Option α
 |[]=>none
 |p::r=>match eqS x p.1 with
  |true=>some p.2
  |false=>lookS x r
noncomputable def itemsOf:AO->Option (List V)
 | .list pre [] post=>some (pre++post)
 |_=>none
noncomputable def emptyL (pre mid post:List V):Bool:=match pre with
 |_::_=>false
 |[]=>match post with
  |_::_=>false
  |[]=>match mid with
   |_::_=>false
   |[]=>true
mutual
noncomputable def eqV:Nat->V->V->M Bool
 |0,_,_=>fail
 |n+1,a,b=>match a with
  | .none=>match b with
   | .none=>M.p true
   |_=>fail
  | .bool x=>match b with
   | .bool y=>M.p (x == y)
   |_=>fail
  | .int x=>match b with
   | .int y=>M.p (decide (x=y))
   | .sym y=>askEq x y
   |_=>fail
  | .sym x=>match b with
   | .int y=>askEq x y
   | .sym y=>askEq x y
   |_=>fail
  | .str x=>match b with
   | .str y=>M.p (eqS x y)
   |_=>fail
  | .tup xs=>match b with
   | .tup ys=>eqVs n xs ys
   |_=>fail
  | .lst xs=>match b with
   | .lst ys=>eqVs n xs ys
   | .ref i=>M.b (obj i) λo=>match itemsOf o with
    |some ys=>eqVs n xs ys
    |none=>fail
   |_=>fail
  | .ref i=>match b with
   | .lst ys=>M.b (obj i) λo=>match ys with
    |[]=>match o with
     | .list pre mid post=>M.p (emptyL pre mid post)
     |_=>fail
    |_::_=>match itemsOf o with
     |some xs=>eqVs n xs ys
     |none=>fail
   |_=>fail
  |_=>fail
noncomputable def eqVs:Nat->List V->List V->M Bool
 |0,_,_=>fail
 |n+1,xs,ys=>match xs with
  |[]=>match ys with
   |[]=>M.p true
   |_::_=>M.p false
  |x::xs=>match ys with
   |[]=>M.p false
   |y::ys=>M.b (eqV n x y) λb=>match b with
    |true=>eqVs n xs ys
    |false=>M.p false
end
noncomputable def okV:Nat->V->Bool
 |0,_=>false
 |n+1,v=>match v with
  | .none=>true
  | .bool _=>true
  | .int _=>true
  | .sym _=>true
  | .str x=>PyData.strOk x
  | .tup ds=>ds.all (okV n)
  | .lst ds=>ds.all (okV n)
  |_=>false
noncomputable def okσ:Nat->List AO->V->Bool
 |0,_,_=>false
 |n+1,σ,v=>match v with
  | .none=>true
  | .bool _=>true
  | .int _=>true
  | .sym _=>true
  | .str x=>PyData.strOk x
  | .tup ds=>ds.all (okσ n σ)
  | .lst ds=>ds.all (okσ n σ)
  | .ref i=>match σ[i]? with
   |some o=>match o with
    | .list pre _ post=>pre.all (okσ n σ) && post.all (okσ n σ)
    |_=>false
   |none=>false
  |_=>false
noncomputable def eqDeep (a b:V):M Bool:=M.b getσ fun σ=>match okσ 12 σ a && okσ 12 σ b with
 |true=>eqV 12 a b
 |false=>fail
noncomputable def eqQ (a b:V):M Bool:=match a with
 | .str x=>match b with
  | .str y=>M.p (eqS x y)
  |_=>fail
 | .bool x=>match b with
  | .bool y=>M.p (x == y)
  |_=>fail
 | .int x=>match b with
  | .int y=>M.p (decide (x=y))
  | .sym y=>askEq x y
  |_=>fail
 | .sym x=>match b with
  | .int y=>askEq x y
  | .sym y=>askEq x y
  |_=>fail
 | .tup xs=>eqDeep (.tup xs) b
 | .lst xs=>match b with
  | .lst ys=>askDeep xs ys
  | .ref i=>M.b (obj i) λo=>match allOf o with
   |some ys=>askDeep xs ys
   |none=>fail
  |_=>fail
 | .ref i=>match b with
  | .lst ys=>match ys with
   |[]=>eqDeep (.ref i) (.lst [])
   |y::ys=>match y with
    | .tup zs=>M.b (obj i) λo=>match allOf o with
     |some xs=>askDeep xs (.tup zs::ys)
     |none=>fail
    |_=>eqDeep (.ref i) (.lst (y::ys))
  |_=>fail
 |_=>fail
noncomputable def smallI:Int->Bool
 | .ofNat n=>Nat.ble n 1000000
 | .negSucc n=>Nat.ble n 1000000
noncomputable def arith (op:Operator) (s:Bool) (i j:Int):Option V:=match op with
 | .Add=>some (mkI s (i+j))
 | .Sub=>some (mkI s (i-j))
 | .Mult=>match smallI i with
  |true=>some (mkI s (i*j))
  |false=>none
 | .FloorDiv=>match j with
  | .ofNat n=>match n with
   |0=>none
   |_+1=>match smallI j with
    |true=>some (mkI s (i.fdiv j))
    |false=>none
  |_=>none
 | .Mod=>match j with
  | .ofNat n=>match n with
   |0=>none
   |_+1=>some (mkI s (i.fmod j))
  |_=>none
 | .BitOr=>match s with
  |true=>none
  |false=>some (.int (Builtin.bitOr i j))
 | .BitAnd=>match s with
  |true=>none
  |false=>some (.int (Builtin.bitAnd i j))
 |_=>none
noncomputable def binI (op:Operator) (a b:V):M V:=match asInt a with
 |none=>fail
 |some p=>match asInt b with
  |none=>fail
  |some q=>ofOpt (arith op (p.2 || q.2) p.1 q.1)
noncomputable def binV (op:Operator) (a b:V):M V:=match a with
 | .tup xs=>match b with
  | .tup ys=>match op with
   | .Add=>match Nat.ble (xs++ys).length 1000 with
    |true=>M.p (.tup (xs++ys))
    |false=>fail
   |_=>fail
  |_=>fail
 | .lst xs=>match b with
  | .lst ys=>match op with
   | .Add=>match Nat.ble (xs++ys).length 1000 with
    |true=>M.p (.lst (xs++ys))
    |false=>fail
   |_=>fail
  |_=>fail
 | .int i=>binI op (.int i) b
 | .sym i=>binI op (.sym i) b
 |_=>fail
noncomputable def isIn (x:Str):List V->Option Bool
 |[]=>some false
 |y::r=>match y with
  | .str y=>match isIn x r with
   |some b=>some (match eqS x y with
    |true=>true
    |false=>b)
   |none=>none
  |_=>none
noncomputable def isNone:V->Option Bool
 | .none=>some true
 | .ref _=>some false
 | .tup _=>some false
 |_=>none
noncomputable def cmpIs (a b:V):Option Bool:=match b with
 | .none=>isNone a
 |_=>none
noncomputable def cmpIn (a b:V):Option Bool:=match a with
 | .str x=>match b with
  | .tup ds=>isIn x ds
  |_=>none
 |_=>none
noncomputable def cmpI (a b:V) (k:Int->Int->Bool->M Bool):M Bool:=match asInt a with
 |none=>fail
 |some p=>match asInt b with
  |none=>fail
  |some q=>k p.1 q.1 (p.2 || q.2)
noncomputable def notM (m:M Bool):M Bool:=M.b m λb=>M.p (!b)
noncomputable def cmpV (op:CmpOp) (a b:V):M Bool:=match op with
 | .Eq=>eqQ a b
 | .NotEq=>notM (eqQ a b)
 | .Is=>ofOpt (cmpIs a b)
 | .IsNot=>notM (ofOpt (cmpIs a b))
 | .In=>ofOpt (cmpIn a b)
 | .LtE=>cmpI a b λi j s=>intLe i j s
 | .GtE=>cmpI a b λi j s=>intLe j i s
 | .Lt=>cmpI a b λi j s=>notM (intLe j i s)
 | .Gt=>cmpI a b λi j s=>notM (intLe i j s)
 |_=>fail
noncomputable def truth:V->Option Bool
 | .bool b=>some b
 |_=>none
noncomputable def constV:Const->Option V
 | .none=>some .none
 | .bool b=>some (.bool b)
 | .int i=>some (.int i)
 | .str s=>some (.str s)
 |_=>none
noncomputable def idx (n:Nat):Int->Option Nat
 | .ofNat k=>match Nat.blt k n with
  |true=>some k
  |false=>none
 | .negSucc k=>match Nat.blt k n with
  |true=>some (n-1-k)
  |false=>none
noncomputable def sliceT (ds:List V) (a b:Nat):M V:=match Nat.ble 1 a with
 |true=>match Nat.ble a b with
  |true=>match Nat.ble b ds.length with
   |true=>M.p (.tup ((ds.drop a).take (b-a)))
   |false=>fail
  |false=>fail
 |false=>fail
noncomputable def sliceV (o:V) (lo hi:Option Nat):M V:=match o with
 | .tup ds=>match lo with
  |some a=>match hi with
   |some b=>sliceT ds a b
   |none=>fail
  |none=>fail
 | .lst ds=>match lo with
  |some a=>match hi with
   |some _=>fail
   |none=>M.p (.lst (ds.drop a))
  |none=>match hi with
   |some b=>M.p (.lst (ds.take b))
   |none=>fail
 |_=>fail
noncomputable def cellV:AO->Option V
 | .cell v=>v
 |_=>none
noncomputable def nameCell (c:Cx) (x:Str):M V:=M.b (ofOpt (lookS x c.cells)) λi=>M.b (obj i) λo=>ofOpt (cellV o)
noncomputable def nameLoc (x:Str):M V:=M.b topF λf=>ofOpt (assoc x f.1 f.2)
noncomputable def nameV (P:Prog) (c:Cx) (x:Str):M V:=match lookS x c.scope.names with
 |some k=>match k with
  | .local=>nameLoc x
  | .cell=>nameCell c x
  | .free=>match eqS x "__classdict__" with
   |true=>fail
   |false=>nameCell c x
  | .globalImplicit=>ofOpt (lookS x P.globs)
  |_=>fail
 |none=>fail
noncomputable def setCell (i:Nat) (v:V):M Unit:=M.b (obj i) λo=>match o with
 | .cell _=>putO i (.cell (some v))
 |_=>fail
noncomputable def storeLoc (x:Str) (v:V):M Unit:=M.b topF λf=>putF (putA x v f.1 f.2)
noncomputable def storeCell (c:Cx) (x:Str) (v:V):M Unit:=M.b (ofOpt (lookS x c.cells)) λi=>setCell i v
noncomputable def storeV (c:Cx) (x:Str) (v:V):M Unit:=match lookS x c.scope.names with
 |some k=>match k with
  | .local=>storeLoc x v
  | .cell=>storeCell c x v
  |_=>fail
 |none=>fail
noncomputable def nextI (i:Nat) (v:V) (k:Nat) (ds:List V):M (Option V):=match ds[k]? with
 |some d=>M.b (putO i (.iter v (k+1))) λ_=>M.p (some d)
 |none=>M.b (putO i .dead) λ_=>M.p none
noncomputable def nextL (i l k:Nat):M (Option V):=M.b (obj l) λo=>match itemsOf o with
 |some ds=>nextI i (.ref l) k ds
 |none=>fail
noncomputable def nextO (i:Nat) (v:V) (k:Nat):M (Option V):=match v with
 | .tup ds=>nextI i (.tup ds) k ds
 | .lst ds=>nextI i (.lst ds) k ds
 | .ref l=>nextL i l k
 |_=>fail
noncomputable def nextR (i k:Nat):Nat->M (Option V)
 |0=>M.b (putO i .dead) λ_=>M.p none
 |n+1=>M.b (putO i (.riter (k+1) n)) λ_=>M.p (some (.int k))
noncomputable def nextV (i:Nat):M (Option V):=M.b (obj i) λo=>match o with
 | .iter v k=>nextO i v k
 | .riter k n=>nextR i k n
 |_=>fail
noncomputable def iterR (i:Nat):M Nat:=M.b (obj i) λo=>match o with
 | .range n=>allocO (.riter 0 n)
 | .list _ _ _=>allocO (.iter (.ref i) 0)
 |_=>fail
noncomputable def iterV (v:V):M Nat:=match v with
 | .tup ds=>allocO (.iter (.tup ds) 0)
 | .lst ds=>allocO (.iter (.lst ds) 0)
 | .ref i=>iterR i
 |_=>fail
noncomputable def lenL (pre mid post:List V):V:=match mid with
 |[]=>.int (pre++post).length
 |_::_=>.sym (pre++mid++post).length
noncomputable def lenV (v:V):M V:=match v with
 | .tup ds=>M.p (.int ds.length)
 | .lst ds=>M.p (.int ds.length)
 | .dct ks ds=>match ks with
  |[]=>M.p (.int 0)
  |_::_=>fail
 | .ref i=>M.b (obj i) λo=>match o with
  | .list pre mid post=>M.p (lenL pre mid post)
  |_=>fail
 |_=>fail
noncomputable def absV (v:V):M V:=match v with
 | .int i=>M.p (.int i.natAbs)
 | .sym i=>M.p (.sym i.natAbs)
 |_=>fail
noncomputable def listOfV (v:V):M V:=match v with
 | .lst ds=>M.p (.lst ds)
 |_=>fail
noncomputable def tupleOfV (v:V):M V:=match v with
 | .lst ds=>M.p (.tup ds)
 |_=>fail
noncomputable def askN (i k:Int):Nat->Nat->M Nat
 |_,0=>fail
 |n,f+1=>M.b (askEq i k) λb=>match b with
  |true=>M.p n
  |false=>askN i (k+1) (n+1) f
noncomputable def rangeV (v:V):M V:=match v with
 | .sym i=>M.b (askN i 0 0 5) λn=>M.b (allocO (.range n)) λr=>M.p (.ref r)
 | .int i=>match i with
  | .ofNat n=>match Nat.ble n 1000 with
   |true=>M.b (allocO (.range n)) λr=>M.p (.ref r)
   |false=>fail
  |_=>fail
 |_=>fail
noncomputable def biOf:Bi->Value
 | .len=>.builtin "len"
 | .abs=>.builtin "abs"
 | .list=>.type "list"
 | .tuple=>.type "tuple"
 | .range=>.type "range"
noncomputable def bi1 (b:Bi) (v:V):M V:=match b with
 | .len=>lenV v
 | .abs=>absV v
 | .list=>listOfV v
 | .tuple=>tupleOfV v
 | .range=>rangeV v
noncomputable def builtinV (b:Bi) (args:List V):M V:=match args with
 |[]=>fail
 |v::r=>match r with
  |[]=>bi1 b v
  |_::_=>fail
noncomputable def appL (l:Nat) (o:AO) (args:List V):M V:=match o with
 | .list pre mid post=>match args with
  |[]=>fail
  |v::r=>match r with
   |[]=>M.b (askLen (pre++mid++post).length) λ_=>M.b (putO l (.list pre mid (post++[v]))) λ_=>M.p .none
   |_::_=>fail
 |_=>fail
noncomputable def isZero:List V->Bool
 |[]=>false
 |v::r=>match r with
  |[]=>match v with
   | .int i=>match i with
    | .ofNat n=>Nat.beq n 0
    |_=>false
   |_=>false
  |_::_=>false
noncomputable def popL (l:Nat) (o:AO) (args:List V):M V:=match isZero args with
 |false=>fail
 |true=>match o with
  | .list pre mid post=>match pre with
   |v::pre=>M.b (putO l (.list pre mid post)) λ_=>M.p v
   |[]=>match mid with
    |_::_=>fail
    |[]=>match post with
     |[]=>fail
     |v::post=>M.b (putO l (.list [] [] post)) λ_=>M.p v
  |_=>fail
noncomputable def extL (l:Nat) (o:AO) (args:List V):M V:=match o with
 | .list pre mid post=>match args with
  |[]=>fail
  |v::r=>match r with
   |[]=>match v with
    | .lst ds=>M.b (askLen (pre++mid++post++ds).length) λ_=>M.b (putO l (.list pre mid (post++ds))) λ_=>M.p .none
    |_=>fail
   |_::_=>fail
 |_=>fail
noncomputable def indexT (x:Str) (i:Nat):List V->Option V
 |[]=>none
 |y::r=>match y with
  | .str y=>match eqS x y with
   |true=>some (.int i)
   |false=>indexT x (i+1) r
  |_=>none
noncomputable def idxT (ds:List V) (args:List V):M V:=match args with
 |[]=>fail
 |v::r=>match r with
  |[]=>match v with
   | .str x=>ofOpt (indexT x 0 ds)
   |_=>fail
  |_::_=>fail
inductive Lm where
 |append|pop|extend
noncomputable def lmOf (x:Str):Option Lm:=match eqS x "append" with
 |true=>some .append
 |false=>match eqS x "pop" with
  |true=>some .pop
  |false=>match eqS x "extend" with
   |true=>some .extend
   |false=>none
noncomputable def lmV (m:Lm) (l:Nat) (args:List V) (o:AO):M V:=match m with
 | .append=>appL l o args
 | .pop=>popL l o args
 | .extend=>extL l o args
noncomputable def methL (m:Lm) (self:V) (args:List V):M V:=match self with
 | .ref l=>M.b (obj l) (lmV m l args)
 |_=>fail
noncomputable def methT (self:V) (args:List V):M V:=match self with
 | .tup ds=>idxT ds args
 |_=>fail
noncomputable def instD (v:V):M Nat:=match v with
 | .ref i=>M.b (obj i) λo=>match o with
  | .inst _ d=>M.p d
  |_=>fail
 |_=>fail
noncomputable def getA (P:Prog) (o:V) (name:Str):M V:=match hasS name P.attrs with
 |false=>fail
 |true=>M.b (instD o) λd=>M.b (obj d) λq=>match q with
  | .attrs ks ds=>ofOpt (assoc name ks ds)
  |_=>fail
noncomputable def setAt (P:Prog) (o:V) (name:Str) (v:V):M Unit:=match hasS name P.attrs with
 |false=>fail
 |true=>M.b (instD o) λd=>M.b (obj d) λq=>match q with
  | .attrs ks ds=>match Nat.ble ks.length 100 with
   |true=>putO d (.attrs (putA name v ks ds).1 (putA name v ks ds).2)
   |false=>fail
  |_=>fail
noncomputable def lastV:List V->Option V
 |[]=>none
 |v::r=>match r with
  |[]=>some v
  |w::r=>lastV (w::r)
noncomputable def atI (ds:List V) (k:Int):M V:=ofOpt ((idx ds.length k).bind (ds[·]?))
noncomputable def isZ:Int->Bool
 | .ofNat n=>Nat.beq n 0
 | .negSucc _=>false
noncomputable def getL1 (pre mid post:List V) (k:Int):M V:=match mid with
 |[]=>atI (pre++post) k
 |_::_=>match k with
  | .ofNat n=>match n with
   |0=>match pre with
    |[]=>fail
    |v::_=>M.p v
   |_+1=>fail
  | .negSucc n=>match n with
   |0=>ofOpt (lastV post)
   |_+1=>fail
noncomputable def isM1:Int->Bool
 | .ofNat _=>false
 | .negSucc n=>Nat.beq n 0
noncomputable def getL2 (pre mid post:List V) (k:Int):M V:=match post with
 |[]=>getL1 pre mid [] k
 |w::r=>ofOpt (lastV (w::r))
noncomputable def getL3 (pre mid post:List V) (k:Int):M V:=match pre with
 |[]=>getL1 [] mid post k
 |v::_=>M.p v
noncomputable def getL0 (pre mid post:List V) (k:Int):M V:=match isM1 k with
 |true=>getL2 pre mid post k
 |false=>match isZ k with
  |true=>getL3 pre mid post k
  |false=>getL1 pre mid post k
noncomputable def getRI (o:AO) (k:Int):M V:=match o with
 | .list pre mid post=>getL0 pre mid post k
 |_=>fail
noncomputable def symAt (ds:List V) (i:Int):Int:=match ds[i.toNat]? with
 |some v=>match v with
  | .sym x=>x
  |_=>0
 |none=>0
noncomputable def getRQ (o:AO) (k:Int):M V:=match allOf o with
 |some ds=>λs=>some (.sym (symAt ds k),s,[.item ds k])
 |none=>fail
noncomputable def getRS (o:AO) (x:Str):M V:=match o with
 | .dict ks ds=>ofOpt (assoc x ks ds)
 |_=>fail
noncomputable def getI (o i:V):M V:=match o with
 | .tup ds=>match i with
  | .int k=>atI ds k
  |_=>fail
 | .lst ds=>match i with
  | .int k=>atI ds k
  |_=>fail
 | .dct ks ds=>match i with
  | .str x=>ofOpt (assoc x ks ds)
  |_=>fail
 | .ref n=>match i with
  | .str x=>M.b (obj n) λo=>getRS o x
  | .int k=>M.b (obj n) λo=>getRI o k
  | .sym k=>M.b (obj n) λo=>getRQ o k
  |_=>fail
 |_=>fail
noncomputable def setRS (n:Nat) (o:AO) (x:Str) (v:V):M Unit:=match o with
 | .dict ks ds=>match Nat.ble ks.length 100 with
  |true=>M.b (ofOpt (setA x v ks ds)) λds=>putO n (.dict ks ds)
  |false=>fail
 |_=>fail
noncomputable def setRI (n:Nat) (o:AO) (k:Int) (v:V):M Unit:=match itemsOf o with
 |some ds=>match k with
  | .ofNat j=>match Nat.blt j ds.length with
   |true=>putO n (.list (ds.set j v) [] [])
   |false=>fail
  |_=>fail
 |none=>fail
noncomputable def setI (o i v:V):M Unit:=match o with
 | .ref n=>match i with
  | .str x=>M.b (obj n) λo=>setRS n o x v
  | .int k=>M.b (obj n) λo=>setRI n o k v
  |_=>fail
 |_=>fail
noncomputable def partV:V->Option (Option Nat)
 | .none=>some none
 | .int i=>match i with
  | .ofNat n=>some (some n)
  |_=>none
 |_=>none
noncomputable def slice (o lo hi:V):M V:=M.b (ofOpt (partV lo)) λlo=>M.b (ofOpt (partV hi)) λhi=>sliceV o lo hi
inductive Fl where
 |next|ret (v:V)
structure Rec where
 ev:Cx->Expr->M V
 tst:Cx->Expr->M Bool
 exs:Cx->List Stmt->M Fl
 asg:Cx->Expr->V->M Unit
 call:Nat->V->List V->M V
 loop:Cx->Str->Nat->List Stmt->M Fl
 comp:Cx->Expr->Str->Option Expr->Nat->Nat->M Unit
noncomputable def Rec.none:Rec:=⟨λ_ _=>fail,λ_ _=>fail,λ_ _=>fail,λ_ _ _=>fail,λ_ _ _=>fail,λ_ _ _ _=>fail,λ_ _ _ _ _ _=>fail⟩
noncomputable def plainE:Expr->Bool
 | .Starred _ _=>false
 | .Set _ _ _=>false
 |_=>true
noncomputable def evP (r:Rec) (c:Cx) (e:Expr):M V:=match plainE e with
 |true=>r.ev c e
 |false=>fail
noncomputable def evs (r:Rec) (c:Cx):List Expr->M (List V)
 |[]=>M.p []
 |e::es=>M.b (evP r c e) λv=>M.b (evs r c es) λvs=>M.p (v::vs)
noncomputable def cellNames (l:List (Str × NameKind)):List Str:=match l with
 |[]=>[]
 |(x,.cell)::r=>x::cellNames r
 |_::r=>cellNames r
noncomputable def layCells (n:Nat):List Str->List (Str × Nat)->List (Str × Nat)
 |[],acc=>acc
 |x::r,acc=>layCells (n+1) r ((x,n)::acc)
noncomputable def bindAll (c:Cx):List Str->List V->M Unit
 |[],[]=>M.p ()
 |x::xs,v::vs=>M.b (storeV c x v) λ_=>bindAll c xs vs
 |_,_=>fail
noncomputable def allocCells:List Str->M Unit
 |[]=>M.p ()
 |_::r=>M.b (allocO (.cell none)) λ_=>allocCells r
noncomputable def newFrame (scope:Scope) (cells:List (Str × Nat)) (dep:Nat) (lam:Bool):M Cx :=
 M.b (pushF ([],[])) λ_=>M.b sizeO λn=>M.b (allocCells (cellNames scope.names)) λ_ =>
 M.p { scope:=scope,cells:=layCells n (cellNames scope.names) cells,dep:=dep,lam:=lam }
noncomputable def closV (c:Cx):List (Str × NameKind)->List (Str × Nat)->Option (List (Str × Nat))
 |[],acc=>some acc
 |(x,.free)::r,acc=>match lookS x c.cells with
  |some i=>closV c r ((x,i)::acc)
  |none=>none
 |_::r,acc=>closV c r acc
noncomputable def relab (scope:Scope) (c:Cx):Scope :=
 { scope with names:=scope.names.map λ(n,k)=>match k with
  | .free=>match lookS n c.scope.names with
   |some .cell=>(n,.cell)
   |_=>(n,k)
  |_=>(n,k) }
inductive Sl where
 |inst (k:Str)|list (m:Lm)|tup|cls (k:Str)
noncomputable def slotD (P:Prog) (name:Str):AO->M Sl
 | .attrs ks _=>match hasS name ks with
  |true=>fail
  |false=>M.b (ofOpt (lookS name P.meths)) λk=>M.p (.inst k)
 |_=>fail
noncomputable def slotO (P:Prog) (name:Str):AO->M Sl
 | .inst _ d=>M.b (obj d) (slotD P name)
 | .list _ _ _=>M.b (ofOpt (lmOf name)) λm=>M.p (.list m)
 |_=>fail
noncomputable def clsM (k name:Str):List ((Str × Str) × Str)->Option Str
 |[]=>none
 |p::r=>match eqS k p.1.1 with
  |true=>match eqS name p.1.2 with
   |true=>some p.2
   |false=>clsM k name r
  |false=>clsM k name r
noncomputable def slotV (P:Prog) (name:Str) (ov:V):M Sl:=match ov with
 | .ref i=>M.b (obj i) (slotO P name)
 | .tup _=>match eqS name "index" with
  |true=>M.p .tup
  |false=>fail
 | .fn k=>M.b (ofOpt (clsM k name P.cmeths)) λf=>M.p (.cls f)
 |_=>fail
noncomputable def isLocal (c:Cx) (x:Str):Bool:=match lookS x c.scope.names with
 |some k=>match k with
  | .local=>true
  |_=>false
 |none=>false
noncomputable def allNames (c:Cx) (line:Nat):List Expr->Option (List Str)
 |[]=>some []
 |e::r=>match e with
  | .Name x p=>match isLocal c x with
   |true=>match Nat.beq p.line line with
    |true=>match allNames c line r with
     |some l=>some (x::l)
     |none=>none
    |false=>none
   |false=>none
  |_=>none
noncomputable def liveE:Expr->Bool
 | .Call _ _ _ _=>true
 | .IfExp _ _ _ _=>true
 | .Attribute _ _ _=>true
 | .Name x _=>!eqS x "__debug__"
 | .Subscript v _ _=>match v with
  | .Name x _=>!eqS x "__debug__"
  |_=>false
 |_=>false
noncomputable def okSwap (ts vs:List Expr) (names:List Str):Bool :=
 (Nat.beq ts.length 2 || Nat.beq ts.length 3) && Nat.beq vs.length ts.length && Nat.beq names.eraseDups.length names.length && vs.any liveE && vs.all plainE
noncomputable def lineOf (ts:List Expr):Nat:=(ts.head?.map (·.pos.line)).getD 0
noncomputable def swapped (c:Cx) (ts vs:List Expr):Option (Option (List Str)):=match allNames c (lineOf ts) ts with
 |none=>some none
 |some names=>match okSwap ts vs names with
  |true=>some (some names)
  |false=>none
noncomputable def evBin (r:Rec) (c:Cx) (a:Expr) (op:Operator) (b:Expr):M V :=
 M.b (r.ev c a) λx=>M.b (r.ev c b) λy=>binV op x y
noncomputable def evNot (r:Rec) (c:Cx) (a:Expr):M V :=
 M.b (r.ev c a) λx=>M.b (ofOpt (truth x)) λb=>M.p (.bool (!b))
noncomputable def negV:V->M V
 | .int i=>M.p (.int (-i))
 |_=>fail
noncomputable def evUn (r:Rec) (c:Cx) (op:UnaryOp) (a:Expr):M V:=match op with
 | .Not=>evNot r c a
 | .USub=>M.b (r.ev c a) negV
 |_=>fail
noncomputable def isTab:AO->Bool
 | .tab=>true
 |_=>false
noncomputable def lamP (a:Arguments):Option Str:=match a with
 |⟨po,as,va,ko,kd,kw,d⟩=>match po,as,va,ko,kd,kw,d with
  |[],[x],none,[],[],none,[]=>some x.arg
  |_,_,_,_,_,_,_=>none
noncomputable def okScope (s:Scope):Bool:=match s.kind with
 | .function=>match s.isCoroutine with
  |true=>false
  |false=>match s.isGenerator with
   |true=>false
   |false=>match lookS "__debug__" s.names with
    |none=>true
    |some _=>false
 |_=>false
noncomputable def mkLam (c:Cx) (args:Arguments) (body:Expr) (scope:Scope) (o:AO):M V:=match isTab o with
 |true=>match okScope scope with
  |true=>M.b (ofOpt (lamP args)) λx=>M.b (ofOpt (closV c scope.names [])) λcs =>
   M.b (allocO (.lam [x] body scope cs)) λn=>M.p (.ref n)
  |false=>fail
 |false=>fail
noncomputable def evLam (c:Cx) (args:Arguments) (body:Expr) (scope:Scope):M V:=match c.lam with
 |true=>M.b (obj 0) (mkLam c args body scope)
 |false=>fail
noncomputable def pick {α:Type} (a b:M α):Bool->M α
 |true=>a
 |false=>b
noncomputable def evIf (r:Rec) (c:Cx) (t a b:Expr):M V :=
 M.b (r.tst c t) (pick (r.ev c a) (r.ev c b))
noncomputable def keysOf:List (Option Expr)->Option (List Str)
 |[]=>some []
 |k::ks=>match k with
  |some e=>match e with
   | .Constant v _ _=>match v with
    | .str s=>(keysOf ks).map (s::·)
    |_=>none
   |_=>none
  |none=>none
noncomputable def mkDict (P:Prog) (n:Nat) (ks:List Str) (ds:List V):M V:=match ks with
 |[]=>M.b (putO n .dead) λ_=>M.p (.dct [] [])
 |k::r=>match hasS k P.mutD with
  |true=>M.b (putO n (.dict (k::r) ds)) λ_=>M.p (.ref n)
  |false=>M.b (putO n .dead) λ_=>M.p (.dct (k::r) ds)
noncomputable def nodupS:List Str->Bool
 |[]=>true
 |x::r=>match hasS x r with
  |true=>false
  |false=>nodupS r
noncomputable def isEmptyD:AO->Bool
 | .dict ks _=>match ks with
  |[]=>true
  |_::_=>false
 |_=>false
noncomputable def fillDict (P:Prog) (n:Nat) (ks:List Str) (ds:List V) (o:AO):M V:=match isEmptyD o with
 |true=>mkDict P n ks ds
 |false=>fail
noncomputable def okDict (ks:List Str) (n:Nat):Bool:=match Nat.beq ks.length n with
 |true=>match Nat.ble n 15 with
  |true=>nodupS ks
  |false=>false
 |false=>false
noncomputable def evDict (P:Prog) (r:Rec) (c:Cx) (ks:List (Option Expr)) (vs:List Expr):M V :=
 M.b (ofOpt (keysOf ks)) λks=>match okDict ks vs.length with
 |true=>M.b (allocO (.dict [] [])) λn=>M.b (evs r c vs) λds=>M.b (obj n) (fillDict P n ks ds)
 |false=>fail
noncomputable def hasN (x:Nat):List Nat->Bool
 |[]=>false
 |y::r=>match Nat.beq x y with
  |true=>true
  |false=>hasN x r
noncomputable def mkList (P:Prog) (line:Nat) (ds:List V):M V:=match Nat.ble ds.length 1000 with
 |true=>match hasN line P.mutL with
  |true=>M.b (allocO (.list ds [] [])) λn=>M.p (.ref n)
  |false=>M.p (.lst ds)
 |false=>fail
noncomputable def mkTup (ds:List V):M V:=match Nat.ble ds.length 1000 with
 |true=>M.p (.tup ds)
 |false=>fail
noncomputable def evList (P:Prog) (r:Rec) (c:Cx) (es:List Expr) (p:Pos):M V :=
 M.b (evs r c es) λds=>mkList P p.line ds
noncomputable def evTup (r:Rec) (c:Cx) (es:List Expr):M V :=
 M.b (evs r c es) mkTup
noncomputable def evComp' (r:Rec) (c':Cx) (elt:Expr) (x:Str) (ifs:List Expr) (i n:Nat):M Unit:=match ifs with
 |[]=>r.comp c' elt x none i n
 |t::ts=>match ts with
  |[]=>r.comp c' elt x (some t) i n
  |_::_=>fail
noncomputable def compCx (c:Cx) (scope:Scope) (cs:List (Str × Nat)):Cx:={ scope:=relab scope c,cells:=cs,dep:=c.dep-1,lam:=false }
noncomputable def freezeL (n:Nat):M V:=M.b (obj n) λo=>match itemsOf o with
 |some ds=>M.b (putO n .dead) λ_=>M.p (.lst ds)
 |none=>fail
noncomputable def locOk (names:List (Str × NameKind)):List (Str × NameKind)->Bool
 |[]=>true
 |p::r=>match p.2 with
  | .local=>match lookS p.1 names with
   |some k=>match k with
    | .local=>locOk names r
    |_=>false
   |none=>false
  | .cell=>false
  |_=>locOk names r
noncomputable def okComp (s:Scope):Bool:=match okScope s with
 |true=>locOk s.names s.names
 |false=>false
noncomputable def evComp1 (r:Rec) (c:Cx) (elt:Expr) (x:Str) (iter:Expr) (ifs:List Expr) (scope:Scope):M Nat:=match okComp scope with
 |false=>fail
 |true=>M.b (evP r c iter) λv=>M.b (iterV v) λi=>M.b (allocO (.list [] [] [])) λn=>M.b (ofOpt (closV c scope.names [])) λcs =>
  M.b (pushF ([],[])) λ_=>M.b (evComp' r (compCx c scope cs) elt x ifs i n) λ_=>M.p n
noncomputable def evComp (r:Rec) (c:Cx) (elt:Expr) (x:Str) (iter:Expr) (ifs:List Expr) (scope:Scope):M V :=
 M.b (evComp1 r c elt x iter ifs scope) λn=>M.b popF λ_=>freezeL n
noncomputable def evComps (r:Rec) (c:Cx) (elt:Expr) (gens:List Comprehension) (scope:Scope):M V:=match gens with
 |[]=>fail
 |g::gs=>match gs with
  |[]=>match g with
   |⟨t,iter,ifs,a⟩=>match a with
    | .ofNat n=>match n with
     |0=>match t with
      | .Name x _=>evComp r c elt x iter ifs scope
      |_=>fail
     |_+1=>fail
    |_=>fail
  |_::_=>fail
noncomputable def bools (r:Rec) (c:Cx) (d:Bool):List Expr->M V
 |[]=>fail
 |e::es=>match es with
  |[]=>r.ev c e
  |e'::es=>M.b (r.ev c e) λv=>M.b (ofOpt (truth v)) λb=>match b == d with
   |true=>M.p v
   |false=>bools r c d (e'::es)
noncomputable def tests (r:Rec) (c:Cx) (d:Bool):List Expr->M Bool
 |[]=>M.p (!d)
 |e::es=>M.b (r.tst c e) λb=>match b == d with
  |true=>M.p d
  |false=>tests r c d es
noncomputable def chain (r:Rec) (c:Cx) (a:V):List CmpOp->List Expr->M Bool
 |[],_=>fail
 |_::_,[]=>fail
 |op::ops,e::es=>M.b (evP r c e) λb=>M.b (cmpV op a b) λt=>match ops,es with
  |[],[]=>M.p t
  |op'::ops,es=>match t with
   |true=>chain r c b (op'::ops) es
   |false=>M.p false
  |[],_::_=>fail
noncomputable def evCmp (r:Rec) (c:Cx) (l:Expr) (ops:List CmpOp) (rs:List Expr):M V :=
 M.b (r.ev c l) λa=>M.b (chain r c a ops rs) λb=>M.p (.bool b)
noncomputable def baseE:Expr->Bool
 | .Name _ _=>true
 | .Attribute _ _ _=>true
 | .Subscript _ _ _=>true
 |_=>false
noncomputable def callM (r:Rec) (c:Cx) (ov:V) (vs:List V):Sl->M V
 | .inst k=>r.call c.dep (.fn k) (ov::vs)
 | .list m=>methL m ov vs
 | .tup=>methT ov vs
 | .cls k=>r.call c.dep (.fn k) vs
noncomputable def okMeth (o:Expr) (args:List Expr) (l l':Nat):Bool:=match baseE o with
 |true=>match args.all plainE with
  |true=>match Nat.ble args.length 20 with
   |true=>Nat.beq l l'
   |false=>false
  |false=>false
 |false=>false
noncomputable def evMeth (P:Prog) (r:Rec) (c:Cx) (o:Expr) (name:Str) (args:List Expr) (l l':Nat):M V:=match okMeth o args l l' with
 |true=>M.b (r.ev c o) λov=>M.b (slotV P name ov) λk=>M.b (evs r c args) λvs=>callM r c ov vs k
 |false=>fail
noncomputable def evCall1 (r:Rec) (c:Cx) (f:Expr) (args:List Expr):M V :=
 M.b (r.ev c f) λfv=>M.b (evs r c args) λvs=>r.call c.dep fv vs
noncomputable def evCall (P:Prog) (r:Rec) (c:Cx) (f:Expr) (args:List Expr) (kw:List Keyword) (pos:Pos):M V:=match kw with
 |_::_=>fail
 |[]=>match f with
  | .Attribute o name p=>evMeth P r c o name args p.endLine pos.line
  | .Name x p=>evCall1 r c (.Name x p) args
  |_=>fail
noncomputable def evAttr (P:Prog) (r:Rec) (c:Cx) (o:Expr) (name:Str):M V:=match baseE o with
 |true=>M.b (r.ev c o) λov=>getA P ov name
 |false=>fail
noncomputable def evPart (r:Rec) (c:Cx):Option Expr->M V
 |some e=>r.ev c e
 |none=>M.p .none
noncomputable def evSlice (r:Rec) (c:Cx) (ov:V) (lo hi st:Option Expr):M V:=match st with
 |some _=>fail
 |none=>M.b (evPart r c lo) λl=>M.b (evPart r c hi) λh=>slice ov l h
noncomputable def evIdx (r:Rec) (c:Cx) (ov:V) (i:Expr):M V:=match i with
 | .Slice lo hi st _=>evSlice r c ov lo hi st
 | .Name x p=>M.b (r.ev c (.Name x p)) (getI ov)
 | .Constant k u p=>M.b (r.ev c (.Constant k u p)) (getI ov)
 | .BinOp a op b p=>M.b (r.ev c (.BinOp a op b p)) (getI ov)
 | .UnaryOp op a p=>M.b (r.ev c (.UnaryOp op a p)) (getI ov)
 | .Subscript a b p=>M.b (r.ev c (.Subscript a b p)) (getI ov)
 |_=>fail
noncomputable def evSub (r:Rec) (c:Cx) (o i:Expr):M V :=
 M.b (r.ev c o) λov=>evIdx r c ov i
noncomputable def evBool (r:Rec) (c:Cx) (op:BoolOp) (vs:List Expr):M V:=match op with
 | .And=>bools r c false vs
 | .Or=>bools r c true vs
noncomputable def ev (P:Prog) (r:Rec) (c:Cx) (e:Expr):M V:=match e with
 | .Constant k _ _=>ofOpt (constV k)
 | .Name x _=>nameV P c x
 | .BoolOp op vs _=>evBool r c op vs
 | .BinOp a op b _=>evBin r c a op b
 | .UnaryOp op a _=>evUn r c op a
 | .Lambda args body scope _=>evLam c args body scope
 | .IfExp t a b _=>evIf r c t a b
 | .Dict ks vs _=>evDict P r c ks vs
 | .List es p=>evList P r c es p
 | .Tuple es _ _=>evTup r c es
 | .ListComp elt gens scope _=>evComps r c elt gens scope
 | .Compare l ops rs _=>evCmp r c l ops rs
 | .Call f args kw pos=>evCall P r c f args kw pos
 | .Attribute o name _=>evAttr P r c o name
 | .Subscript o i _=>evSub r c o i
 |_=>fail
noncomputable def tstNot (r:Rec) (c:Cx) (x:Expr):M Bool:=M.b (r.tst c x) λb=>M.p (!b)
noncomputable def tstIf (r:Rec) (c:Cx) (t a b:Expr):M Bool:=M.b (r.tst c t) (pick (r.tst c a) (r.tst c b))
noncomputable def tstCmp (r:Rec) (c:Cx) (l:Expr) (ops:List CmpOp) (rs:List Expr):M Bool:=M.b (r.ev c l) λa=>chain r c a ops rs
noncomputable def tstV (r:Rec) (c:Cx) (e:Expr):M Bool:=M.b (r.ev c e) λv=>ofOpt (truth v)
noncomputable def tstUn (r:Rec) (c:Cx) (op:UnaryOp) (x:Expr):M Bool:=match op with
 | .Not=>tstNot r c x
 |_=>fail
noncomputable def tstBool (r:Rec) (c:Cx) (op:BoolOp) (vs:List Expr):M Bool:=match op with
 | .And=>tests r c false vs
 | .Or=>tests r c true vs
noncomputable def tst (r:Rec) (c:Cx) (e:Expr):M Bool:=match e with
 | .UnaryOp op x _=>tstUn r c op x
 | .BoolOp op vs _=>tstBool r c op vs
 | .IfExp t a b _=>tstIf r c t a b
 | .Compare l ops rs _=>tstCmp r c l ops rs
 | .Name x p=>tstV r c (.Name x p)
 | .Attribute o x p=>tstV r c (.Attribute o x p)
 | .Subscript o x p=>tstV r c (.Subscript o x p)
 | .Call f as kw p=>tstV r c (.Call f as kw p)
 |_=>fail
noncomputable def asgP (r:Rec) (c:Cx) (t:Expr) (d:V):M Unit:=match plainE t with
 |true=>r.asg c t d
 |false=>fail
noncomputable def asgs (r:Rec) (c:Cx):List Expr->List V->M Unit
 |[],[]=>M.p ()
 |t::ts,d::ds=>M.b (asgP r c t d) λ_=>asgs r c ts ds
 |_,_=>fail
noncomputable def asgTup (r:Rec) (c:Cx) (ts:List Expr) (v:V):M Unit:=match v with
 | .tup ds=>match Nat.beq ds.length ts.length with
  |true=>asgs r c ts ds
  |false=>fail
 |_=>fail
noncomputable def retV (r:Rec) (c:Cx):Option Expr->M Fl
 |some e=>M.b (r.ev c e) λv=>M.p (.ret v)
 |none=>M.p (.ret .none)
noncomputable def stTup (r:Rec) (c:Cx) (ts vs:List Expr) (sw:Option (List Str)) (ds:List V):M Fl:=match Nat.beq ds.length ts.length with
 |true=>match Nat.ble ds.length 1000 with
  |true=>match sw with
   |some names=>M.b (bindAll c names.reverse ds.reverse) λ_=>M.p .next
   |none=>M.b (asgs r c ts ds) λ_=>M.p .next
  |false=>fail
 |false=>fail
noncomputable def stAsgT (r:Rec) (c:Cx) (ts vs:List Expr):M Fl :=
 M.b (ofOpt (swapped c ts vs)) λsw=>M.b (evs r c vs) λds=>stTup r c ts vs sw ds
noncomputable def stAsg1 (r:Rec) (c:Cx) (t v:Expr):M Fl :=
 M.b (r.ev c v) λv=>M.b (r.asg c t v) λ_=>M.p .next
noncomputable def stAsgN (r:Rec) (c:Cx) (x:Str) (p:Pos) (v:Expr):M Fl:=match v with
 | .ListComp elt gens scope _=>M.b (evComps r c elt gens scope) λv=>M.b (storeV c x v) λ_=>M.p .next
 | .SetComp _ _ _ _=>fail
 | .DictComp _ _ _ _ _=>fail
 |v=>stAsg1 r c (.Name x p) v
noncomputable def stAsg (r:Rec) (c:Cx) (t v:Expr):M Fl:=match t with
 | .Tuple ts k p=>match v with
  | .Tuple vs _ _=>stAsgT r c ts vs
  | .Call f as kw q=>stAsg1 r c (.Tuple ts k p) (.Call f as kw q)
  | .IfExp a b d q=>stAsg1 r c (.Tuple ts k p) (.IfExp a b d q)
  |_=>fail
 | .Name x p=>stAsgN r c x p v
 | .Attribute o x p=>stAsg1 r c (.Attribute o x p) v
 | .Subscript o x p=>stAsg1 r c (.Subscript o x p) v
 |_=>fail
noncomputable def stIf (r:Rec) (c:Cx) (t:Expr) (a b:List Stmt):M Fl:=M.b (r.tst c t) (pick (r.exs c a) (r.exs c b))
noncomputable def stFor (r:Rec) (c:Cx) (x:Str) (it:Expr) (body:List Stmt):M Fl :=
 M.b (evP r c it) λv=>M.b (iterV v) λi=>r.loop { c with dep:=c.dep-1 } x i body
noncomputable def stExpr (r:Rec) (c:Cx) (e:Expr):M Fl:=match e with
 | .Call f args kw p=>M.b (r.ev c (.Call f args kw p)) λ_=>M.p .next
 |_=>fail
noncomputable def ex (r:Rec) (c:Cx) (s:Stmt):M Fl:=match s with
 | .Expr e _=>stExpr r c e
 | .Return v _=>retV r c v
 | .Assign ts v _=>match ts with
  |[]=>fail
  |t::ts=>match ts with
   |[]=>stAsg r c t v
   |_::_=>fail
 | .If t a b _=>stIf r c t a b
 | .For t it body orelse _=>match t with
  | .Name x _=>match orelse with
   |[]=>stFor r c x it body
   |_::_=>fail
  |_=>fail
 |_=>fail
noncomputable def exs (r:Rec) (c:Cx):List Stmt->M Fl
 |[]=>M.p .next
 |s::ss=>M.b (ex r c s) λf=>match f with
  | .next=>exs r c ss
  | .ret v=>M.p (.ret v)
noncomputable def asgAttr (P:Prog) (r:Rec) (c:Cx) (o:Expr) (name:Str) (v:V):M Unit :=
 M.b (r.ev c o) λov=>setAt P ov name v
noncomputable def asgSub (r:Rec) (c:Cx) (o i:Expr) (v:V):M Unit :=
 M.b (r.ev c o) λov=>M.b (r.ev c i) λiv=>setI ov iv v
noncomputable def asg (P:Prog) (r:Rec) (c:Cx) (t:Expr) (v:V):M Unit:=match t with
 | .Name x _=>storeV c x v
 | .Attribute o name _=>asgAttr P r c o name v
 | .Subscript o i _=>asgSub r c o i v
 | .Tuple ts _ _=>asgTup r c ts v
 |_=>fail
noncomputable def leaveV:Fl->M V
 | .ret v=>M.b popF λ_=>M.p v
 | .next=>M.b popF λ_=>M.p .none
noncomputable def isTabM (o:AO):M Unit:=match isTab o with
 |true=>M.p ()
 |false=>fail
noncomputable def tabOk:Bool->M Unit
 |true=>M.b (obj 0) isTabM
 |false=>M.p ()
noncomputable def callFn (P:Prog) (r:Rec) (dep:Nat) (k:Str) (args:List V):M V :=
 M.b (ofOpt (lookS k P.fns)) λfn=>M.b (tabOk fn.lam) λ_=>M.b (newFrame fn.scope [] dep fn.lam) λc =>
 M.b (bindAll c fn.ps (args++fn.dflt)) λ_=>M.b (r.exs c fn.body) leaveV
noncomputable def noneV:V->M Unit
 | .none=>M.p ()
 |_=>fail
noncomputable def callCls (r:Rec) (dep:Nat) (k ik:Str) (args:List V):M V :=
 M.b (allocO (.attrs [] [])) λd=>M.b (allocO (.inst k d)) λx =>
 M.b (r.call dep (.fn ik) (.ref x::args)) λv=>M.b (noneV v) λ_=>M.p (.ref x)
noncomputable def callLam (r:Rec) (dep:Nat) (ps:List Str) (body:Expr) (scope:Scope) (cs:List (Str × Nat)) (args:List V):M V :=
 M.b (newFrame scope cs dep false) λc=>M.b (bindAll c ps args) λ_=>M.b (r.ev c body) λv=>M.b popF λ_=>M.p v
noncomputable def callObj (r:Rec) (dep:Nat) (args:List V):AO->M V
 | .lam ps body scope cs=>callLam r dep ps body scope cs args
 |_=>fail
noncomputable def callK (P:Prog) (r:Rec) (dep:Nat) (k:Str) (args:List V):Option Str->M V
 |some ik=>callCls r dep k ik args
 |none=>callFn P r dep k args
noncomputable def call (P:Prog) (r:Rec) (dep:Nat) (f:V) (args:List V):M V:=match dep with
 |0=>fail
 |dep+1=>match f with
  | .fn k=>callK P r dep k args (lookS k P.init)
  | .ref i=>M.b (obj i) (callObj r dep args)
  | .raw b=>builtinV b args
  |_=>fail
noncomputable def loopF (r:Rec) (c:Cx) (x:Str) (i:Nat) (body:List Stmt):Fl->M Fl
 | .next=>r.loop c x i body
 | .ret v=>M.p (.ret v)
noncomputable def loopV (r:Rec) (c:Cx) (x:Str) (i:Nat) (body:List Stmt):Option V->M Fl
 |none=>M.p .next
 |some v=>M.b (storeV c x v) λ_=>M.b (r.exs c body) (loopF r c x i body)
noncomputable def loop (r:Rec) (c:Cx) (x:Str) (i:Nat) (body:List Stmt):M Fl:=M.b (nextV i) (loopV r c x i body)
noncomputable def compT (r:Rec) (c:Cx):Option Expr->M Bool
 |none=>M.p true
 |some t=>r.tst c t
noncomputable def addL (n:Nat) (w:V):M Unit:=M.b (obj n) λo=>match o with
 | .list pre mid post=>M.b (askLen (pre++mid++post).length) λ_=>putO n (.list pre mid (post++[w]))
 |_=>fail
noncomputable def compE (r:Rec) (c:Cx) (elt:Expr) (x:Str) (t:Option Expr) (i n:Nat):Bool->M Unit
 |true=>M.b (r.ev c elt) λw=>M.b (addL n w) λ_=>r.comp c elt x t i n
 |false=>r.comp c elt x t i n
noncomputable def compV (r:Rec) (c:Cx) (elt:Expr) (x:Str) (t:Option Expr) (i n:Nat):Option V->M Unit
 |none=>M.p ()
 |some v=>M.b (storeV c x v) λ_=>M.b (compT r c t) (compE r c elt x t i n)
noncomputable def comp (r:Rec) (c:Cx) (elt:Expr) (x:Str) (t:Option Expr) (i n:Nat):M Unit:=M.b (nextV i) (compV r c elt x t i n)
noncomputable def step (P:Prog) (r:Rec):Rec:=⟨ev P r,tst r,exs r,asg P r,call P r,loop r,comp r⟩
noncomputable def run (P:Prog):Nat->Rec
 |0=>Rec.none
 |n+1=>step P (run P n)
noncomputable def fnOf (args:Arguments) (body:List Stmt) (scope:Scope) (dflt:List V):Fn:=⟨args.args.map (·.arg),dflt,body,scope,false⟩
noncomputable def fnsOf (pre:List Nat):List Stmt->List (Str × Fn)
 |[]=>[]
 | .FunctionDef name args body _ _ _ scope _ _ _::r=>(⟨(pre++name.cps.toList).toArray⟩,{ fnOf args body scope (match decide (name = "newer_of") with|true=>[.int 3600,.int 900]|false=>[]) with lam:=decide (name = "_law_come") })::fnsOf pre r
 | .ClassDef name _ _ body _ _ _ _ _ _ _::r=>fnsOf' (name.cps.toList++[46]) body++fnsOf pre r
 |_::r=>fnsOf pre r
where
 fnsOf' (pre:List Nat):List Stmt->List (Str × Fn)
 |[]=>[]
 | .FunctionDef name args body _ _ _ scope _ _ _::r=>(⟨(pre++name.cps.toList).toArray⟩,fnOf args body scope [])::fnsOf' pre r
 |_::r=>fnsOf' pre r
noncomputable def mkStrs (l:List String):V:=.tup (l.map λs=>.str (Str.ofString s))
noncomputable def theFns:List (Str × Fn):=fnsOf [] PySem.Challenge.pw_sj0181_01.main.body
noncomputable def P:Prog where
 globs:=([("STATES", mkStrs ["down", "attempt", "init", "two_way", "exstart", "exchange", "loading", "full"]),
  ("BEGIN", mkStrs ["begin_exchange"]),("ENDED", mkStrs ["clear_lists", "stop_inactivity"]),
  ("EXTERNAL", .int 5),("GREATEST_KIND", .int 5),("MAX_AGE", .int 3600),("MAX_AGE_DIFF", .int 900),("MASTER", .int 1),("MORE", .int 2),("INIT", .int 4),("NUMBERS", .int 4294967296),
  ("len", .raw .len),("abs", .raw .abs),("list", .raw .list),("tuple", .raw .tuple),("range", .raw .range)]:List (Str × V))
  ++ (["is_at_least", "on_hello", "on_two_way", "on_adjacent", "on_exchange_event", "next_state", "is_told", "barred", "newer_of", "key_of", "Exchange", "Describing", "_law_drawn", "_law_begun", "_law_event", "_law_hello", "_law_again", "_law_look", "_law_come", "_law_deed", "_law_stands"]:List String).map λs=>(Str.ofString s,V.fn (Str.ofString s))
 fns:=theFns
 meths:=[("first", "Describing.first"),("next_packet", "Describing.next_packet"),("has_told_all", "Describing.has_told_all"),
  ("begin", "Exchange.begin"),("take", "Exchange.take"),("is_double", "Exchange.is_double"),("is_wrong", "Exchange.is_wrong"),("take_first", "Exchange.take_first"),("take_next", "Exchange.take_next"),
  ("led", "Exchange.led"),("followed", "Exchange.followed"),("ended", "Exchange.ended"),("again", "Exchange.again")]
 cmeths:=[(("Describing", "__init__"), "Describing.__init__")]
 init:=[("Exchange", "Exchange.__init__")]
 mutL:=[202,211,252,267,268,270]
 mutD:=["lines", "state"]
 attrs:=["mtu", "options", "portion", "is_master", "seq", "left", "sent", "own", "other", "stage", "met", "requests"]
theorem eqL_cons{x y:Nat} {a b:List Nat}:eqL (x::a) (y::b)=(match Nat.beq x y with|true=>eqL a b|false=>false):=rfl
theorem eqL_iff{a b:List Nat}:eqL a b=true↔a=b:=by
 induction a generalizing b with
 |nil=>cases b with
  |nil=>exact⟨λ_=>rfl,λ_=>rfl⟩
  |cons=>exact⟨(nomatch ·),(nomatch ·)⟩
 |cons x a ih=>cases b with
  |nil=>exact⟨(nomatch ·),(nomatch ·)⟩
  |cons y b =>
   rw [eqL_cons]
   cases h:Nat.beq x y with
   |true =>
    cases Nat.eq_of_beq_eq_true h;exact ih.trans ⟨λe=>e▸rfl,λe=>(List.cons.inj e).2⟩
   |false=>exact⟨(nomatch ·),λe=>absurd (List.cons.inj e).1 (Nat.ne_of_beq_eq_false h)⟩
theorem zBa{x y:Str}:eqS x y=true↔x=y:=by
 unfold eqS;rw [eqL_iff]
 constructor
 ·intro h;cases x; cases y;simp only [Str.mk.injEq];exact Array.toList_inj.mp h
 ·rintro rfl; rfl
theorem zB9{x y:Str}:eqS x y=false↔x≠y:=by
 rw [<-Bool.not_eq_true,zBa]
structure G where
 ρ:List Addr
 fz:List (Addr × Obj)
 φ:List Addr
noncomputable def G.le (g g':G):Prop:=(∃ r,g'.ρ=g.ρ++r)/\(∀ p∈g.fz,p∈g'.fz)/\g'.φ=g.φ
theorem G.le.refl(g:G):g.le g:=⟨⟨[],by simp⟩,λ_ h=>h,rfl⟩
theorem G.le.trans{a b c:G} (x:a.le b) (y:b.le c):a.le c:=by
 obtain⟨⟨r,e⟩,f,p⟩:=x;obtain⟨⟨r',e'⟩,f',p'⟩:=y;exact⟨⟨r++r',by rw [e',e,List.append_assoc]⟩,λq h=>f' q (f q h),p'.trans p⟩
noncomputable def G.lw (g g':G):Prop:=(∃ r,g'.ρ=g.ρ++r)/\(∀ p∈g.fz,p∈g'.fz)
theorem G.le.lw{g g':G} (x:g.le g'):g.lw g':=⟨x.1,x.2.1⟩
theorem G.lw.refl(g:G):g.lw g:=(G.le.refl g).lw
theorem G.lw.trans{a b c:G} (x:a.lw b) (y:b.lw c):a.lw c:=by
 obtain⟨⟨r,e⟩,f⟩:=x;obtain⟨⟨r',e'⟩,f'⟩:=y;exact⟨⟨r++r',by rw [e',e,List.append_assoc]⟩,λq h=>f' q (f q h)⟩
theorem G.lw.at{g g':G} (x:g.lw g') {n:Nat} {a:Addr} (h:g.ρ[n]?=some a):g'.ρ[n]?=some a:=by
 obtain⟨⟨r,e⟩,_⟩:=x;rw [e,List.getElem?_append_left (by obtain⟨h,_⟩:=List.getElem?_eq_some_iff.mp h; exact h)];exact h
structure Cn where
 prog:PySem.Program
 w:World
 K:Frag
 h₀:Heap
 fnv:Str->Option Addr
 fzA:List (Addr × Obj)
 C:Addr
 P:Addr
 sm:h₀.get? mainGlobals≠none
theorem zP0{α β:Type} {C:Prop} {f:α->β} {o:Option α} {b:β} (e:o.map f=some b) (H:∀ a,o=some a->f a=b->C):C :=
 (Option.map_eq_some_iff.mp e).elim λa h=>H a h.1 h.2
theorem obindE{α β:Type} {C:Prop} {f:α->Option β} {o:Option α} {b:β} (e:o.bind f=some b) (H:∀ a,o=some a->f a=some b->C):C :=
 (Option.bind_eq_some_iff.mp e).elim λa h=>H a h.1 h.2
noncomputable def big:Nat:=1000000
mutual
inductive VR (cn:Cn) (g:G):V->Value->Prop
 |none:VR cn g .none .none
 |bool (b):VR cn g (.bool b) (.bool b)
 |int (i t):VR cn g (.int i) (.int i t)
 |sym (i t):VR cn g (.sym i) (.int i t)
 |str (x t):VR cn g (.str x) (.str x t)
 |tup {a vs n ds}:(a,(⟨.type "tuple", none,.seq vs n,#[]⟩:Obj))∈g.fz->vs.size<=big->VRs cn g ds vs.toList->VR cn g (.tup ds) (.ref a)
 |lst {a vs n ds}:(a,(⟨.type "list", none,.seq vs n,#[]⟩:Obj))∈g.fz->vs.size<=big->VRs cn g ds vs.toList->VR cn g (.lst ds) (.ref a)
 |dct {a o es ep ks vs ds}:(a,o)∈g.fz->o.ExactDict->o.data=.dict es ep->KeysOf (strKind cn.prog cn.w) es->Pairs (strKind cn.prog cn.w) es.toList (ks.zip vs)->ks.Nodup->ks.length=vs.length->(a == sysModules)=false ->
   VRs cn g ds vs->VR cn g (.dct ks ds) (.ref a)
 |fn {k a}:cn.fnv k=some a->VR cn g (.fn k) (.ref a)
 |raw (b):VR cn g (.raw b) (biOf b)
 |ref {n a}:g.ρ[n]?=some a->VR cn g (.ref n) (.ref a)
inductive VRs (cn:Cn) (g:G):List V->List Value->Prop
 |nil:VRs cn g [] []
 |cons {d v ds vs}:VR cn g d v->VRs cn g ds vs->VRs cn g (d::ds) (v::vs)
end
section
variable {cn:Cn} {g g':G}
theorem VR.mono(x:g.lw g') {d:V} {v:Value} (h:VR cn g d v):VR cn g' d v :=
 VR.rec (motive_1:=λd v _=>VR cn g' d v) (motive_2:=λds vs _=>VRs cn g' ds vs) .none .bool .int .sym .str (λh1 h2 _ h3=>.tup (x.2 _ h1) h2 h3) (λh1 h2 _ h3=>.lst (x.2 _ h1) h2 h3)
  (λh1 h2 h3 h4 h5 h6 h7 hm _ h8=>.dct (x.2 _ h1) h2 h3 h4 h5 h6 h7 hm h8) .fn .raw (λh=>.ref (x.at h)) .nil (λ_ _ h r=>.cons h r) h
inductive SeqR (cn:Cn) (g:G) (cl:String) (ds:List V) (v:Value):Prop
 |mk (a:Addr) (vs:Array Value) (n:Nat) (e:v=.ref a) (h1:(a,(⟨.type cl,none,.seq vs n,#[]⟩:Obj))∈g.fz) (h2:vs.size<=big) (h3:VRs cn g ds vs.toList)
noncomputable def VRI (cn:Cn) (g:G) (d:V) (v:Value):Prop:=match d with
 | .none=>v=.none
 | .bool b=>v=.bool b
 | .int i=>∃ t,v=.int i t
 | .sym i=>∃ t,v=.int i t
 | .str x=>∃ t,v=.str x t
 | .tup ds=>SeqR cn g "tuple" ds v
 | .lst ds=>SeqR cn g "list" ds v
 | .fn k=>∃ a,v=.ref a/\cn.fnv k=some a
 | .raw b=>v=biOf b
 | .ref n=>∃ a,v=.ref a/\g.ρ[n]?=some a
 | .dct _ _=>True
theorem VR.inv{d:V} {v:Value} (h:VR cn g d v):VRI cn g d v:=by
 cases h with
 |int|sym|str=>exact⟨_,rfl⟩
 |tup h1 h2 h3=>exact⟨_,_,_,rfl,h1,h2,h3⟩
 |lst h1 h2 h3=>exact⟨_,_,_,rfl,h1,h2,h3⟩
 |fn h=>exact⟨_,rfl,h⟩
 |ref h=>exact⟨_,rfl,h⟩
 |dct=>exact trivial
 |_=>exact rfl
theorem VRs.nil_inv{vs:List Value} (h:VRs cn g [] vs):vs=[]:=by cases h; rfl
theorem VRs.cons_inv{C:Prop} {d:V} {ds:List V} {vs:List Value} (h:VRs cn g (d::ds) vs) (K:∀ v us,vs=v::us->VR cn g d v->VRs cn g ds us->C):C:=by
 cases h with
 |cons h r=>exact K _ _ rfl h r
theorem VRs.ind{m:∀ ds vs,VRs cn g ds vs->Prop} (n:m [] [] .nil) (c:∀ {d v ds vs} (h:VR cn g d v) (r:VRs cn g ds vs),m ds vs r->m (d::ds) (v::vs) (.cons h r)) {ds:List V} {vs:List Value} (h:VRs cn g ds vs):m ds vs h :=
 VRs.rec (motive_1:=λ_ _ _=>True) (motive_2:=m) trivial (λ_=>trivial) (λ_ _=>trivial) (λ_ _=>trivial) (λ_ _=>trivial) (λ_ _ _ _=>trivial) (λ_ _ _ _=>trivial) (λ_ _ _ _ _ _ _ _ _ _=>trivial)
  (λ_=>trivial) (λ_=>trivial) (λ_=>trivial) n (λh r _ ih=>c h r ih) h
theorem VRs.mono(x:g.lw g') {ds:List V} {vs:List Value} (h:VRs cn g ds vs):VRs cn g' ds vs:=h.ind (m:=λds vs _=>VRs cn g' ds vs) .nil λh _ ih=>.cons (h.mono x) ih
theorem VRs.length{ds:List V} {vs:List Value} (h:VRs cn g ds vs):vs.length=ds.length :=
 h.ind (m:=λds vs _=>vs.length=ds.length) rfl λ_ _ ih=>congrArg Nat.succ ih
theorem VRs.append{ds es:List V} {vs us:List Value} (h:VRs cn g ds vs) (h':VRs cn g es us):VRs cn g (ds++es) (vs++us) :=
 h.ind (m:=λds vs _=>VRs cn g (ds++es) (vs++us)) h' λh _ ih=>.cons h ih
theorem VRs.split{ds es:List V}:∀ {vs:List Value},VRs cn g (ds++es) vs->∃ us ws,vs=us++ws/\VRs cn g ds us/\VRs cn g es ws :=
 List.rec (motive:=λds=>∀ {vs:List Value},VRs cn g (ds++es) vs->∃ us ws,vs=us++ws/\VRs cn g ds us/\VRs cn g es ws) (λh=>⟨[],_,rfl,.nil,h⟩) (λ_ _ ih _ h=>h.cons_inv λv _ e h1 r=>Exists.elim (ih r) λus h=>Exists.elim h λws h=>⟨v::us,ws,e.trans (congrArg _ h.1),.cons h1 h.2.1,h.2.2⟩) ds
theorem VRs.get{ds:List V} {vs:List Value} {i:Nat} {d:V} (h:VRs cn g ds vs) (e:ds[i]?=some d):∃ v,vs[i]?=some v/\VR cn g d v:=by
 induction h using VRs.ind generalizing i with
 |n=>cases e
 |c h _ ih =>
  cases i with
  |zero=>cases e; exact⟨_,rfl,h⟩
  |succ i=>exact ih e
theorem VRs.none:∀ {ds:List V} {vs:List Value} {i:Nat},VRs cn g ds vs->ds[i]?=Option.none->vs[i]?=Option.none:=by
 intro ds vs i h e;rw [List.getElem?_eq_none_iff] at e ⊢;rw [h.length]; exact e
theorem VRs.set{ds:List V} {vs:List Value} {i:Nat} {d:V} {v:Value} (h:VRs cn g ds vs) (h':VR cn g d v):VRs cn g (ds.set i d) (vs.set i v):=by
 induction h using VRs.ind generalizing i with
 |n=>exact .nil
 |c h r ih =>
  cases i with
  |zero=>exact .cons h' r
  |succ i=>exact .cons h ih
theorem VRs.take{ds:List V} {vs:List Value} (n:Nat) (h:VRs cn g ds vs):VRs cn g (ds.take n) (vs.take n):=by
 induction h using VRs.ind generalizing n with
 |n=>rw [List.take_nil,List.take_nil]; exact .nil
 |c h r ih =>
  cases n with
  |zero=>exact .nil
  |succ n=>exact .cons h (ih n)
theorem VRs.drop{ds:List V} {vs:List Value} (n:Nat) (h:VRs cn g ds vs):VRs cn g (ds.drop n) (vs.drop n):=by
 induction h using VRs.ind generalizing n with
 |n=>rw [List.drop_nil,List.drop_nil]; exact .nil
 |c h r ih =>
  cases n with
  |zero=>exact .cons h r
  |succ n=>exact ih n
theorem VRs.assoc{α:Type} {ks:List Str} {ds:List V} {vs:List Value} {x:Str} {d:V} (h:VRs cn g ds vs) (e:Mine.assoc x ks ds=some d):∃ v,Mine.assoc x ks vs=some v/\VR cn g d v:=by
 induction h using VRs.ind generalizing ks with
 |n=>cases ks<;>cases e
 |c h _ ih =>
  cases ks with
  |nil=>cases e
  |cons k ks =>
   unfold Mine.assoc at e ⊢
   cases q:eqS x k with
   |true=>rw [q] at e; cases e; exact⟨_,rfl,h⟩
   |false=>rw [q] at e; exact ih e
end
inductive ER (cn:Cn) (g:G):List Str->List V->List DictEntry->Prop
 |nil:ER cn g [] [] []
 |cons {k d ks ds hs t v es}:VR cn g d v->ER cn g ks ds es->ER cn g (k::ks) (d::ds) (⟨hs,.str k t,v⟩::es)
theorem ER.mono{cn:Cn} {g g':G} (x:g.lw g') {ks:List Str} {ds:List V} {es:List DictEntry} (h:ER cn g ks ds es):ER cn g' ks ds es :=
 h.rec .nil λh _ ih=>.cons (h.mono x) ih
inductive ListR (cn:Cn) (g:G) (h:Heap) (a:Addr) (pre mid post:List V):Prop
 |mk (vs:List Value) (n:Nat) (h1:IsL h a vs.toArray n) (h2:vs.length<=big) (h3:VRs cn g (pre++mid++post) vs) (h4:∀ d∈mid,okV 12 d=true)
inductive DictR (cn:Cn) (g:G) (h:Heap) (a:Addr) (ks:List Str) (ds:List V):Prop
 |mk (vs:List Value) (h1:h.DictOf (strKind cn.prog cn.w) a (ks.zip vs)) (h2:ks.length=vs.length) (h3:VRs cn g ds vs)
inductive AttrsR (cn:Cn) (g:G) (h:Heap) (a:Addr) (ks:List Str) (ds:List V):Prop
 |mk (es:List DictEntry) (n:Nat) (h1:h.get? a=some (dictOf es n)) (h2:ER cn g ks ds es)
inductive InstR (cn:Cn) (g:G) (h:Heap) (a:Addr) (k:Str) (d:Nat):Prop
 |mk (dx:Addr) (h1:cn.fnv k=some cn.C) (h2:g.ρ[d]?=some dx) (h3:h.get? a=some ⟨.ref cn.C,some dx,.plain,#[]⟩)
inductive TabR (cn:Cn) (h:Heap) (a:Addr):Prop
 |mk (h0:a=cn.P) (ps:Array Value) (h1:h.get? a=some (tabObj ps)) (h2:TriplesOk ps.toList) (h3:∀ p cv,codeAmong p ps.toList=some cv->∃ q,h.CodeRec cv q)
inductive LamR (cn:Cn) (g:G) (h:Heap) (a:Addr) (ps:List Str) (body:PySem.Expr) (scope:Scope) (cs:List (Str × Nat)):Prop
 |mk (fd:FuncData) (o:Obj) (h1:h.get? a=some o) (h2:o.data=.func fd) (h3:fd.body=.expr body) (h4:fd.scope=scope) (h5:fd.globals=mainGlobals) (h6:fd.builtins=builtinsNs) (h7:∃ q,h.CodeRec fd.code q) (h8:okScope scope=true)
   (h9:∀ x i,lookS x cs=some i->∃ c,fd.closure.lookup x=some c/\g.ρ[i]?=some c) (h10:∀ vals s,vals.length=ps.length->BindsTo s fd ⟨vals,[]⟩ (ps.zip vals))
inductive IterR (cn:Cn) (g:G) (h:Heap) (a:Addr) (v:V) (i:Nat):Prop
 |mk (l:Addr) (h1:VR cn g v (.ref l)) (h2:match (generalizing:=false) v with | .tup _=>h.IsTupleIter a l i|_=>h.IsListIter a l i)
inductive RngR (h:Heap) (a:Addr) (n:Nat):Prop
 |mk (h1:n<=1000) (t u v:Tok) (h2:IsRange h a 0 n 1 t u v)
noncomputable def OR (cn:Cn) (g:G) (h:Heap) (a:Addr):AO->Prop
 | .list pre mid post=>ListR cn g h a pre mid post
 | .dict ks ds=>DictR cn g h a ks ds
 | .attrs ks ds=>AttrsR cn g h a ks ds
 | .inst k d=>InstR cn g h a k d
 | .tab=>TabR cn h a
 | .cell v=>∃ val,h.IsCell a val/\(match v,val with|some d,some u=>VR cn g d u|none,none=>True|_,_=>False)
 | .lam ps body scope cs=>LamR cn g h a ps body scope cs
 | .iter v i=>IterR cn g h a v i
 | .riter i n=>IsRangeIter h a i n 1
 | .range n=>RngR h a n
 | .dead=>True
inductive FR (cn:Cn) (g:G) (h:Heap) (L:Addr) (f:List Str × List V):Prop
 |mk (m:Str->Option Value) (h1:h.Ns L m) (h2:∀ x d,assoc x f.1 f.2=some d->∃ v,m x=some v/\VR cn g d v)
inductive Lay {α:Type} (R:Addr->α->Prop):List Addr->List α->Prop
 |nil:Lay R [] []
 |cons {a o as os}:R a o->Lay R as os->Lay R (a::as) (o::os)
noncomputable def isDead:AO->Bool
 | .dead=>true
 |_=>false
structure St (cn:Cn) (g:G) (s:S0) (h:Heap):Prop where
 keep:∀ b o,cn.h₀.get? b=some o->h.get? b=some o
 objs:Lay (OR cn g h) g.ρ s.σ
 frs:Lay (FR cn g h) g.φ s.fr
 fzs:∀ p∈g.fz,h.get? p.1=some p.2
 one:∀ (n m:Nat) (a:Addr) (o o':AO),g.ρ[n]?=some a->g.ρ[m]?=some a->s.σ[n]?=some o->s.σ[m]?=some o'->isDead o=false->isDead o'=false->n=m
 nφ:g.φ.Nodup
 offρφ:∀ (n:Nat) (a:Addr) (o:AO),g.ρ[n]?=some a->s.σ[n]?=some o->isDead o=false->a∉g.φ
 baseρ:∀ (n:Nat) (a:Addr) (o:AO),g.ρ[n]?=some a->s.σ[n]?=some o->isDead o=false->cn.h₀.get? a=none
 baseφ:∀ a∈g.φ,cn.h₀.get? a=none
 offρ:∀ (n:Nat) (a:Addr) (o:AO),g.ρ[n]?=some a->s.σ[n]?=some o->isDead o=false->∀ p∈g.fz,p.1≠a
 offφ:∀ a∈g.φ,∀ p∈g.fz,p.1≠a
 z0:∀ p∈cn.fzA,p∈g.fz
section
variable {α:Type} {R R':Addr->α->Prop}
theorem Lay.get{as:List Addr} {os:List α} {n:Nat} {o:α} (h:Lay R as os) (e:os[n]?=some o):∃ a,as[n]?=some a/\R a o:=by
 induction h generalizing n with
 |nil=>cases e
 |cons h _ ih =>
  cases n with
  |zero=>cases e; exact⟨_,rfl,h⟩
  |succ n=>exact ih e
theorem Lay.length{as:List Addr} {os:List α} (h:Lay R as os):as.length=os.length:=h.rec rfl λ_ _ ih=>congrArg Nat.succ ih
theorem Lay.imp{as:List Addr} {os:List α} (h:Lay R as os):(∀ a o,a∈as->R a o->R' a o)->Lay R' as os :=
 h.rec (λ_=>.nil) λh _ ih f=>.cons (f _ _ (.head _) h) (ih λa o ha=>f a o (.tail _ ha))
theorem Lay.snoc{as:List Addr} {os:List α} {a:Addr} {o:α} (h:Lay R as os) (h':R a o):Lay R (as++[a]) (os++[o]) :=
 h.rec (.cons h' .nil) λh _ ih=>.cons h ih
theorem Lay.both{as:List Addr} {os:List α} {n:Nat} {a:Addr} {o:α} (h:Lay R as os) (e:as[n]?=some a) (f:os[n]?=some o):R a o:=by
 induction h generalizing n with
 |nil=>cases e
 |cons h _ ih =>
  cases n with
  |zero=>cases e; cases f; exact h
  |succ n=>exact ih e f
theorem Lay.of:∀ {as:List Addr} {os:List α},as.length=os.length->(∀ (n:Nat) (a:Addr) (o:α),as[n]?=some a->os[n]?=some o->R a o)->Lay R as os
 |[],[],_,_=>.nil
 |[],_::_,h,_=>by simp at h
 |_::_,[],h,_=>by simp at h
 |a::as,o::os,h,f=>.cons (f 0 a o rfl rfl) (Lay.of (by simpa using h) λn a o ea eo=>f (n+1) a o (by simpa using ea) (by simpa using eo))
end
section
variable {cn:Cn} {g g':G} {h h':Heap} {s:S0}
theorem OR.mono{a:Addr} {o:AO} (x:g.lw g') (k:∀ ob,h.get? a=some ob->h'.get? a=some ob) (kr:∀ cd q,h.CodeRec cd q->h'.CodeRec cd q) (H:OR cn g h a o):OR cn g' h' a o:=by
 cases o with
 |list pre mid post =>
  obtain⟨vs,n,ho,hl,hv,ho'⟩:=H;exact⟨vs,n,k _ ho,hl,hv.mono x,ho'⟩
 |dict ks ds =>
  obtain⟨vs,⟨ob,es,ep,ho,r⟩,hl,hv⟩:=H;exact⟨vs,⟨ob,es,ep,k _ ho,r⟩,hl,hv.mono x⟩
 |attrs ks ds =>
  obtain⟨es,n,ho,h1⟩:=H;exact⟨es,n,k _ ho,h1.mono x⟩
 |tab =>
  obtain⟨ha,ps,h1,h2,h3⟩:=H;exact⟨ha,ps,k _ h1,h2,λp cv e=>by obtain⟨q,hq⟩:=h3 p cv e; exact⟨q,kr _ _ hq⟩⟩
 |inst kk d =>
  obtain⟨dx,h1,h2,h3⟩:=H;exact⟨dx,h1,x.at h2,k _ h3⟩
 |cell v =>
  obtain⟨val,⟨ob,ho,r⟩,hv⟩:=H;refine⟨val,⟨ob,k _ ho,r⟩,?_⟩
  cases v<;>cases val<;>first|exact hv|exact VR.mono x hv
 |lam ps body scope cs =>
  obtain⟨fd,ob,ho,hd,h1,h2,h3,h4,h5,h8,h6,h7⟩:=H;exact⟨fd,ob,k _ ho,hd,h1,h2,h3,h4,by obtain⟨q,hq⟩:=h5; exact⟨q,kr _ _ hq⟩,h8,λy i e=>by obtain⟨c,e1,e2⟩:=h6 y i e; exact⟨c,e1,x.at e2⟩,h7⟩
 |iter v i =>
  obtain⟨l,hv,hi⟩:=H;refine⟨l,hv.mono x,?_⟩;clear x hv;cases v<;>(obtain⟨ob,ho,r⟩:=hi; exact⟨ob,k _ ho,r⟩)
 |riter i n=>exact k _ H
 |range n=>obtain⟨hn,t,u,v,H⟩:=H; exact⟨hn,t,u,v,k _ H⟩
 |dead=>trivial
theorem FR.mono{L:Addr} {f:List Str × List V} (x:g.lw g') (k:∀ ob,h.get? L=some ob->h'.get? L=some ob) (H:FR cn g h L f):FR cn g' h' L f:=by
 obtain⟨m,⟨ob,es,ep,ho,r⟩,hm⟩:=H;exact⟨m,⟨ob,es,ep,k _ ho,r⟩,λy d e=>by obtain⟨v,e1,e2⟩:=hm y d e; exact⟨v,e1,e2.mono x⟩⟩
theorem St.obj(X:St cn g s h) {n:Nat} {o:AO} (e:s.σ[n]?=some o):∃ a,g.ρ[n]?=some a/\OR cn g h a o:=X.objs.get e
theorem St.at(X:St cn g s h) {n:Nat} {a:Addr} {o:AO} (e:s.σ[n]?=some o) (ea:g.ρ[n]?=some a):OR cn g h a o:=by
 obtain⟨b,eb,H⟩:=X.obj e;rw [ea] at eb; cases eb; exact H
theorem OR.some{a:Addr} {o:AO} (hd:isDead o=false) (H:OR cn g h a o):∃ ob,h.get? a=.some ob:=by
 cases o with
 |list pre mid post=>obtain⟨vs,n,ho,_⟩:=H; exact⟨_,ho⟩
 |dict ks ds=>obtain⟨vs,⟨ob,es,ep,ho,r⟩,_⟩:=H; exact⟨_,ho⟩
 |attrs ks ds=>obtain⟨es,n,ho,h1⟩:=H; exact⟨_,ho⟩
 |tab=>obtain⟨ha,ps,h1,_⟩:=H; exact⟨_,h1⟩
 |inst kk d=>obtain⟨dx,h1,h2,h3⟩:=H; exact⟨_,h3⟩
 |cell v=>obtain⟨val,⟨ob,ho,r⟩,hv⟩:=H; exact⟨_,ho⟩
 |lam ps body scope cs=>obtain⟨fd,ob,ho,_⟩:=H; exact⟨_,ho⟩
 |iter v i=>obtain⟨l,hv,hi⟩:=H; cases v<;>(obtain⟨ob,ho,r⟩:=hi; exact⟨_,ho⟩)
 |riter i n=>exact⟨_,H⟩
 |range n=>obtain⟨hn,t,u,v,H⟩:=H; exact⟨_,H⟩
 |dead=>cases hd
theorem FR.some{L:Addr} {f:List Str × List V} (H:FR cn g h L f):∃ ob,h.get? L=.some ob:=by
 obtain⟨m,⟨ob,es,ep,ho,r⟩,hm⟩:=H;exact⟨_,ho⟩
theorem St.lt(X:St cn g s h) {n:Nat} {a:Addr} {o:AO} (ea:g.ρ[n]?=.some a) (eo:s.σ[n]?=.some o) (hd:isDead o=false):a<h.objs.size:=by
 obtain⟨ob,e⟩:=(X.at eo ea).some hd;exact Heap.lt_size e
theorem Lay.mem{α:Type} {R:Addr->α->Prop} {as:List Addr} {os:List α} {a:Addr} (h:Lay R as os):a∈as->∃ o,R a o :=
 h.rec (λh=>nomatch h) λh _ ih hm=>(List.mem_cons.mp hm).elim (λe=>⟨_,e▸h⟩) ih
theorem St.ltφ(X:St cn g s h) {a:Addr} (ha:a∈g.φ):a<h.objs.size:=by
 obtain⟨f,H⟩:=X.frs.mem ha;obtain⟨ob,e⟩:=H.some;exact Heap.lt_size e
theorem St.grow(X:St cn g s h) (k:∀ b ob,h.get? b=some ob->h'.get? b=some ob):St cn g s h' :=
 { X with
  keep:=λb o e=>k _ _ (X.keep b o e)
  objs:=X.objs.imp λa _ _ H=>H.mono (G.lw.refl g) (k a) λ_ _ c=>c.keeps k
  frs:=X.frs.imp λa _ _ H=>H.mono (G.lw.refl g) (k a)
  fzs:=λp hp=>k _ _ (X.fzs p hp) }
theorem St.orc(X:St cn g s h) (o:List Bool):St cn g { s with orc:=o } h:=⟨X.keep,X.objs,X.frs,X.fzs,X.one,X.nφ,X.offρφ,X.baseρ,X.baseφ,X.offρ,X.offφ,X.z0⟩
theorem getElem?_set_ne{α:Type} {l:List α} {n m:Nat} {x:α} (h:n≠m):(l.set n x)[m]?=l[m]?:=List.getElem?_set_ne h
theorem zFx{f:Addr->Option Obj} {a b:Addr} {o:Obj} (ha:f a=none) (e:f b=some o):b≠a:=λq=>by
 rw [<-q,e] at ha; cases ha
theorem zDh{α:Type} {l:List α} {n m:Nat} {x y:α} (e:(l.set n x)[m]?=some y):(n=m/\y=x)\/(n≠m/\l[m]?=some y):=by
 by_cases hm:n=m
 ·subst hm;obtain⟨hl,_⟩:=List.getElem?_eq_some_iff.mp e;rw [List.getElem?_set_self (by simpa using hl)] at e;exact .inl ⟨rfl,(Option.some.inj e).symm⟩
 ·rw [getElem?_set_ne hm] at e; exact .inr ⟨hm,e⟩
theorem St.ext(X:St cn g s h) {n:Nat} {a:Addr} {o o':AO} (ea:g.ρ[n]?=some a) (e:s.σ[n]?=some o) (hd:isDead o=false) (hs:Heap.ExtBut a h h') (kr:∀ cd q,h.CodeRec cd q->h'.CodeRec cd q) (H:OR cn g h' a o'):St cn g { s with σ:=s.σ.set n o' } h' where
 keep b ob eb:=hs _ _ (zFx (X.baseρ n a o ea e hd) eb) (X.keep b ob eb)
 objs:=by
  refine Lay.of (by show g.ρ.length=(s.σ.set n o').length; rw [List.length_set]; exact X.objs.length) λm b ob eb eo=>?_
  rcases zDh eo with⟨rfl,rfl⟩|⟨hm,eo⟩
  ·rw [ea] at eb; cases eb; exact H
  ·cases hdo:isDead ob with
   |true=>cases ob<;>first|trivial|cases hdo
   |false =>
    have hb:b≠a:=λq=>hm (X.one n m a o ob ea (q▸eb) e eo hd hdo);exact (X.at eo eb).mono (G.lw.refl g) (λob e=>hs _ _ hb e) kr
 frs:=X.frs.imp λb f hb H=>H.mono (G.lw.refl g) λob e'=>hs _ _ (λq=>X.offρφ n a o ea e hd (q▸hb)) e'
 fzs p hp:=hs _ _ (X.offρ n a o ea e hd p hp) (X.fzs p hp)
 one m m' b ob ob' eb eb' eo eo' h1 h2:=by
  rcases zDh eo with⟨q1,q2⟩|⟨hm,eo2⟩<;>rcases zDh eo' with⟨q3,q4⟩|⟨hm',eo2'⟩
  ·exact q1.symm.trans q3
  ·rw [<-q1,ea] at eb; cases eb; exact q1.symm.trans (X.one _ _ _ _ _ ea eb' e eo2' hd h2)
  ·rw [<-q3,ea] at eb'; cases eb'; exact (X.one _ _ _ _ _ eb ea eo2 e h1 hd).trans q3
  ·exact X.one _ _ _ _ _ eb eb' eo2 eo2' h1 h2
 nφ:=X.nφ
 offρφ m b ob eb eo hdo:=by
  rcases zDh eo with⟨rfl,rfl⟩|⟨hm,eo⟩
  ·rw [ea] at eb; cases eb; exact X.offρφ n a o ea e hd
  ·exact X.offρφ m b ob eb eo hdo
 baseρ m b ob eb eo hdo:=by
  rcases zDh eo with⟨rfl,rfl⟩|⟨hm,eo⟩
  ·rw [ea] at eb; cases eb; exact X.baseρ n a o ea e hd
  ·exact X.baseρ m b ob eb eo hdo
 baseφ:=X.baseφ
 offρ m b ob eb eo hdo:=by
  rcases zDh eo with⟨rfl,rfl⟩|⟨hm,eo⟩
  ·rw [ea] at eb; cases eb; exact X.offρ n a o ea e hd
  ·exact X.offρ m b ob eb eo hdo
 offφ:=X.offφ
 z0:=X.z0
theorem St.upd(X:St cn g s h) {n:Nat} {a:Addr} {o o':AO} (ea:g.ρ[n]?=some a) (e:s.σ[n]?=some o) (hd:isDead o=false) (hs:Heap.SameBut a h h') (kr:∀ cd q,h.CodeRec cd q->h'.CodeRec cd q) (H:OR cn g h' a o'):St cn g { s with σ:=s.σ.set n o' } h' :=
 X.ext ea e hd hs.extBut kr H
theorem St.updF(X:St cn g s h) {f f':List Str × List V} {r:List (List Str × List V)} {L:Addr} {φ:List Addr} (hf:s.fr=f::r) (hφ:g.φ=L::φ) (hs:Heap.SameBut L h h') (kr:∀ cd q,h.CodeRec cd q->h'.CodeRec cd q) (H:FR cn g h' L f'):St cn g { s with fr:=f'::r } h' :=
 { X with
  keep:=λb o e=>(hs.2 b (zFx (X.baseφ L (by rw [hφ]; exact .head _)) e)).trans (X.keep b o e)
  objs:=by
   refine Lay.of X.objs.length λm b ob eb eo=>?_
   cases hdo:isDead ob with
   |true=>cases ob<;>first|trivial|cases hdo
   |false =>
    have hb:b≠L:=λq=>X.offρφ m b ob eb eo hdo (by rw [hφ,q]; exact .head _);exact (X.at eo eb).mono (G.lw.refl g) (λob e=>(hs.2 b hb).trans e) kr
  frs:=by
   have Y:=X.frs;have nd:=X.nφ;rw [hf,hφ] at Y;rw [hφ] at nd;rw [hφ]
   cases Y with
   |cons h1 h2 =>
    exact .cons H (h2.imp λb f hb K=>K.mono (G.lw.refl g) λob e=>(hs.2 b (λq=>(List.nodup_cons.mp nd).1 (q▸hb))).trans e)
  fzs:=λp hp=>(hs.2 p.1 (X.offφ L (by rw [hφ]; exact .head _) p hp)).trans (X.fzs p hp) }
noncomputable def G.add (g:G) (a:Addr):G:={ g with ρ:=g.ρ++[a] }
noncomputable def G.freeze (g:G) (a:Addr) (o:Obj):G:={ g with fz:=(a,o)::g.fz }
theorem G.le_add(g:G) (a:Addr):g.le (g.add a):=⟨⟨[a],rfl⟩,λ_ h=>h,rfl⟩
theorem G.le_freeze(g:G) (a:Addr) (o:Obj):g.le (g.freeze a o):=⟨⟨[],by simp [G.freeze]⟩,λ_ h=>.tail _ h,rfl⟩
theorem get?_size(h:Heap):h.get? h.objs.size=none:=by
 cases q:h.get? h.objs.size with
 |none=>rfl
 |some o=>exact absurd (Heap.lt_size q) (Nat.lt_irrefl _)
theorem zRc(X:St cn g s h) {a:Addr} (ha:h.objs.size<=a):cn.h₀.get? a=none:=by
 cases q:cn.h₀.get? a with
 |none=>rfl
 |some o=>exact absurd (Heap.lt_size (X.keep _ _ q)) (Nat.not_lt_of_le ha)
theorem zJw{n:Nat} {a b:Addr} {σ:List AO} {o ob:AO} (hl:g.ρ.length=σ.length) (eb:(g.ρ++[a])[n]?=some b) (eo:(σ++[o])[n]?=some ob):(b=a/\ob=o/\n=g.ρ.length)\/(g.ρ[n]?=some b/\σ[n]?=some ob/\n<g.ρ.length):=by
 by_cases hn:n<g.ρ.length
 ·rw [List.getElem?_append_left hn] at eb;rw [List.getElem?_append_left (hl▸hn)] at eo;exact .inr ⟨eb,eo,hn⟩
 ·have hn':g.ρ.length=n:=by
   obtain⟨h1,_⟩:=List.getElem?_eq_some_iff.mp eb;simp at h1; lia
  subst hn';rw [List.getElem?_append_right (Nat.le_refl _)] at eb;rw [hl,List.getElem?_append_right (Nat.le_refl _)] at eo;simp at eb eo;exact .inl ⟨eb.symm,eo.symm,rfl⟩
theorem St.alloc(X:St cn g s h) {a:Addr} {o:AO} (k:∀ b ob,h.get? b=some ob->h'.get? b=some ob) (ha:h.objs.size<=a) (H:OR cn (g.add a) h' a o):St cn (g.add a) { s with σ:=s.σ++[o] } h':=by
 have new:∀ b ob,h.get? b=some ob->b≠a:=λb ob e q=>by subst q; exact Nat.lt_irrefl _ (Nat.lt_of_lt_of_le (Heap.lt_size e) ha)
 have hlen:=X.objs.length;have lt:∀ b,b<h.objs.size->b≠a:=λb hb q=>Nat.lt_irrefl _ (Nat.lt_of_lt_of_le (q▸hb) ha)
 refine⟨λb o e=>k _ _ (X.keep b o e),?_,?_,λp hp=>k _ _ (X.fzs p hp),?_,X.nφ,?_,?_,X.baseφ,?_,X.offφ,X.z0⟩
 ·exact Lay.snoc (X.objs.imp λb o' _ H'=>H'.mono (G.le_add g a).lw (k b) λ_ _ c=>c.keeps k) H
 ·exact X.frs.imp λb o' _ H'=>H'.mono (G.le_add g a).lw (k b)
 ·intro n m b ob ob' eb eb' eo eo' h1 h2
  rcases zJw hlen eb eo with⟨q1,q2,hn⟩|⟨eb2,eo2,hn⟩<;>rcases zJw hlen eb' eo' with⟨q3,q4,hm⟩|⟨eb2',eo2',hm⟩
  ·rw [hn,hm]
  ·exact absurd q1 (lt _ (X.lt eb2' eo2' h2))
  ·exact absurd q3 (lt _ (X.lt eb2 eo2 h1))
  ·exact X.one _ _ _ _ _ eb2 eb2' eo2 eo2' h1 h2
 ·intro n b ob eb eo hd
  rcases zJw hlen eb eo with⟨rfl,rfl,hn⟩|⟨eb,eo,hn⟩
  ·exact λhm=>lt _ (X.ltφ hm) rfl
  ·exact X.offρφ _ _ _ eb eo hd
 ·intro n b ob eb eo hd
  rcases zJw hlen eb eo with⟨rfl,rfl,hn⟩|⟨eb,eo,hn⟩
  ·exact zRc X ha
  ·exact X.baseρ _ _ _ eb eo hd
 ·intro n b ob eb eo hd p hp
  rcases zJw hlen eb eo with⟨rfl,rfl,hn⟩|⟨eb,eo,hn⟩
  ·exact new _ _ (X.fzs p hp)
  ·exact X.offρ _ _ _ eb eo hd p hp
theorem St.freeze(X:St cn g s h) {a:Addr} {o:Obj} (k:∀ b ob,h.get? b=some ob->h'.get? b=some ob) (ha:h.objs.size<=a) (ho:h'.get? a=some o):St cn (g.freeze a o) s h':=by
 have Y:=X.grow k
 refine⟨Y.keep,Y.objs.imp λb o' _ H'=>H'.mono (G.le_freeze g a o).lw (λ_ e=>e) λ_ _ c=>c,Y.frs.imp λb o' _ H'=>H'.mono (G.le_freeze g a o).lw (λ_ e=>e),?_,Y.one,Y.nφ,Y.offρφ,Y.baseρ,Y.baseφ,?_,?_,λp hp=>.tail _ (X.z0 p hp)⟩
 ·intro p hp
  rcases List.mem_cons.mp hp with rfl|hp
  ·exact ho
  ·exact Y.fzs p hp
 ·intro n b ob eb eo hd p hp
  rcases List.mem_cons.mp hp with rfl|hp
  ·exact λq=>Nat.lt_irrefl _ (Nat.lt_of_lt_of_le (X.lt eb eo hd) (q▸ha))
  ·exact X.offρ n b ob eb eo hd p hp
 ·intro b hb p hp
  rcases List.mem_cons.mp hp with rfl|hp
  ·exact λq=>Nat.lt_irrefl _ (Nat.lt_of_lt_of_le (X.ltφ hb) (q▸ha))
  ·exact X.offφ b hb p hp
theorem St.seal(X:St cn g s h) {n:Nat} {a:Addr} {o:AO} {ob:Obj} (ea:g.ρ[n]?=some a) (e:s.σ[n]?=some o) (hd:isDead o=false) (ho:h.get? a=some ob):St cn (g.freeze a ob) { s with σ:=s.σ.set n .dead } h:=by
 have Y:St cn g { s with σ:=s.σ.set n .dead } h:=X.upd ea e hd (Heap.SameBut.refl a h) (λ_ _ c=>c) trivial
 refine⟨Y.keep,Y.objs.imp λb o' _ H'=>H'.mono (G.le_freeze g a ob).lw (λ_ e=>e) λ_ _ c=>c,Y.frs.imp λb o' _ H'=>H'.mono (G.le_freeze g a ob).lw (λ_ e=>e),?_,Y.one,Y.nφ,Y.offρφ,Y.baseρ,Y.baseφ,?_,?_,λp hp=>.tail _ (X.z0 p hp)⟩
 ·intro p hp
  rcases List.mem_cons.mp hp with rfl|hp
  ·exact ho
  ·exact Y.fzs p hp
 ·intro m b ob' eb eo hd' p hp
  rcases List.mem_cons.mp hp with rfl|hp
  ·show a≠b;rintro rfl
   rcases zDh eo with⟨rfl,rfl⟩|⟨hm,eo⟩
   ·cases hd'
   ·exact hm (X.one _ _ _ _ _ ea eb e eo hd hd')
  ·exact Y.offρ m b ob' eb eo hd' p hp
 ·intro b hb p hp
  rcases List.mem_cons.mp hp with rfl|hp
  ·rintro rfl;exact X.offρφ n _ o ea e hd hb
  ·exact Y.offφ b hb p hp
theorem St.pushK(X:St cn g s h) (o:Obj):St cn g s (h.push o):=X.grow λ_ _ e=>Heap.get?_push_of_some _ e
theorem St.push(X:St cn g s h) {ob:Obj} {o:AO} (H:OR cn (g.add h.objs.size) (h.push ob) h.objs.size o):St cn (g.add h.objs.size) { s with σ:=s.σ++[o] } (h.push ob) :=
 X.alloc (λ_ _ e=>Heap.get?_push_of_some _ e) (Nat.le_refl _) H
theorem St.pushZ(X:St cn g s h) {o:Obj} (hf:o.isFreed=false):St cn (g.freeze h.objs.size o) s (h.push o) :=
 X.freeze (λ_ _ e=>Heap.get?_push_of_some _ e) (Nat.le_refl _) (Heap.get?_push_size _ hf)
end
set_option backward.match.sparseCases true
noncomputable def Ob.Ok0:Ob->Prop
 | .eq a b r=>decide (a=b)=r
 | .le a b r=>decide (a<=b)=r
 | .len n=>n<900000
 | .deep _ _ _=>False
 | .item ds i=>0<=i/\∃ x,ds[i.toNat]?=some (.sym x)
noncomputable def Ob.Ok:Ob->Prop
 | .eq a b r=>decide (a=b)=r
 | .le a b r=>decide (a<=b)=r
 | .len n=>n<900000
 | .deep xs ys r=>(∀ d∈xs,okV 11 d=true)/\(∀ d∈ys,okV 11 d=true)/\∀ fr σ,∃ orc s' obs,eqVs 11 xs ys ⟨fr,σ,orc⟩=some (r,s',obs)/\∀ o∈obs,o.Ok0
 | .item ds i=>0<=i/\∃ x,ds[i.toNat]?=some (.sym x)
theorem Ob.Ok0.ok{o:Ob} (h:o.Ok0):o.Ok:=by
 cases o with
 |deep=>exact h.elim
 |_=>exact h
structure AOk (A:Around) (d:Nat):Prop where
 hd:A.handled=none
 dp:A.depth+4*d<=900
 un:A.units+16*d<=8000
theorem AOk.le{A:Around} {d d':Nat} (x:AOk A d) (h:d'<=d):AOk A d':=⟨x.hd,by have:=x.dp; lia,by have:=x.un; lia⟩
theorem AOk.units{A:Around} {d:Nat} (x:AOk A d):A.units+64<cLine:=by have:=x.un; unfold cLine; lia
theorem AOk.room{A:Around} {d:Nat} (x:AOk A d):A.depth<recursionLimit:=by have:=x.dp; unfold recursionLimit; lia
noncomputable def Oks (ob:List Ob):Prop:=∀ o∈ob,o.Ok
theorem Oks.l{a b:List Ob} (h:Oks (a++b)):Oks a:=λo ho=>h o (List.mem_append.mpr (.inl ho))
theorem Oks.r{a b:List Ob} (h:Oks (a++b)):Oks b:=λo ho=>h o (List.mem_append.mpr (.inr ho))
noncomputable def Kont (cn:Cn) {α β:Type} (g:G) (s':S0) (S:Shared) (R:G->α->β->Prop) (a:α) (Q:β->Shared->Prop):Prop :=
 ∀ g' h' tk b,g.le g'->St cn g' s' h'->R g' a b->Q b { S with heap:=h',toks:=tk }
noncomputable def Sim (cn:Cn) (A:Around) {α β:Type} (g:G) (m:M α) (t:Sem β) (R:G->α->β->Prop):Prop :=
 ∀ (s s':S0) (a:α) (ob:List Ob) (S:Shared) (Q:β->Shared->Prop) (E:Value->Shared->Prop),m s=some (a,s',ob)->Oks ob->St cn g s S.heap ->
  Kont cn g s' S R a Q->wpAny (model cn.prog cn.w) A t Q E S
section
variable {cn:Cn} {A:Around} {α β γ δ:Type} {g:G} {m:M α} {k:α->M γ} {t:Sem β} {f:β->Sem δ} {R:G->α->β->Prop} {R':G->γ->δ->Prop}
theorem zAp{C:Prop} {s s':S0} {c:γ} {ob:List Ob} (e:M.b m k s=some (c,s',ob)) (H:∀ a s₁ o₁ oA,m s=some (a,s₁,o₁)->k a s₁=some (c,s',oA)->ob=o₁++oA->C):C:=by
 unfold M.b at e
 cases h1:m s with
 |none=>rw [h1] at e; cases e
 |some x =>
  obtain⟨a,s₁,o₁⟩:=x;rw [h1] at e;dsimp only at e
  cases h2:k a s₁ with
  |none=>rw [h2] at e; cases e
  |some y=>rw [h2] at e; cases e; exact H _ _ _ _ h1 h2 rfl
theorem zBk{C:Prop} {s s':S0} {a b:α} {ob:List Ob} (e:M.p a s=some (b,s',ob)) (H:b=a->s'=s->ob=[]->C):C:=by
 cases e; exact H rfl rfl rfl
theorem zCg{C:Prop} {o:Option α} {s s':S0} {b:α} {ob:List Ob} (e:ofOpt o s=some (b,s',ob)) (H:o=some b->s'=s->ob=[]->C):C:=by
 cases o with
 |none=>cases e
 |some a=>cases e; exact H rfl rfl rfl
theorem zAx{C:Prop} {β:Type} {x:β} (e:none=some x):C:=nomatch e
theorem Sim.bind(H:Sim cn A g m t R) (K:∀ g' a b,g.le g'->R g' a b->Sim cn A g' (k a) (f b) R'):Sim cn A g (M.b m k) (t >>= f) R':=by
 intro s s' c ob S Q E e ok X hQ;refine zAp e ?_; clear e; rintro a s₁ o₁ oA e1 e2 rfl;refine wpAny_bind (H s s₁ a o₁ S _ E e1 (ok.l) X λg' h' tk b hg Y r=>?_);exact K g' a b hg r s₁ s' c oA _ Q E e2 (ok.r) Y λg'' h'' tk' b' hg' Z r'=>hQ g'' h'' tk' b' (hg.trans hg') Z r'
theorem Sim.pure{a:α} {b:β} (h:R g a b):Sim cn A g (M.p a) (Pure.pure b) R:=by
 intro s s' a' ob S Q E e ok X hQ;refine zBk e ?_; clear e; rintro rfl rfl rfl;exact wpAny_pure (hQ g S.heap S.toks b (G.le.refl g) X h)
theorem Sim.imp{RA:G->α->β->Prop} (H:Sim cn A g m t R) (i:∀ g' a b,g.le g'->R g' a b->RA g' a b):Sim cn A g m t RA :=
 λs s' a ob S Q E e ok X hQ=>H s s' a ob S Q E e ok X λg' h' tk b hg Y r=>hQ g' h' tk b hg Y (i g' a b hg r)
theorem Sim.pre{u:Sem Unit} {f:Unit->Sem β} (hu:∀ (Q:Unit->Shared->Prop) (E:Value->Shared->Prop) (s:Shared),Q () s->wpAny (model cn.prog cn.w) A u Q E s) (H:Sim cn A g m (f ()) R):Sim cn A g m (u >>= f) R :=
 λs s' a ob S Q E e ok X hQ=>wpAny_bind (hu _ _ _ (H s s' a ob S Q E e ok X hQ))
theorem Sim.preV{ε:Type} {u:Sem ε} {v:ε} {f:ε->Sem β} (hu:∀ (Q:ε->Shared->Prop) (E:Value->Shared->Prop) (s:Shared),Q v s->wpAny (model cn.prog cn.w) A u Q E s) (H:Sim cn A g m (f v) R):Sim cn A g m (u >>= f) R :=
 λs s' a ob S Q E e ok X hQ=>wpAny_bind (hu _ _ _ (H s s' a ob S Q E e ok X hQ))
theorem Sim.standAt{p:Pos} {f:Unit->Sem β} (H:Sim cn A g m (f ()) R):Sim cn A g m (standAt p >>= f) R:=Sim.pre (λ_ _ _ h=>wpAny_standAt h) H
theorem Sim.rule{p:String} {f:Unit->Sem β} (H:Sim cn A g m (f ()) R):Sim cn A g m (PySem.rule p >>= f) R:=Sim.pre (λ_ _ _ h=>wpAny_rule h) H
theorem Sim.holding{vs:List Value} (H:Sim cn A g m t R):Sim cn A g m (PySem.holding vs t) R :=
 λs s' a ob S Q E e ok X hQ=>wpAny_holding (H s s' a ob S Q E e ok X hQ)
theorem Sim.post{f:β->Sem δ} {R'':G->α->δ->Prop} (H:Sim cn A g m t R) (K:∀ g' a b,g.le g'->R g' a b->∀ (Q:δ->Shared->Prop) (E:Value->Shared->Prop) (s:Shared),(∀ c,R'' g' a c->Q c s)->wpAny (model cn.prog cn.w) A (f b) Q E s):Sim cn A g m (t >>= f) R'' :=
 λs s' a ob S Q E e ok X hQ=>wpAny_bind (H s s' a ob S _ E e ok X λg' h' tk b hg Y r=>K g' a b hg r Q E _ λc rc=>hQ g' h' tk c hg Y rc)
theorem Sim.ofOpt{o:Option α} {k:α->M γ} {t:Sem δ} (H:∀ a,o=some a->Sim cn A g (k a) t R'):Sim cn A g (M.b (Mine.ofOpt o) k) t R':=by
 intro s s' c ob S Q E e ok X hQ;refine zAp e ?_; clear e; rintro a s₁ o₁ oA e1 e2 rfl;refine zCg e1 ?_; clear e1; rintro rfl rfl rfl;exact H a rfl s₁ s' c oA S Q E e2 (ok.r) X hQ
theorem Sim.ofOpt'{o:Option α} {t:Sem β} (H:∀ a,o=some a->Sim cn A g (M.p a) t R):Sim cn A g (Mine.ofOpt o) t R:=by
 intro s s' c ob S Q E e ok X hQ;refine zCg e ?_; clear e; rintro rfl rfl rfl;exact H c rfl s' s' c [] S Q E rfl ok X hQ
theorem Sim.fail{t:Sem β}:Sim cn A g (Mine.fail:M α) t R:=λ_ _ _ _ _ _ _ e _ _ _=>zAx e
theorem Sim.obj{n:Nat} {k:AO->M γ} {t:Sem δ} (H:∀ o,(∀ s s' c ob S Q E,s.σ[n]?=some o->k o s=some (c,s',ob)->Oks ob->St cn g s S.heap ->
  Kont cn g s' S R' c Q->wpAny (model cn.prog cn.w) A t Q E S)):Sim cn A g (M.b (Mine.obj n) k) t R':=by
 intro s s' c ob S Q E e ok X hQ;refine zAp e ?_; clear e; rintro a s₁ o₁ oA e1 e2 rfl;unfold Mine.obj at e1
 cases h:s.σ[n]? with
 |none=>rw [h] at e1; cases e1
 |some o =>
  rw [h] at e1;cases e1;exact H a s s' c oA S Q E h e2 (ok.r) X hQ
end
structure zAu (cn:Cn) (g:G) (c:Cx) (env:Env):Prop where
 kind:env.scope.kind=.function
 scope:env.scope=c.scope
 glob:env.globals=mainGlobals
 bi:env.builtins=builtinsNs
 loc:∃ φ,g.φ=env.locals::φ
 dbg:lookS "__debug__" c.scope.names=none
 cells:∀ x i,lookS x c.cells=some i->∃ a,env.cells.lookup x=some a/\g.ρ[i]?=some a
 lam:c.lam=true->∃ cc,env.code=.ref cc/\CodeHd cn.h₀ cc cn.P/\g.ρ[0]?=some cn.P
theorem zAu.mono{cn:Cn} {g g':G} {c:Cx} {env:Env} (x:zAu cn g c env) (h:g.le g'):zAu cn g' c env :=
 ⟨x.kind,x.scope,x.glob,x.bi,by rw [h.2.2]; exact x.loc,x.dbg,λy i e=>by obtain⟨a,e1,e2⟩:=x.cells y i e; exact⟨a,e1,h.lw.at e2⟩,
  λe=>by obtain⟨cc,e1,e2,e3⟩:=x.lam e; exact⟨cc,e1,e2,h.lw.at e3⟩⟩
theorem zM1{α:Type} (x:Str):∀ l:List (Str × α),lookS x l=l.lookup x
 |[]=>rfl
 |p::r=>by
  unfold lookS;rw [List.lookup_cons,zM1 x r]
  cases h:eqS x p.1 with
  |true=>rw [zBa.mp h]; simp
  |false=>have:=zB9.mp h; rw [beq_eq_false_iff_ne.mpr this]
theorem zAu.kindOf{cn:Cn} {g:G} {c:Cx} {env:Env} (x:zAu cn g c env) (y:Str):env.kindOf y=lookS y c.scope.names:=by
 rw [zM1]; unfold Env.kindOf; rw [x.scope]
structure Stat0 (cn:Cn) (P:Prog):Prop where
 X:cn.K.In cn.h₀
 lim:cn.h₀.NoLimit
 glob:∀ x d,lookS x P.globs=some d->∃ val,VR cn ⟨[],cn.fzA,[]⟩ d val/\∀ (A:Around) (env:Env) (Q:Value->Shared->Prop) (E:Value->Shared->Prop) (s:Shared),
  env.scope.kind=.function->env.kindOf x=some .globalImplicit->env.globals=mainGlobals->env.builtins=builtinsNs->(∀ b o,cn.h₀.get? b=some o->s.heap.get? b=some o)->Q val s->wpAny (model cn.prog cn.w) A (loadName env x) Q E s
theorem St.base{cn:Cn} {g:G} {s:S0} {h:Heap} (X:St cn g s h):G.lw ⟨[],cn.fzA,[]⟩ g:=⟨⟨g.ρ,rfl⟩,X.z0⟩
theorem St.frame{cn:Cn} {g:G} {s:S0} {h:Heap} {c:Cx} {env:Env} {f:List Str × List V} {r:List (List Str × List V)} (X:St cn g s h) (e:zAu cn g c env) (hf:s.fr=f::r):FR cn g h env.locals f:=by
 obtain⟨φ,hφ⟩:=e.loc;have Y:=X.frs;rw [hφ,hf] at Y
 cases Y with
 |cons h _=>exact h
set_option backward.match.sparseCases false
section
variable {cn:Cn} {A:Around} {g:G}
theorem Sim.val{α β:Type} {t:Sem β} {R:G->α->β->Prop} {a:α} (H:∀ (Q:β->Shared->Prop) (E:Value->Shared->Prop) (S:Shared) (s:S0),St cn g s S.heap->(∀ tk b,R g a b->Q b { S with toks:=tk })->wpAny (model cn.prog cn.w) A t Q E S):Sim cn A g (M.p a) t R:=by
 intro s s' a' ob S Q E e ok X hQ;refine zBk e ?_; clear e; rintro rfl rfl rfl;exact H Q E S s' X λtk b r=>hQ g S.heap tk b (G.le.refl g) X r
theorem zQv{v:V} {u:Value} {p:Int × Bool} (h:VR cn g v u) (e:asInt v=some p):∃ t,u=.int p.1 t:=by
 cases v with
 |int=>cases Option.some.inj e; exact h.inv
 |sym=>cases Option.some.inj e; exact h.inv
 |_=>exact zAx e
theorem zNo{s:Bool} {i:Int} {t:Tok}:VR cn g (mkI s i) (.int i t):=by cases s<;>constructor
theorem small_fits{i:Int} (h:smallI i=true):Builtin.Int.intBits i<=shortFactorBits:=by
 have hb:i.natAbs<2 ^ 64:=by
  cases i with
  |ofNat n=>have:=Nat.le_of_ble_eq_true h; show n<_; lia
  |negSucc n=>have:=Nat.le_of_ble_eq_true h; show n+1<_; lia
 unfold Builtin.Int.intBits shortFactorBits
 split
 ·lia
 ·rename_i h0
  have:i.natAbs.log2<64:=(Nat.log2_lt (by intro h; simp_all)).mpr hb
  lia
theorem sim_arith{op:Operator} {s:Bool} {i j:Int} {t u:Tok} {v:V} (e:arith op s i j=some v) :
  Sim cn A g (M.p v) (binaryOp op (.int i t) (.int j u)) (λg' d w=>VR cn g' d w):=by
 refine Sim.val λQ E S _ X h=>?_;clear X;unfold arith at e
 cases op with
 |Add=>cases e; exact add_int (h _ _ zNo)
 |Sub=>cases e; exact P.sub_int (h _ _ zNo)
 |Mult =>
  dsimp only at e
  cases hs:smallI i with
  |true =>
   rw [hs] at e;cases e;refine P.mul_int (h _ _ zNo) ?_;unfold IntMulOk;clear h;simp only [Bool.and_eq_true,decide_eq_true_eq,not_and];exact λh1=>absurd (small_fits hs) (Nat.not_le_of_lt h1.1)
  |false=>rw [hs] at e; exact zAx e
 |FloorDiv =>
  cases j with
  |negSucc=>exact zAx e
  |ofNat n=>cases n with
   |zero=>exact zAx e
   |succ n =>
    dsimp only at e
    cases hs:smallI (Int.ofNat (n+1)) with
    |true =>
     rw [hs] at e;cases e;exact floordiv_int (λq=>by cases q) (h _ _ zNo) (.inl (PyProof.noPylong_small (Nat.lt_of_le_of_lt (Nat.le_of_ble_eq_true hs) (by decide))))
    |false=>rw [hs] at e; exact zAx e
 |Mod =>
  cases j with
  |negSucc=>exact zAx e
  |ofNat n=>cases n with
   |zero=>exact zAx e
   |succ n =>
    cases Option.some.inj e;exact mod_int' (λq=>by cases q) (h _ _ zNo)
 |BitOr=>cases s with
  |true=>exact zAx e
  |false=>cases e; exact or_int (h _ _ (.int _ _))
 |BitAnd=>cases s with
  |true=>exact zAx e
  |false=>cases e; exact and_int (h _ _ (.int _ _))
 |_=>exact zAx e
theorem zQ3{op:Operator} {a b:V} {x y:Value} (ha:VR cn g a x) (hb:VR cn g b y):Sim cn A g (binI op a b) (binaryOp op x y) (λg' d w=>VR cn g' d w):=by
 unfold binI
 cases ep:asInt a with
 |none=>exact Sim.fail
 |some p =>
  dsimp only
  cases eq:asInt b with
  |none=>exact Sim.fail
  |some q =>
   obtain⟨t,rfl⟩:=zQv ha ep;obtain⟨u,rfl⟩:=zQv hb eq;exact Sim.ofOpt' λv e=>sim_arith e
theorem zCl{cn:Cn} {g:G} {s:S0} {h:Heap} {a:Addr} {vs:Array Value} {n:Nat} (X:St cn g s h) (hz:(a,(⟨.type "tuple", none,.seq vs n,#[]⟩:Obj))∈g.fz):IsT h a vs n:=X.fzs _ hz
theorem zD4{cn:Cn} {g:G} {s:S0} {h:Heap} {a:Addr} {vs:Array Value} {n:Nat} (X:St cn g s h) (hz:(a,(⟨.type "list", none,.seq vs n,#[]⟩:Obj))∈g.fz):IsL h a vs n:=X.fzs _ hz
theorem zDj{n:Nat} (h:n<=big):n<=sizeLine:=by rw [sizeLine_eq]; unfold big at h; lia
theorem zD5{n m:Nat} (h:Nat.ble n m=true):n<=m:=Nat.le_of_ble_eq_true h
theorem zLi{cn:Cn} {g:G} {s:S0} {h:Heap} {ds:List V} {vs:Array Value} (X:St cn g s h) (hl:vs.size<=big) (hv:VRs cn g ds vs.toList) :
  ∃ g',g.le g'/\St cn g' s (h.push ⟨.type "tuple", none,.seq vs 0,#[]⟩)/\VR cn g' (.tup ds) (.ref h.objs.size) :=
 ⟨_,G.le_freeze g _ _,X.pushZ rfl,.tup (.head _) hl (hv.mono (G.le_freeze g _ _).lw)⟩
theorem zO1{cn:Cn} {g:G} {s:S0} {h:Heap} {ds:List V} {vs:Array Value} (X:St cn g s h) (hl:vs.size<=big) (hv:VRs cn g ds vs.toList) :
  ∃ g',g.le g'/\St cn g' s (h.push ⟨.type "list", none,.seq vs 0,#[]⟩)/\VR cn g' (.lst ds) (.ref h.objs.size) :=
 ⟨_,G.le_freeze g _ _,X.pushZ rfl,.lst (.head _) hl (hv.mono (G.le_freeze g _ _).lw)⟩
theorem Sim.valH{α β:Type} {t:Sem β} {R:G->α->β->Prop} {a:α} (H:∀ (Q:β->Shared->Prop) (E:Value->Shared->Prop) (S:Shared) (s:S0),St cn g s S.heap->Kont cn g s S R a Q->wpAny (model cn.prog cn.w) A t Q E S):Sim cn A g (M.p a) t R:=by
 intro s s' a' ob S Q E e ok X hQ;refine zBk e ?_; clear e; rintro rfl rfl rfl;exact H Q E S s' X hQ
theorem VRs.empty{cn:Cn} {g:G} {ds:List V} {vs:Array Value} (h:VRs cn g ds vs.toList) (e:vs.isEmpty=true):ds=[]:=by
 have:vs.toList=[]:=by simpa using e
 rw [this] at h; cases h; rfl
theorem sim_catT{xs ys:List V} {x y:Value} (hle:Nat.ble (xs++ys).length 1000=true) (ha:SeqR cn g "tuple" xs x) (hb:SeqR cn g "tuple" ys y):Sim cn A g (M.p (.tup (xs++ys))) (binaryOp .Add x y) (λg' d w=>VR cn g' d w):=by
 obtain⟨a,vs,n,rfl,h1,h2,h3⟩:=ha;obtain⟨b,us,m,rfl,h4,h5,h6⟩:=hb;refine Sim.valH λQ E S s X h=>?_
 have hlen:vs.size+us.size<=1000:=by
  have e1:=h3.length; have e2:=h6.length; have:=zD5 hle
  simp only [Array.length_toList,List.length_append] at *; lia
 clear hle
 by_cases q1:vs.isEmpty=true
 ·have:=h3.empty q1; subst this
  refine concat_meets ⟨_,zCl X h1,rfl⟩ ⟨_,zCl X h4,rfl⟩ noFill_tuple_add seq_tuple_add F.slot_tuple_add F.entry_tuple_add (F.args_tuple_add_2 _ _) (AutoSeq1.tuple___add___tuple_tuple_0 _ _ _ _ _ _ q1) ⟨zCl X h1,zCl X h4,h g _ _ _ (G.le.refl g) X (.tup h4 h5 h6)⟩
 ·by_cases q2:us.isEmpty=true
  ·have:=h6.empty q2; subst this
   refine concat_meets ⟨_,zCl X h1,rfl⟩ ⟨_,zCl X h4,rfl⟩ noFill_tuple_add seq_tuple_add F.slot_tuple_add F.entry_tuple_add (F.args_tuple_add_2 _ _) (AutoSeq1.tuple___add___tuple_tuple_1 _ _ _ _ _ _ q1 q2) ⟨zCl X h1,zCl X h4,h g _ _ _ (G.le.refl g) X ?_⟩;rw [List.append_nil]; exact .tup h1 h2 h3
  ·obtain⟨g',hg,X',hv⟩:=zLi (vs:=vs++us) X (by rw [Array.size_append]; unfold big; lia) (by rw [Array.toList_append]; exact h3.append h6);exact P.add_tuple (zCl X h1) (zCl X h4) q1 q2 (h g' _ S.toks _ hg X' hv) (by rw [sizeLine_eq]; lia)
theorem sim_catL{xs ys:List V} {x y:Value} (hle:Nat.ble (xs++ys).length 1000=true) (ha:SeqR cn g "list" xs x) (hb:SeqR cn g "list" ys y):Sim cn A g (M.p (.lst (xs++ys))) (binaryOp .Add x y) (λg' d w=>VR cn g' d w):=by
 obtain⟨a,vs,n,rfl,h1,h2,h3⟩:=ha;obtain⟨b,us,m,rfl,h4,h5,h6⟩:=hb;refine Sim.valH λQ E S s X h=>?_
 have hlen:vs.size+us.size<=1000:=by
  have e1:=h3.length; have e2:=h6.length; have:=zD5 hle
  simp only [Array.length_toList,List.length_append] at *; lia
 clear hle;obtain⟨g',hg,X',hv⟩:=zO1 (vs:=vs++us) X (by rw [Array.size_append]; unfold big; lia) (by rw [Array.toList_append]; exact h3.append h6);exact P.add_list (zD4 X h1) (zD4 X h4) (h g' _ S.toks _ hg X' hv) (by rw [sizeLine_eq]; lia)
theorem sim_bin{op:Operator} {a b:V} {x y:Value} (ha:VR cn g a x) (hb:VR cn g b y):Sim cn A g (binV op a b) (binaryOp op x y) (λg' d w=>VR cn g' d w):=by
 cases a with
 |tup xs=>cases b with
  |tup ys=>cases op with
   |Add =>
    unfold binV;dsimp only
    cases q:Nat.ble (xs++ys).length 1000 with
    |true=>exact sim_catT q ha.inv hb.inv
    |false=>exact Sim.fail
   |_=>exact Sim.fail
  |_=>exact Sim.fail
 |lst xs=>cases b with
  |lst ys=>cases op with
   |Add =>
    unfold binV;dsimp only
    cases q:Nat.ble (xs++ys).length 1000 with
    |true=>exact sim_catL q ha.inv hb.inv
    |false=>exact Sim.fail
   |_=>exact Sim.fail
  |_=>exact Sim.fail
 |int i=>exact zQ3 ha hb
 |sym i=>exact zQ3 ha hb
 |_=>exact Sim.fail
end
section
variable {cn:Cn} {A:Around} {g:G} {P:Prog} {c:Cx} {env:Env}
theorem zIm{s s':S0} {f:List Str × List V} {ob:List Ob} (e:topF s=some (f,s',ob)):(∃ r,s.fr=f::r)/\s'=s/\ob=[]:=by
 unfold topF at e
 cases h:s.fr with
 |nil=>rw [h] at e; cases e
 |cons a r=>rw [h] at e; cases e; exact⟨⟨r,rfl⟩,rfl,rfl⟩
theorem zK3{C:Prop} {n:Nat} {s s':S0} {o:AO} {ob:List Ob} (e:obj n s=some (o,s',ob)) (H:s.σ[n]?=some o->s'=s->ob=[]->C):C:=by
 unfold obj at e
 cases h:s.σ[n]? with
 |none=>rw [h] at e; cases e
 |some a=>rw [h] at e; cases e; exact H h rfl rfl
theorem ne_dbg(H:zAu cn g c env) {x:Str} {k:NameKind} (e:lookS x c.scope.names=some k):(x == ("__debug__" : Str))=false:=by
 rw [beq_eq_false_iff_ne];rintro rfl;rw [H.dbg] at e; cases e
theorem zO6{x:Str} (H:zAu cn g c env) (e:lookS x c.scope.names=some .local):Sim cn A g (nameLoc x) (loadName env x) (λg' d w=>VR cn g' d w):=by
 intro s s' d ob S Q E e1 ok X hQ;unfold nameLoc at e1;refine zAp e1 ?_; clear e1; rintro f s₁ o₁ oA e2 e3 rfl;obtain⟨⟨r,hr⟩,rfl,rfl⟩:=zIm e2;refine zCg e3 ?_; clear e3; rintro e4 rfl rfl;obtain⟨m,hn,hm⟩:=X.frame H hr;obtain⟨v,hv,hr⟩:=hm _ _ e4;exact wpAny_loadName_local H.kind (by rw [H.kindOf,e]) hn hv (hQ g S.heap S.toks v (G.le.refl g) X hr)
theorem zG2{x:Str} (H:zAu cn g c env) (e:lookS x c.scope.names=some .cell\/(lookS x c.scope.names=some .free/\(x == ("__classdict__" : Str))=false)):Sim cn A g (nameCell c x) (loadName env x) (λg' d w=>VR cn g' d w):=by
 unfold nameCell;refine Sim.ofOpt λi ei=>Sim.obj λo s s' d ob S Q E eo e2 ok X hQ=>?_;refine zCg e2 ?_; clear e2; rintro e3 rfl rfl;obtain⟨a,ha,hρ⟩:=H.cells _ _ ei;have Y:=X.at eo hρ;clear eo hρ
 cases o with
 |cell v =>
  have e4:v=some d:=e3;subst e4;obtain⟨val,hc,hv⟩:=Y
  cases val with
  |none=>exact hv.elim
  |some v =>
   rcases e with e|⟨e,en⟩
   ·exact wpAny_loadName_cell H.kind (by rw [H.kindOf,e]) ha hc (hQ g S.heap S.toks v (G.le.refl g) X hv)
   ·exact wpAny_loadName_free H.kind (by rw [H.kindOf,e]) ha hc (hQ g S.heap S.toks v (G.le.refl g) X hv) en
 |_=>exact zAx e3
theorem sim_nameV(T:Stat0 cn P) {x:Str} (H:zAu cn g c env):Sim cn A g (nameV P c x) (loadName env x) (λg' d w=>VR cn g' d w):=by
 unfold nameV
 cases e:lookS x c.scope.names with
 |none=>exact Sim.fail
 |some k =>
  cases k with
  |«local»=>exact zO6 H e
  |cell=>exact zG2 H (.inl e)
  |free =>
   dsimp only
   cases q:eqS x "__classdict__" with
   |true=>exact Sim.fail
   |false=>exact zG2 H (.inr ⟨e,beq_eq_false_iff_ne.mpr (zB9.mp q)⟩)
  |globalImplicit =>
   refine Sim.ofOpt' λd ed=>?_;obtain⟨val,hv,hl⟩:=T.glob _ _ ed;refine Sim.val λQ E S s X h=>?_;exact hl A env Q E S H.kind (by rw [H.kindOf,e]) H.glob H.bi X.keep (h S.toks val (hv.mono X.base))
  |_=>exact Sim.fail
theorem sim_Name(T:Stat0 cn P) {x:Str} {p:Pos} (H:zAu cn g c env):Sim cn A g (nameV P c x) (eval (.Name x p) env) (λg' d w=>VR cn g' d w):=by
 intro s s' d ob S Q E e1 ok X hQ
 have hd:(x == ("__debug__" : Str))=false:=by
  cases e:lookS x c.scope.names with
  |none=>unfold nameV at e1; rw [e] at e1; exact zAx e1
  |some k=>exact ne_dbg H e
 exact wpAny_Name (sim_nameV T H s s' d ob S Q E e1 ok X hQ) hd
theorem sim_Const{k:Const} {u:Nat} {p:Pos}:Sim cn A g (ofOpt (constV k)) (eval (.Constant k u p) env) (λg' d w=>VR cn g' d w):=by
 refine Sim.ofOpt' λd e=>Sim.val λQ E S s X h=>?_
 cases k with
 |none=>cases e; exact wpAny_pure (h _ _ .none)
 |bool=>cases e; exact wpAny_pure (h _ _ (.bool _))
 |int=>cases e; exact wpAny_mkInt (h _ _ (.int _ _))
 |str=>cases e; exact wpAny_mkText (h _ _ (.str _ _))
 |_=>exact zAx e
theorem zH8{h h':Heap} {a:Addr} {oa:Obj} (hs:Heap.SameBut a h h') (ha:h.get? a=some oa) (hna:∀ vs,oa.data≠.fields vs):∀ cd q,h.CodeRec cd q->h'.CodeRec cd q :=
 λ_ _ x=>x.keepsBut (λb o hb e=>(hs.2 b hb).trans e) ha hna
theorem zG0{α:Type} {x y:Str} {v d:α}:∀ {ks:List Str} {ds:List α},assoc y (putA x v ks ds).1 (putA x v ks ds).2=some d->(y=x/\d=v)\/(y≠x/\assoc y ks ds=some d)
 |[],ds,e=>by
  have e':(match eqS y x with|true=>some v|false=>assoc y [] ([]:List α))=some d:=e
  cases q:eqS y x with
  |true=>rw [q] at e'; cases e'; exact .inl ⟨zBa.mp q,rfl⟩
  |false=>rw [q] at e'; cases e'
 |k::ks,[],e=>by
  have e':(match eqS y x with|true=>some v|false=>assoc y [] ([]:List α))=some d:=e
  cases q:eqS y x with
  |true=>rw [q] at e'; cases e'; exact .inl ⟨zBa.mp q,rfl⟩
  |false=>rw [q] at e'; cases e'
 |k::ks,z::ds,e=>by
  unfold putA at e
  cases p:eqS x k with
  |true =>
   rw [p] at e;have hk:=zBa.mp p;subst hk;have e':(match eqS y x with|true=>some v|false=>assoc y ks ds)=some d:=e
   cases q:eqS y x with
   |true=>rw [q] at e'; cases e'; exact .inl ⟨zBa.mp q,rfl⟩
   |false =>
    rw [q] at e';refine .inr ⟨zB9.mp q,?_⟩;show (match eqS y x with|true=>some z|false=>assoc y ks ds)=some d;rw [q]; exact e'
  |false =>
   rw [p] at e;have e':(match eqS y k with|true=>some z|false=>assoc y (putA x v ks ds).1 (putA x v ks ds).2)=some d:=e
   cases q:eqS y k with
   |true =>
    rw [q] at e'
    refine .inr ⟨λh=>?_,?_⟩
    ·subst h; rw [p] at q; cases q
    ·show (match eqS y k with|true=>some z|false=>assoc y ks ds)=some d;rw [q]; exact e'
   |false =>
    rw [q] at e'
    rcases zG0 e' with h|⟨h1,h2⟩
    ·exact .inl h
    ·refine .inr ⟨h1,?_⟩;show (match eqS y k with|true=>some z|false=>assoc y ks ds)=some d;rw [q]; exact h2
theorem zN6{s s':S0} {f:List Str × List V} {u:Unit} {ob:List Ob} (e:putF f s=some (u,s',ob)):(∃ f' r,s.fr=f'::r/\s'={ s with fr:=f::r })/\ob=[]:=by
 unfold putF at e
 cases h:s.fr with
 |nil=>rw [h] at e; cases e
 |cons a r=>rw [h] at e; cases e; exact⟨⟨a,r,rfl,rfl⟩,rfl⟩
theorem zFt{C:Prop} {s s':S0} {n:Nat} {o:AO} {u:Unit} {ob:List Ob} (e:putO n o s=some (u,s',ob)) (H:s'={ s with σ:=s.σ.set n o }->ob=[]->C):C:=by
 cases e; exact H rfl rfl
theorem zDr{C:Prop} {s s':S0} {n:Nat} {o:AO} {ob:List Ob} (e:allocO o s=some (n,s',ob)) (H:n=s.σ.length->s'={ s with σ:=s.σ++[o] }->ob=[]->C):C:=by
 cases e; exact H rfl rfl rfl
theorem zNs{x:Str} {d:V} {v:Value} (H:zAu cn g c env) (e:lookS x c.scope.names=some .local) (hv:VR cn g d v):Sim cn A g (storeLoc x d) (storeName env x v) (λ_ _ _=>True):=by
 intro s s' u ob S Q E e1 ok X hQ;unfold storeLoc at e1;refine zAp e1 ?_; clear e1; rintro f s₁ o₁ oA e2 e3 rfl;obtain⟨⟨r,hr⟩,rfl,rfl⟩:=zIm e2;obtain⟨⟨f',r',hr',rfl⟩,rfl⟩:=zN6 e3;rw [hr] at hr'; cases hr';obtain⟨m,hn,hm⟩:=X.frame H hr;obtain⟨φ,hφ⟩:=H.loc;refine wpAny_storeName_local (by rw [H.kindOf,e]) hn (λh' hn' hs=>hQ g h' _ () (G.le.refl g) ?_ trivial) (by rw [H.kind]; rfl);clear H e hQ;obtain⟨ob,es,ep,ho,hd,_⟩:=hn;refine X.updF hr hφ hs (zH8 hs ho λvs=>by rw [hd]; exact λq=>nomatch q) ⟨_,hn',λy z ey=>?_⟩
 rcases zG0 ey with⟨rfl,rfl⟩|⟨h1,h2⟩
 ·exact⟨v,if_pos rfl,hv⟩
 ·obtain⟨w,e1,e2⟩:=hm _ _ h2;exact⟨w,(if_neg h1).trans e1,e2⟩
theorem zLl{x:Str} {d:V} {v:Value} (H:zAu cn g c env) (e:lookS x c.scope.names=some .cell) (hv:VR cn g d v):Sim cn A g (storeCell c x d) (storeName env x v) (λ_ _ _=>True):=by
 unfold storeCell;refine Sim.ofOpt λi ei=>?_;unfold setCell;refine Sim.obj λo s s' u ob S Q E eo e2 ok X hQ=>?_;obtain⟨a,ha,hρ⟩:=H.cells _ _ ei;have Y:=X.at eo hρ
 cases o<;>try exact zAx e2
 rename_i w;refine zFt e2 ?_; clear e2; rintro rfl rfl;obtain⟨val,hc,hw⟩:=Y;refine wpAny_storeName_cell H.kind (by rw [H.kindOf,e]) ha hc λh' hc' hs=>?_;obtain⟨oc,hoc,hdc⟩:=hc;exact hQ g h' S.toks () (G.le.refl g) (X.upd hρ eo rfl hs (zH8 hs hoc λvs=>by rw [hdc]; exact λq=>nomatch q) ⟨some v,hc',hv⟩) trivial
theorem zNt{x:Str} {d:V} {v:Value} (H:zAu cn g c env) (hv:VR cn g d v):Sim cn A g (storeV c x d) (storeName env x v) (λ_ _ _=>True):=by
 unfold storeV
 split
 ·rename_i k e
  split
  ·exact zNs H e hv
  ·exact zLl H e hv
  ·exact Sim.fail
 ·exact Sim.fail
theorem zEj{x:Str} {d:V} {v:Value} (H:zAu cn g c env) (hv:VR cn g d v):Sim cn A g (storeV c x d) (bindName env x v) (λ_ _ _=>True):=by
 unfold bindName;refine Sim.pre (λ_ _ _ h=>wpAny_holding (wpAny_point h)) ?_;exact Sim.post (zNt H hv) λ_ _ _ _ _ Q E s h=>wpAny_point (h () trivial)
end
noncomputable def optAll (f:V->Option PyData):List V->Option (List PyData)
 |[]=>some []
 |d::r=>match f d with
  |some x=>match optAll f r with
   |some xs=>some (x::xs)
   |none=>none
  |none=>none
noncomputable def py:Nat->List AO->V->Option PyData
 |0,_,_=>none
 |n+1,σ,v=>match v with
  | .none=>some .none
  | .bool b=>some (.bool b)
  | .int i=>some (.int i)
  | .sym i=>some (.int i)
  | .str x=>if PyData.strOk x=true then some (.str x) else none
  | .tup ds=>(optAll (py n σ) ds).map .tuple
  | .lst ds=>(optAll (py n σ) ds).map .list
  | .ref i=>match σ[i]? with
   |some (.list pre mid post)=>(optAll (py n σ) (pre++mid++post)).map .list
   |_=>none
  |_=>none
theorem zEa{n:Nat} {σ:List AO} {i:Nat}:py (n+1) σ (.ref i)=(match σ[i]? with
   |some (.list pre mid post)=>(optAll (py n σ) (pre++mid++post)).map .list
   |_=>none):=rfl
theorem okσ_ref{n:Nat} {σ:List AO} {i:Nat}:okσ (n+1) σ (.ref i)=(match σ[i]? with
   |some o=>match o with
    | .list pre _ post=>pre.all (okσ n σ) && post.all (okσ n σ)
    |_=>false
   |none=>false):=rfl
theorem nay{C:Prop} (h:false=true):C:=nomatch h
theorem zFb{f:V->Option PyData} {ds:List V} (h:∀ d∈ds,∃ x,f d=some x):∃ xs,optAll f ds=some xs:=by
 induction ds with
 |nil=>exact⟨[],rfl⟩
 |cons d r ih =>
  obtain⟨x,hx⟩:=h d (.head _);obtain⟨xs,hxs⟩:=ih λe he=>h e (.tail _ he);exact⟨x::xs,by unfold optAll; rw [hx,hxs]⟩
theorem mk(f:List PyData->PyData) {o:Option (List PyData)} (h:∃ xs,o=some xs):∃ d,o.map f=some d:=h.elim λxs e=>⟨f xs,e▸rfl⟩
theorem zC0{f:V->Option PyData} {d:V} {r:List V} {ys:List PyData} (h:optAll f (d::r)=some ys):∃ x xs,f d=some x/\optAll f r=some xs/\ys=x::xs:=by
 unfold optAll at h
 cases h1:f d with
 |none=>rw [h1] at h; cases h
 |some x =>
  rw [h1] at h
  cases h2:optAll f r with
  |none=>rw [h2] at h; cases h
  |some xs=>rw [h2] at h; cases h; exact⟨x,xs,rfl,rfl,rfl⟩
theorem okV_py{σ:List AO} (n:Nat) (v:V) (k:Nat) (h:okV n v=true) (hk:n<=k):∃ d,py k σ v=some d:=by
 induction n generalizing v k with
 |zero=>exact nay h
 |succ n ih=>cases k with
  |zero=>exact absurd hk (Nat.not_succ_le_zero n)
  |succ k =>
   have seq:∀ ds:List V,ds.all (okV n)=true->∃ xs,optAll (py k σ) ds=some xs:=λds h=>zFb λd hd=>ih d k (List.all_eq_true.mp h d hd) (Nat.le_of_succ_le_succ hk);clear ih hk
   cases v with
   |none=>exact⟨_,rfl⟩
   |bool=>exact⟨_,rfl⟩
   |int=>exact⟨_,rfl⟩
   |sym=>exact⟨_,rfl⟩
   |str=>exact⟨_,if_pos h⟩
   |tup ds=>exact mk PyData.tuple (seq ds h)
   |lst ds=>exact mk PyData.list (seq ds h)
   |_=>exact nay h
theorem okσ_py{σ:List AO} (hm:∀ (i:Nat) (pre mid post:List V),σ[i]?=some (.list pre mid post)->∀ d∈mid,okV 12 d=true) (n:Nat) (v:V) (k:Nat) (h:okσ n σ v=true) (hk:n+12<=k):∃ d,py k σ v=some d:=by
 induction n generalizing v k with
 |zero=>exact nay h
 |succ n ih=>cases k with
  |zero=>exact absurd hk (Nat.not_succ_le_zero _)
  |succ k =>
   have hk':n+12<=k:=Nat.le_of_succ_le_succ (Nat.le_trans (Nat.le_of_eq (Nat.add_right_comm n 12 1)) hk);have seq:∀ ds:List V,(∀ d∈ds,okσ n σ d=true\/okV 12 d=true)->∃ xs,optAll (py k σ) ds=some xs:=λds h=>zFb λd hd=>(h d hd).elim (λh=>ih d k h hk') λh=>okV_py 12 d k h (Nat.le_trans (Nat.le_add_left 12 n) hk');clear ih hk hk'
   cases v with
   |none=>exact⟨_,rfl⟩
   |bool=>exact⟨_,rfl⟩
   |int=>exact⟨_,rfl⟩
   |sym=>exact⟨_,rfl⟩
   |str=>exact⟨_,if_pos h⟩
   |tup ds=>exact mk PyData.tuple (seq ds λd hd=>.inl (List.all_eq_true.mp h d hd))
   |lst ds=>exact mk PyData.list (seq ds λd hd=>.inl (List.all_eq_true.mp h d hd))
   |ref i =>
    rw [okσ_ref] at h;rw [zEa]
    cases ho:σ[i]? with
    |none=>rw [ho] at h; exact nay h
    |some o =>
     rw [ho] at h
     cases o with
     |list pre mid post =>
      obtain⟨h1,h2⟩:=Bool.and_eq_true_iff.mp h;exact mk PyData.list (seq (pre++mid++post) λd hd=>(List.mem_append.mp hd).elim (λhd=>(List.mem_append.mp hd).elim (λhd=>.inl (List.all_eq_true.mp h1 d hd)) λhd=>.inr (hm i pre mid post ho d hd)) λhd=>.inl (List.all_eq_true.mp h2 d hd))
     |_=>exact nay h
   |_=>exact nay h
theorem canAll{xs:List PyData} {n:Nat} (h:∀ x∈xs,x.canLay0=true/\x.depth<=n):PyData.canLayAll0 xs=true/\PyData.depthAll xs<=n:=by
 induction xs with
 |nil=>exact⟨by simp [PyData.canLayAll0],by simp [PyData.depthAll]⟩
 |cons x r ih =>
  obtain⟨a,b⟩:=ih λy hy=>h y (.tail _ hy);obtain⟨c,d⟩:=h x (.head _);refine⟨by simp [PyData.canLayAll0,a,c],?_⟩;simp only [PyData.depthAll]; lia
theorem optAll_all{f:V->Option PyData} {p:PyData->Prop} {ds:List V} {xs:List PyData} (h:optAll f ds=some xs) (hp:∀ d∈ds,∀ x,f d=some x->p x):∀ x∈xs,p x:=by
 induction ds generalizing xs with
 |nil=>cases h; exact λx hx=>nomatch hx
 |cons d r ih =>
  obtain⟨x,xs,h1,h2,rfl⟩:=zC0 h;exact λy hy=>(List.mem_cons.mp hy).elim (λq=>q▸hp d (.head _) _ h1) (ih h2 (λe he=>hp e (.tail _ he)) y)
theorem py_shape{σ:List AO} (n:Nat) (v:V) (d:PyData) (h:py n σ v=some d):d.canLay0=true/\d.depth<=n:=by
 induction n generalizing v d with
 |zero=>exact zAx h
 |succ n ih =>
  have all:∀ {ds:List V} {xs:List PyData},optAll (py n σ) ds=some xs->PyData.canLayAll0 xs=true/\PyData.depthAll xs<=n:=λh=>canAll (optAll_all h λe _ x hx=>ih e x hx);have sh:∀ {x:PyData},some x=some d->x.canLay0=true/\x.depth<=n+1->d.canLay0=true/\d.depth<=n+1:=λq r=>Option.some.inj q▸r;have sl:∀ ds:List V,(optAll (py n σ) ds).map PyData.list=some d->d.canLay0=true/\d.depth<=n+1:=λds h=>zP0 h λxs hx q=>sh (congrArg some q) ⟨by simpa [PyData.canLay0] using (all hx).1,by simp [PyData.depth]; exact (all hx).2⟩;clear ih
  cases v with
  |none=>exact sh h ⟨by simp [PyData.canLay0],by simp [PyData.depth]⟩
  |bool=>exact sh h ⟨by simp [PyData.canLay0],by simp [PyData.depth]⟩
  |int=>exact sh h ⟨by simp [PyData.canLay0],by simp [PyData.depth]⟩
  |sym=>exact sh h ⟨by simp [PyData.canLay0],by simp [PyData.depth]⟩
  |str x =>
   have h':(if PyData.strOk x=true then some (PyData.str x) else none)=some d:=h
   by_cases q:PyData.strOk x=true
   ·rw [if_pos q] at h'; exact sh h' ⟨by simpa [PyData.canLay0] using q,by simp [PyData.depth]⟩
   ·rw [if_neg q] at h'; exact zAx h'
  |tup ds=>exact zP0 (f:=PyData.tuple) (o:=optAll (py n σ) ds) h λxs hx q=>sh (congrArg some q) ⟨by simpa [PyData.canLay0] using (all hx).1,by simp [PyData.depth]; exact (all hx).2⟩
  |lst ds=>exact sl ds h
  |ref i =>
   rw [zEa] at h
   cases ho:σ[i]? with
   |none=>rw [ho] at h; exact zAx h
   |some o =>
    rw [ho] at h
    cases o with
    |list pre mid post=>exact sl _ h
    |_=>exact zAx h
  |_=>exact zAx h
theorem zC5{σ:List AO} {n:Nat} {v:V} {d:PyData} (h:py n σ v=some d) (hn:n<=64):SeqAt.shaped d=true:=by
 obtain⟨a,b⟩:=py_shape n v d h;unfold SeqAt.shaped;rw [a,Bool.true_and,decide_eq_true_eq];lia
section
variable {cn:Cn} {g:G} {s:S0} {h:Heap}
theorem zEz{f:V->Option PyData} (H:∀ d x u,f d=some x->VR cn g d u->∃ as,Reads h u x as) {ds:List V} {xs:List PyData} {us:List Value} (e:optAll f ds=some xs) (r:VRs cn g ds us):∃ as,ReadsAll h us xs as:=by
 induction r using VRs.ind generalizing xs with
 |n=>cases e; exact⟨_,.nil⟩
 |c hv _ ih =>
  obtain⟨x,xs,h1,h2,rfl⟩:=zC0 e;obtain⟨as,ha⟩:=H _ x _ h1 hv;obtain⟨bs,hb⟩:=ih h2;exact⟨_,.cons ha hb⟩
theorem zIc(X:St cn g s h) (n:Nat) (v:V) (d:PyData) (u:Value) (e:py n s.σ v=some d) (hv:VR cn g v u):∃ as,Reads h u d as:=by
 induction n generalizing v d u with
 |zero=>exact zAx e
 |succ n ih =>
  have sh:∀ {x:PyData},some x=some d->(∃ as,Reads h u x as)->∃ as,Reads h u d as:=λq r=>Option.some.inj q▸r
  cases v with
  |none=>cases hv.inv; exact sh e ⟨_,.none⟩
  |bool b=>cases hv.inv; exact sh e ⟨_,.bool b⟩
  |int i=>obtain⟨t,rfl⟩:=hv.inv; exact sh e ⟨_,.int i t⟩
  |sym i=>obtain⟨t,rfl⟩:=hv.inv; exact sh e ⟨_,.int i t⟩
  |str x =>
   have h':(if PyData.strOk x=true then some (PyData.str x) else none)=some d:=e;obtain⟨t,rfl⟩:=hv.inv
   by_cases q2:PyData.strOk x=true
   ·rw [if_pos q2] at h'; exact sh h' ⟨_,.str x t⟩
   ·rw [if_neg q2] at h'; exact zAx h'
  |tup ds =>
   refine zP0 (f:=PyData.tuple) (o:=optAll (py n s.σ) ds) e ?_; clear e; rintro xs hx rfl;obtain⟨_,_,_,rfl,h1,h2,h3⟩:=hv.inv;obtain⟨as,ha⟩:=zEz ih hx h3;exact⟨_,.tuple (zCl X h1) rfl rfl ha⟩
  |lst ds =>
   refine zP0 (f:=PyData.list) (o:=optAll (py n s.σ) ds) e ?_; clear e; rintro xs hx rfl;obtain⟨_,_,_,rfl,h1,h2,h3⟩:=hv.inv;obtain⟨as,ha⟩:=zEz ih hx h3;exact⟨_,.list (zD4 X h1) rfl rfl ha⟩
  |ref i =>
   obtain⟨_,rfl,hρ⟩:=hv.inv;rw [zEa] at e
   cases ho:s.σ[i]? with
   |none=>rw [ho] at e; exact zAx e
   |some o =>
    rw [ho] at e
    cases o with
    |list pre mid post =>
     refine zP0 e ?_; clear e; rintro xs hx rfl;obtain⟨vs,m,hl,_,hvs,_⟩:=X.at ho hρ;obtain⟨as,ha⟩:=zEz ih hx hvs;exact⟨_,.list hl rfl rfl (by simpa using ha)⟩
    |_=>exact zAx e
  |_=>exact zAx e
theorem St.mids(X:St cn g s h):∀ (i:Nat) (pre mid post:List V),s.σ[i]?=some (.list pre mid post)->∀ d∈mid,okV 12 d=true:=λi pre mid post e=>by
 obtain⟨a,_,vs,n,_,_,_,H⟩:=X.obj e;exact H
end
theorem zG1{a b:Int} {s s':S0} {r:Bool} {ob:List Ob} (e:askEq a b s=some (r,s',ob)):(∃ o,s'={ s with orc:=o })/\ob=[.eq a b r]:=by
 unfold askEq at e
 cases h:s.orc with
 |nil=>rw [h] at e; cases e
 |cons x t=>rw [h] at e; cases e; exact⟨⟨t,rfl⟩,rfl⟩
theorem askLe_some{a b:Int} {s s':S0} {r:Bool} {ob:List Ob} (e:askLe a b s=some (r,s',ob)):(∃ o,s'={ s with orc:=o })/\ob=[.le a b r]:=by
 unfold askLe at e
 cases h:s.orc with
 |nil=>rw [h] at e; cases e
 |cons x t=>rw [h] at e; cases e; exact⟨⟨t,rfl⟩,rfl⟩
theorem zC6{o:AO} {ds:List V} (e:itemsOf o=some ds):∃ pre post,o=.list pre [] post/\ds=pre++post:=by
 cases o with
 |list pre mid post=>cases mid with
  |nil=>cases e; exact⟨_,_,rfl,rfl⟩
  |cons=>exact zAx e
 |_=>exact zAx e
theorem emptyL_eq(pre mid post:List V):emptyL pre mid post=(pre++mid++post).isEmpty:=by
 cases pre with
 |cons=>rfl
 |nil =>
  cases post with
  |cons a r=>cases mid<;>rfl
  |nil=>cases mid<;>rfl
noncomputable def SameMem (s s':S0):Prop:=∃ o,s'={ s with orc:=o }
theorem SameMem.refl(s:S0):SameMem s s:=⟨s.orc,rfl⟩
theorem SameMem.trans{a b c:S0} (x:SameMem a b) (y:SameMem b c):SameMem a c:=by
 obtain⟨o,rfl⟩:=x;obtain⟨p,rfl⟩:=y;exact⟨p,rfl⟩
theorem SameMem.σ{a b:S0} (x:SameMem a b):b.σ=a.σ:=by obtain⟨o,rfl⟩:=x; rfl
theorem SameMem.st{cn:Cn} {g:G} {h:Heap} {a b:S0} (x:SameMem a b) (X:St cn g a h):St cn g b h:=by obtain⟨o,rfl⟩:=x; exact X.orc o
theorem eqv_int{x y:Int}:PyData.eqv (.int x) (.int y)=decide (x=y):=by
 simp only [PyData.eqv];by_cases h:x=y<;>simp [h]
theorem zNg{x y:Str}:eqS x y=(x == y):=by
 cases h:eqS x y with
 |true=>rw [zBa.mp h]; simp
 |false=>rw [beq_eq_false_iff_ne.mpr (zB9.mp h)]
theorem py_str{m:Nat} {σ:List AO} {x:Str} {d:PyData} (h:py (m+1) σ (.str x)=some d):PyData.str x=d:=by
 have h':(if PyData.strOk x=true then some (PyData.str x) else none)=some d:=h
 by_cases q:PyData.strOk x=true
 ·rw [if_pos q] at h'; exact Option.some.inj h'
 ·rw [if_neg q] at h'; exact zAx h'
theorem zPr{m:Nat} {σ:List AO} {i:Nat} {pre mid post:List V} {d:PyData} (eo:σ[i]?=some (.list pre mid post)) (h:py (m+1) σ (.ref i)=some d):(optAll (py m σ) (pre++mid++post)).map .list=some d:=by
 rw [zEa,eo] at h;exact h
theorem zRo{x y da db:PyData} {t r:Bool} {s s':S0} {ob:List Ob} (ha:some x=some da) (hb:some y=some db) (e:some (t,s,([]:List Ob))=some (r,s',ob)) (h:PyData.eqv x y=t):PyData.eqv da db=r/\SameMem s s':=by
 cases ha; cases hb; cases e; exact⟨h,SameMem.refl _⟩
noncomputable def EqO (n:Nat):Prop:=∀ (a b:V) (s s':S0) (r:Bool) (ob:List Ob) (da db:PyData) (m k:Nat),eqV n a b s=some (r,s',ob)->Oks ob->py m s.σ a=some da->py k s.σ b=some db->PyData.eqv da db=r/\SameMem s s'
noncomputable def EqsO (n:Nat):Prop:=∀ (as bs:List V) (s s':S0) (r:Bool) (ob:List Ob) (da db:List PyData) (m k:Nat),eqVs n as bs s=some (r,s',ob)->Oks ob->optAll (py m s.σ) as=some da->optAll (py k s.σ) bs=some db->PyData.eqvAll da db=r/\SameMem s s'
section
variable {n m k:Nat} {xs ys:List V} {s s':S0} {r:Bool} {ob:List Ob} {da db:PyData}
theorem eq_tup(ih:EqsO n) (e:eqVs n xs ys s=some (r,s',ob)) (ok:Oks ob) (ha:(optAll (py m s.σ) xs).map .tuple=some da) (hb:(optAll (py k s.σ) ys).map .tuple=some db):PyData.eqv da db=r/\SameMem s s' :=
 zP0 ha λ_ hx p=>zP0 hb λ_ hy q=>p▸q▸⟨by rw [PyData.eqv]; exact (ih _ _ _ _ _ _ _ _ _ _ e ok hx hy).1,(ih _ _ _ _ _ _ _ _ _ _ e ok hx hy).2⟩
theorem eq_seq(ih:EqsO n) (e:eqVs n xs ys s=some (r,s',ob)) (ok:Oks ob) (ha:(optAll (py m s.σ) xs).map .list=some da) (hb:(optAll (py k s.σ) ys).map .list=some db):PyData.eqv da db=r/\SameMem s s' :=
 zP0 ha λ_ hx p=>zP0 hb λ_ hy q=>p▸q▸⟨by rw [PyData.eqv]; exact (ih _ _ _ _ _ _ _ _ _ _ e ok hx hy).1,(ih _ _ _ _ _ _ _ _ _ _ e ok hx hy).2⟩
theorem eq_int{x y:Int} (e:askEq x y s=some (r,s',ob)) (ok:Oks ob) (h1:some (PyData.int x)=some da) (h2:some (PyData.int y)=some db):PyData.eqv da db=r/\SameMem s s':=by
 obtain⟨h3,rfl⟩:=zG1 e;cases h1;cases h2;exact⟨by rw [eqv_int]; exact ok _ (.head _),h3⟩
theorem eq_empty{pre mid post:List V} (ha:(optAll (py m s.σ) (pre++mid++post)).map .list=some da) (hb:some (PyData.list [])=some db) (e:M.p (emptyL pre mid post) s=some (r,s',ob)):PyData.eqv da db=r/\SameMem s s':=by
 refine zBk e ?_; clear e; rintro rfl rfl rfl;cases hb;refine zP0 ha ?_; clear ha; rintro us hx rfl;refine⟨?_,SameMem.refl _⟩;rw [emptyL_eq];revert hx
 cases pre++mid++post with
 |nil=>intro hx; cases hx; simp [PyData.eqv,PyData.eqvAll]
 |cons d r =>
  intro hx;obtain⟨x,xs,_,_,rfl⟩:=zC0 hx;simp [PyData.eqv,PyData.eqvAll]
theorem eqV_step(ih:EqsO n):EqO (n+1):=by
 intro a b s s' r ob da db m k e ok ha hb
 cases m with
 |zero=>exact zAx ha
 |succ m =>
 cases k with
 |zero=>exact zAx hb
 |succ k =>
 cases a with
 |none=>cases b with
  |none=>exact zRo ha hb e (by simp [PyData.eqv])
  |_=>exact zAx e
 |bool x=>cases b with
  |bool y=>exact zRo ha hb e (by simp [PyData.eqv])
  |_=>exact zAx e
 |int x=>cases b with
  |int y=>exact zRo ha hb e (eqv_int)
  |sym y=>exact eq_int e ok ha hb
  |_=>exact zAx e
 |sym x=>cases b with
  |int y=>exact eq_int e ok ha hb
  |sym y=>exact eq_int e ok ha hb
  |_=>exact zAx e
 |str x=>cases b with
  |str y=>exact zRo (congrArg some (py_str ha)) (congrArg some (py_str hb)) e (by simp [PyData.eqv,zNg])
  |_=>exact zAx e
 |tup xs=>cases b with
  |tup ys=>exact eq_tup ih e ok ha hb
  |_=>exact zAx e
 |lst xs=>cases b with
  |lst ys=>exact eq_seq ih e ok ha hb
  |ref i =>
   refine zAp (m:=obj i) (k:=λo=>match itemsOf o with|some ys=>eqVs n xs ys|none=>fail) e ?_; clear e; rintro o s₁ o₁ oA e1 e2 rfl;refine zK3 e1 ?_; clear e1; rintro eo rfl rfl
   cases q:itemsOf o with
   |none=>rw [q] at e2; exact zAx e2
   |some ys =>
    rw [q] at e2;obtain⟨pre,post,rfl,rfl⟩:=zC6 q;exact eq_seq ih e2 ok.r ha (List.append_nil pre▸zPr eo hb)
  |_=>exact zAx e
 |ref i=>cases b with
  |lst ys =>
   refine zAp (m:=obj i) (k:=λo=>match ys with
    |[]=>match o with
     | .list pre mid post=>M.p (emptyL pre mid post)
     |_=>fail
    |_::_=>match itemsOf o with
     |some xs=>eqVs n xs ys
     |none=>fail) e ?_; clear e; rintro o s₁ o₁ oA e1 e2 rfl
   refine zK3 e1 ?_; clear e1; rintro eo rfl rfl
   cases ys with
   |nil=>cases o with
    |list pre mid post=>exact eq_empty (zPr eo ha) hb e2
    |_=>exact zAx e2
   |cons y ys =>
    dsimp only at e2
    cases q:itemsOf o with
    |none=>rw [q] at e2; exact zAx e2
    |some xs =>
     rw [q] at e2;obtain⟨pre,post,rfl,rfl⟩:=zC6 q;exact eq_seq ih e2 ok.r (List.append_nil pre▸zPr eo ha) hb
  |_=>exact zAx e
 |_=>exact zAx e
theorem eqVs_step(ih1:EqO n) (ih2:EqsO n):EqsO (n+1):=by
 intro as bs s s' r ob da db m k e ok ha hb
 cases as with
 |nil =>
  cases ha
  cases bs with
  |nil =>
   cases hb;refine zBk e ?_; clear e; rintro rfl rfl rfl;exact⟨by simp [PyData.eqvAll],SameMem.refl _⟩
  |cons b bs =>
   obtain⟨x,xs,_,_,rfl⟩:=zC0 hb;refine zBk e ?_; clear e; rintro rfl rfl rfl;exact⟨by simp [PyData.eqvAll],SameMem.refl _⟩
 |cons a as =>
  obtain⟨x,xs,h1,h2,rfl⟩:=zC0 ha;clear ha
  cases bs with
  |nil =>
   cases hb;refine zBk e ?_; clear e; rintro rfl rfl rfl;exact⟨by simp [PyData.eqvAll],SameMem.refl _⟩
  |cons b bs =>
   obtain⟨y,ys,h3,h4,rfl⟩:=zC0 hb;clear hb;refine zAp (m:=eqV n a b) (k:=λb=>match b with|true=>eqVs n as bs|false=>M.p false) e ?_; clear e; rintro t s₁ o₁ oA e1 e2 rfl;obtain⟨q1,q2⟩:=ih1 _ _ _ _ _ _ _ _ _ _ e1 (ok.l) h1 h3;clear e1 h1 h3 ih1
   cases t with
   |true =>
    obtain⟨q3,q4⟩:=ih2 _ _ _ _ _ _ _ _ m k e2 (ok.r) (by rw [q2.σ]; exact h2) (by rw [q2.σ]; exact h4);exact⟨by rw [PyData.eqvAll,q1,q3]; rfl,q2.trans q4⟩
   |false =>
    refine zBk e2 ?_; clear e2; rintro rfl rfl rfl;exact⟨by rw [PyData.eqvAll,q1]; rfl,q2⟩
theorem eqs_ok(n:Nat):EqO n/\EqsO n:=by
 induction n with
 |zero=>exact⟨λ_ _ _ _ _ _ _ _ _ _ e=>zAx e,λ_ _ _ _ _ _ _ _ _ _ e=>zAx e⟩
 |succ n ih=>exact⟨eqV_step ih.2,eqVs_step ih.1 ih.2⟩
end
section
variable {cn:Cn} {A:Around} {g:G} {P:Prog} {c:Cx} {env:Env}
noncomputable def EqAns (cn:Cn) (A:Around) (x y:Value) (S:Shared) (r:Bool):Prop :=
 (∀ (Q:Value->Shared->Prop) (E:Value->Shared->Prop),Q (.bool r) S->wpAny (model cn.prog cn.w) A (compareOp .Eq x y) Q E S) /\
 (∀ (Q:Value->Shared->Prop) (E:Value->Shared->Prop),Q (.bool (!r)) S->wpAny (model cn.prog cn.w) A (compareOp .NotEq x y) Q E S)
theorem zJm{a b:V} {x y:Value} {s s':S0} {r:Bool} {ob:List Ob} {S:Shared} (hu:A.units+64<cLine) (ha:VR cn g a x) (hb:VR cn g b y) (e:eqDeep a b s=some (r,s',ob)) (ok:Oks ob) (X:St cn g s S.heap) :
  SameMem s s'/\EqAns cn A x y S r:=by
 unfold eqDeep at e;refine zAp e ?_; clear e; rintro σ s₁ o₁ oA e1 e2 rfl;unfold getσ at e1;cases e1
 cases q:(okσ 12 s.σ a && okσ 12 s.σ b) with
 |false=>rw [q] at e2; exact zAx e2
 |true =>
  rw [q] at e2;obtain⟨q1,q2⟩:=Bool.and_eq_true_iff.mp q;obtain⟨da,hda⟩:=okσ_py X.mids 12 a 24 q1 (by lia);obtain⟨db,hdb⟩:=okσ_py X.mids 12 b 24 q2 (by lia);obtain⟨h1,h2⟩:=(eqs_ok 12).1 a b _ _ _ _ da db 24 24 e2 (ok.r) hda hdb;obtain⟨as,ra⟩:=zIc X 24 a da x hda ha;obtain⟨bs,rb⟩:=zIc X 24 b db y hdb hb
  refine⟨h2,λQ E h=>?_,λQ E h=>?_⟩
  ·exact eq_dataH ra rb (zC5 hda (by lia)) (zC5 hdb (by lia)) hu (by rw [h1]; exact h)
  ·exact ne_dataH ra rb (zC5 hda (by lia)) (zC5 hdb (by lia)) hu (by rw [h1]; exact h)
theorem zQp{a b:V} {x y:Value} {s:S0} {xs ys:List V} {r:Bool} {S:Shared} (hu:A.units+64<cLine) (ha:VR cn g a x) (hb:VR cn g b y) (X:St cn g s S.heap)
  (pa:∀ k,py (k+1) s.σ a=(optAll (py k s.σ) xs).map .list) (pb:∀ k,py (k+1) s.σ b=(optAll (py k s.σ) ys).map .list) (ok:(Ob.deep xs ys r).Ok):EqAns cn A x y S r:=by
 obtain⟨h1,h2,h3⟩:=ok;obtain⟨us,hus⟩:=zFb (f:=py 23 s.σ) (ds:=xs) λd hd=>okV_py 11 d 23 (h1 d hd) (by lia);obtain⟨ws,hws⟩:=zFb (f:=py 23 s.σ) (ds:=ys) λd hd=>okV_py 11 d 23 (h2 d hd) (by lia)
 have hda:py 24 s.σ a=some (.list us):=by rw [pa 23,hus]; rfl
 have hdb:py 24 s.σ b=some (.list ws):=by rw [pb 23,hws]; rfl
 obtain⟨orc,s',obs,e,ok⟩:=h3 s.fr s.σ;obtain⟨q,_⟩:=(eqs_ok 11).2 xs ys ⟨s.fr,s.σ,orc⟩ s' r obs us ws 23 23 e (λo ho=>(ok o ho).ok) hus hws
 have q:PyData.eqv (.list us) (.list ws)=r:=by simpa [PyData.eqv] using q
 obtain⟨as,ra⟩:=zIc X 24 a _ x hda ha;obtain⟨bs,rb⟩:=zIc X 24 b _ y hdb hb
 refine⟨λQ E h=>?_,λQ E h=>?_⟩
 ·exact eq_dataH ra rb (zC5 hda (by lia)) (zC5 hdb (by lia)) hu (by rw [q]; exact h)
 ·exact ne_dataH ra rb (zC5 hda (by lia)) (zC5 hdb (by lia)) hu (by rw [q]; exact h)
theorem py_ref{σ:List AO} {i:Nat} {o:AO} {xs:List V} (eo:σ[i]?=some o) (q:allOf o=some xs):∀ k,py (k+1) σ (.ref i)=(optAll (py k σ) xs).map .list:=by
 intro k
 cases o with
 |list pre mid post =>
  cases q;rw [zEa,eo]
 |_=>exact zAx q
theorem zEh{xs ys:List V} {s s':S0} {r:Bool} {ob:List Ob} (e:askDeep xs ys s=some (r,s',ob)):SameMem s s'/\ob=[.deep xs ys r]:=by
 unfold askDeep at e
 cases h:s.orc with
 |nil=>rw [h] at e; cases e
 |cons b t=>rw [h] at e; cases e; exact⟨⟨t,rfl⟩,rfl⟩
theorem eqQ_ok{a b:V} {x y:Value} {s s':S0} {r:Bool} {ob:List Ob} {S:Shared} (hu:A.units+64<cLine) (ha:VR cn g a x) (hb:VR cn g b y) (e:eqQ a b s=some (r,s',ob)) (ok:Oks ob) (X:St cn g s S.heap) :
  SameMem s s'/\EqAns cn A x y S r:=by
 have int:∀ {i j:Int} {t u:Tok},decide (i=j)=r->EqAns cn A (.int i t) (.int j u) S r:=by
  intro i j t u h
  have:(i == j)=r:=by rw [<-h]; by_cases q:i=j<;>simp [q]
  exact⟨λQ E h=>P.eq_int (by rw [this]; exact h),λQ E h=>P.ne_int (by rw [bne,this]; exact h)⟩
 have ask:∀ {i j:Int} {t u:Tok},askEq i j s=some (r,s',ob)->SameMem s s'/\EqAns cn A (.int i t) (.int j u) S r:=by
  intro i j t u e;obtain⟨h,rfl⟩:=zG1 e;exact⟨h,int (ok _ (.head _))⟩
 cases a with
 |str k=>cases b with
  |str l =>
   obtain⟨t,rfl⟩:=ha.inv;obtain⟨u,rfl⟩:=hb.inv;clear hu ok X int ask ha hb;refine zBk e ?_; clear e; rintro rfl rfl rfl;exact⟨SameMem.refl _,λQ E h=>eq_str (by rw [<-zNg]; exact h),λQ E h=>ne_str (by rw [bne,<-zNg]; exact h)⟩
  |_=>exact zAx e
 |bool k=>cases b with
  |bool l =>
   cases (show x=_ from ha.inv);cases (show y=_ from hb.inv);clear hu ok X int ask ha hb;refine zBk e ?_; clear e; rintro rfl rfl rfl;exact⟨SameMem.refl _,λQ E h=>eq_bool h,λQ E h=>ne_bool h⟩
  |_=>exact zAx e
 |int i=>cases b with
  |int j =>
   obtain⟨t,rfl⟩:=ha.inv;obtain⟨u,rfl⟩:=hb.inv;refine zBk e ?_; clear e ask ok X hu; rintro rfl rfl rfl;exact⟨SameMem.refl _,int rfl⟩
  |sym j =>
   obtain⟨t,rfl⟩:=ha.inv;obtain⟨u,rfl⟩:=hb.inv;exact ask e
  |_=>exact zAx e
 |sym i=>cases b with
  |int j =>
   obtain⟨t,rfl⟩:=ha.inv;obtain⟨u,rfl⟩:=hb.inv;exact ask e
  |sym j =>
   obtain⟨t,rfl⟩:=ha.inv;obtain⟨u,rfl⟩:=hb.inv;exact ask e
  |_=>exact zAx e
 |tup xs=>exact zJm hu ha hb e ok X
 |lst xs =>
  clear int ask
  cases b with
  |lst ys =>
   obtain⟨h,rfl⟩:=zEh e;exact⟨h,zQp hu ha hb X (λ_=>rfl) (λ_=>rfl) (ok _ (.head _))⟩
  |ref i =>
   refine zAp e ?_; clear e; rintro o s₁ o₁ oA e1 e2 rfl;refine zK3 e1 ?_; clear e1; rintro eo rfl rfl
   cases q:allOf o with
   |none=>rw [q] at e2; exact zAx e2
   |some ys =>
    rw [q] at e2;obtain⟨h,rfl⟩:=zEh e2;exact⟨h,zQp hu ha hb X (λ_=>rfl) (py_ref eo q) (ok.r _ (.head _))⟩
  |_=>exact zAx e
 |ref i =>
  clear int ask
  cases b with
  |lst ys =>
   rcases ys with _|⟨w,ys⟩
   ·exact zJm hu ha hb e ok X
   ·cases w with
    |tup zs =>
     refine zAp e ?_; clear e; rintro o s₁ o₁ oA e1 e2 rfl;refine zK3 e1 ?_; clear e1; rintro eo rfl rfl
     cases q:allOf o with
     |none=>rw [q] at e2; exact zAx e2
     |some xs =>
      rw [q] at e2;obtain⟨h,rfl⟩:=zEh e2;exact⟨h,zQp hu ha hb X (py_ref eo q) (λ_=>rfl) (ok.r _ (.head _))⟩
    |_=>exact zJm hu ha hb e ok X
  |_=>exact zAx e
 |_=>exact zAx e
theorem isIn_cons{C:Prop} {x:Str} {d:V} {r:List V} {b:Bool} (e:isIn x (d::r)=some b) (H:∀ y c,d=.str y->isIn x r=some c->(match eqS x y with|true=>true|false=>c)=b->C):C:=by
 cases d with
 |str y =>
  unfold isIn at e;dsimp only at e
  cases q:isIn x r with
  |none=>rw [q] at e; exact zAx e
  |some c=>rw [q] at e; exact H y c rfl q (Option.some.inj e)
 |_=>exact zAx e
theorem isIn_some{x:Str} {ds:List V} {b:Bool} (e:isIn x ds=some b):∃ ys:List Str,ds=ys.map V.str/\b=ys.any (· == x):=by
 induction ds generalizing b with
 |nil=>cases e; exact⟨[],rfl,rfl⟩
 |cons d r ih =>
  refine isIn_cons e ?_; clear e; rintro y c rfl q rfl;obtain⟨ys,rfl,rfl⟩:=ih q;clear ih q;refine⟨y::ys,rfl,?_⟩;rw [List.any_cons]
  have:(y == x)=eqS x y:=by rw [zNg]; exact Bool.eq_iff_iff.mpr ⟨λh=>by simpa using (eq_of_beq h).symm,λh=>by simpa using (eq_of_beq h).symm⟩
  rw [this];cases eqS x y<;>rfl
theorem strsAre{ys:List Str}:∀ {vs:List Value},VRs cn g (ys.map V.str) vs->StrsAre vs ys:=by
 induction ys with
 |nil=>exact λh=>h.nil_inv▸.nil
 |cons y ys ih=>exact λh=>h.cons_inv λ_ _ e h r=>e▸let ⟨t,q⟩:=h.inv; q▸.cons y t (ih r)
theorem zIh{i j:Int} {b:Bool} {s s':S0} {r:Bool} {ob:List Ob} (e:intLe i j b s=some (r,s',ob)) (ok:Oks ob):SameMem s s'/\decide (i<=j)=r:=by
 unfold intLe at e
 cases b with
 |true =>
  obtain⟨h,rfl⟩:=askLe_some e;exact⟨h,ok _ (.head _)⟩
 |false =>
  refine zBk e ?_; clear e; rintro rfl rfl rfl;exact⟨SameMem.refl _,rfl⟩
theorem zFd{m:M Bool} {s s':S0} {r:Bool} {ob:List Ob} (e:notM m s=some (r,s',ob)):m s=some (!r,s',ob):=by
 unfold notM at e;refine zAp e ?_; clear e; rintro b s₁ o₁ oA e1 e2 rfl;refine zBk e2 ?_; clear e2; rintro rfl rfl rfl;rw [e1]; simp
theorem zFn{a b:V} {x y:Value} {k:Int->Int->Bool->M Bool} {s s':S0} {r:Bool} {ob:List Ob} (ha:VR cn g a x) (hb:VR cn g b y) (e:cmpI a b k s=some (r,s',ob)) :
  ∃ i j t u z,x=.int i t/\y=.int j u/\k i j z s=some (r,s',ob):=by
 unfold cmpI at e
 cases ep:asInt a with
 |none=>rw [ep] at e; exact zAx e
 |some p =>
  rw [ep] at e
  cases eq:asInt b with
  |none=>rw [eq] at e; exact zAx e
  |some q =>
   rw [eq] at e;obtain⟨t,rfl⟩:=zQv ha ep;obtain⟨u,rfl⟩:=zQv hb eq;exact⟨_,_,t,u,_,rfl,rfl,e⟩
theorem zRr{a b:V} {x y:Value} {r:Bool} (ha:VR cn g a x) (hb:VR cn g b y) (e:cmpIs a b=some r):y=.none/\(x == Value.none)=r:=by
 cases b with
 |none =>
  refine⟨hb.inv,?_⟩
  cases a with
  |none=>cases e; rw [show x=_ from ha.inv]; rfl
  |ref=>cases e; obtain⟨_,rfl,_⟩:=ha.inv; rfl
  |tup=>cases e; obtain⟨_,_,_,rfl,_⟩:=ha.inv; rfl
  |_=>exact zAx e
 |_=>exact zAx e
theorem lt_le{i j:Int} {r:Bool} (h:decide (j<=i)=!r):decide (i<j)=r:=by
 cases r with
 |true=>exact decide_eq_true (Int.not_le.mp (of_decide_eq_false h))
 |false=>exact decide_eq_false (Int.not_lt.mpr (of_decide_eq_true h))
theorem zLn{op:CmpOp} {a b:V} {x y:Value} (hu:A.units+64<cLine) (ha:VR cn g a x) (hb:VR cn g b y):Sim cn A g (cmpV op a b) (compareOp op x y) (λ_ t w=>w=.bool t):=by
 intro s s' r ob S Q E e ok X hQ;have fin:SameMem s s'->Q (.bool r) S:=λh=>hQ g S.heap S.toks _ (G.le.refl g) (h.st X) rfl;cases op<;>(unfold cmpV at e; dsimp only at e)
 case Eq=>obtain⟨h1,h2⟩:=eqQ_ok (A:=A) hu ha hb e ok X; exact h2.1 Q E (fin h1)
 case NotEq =>
  obtain⟨h1,h2⟩:=eqQ_ok (A:=A) hu ha hb (zFd e) ok X;exact h2.2 Q E (by rw [Bool.not_not]; exact fin h1)
 case Lt =>
  obtain⟨i,j,t,u,z,rfl,rfl,e1⟩:=zFn ha hb e;obtain⟨h1,h2⟩:=zIh (zFd e1) ok;exact P.lt_int (by rw [lt_le h2]; exact fin h1)
 case LtE =>
  obtain⟨i,j,t,u,z,rfl,rfl,e1⟩:=zFn ha hb e;obtain⟨h1,h2⟩:=zIh e1 ok;exact P.le_int (by rw [h2]; exact fin h1)
 case Gt =>
  obtain⟨i,j,t,u,z,rfl,rfl,e1⟩:=zFn ha hb e;obtain⟨h1,h2⟩:=zIh (zFd e1) ok;exact P.gt_int (by show Q (.bool (decide (j<i))) S; rw [lt_le h2]; exact fin h1)
 case GtE =>
  obtain⟨i,j,t,u,z,rfl,rfl,e1⟩:=zFn ha hb e;obtain⟨h1,h2⟩:=zIh e1 ok;exact P.ge_int (by show Q (.bool (decide (j<=i))) S; rw [h2]; exact fin h1)
 case Is =>
  refine zCg e ?_; clear e; rintro e1 rfl rfl;obtain⟨rfl,h2⟩:=zRr ha hb e1;exact is_none_gen (by rw [h2]; exact fin (SameMem.refl _))
 case IsNot =>
  refine zCg (zFd e) ?_; rintro e1 rfl rfl;obtain⟨rfl,h2⟩:=zRr ha hb e1;exact isnot_none_gen (by rw [h2,Bool.not_not]; exact fin (SameMem.refl _))
 case In =>
  refine zCg e ?_; clear e; rintro e1 rfl rfl
  cases a with
  |str=>cases b with
   |tup =>
    obtain⟨t,rfl⟩:=ha.inv;obtain⟨_,_,_,rfl,h1,h2,h3⟩:=hb.inv;obtain⟨ys,rfl,rfl⟩:=isIn_some e1;exact in_tuple_strs ⟨_,zCl X h1,rfl,_,rfl⟩ (strsAre h3) (fin (SameMem.refl _))
   |_=>exact zAx e1
  |_=>exact zAx e1
 all_goals exact zAx e
end
noncomputable def SimC (cn:Cn) (A:Around) {α:Type} (g:G) (m:M α) (c:Code) (R:G->α->Result->Prop):Prop :=
 ∀ (s s':S0) (a:α) (ob:List Ob) (S:Shared) (Q:Result->Shared->Prop),m s=some (a,s',ob)->Oks ob->St cn g s S.heap ->
  Kont cn g s' S R a Q->codeAny (model cn.prog cn.w) A c Q S
inductive FlR (cn:Cn) (g:G):Fl->Flow->Prop
 |next:FlR cn g .next .next
 |ret {d v}:VR cn g d v->FlR cn g (.ret d) (.ret v)
theorem FlR.mono{cn:Cn} {g g':G} {f:Fl} {w:Flow} (x:g.lw g') (h:FlR cn g f w):FlR cn g' f w:=by
 cases h with
 |next=>exact .next
 |ret h=>exact .ret (h.mono x)
noncomputable def ifsOf:Option Expr->List Expr
 |none=>[]
 |some t=>[t]
structure zA2 (cn:Cn) (r:Rec):Prop where
 ev:∀ {g:G} {c:Cx} {env:Env} {A:Around} (e:Expr),zAu cn g c env->AOk A c.dep->Sim cn A g (r.ev c e) (eval e env) (λg' d w=>VR cn g' d w)
 tst:∀ {g:G} {c:Cx} {env:Env} {A:Around} (e:Expr),zAu cn g c env->AOk A c.dep->Sim cn A g (r.tst c e) (isTrue e env (eval e env)) (λ_ b w=>w=b)
 exs:∀ {g:G} {c:Cx} {env:Env} {A:Around} (ss:List Stmt),zAu cn g c env->AOk A c.dep->Sim cn A g (r.exs c ss) (execs ss env) (λg' f w=>FlR cn g' f w)
 asg:∀ {g:G} {c:Cx} {env:Env} {A:Around} (e:Expr) {d:V} {v:Value},zAu cn g c env->AOk A c.dep->VR cn g d v->Sim cn A g (r.asg c e d) (assign e env v) (λ_ _ _=>True)
 call:∀ {g:G} {A:Around} {n:Nat} {f:V} {fv:Value} {as:List V} {vs:List Value},AOk A n->VR cn g f fv->VRs cn g as vs->Sim cn A g (r.call n f as) (PySem.call fv vs) (λg' d w=>VR cn g' d w)
 callC:∀ {g:G} {A:Around} {n:Nat} {k:Str} {a:Addr} {as:List V} {vs:List Value},AOk A n->cn.fnv k=some a->VRs cn g as vs->SimC cn A g (r.call n (.fn k) as) (.call (.ref a) ⟨vs,[]⟩) (λg' d res=>∃ w,res=.ok (.ret w)/\VR cn g' d w)
 callee:∀ {n:Nat} {f:V} {as:List V} {s:S0} {x:V × S0 × List Ob},r.call n f as s=some x->(∃ k,f=.fn k)\/(∃ b,f=.raw b)\/(∃ i ps body scope cs,f=.ref i/\s.σ[i]?=some (.lam ps body scope cs))
 loop:∀ {g:G} {c:Cx} {env:Env} {A:Around} {x:Str} {p:Pos} {i:Nat} {it:Addr} {body:List Stmt},zAu cn g c env->AOk A c.dep->g.ρ[i]?=some it ->
  SimC cn A g (r.loop c x i body) (.forLoop (.Name x p) (.ref it) body [] env) (λg' f res=>∃ w,res=.ok w/\FlR cn g' f w)
 comp:∀ {g:G} {c:Cx} {env:Env} {A:Around} {elt iter:Expr} {x:Str} {p pos:Pos} {t:Option Expr} {scope:Scope} {i n:Nat} {it acc:Addr},zAu cn g c env->AOk A c.dep->g.ρ[i]?=some it->g.ρ[n]?=some acc ->
  SimC cn A g (r.comp c elt x t i n) (.compLoop (.ListComp elt [⟨.Name x p,iter,ifsOf t,0⟩] scope pos) 0 (.ref it) (.ref acc) env) (λ_ _ res=>res=.ok .next)
section
variable {cn:Cn} {A:Around} {g:G} {P:Prog} {c:Cx} {env:Env} {r:Rec}
theorem Sim.operate{α:Type} {m:M α} {t:Sem Value} {vs:List Value} {R:G->α->Value->Prop} (H:Sim cn A g m t R):Sim cn A g m (operate vs t) R :=
 λs s' a ob S Q E e ok X hQ=>wpAny_operate' (H s s' a ob S Q E e ok X hQ)
theorem Sim.release{α β:Type} {m:M α} {f:Unit->Sem β} {vs ws:List Value} {R:G->α->β->Prop} (H:Sim cn A g m (f ()) R):Sim cn A g m (release vs ws >>= f) R :=
 Sim.pre (λ_ _ _ h=>wpAny_release' h) H
theorem Sim.mapM{α γ β δ:Type} {m:M α} {k:α->γ} {t:Sem β} {f:β->δ} {R:G->α->β->Prop} {R':G->γ->δ->Prop} (H:Sim cn A g m t R) (K:∀ g' a b,g.le g'->R g' a b->R' g' (k a) (f b)):Sim cn A g (M.b m λa=>M.p (k a)) (t >>= λb=>Pure.pure (f b)) R' :=
 Sim.bind H λg' a b hg r=>Sim.pure (K g' a b hg r)
theorem zFv{e:Expr} {rest:List Expr} (h:plainE e=true):starEach (e::rest) env=(false,eval e env)::starEach rest env:=by
 cases e<;>first|rfl|cases h
theorem plain_mark{op:CmpOp} {e:Expr} (h:plainE e=true):behindInMarks op e=false:=by
 cases e<;>first|rfl|cases h
theorem zDx(R:zA2 cn r) (H:zAu cn g c env) (hA:AOk A c.dep) {e:Expr}:Sim cn A g (evP r c e) (eval e env) (λg' d w=>VR cn g' d w):=by
 unfold evP
 cases plainE e with
 |true=>exact R.ev e H hA
 |false=>exact Sim.fail
theorem zDu{e:Expr} {s:S0} {x:V × S0 × List Ob} (h:evP r c e s=some x):plainE e=true:=by
 unfold evP at h;revert h
 cases plainE e with
 |true=>exact λ_=>rfl
 |false=>exact λh=>zAx h
theorem zIp(R:zA2 cn r) {c:Cx} {env:Env} (pos:Pos):∀ {g:G} (es:List Expr),zAu cn g c env->AOk A c.dep->Sim cn A g (evs r c es) (spliced (backTo pos (starEach es env))) (λg' ds ws=>VRs cn g' ds ws)
 |g,[],H,hA=>Sim.pure (b:=[]) .nil
 |g,e::es,H,hA=>by
  cases hp:plainE e with
  |false =>
   intro s s' ds ob S Q E e1 ok X hQ;have e2:M.b (evP r c e) (λv=>M.b (evs r c es) λvs=>M.p (v::vs)) s=some (ds,s',ob):=e1;refine zAp e2 ?_; clear e2; rintro v s₁ o₁ oA e3 _ _;rw [zDu e3] at hp; cases hp
  |true =>
   rw [zFv hp];show Sim cn A g (M.b (evP r c e) λv=>M.b (evs r c es) λvs=>M.p (v::vs)) (spliced ((false,eval e env)::backTo pos (starEach es env))) _;rw [spliced];refine Sim.bind (zDx R H hA) λg' a b hg hv=>?_;simp only [Bool.false_eq_true,if_false];refine Sim.preV (v:=[b]) (λ_ _ _ h=>wpAny_pure h) ?_;exact Sim.mapM (Sim.holding (zIp R pos es (H.mono hg) hA)) λg'' a' b' hg' hvs=>.cons (hv.mono hg'.lw) hvs
theorem big_of{n:Nat} (h:Nat.ble n 1000=true):n<=big:=by have:=zD5 h; unfold big; lia
theorem sim_mkTup{ds:List V} {vs:List Value} (h:VRs cn g ds vs):Sim cn A g (mkTup ds) (newTuple vs) (λg' d w=>VR cn g' d w):=by
 unfold mkTup
 cases hl:Nat.ble ds.length 1000 with
 |false=>exact Sim.fail
 |true =>
  refine Sim.valH λQ E S s X hQ=>?_
  have hs:vs.toArray.size<=big:=by rw [List.size_toArray,h.length]; exact big_of hl
  obtain⟨g',hg,X',hv⟩:=zLi (ds:=ds) (vs:=vs.toArray) X hs (by simpa using h);exact wpAny_newObj_type (hQ g' _ S.toks _ hg X' hv) (zDj hs)
theorem sim_evTup(R:zA2 cn r) (H:zAu cn g c env) (hA:AOk A c.dep) {es:List Expr} {k:Nat} {pos:Pos}:Sim cn A g (evTup r c es) (eval (.Tuple es k pos) env) (λg' d w=>VR cn g' d w):=by
 show Sim cn A g _ (do standAt pos; newTuple (<-spliced (backTo pos (starEach es env)))) _;exact Sim.standAt (Sim.bind (zIp R pos es H hA) λg' ds vs hg h=>sim_mkTup h)
theorem sim_mkList{line:Nat} {ds:List V} {vs:List Value} (h:VRs cn g ds vs):Sim cn A g (mkList P line ds) (newList vs) (λg' d w=>VR cn g' d w):=by
 unfold mkList
 cases hl:Nat.ble ds.length 1000 with
 |false=>exact Sim.fail
 |true =>
  have hs:vs.toArray.size<=big:=by rw [List.size_toArray,h.length]; exact big_of hl
  clear hl;dsimp only
  cases hasN line P.mutL with
  |true =>
   intro s s' d ob S Q E e ok X hQ;refine zAp e ?_; clear e; rintro n s₁ o₁ oA e1 e2 rfl;refine zDr e1 ?_; clear e1; rintro rfl rfl rfl;refine zBk e2 ?_; clear e2; rintro rfl rfl rfl
   refine wpAny_newObj_type (hQ (g.add S.heap.objs.size) _ S.toks _ (G.le_add g _) (X.push (o:=.list ds [] []) ⟨vs,0,Heap.get?_push_size _ rfl,by simpa using hs,?_,λd hd=>nomatch hd⟩) (.ref ?_)) (zDj hs)
   ·simpa using h.mono (G.le_add g _).lw
   ·show (g.ρ++[S.heap.objs.size])[s.σ.length]?=some S.heap.objs.size;rw [List.getElem?_append_right (by rw [X.objs.length]; exact Nat.le_refl _),X.objs.length]; simp
  |false =>
   refine Sim.valH λQ E S s X hQ=>?_;obtain⟨g',hg,X',hv⟩:=zO1 (ds:=ds) (vs:=vs.toArray) X hs (by simpa using h);exact wpAny_newObj_type (hQ g' _ S.toks _ hg X' hv) (zDj hs)
theorem sim_evList(R:zA2 cn r) (H:zAu cn g c env) (hA:AOk A c.dep) {es:List Expr} {pos:Pos}:Sim cn A g (evList P r c es pos) (eval (.List es pos) env) (λg' d w=>VR cn g' d w):=by
 show Sim cn A g _ (do standAt pos; newList (<-spliced (backTo pos (starEach es env)))) _;exact Sim.standAt (Sim.bind (zIp R pos es H hA) λg' ds vs hg h=>sim_mkList h)
theorem sim_evBin(R:zA2 cn r) (H:zAu cn g c env) (hA:AOk A c.dep) {a b:Expr} {op:Operator} {pos:Pos}:Sim cn A g (evBin r c a op b) (eval (.BinOp a op b pos) env) (λg' d w=>VR cn g' d w):=by
 show Sim cn A g _ (do let x <-eval a env; let y <-holding [x] (eval b env); standAt pos; operate [x,y] (binaryOp op x y)) _;exact Sim.bind (R.ev a H hA) λg' x u hg hx=>Sim.bind (Sim.holding (R.ev b (H.mono hg) hA)) λg'' y w hg' hy=>Sim.standAt (Sim.operate (sim_bin (hx.mono hg'.lw) hy))
theorem zKq{v:V} {u:Value} {b:Bool} (h:VR cn g v u) (e:truth v=some b):u=.bool b:=by
 cases v with
 |bool c=>cases Option.some.inj e; exact h.inv
 |_=>exact zAx e
theorem zNr{v:V} {u:Value} (h:VR cn g v u):Sim cn A g (ofOpt (truth v)) (truthy u) (λ_ b w=>w=b):=by
 refine Sim.ofOpt' λb e=>?_
 have:=zKq h e
 subst this;exact Sim.val λQ E S s X hQ=>wpAny_truthy_bool (hQ S.toks b rfl)
theorem sim_evUn(R:zA2 cn r) (H:zAu cn g c env) (hA:AOk A c.dep) {a:Expr} {op:UnaryOp} {pos:Pos}:Sim cn A g (evUn r c op a) (eval (.UnaryOp op a pos) env) (λg' d w=>VR cn g' d w):=by
 show Sim cn A g _ (do let v <-eval a env; standAt pos; holding [v] (unaryOp op v)) _
 cases op with
 |Not =>
  refine Sim.bind (R.ev a H hA) λg' x u hg hx=>Sim.standAt (Sim.holding ?_);refine Sim.ofOpt λb e=>?_
  have:=zKq hx e
  subst this;exact Sim.val λQ E S s X hQ=>not_of (wpAny_truthy_bool (hQ S.toks _ (.bool _)))
 |USub =>
  refine Sim.bind (R.ev a H hA) λg' x u hg hx=>Sim.standAt (Sim.holding ?_)
  cases x with
  |int i=>exact let ⟨t,q⟩:=hx.inv; q▸Sim.val λQ E S s X hQ=>P.neg_int (hQ _ _ (.int _ _))
  |_=>exact Sim.fail
 |_=>exact Sim.fail
theorem Sim.pick{α β:Type} {a b:M α} {t:Bool} {x y:Sem β} {R:G->α->β->Prop} (ha:Sim cn A g a x R) (hb:Sim cn A g b y R):Sim cn A g (Mine.pick a b t) (if t=true then x else y) R:=by
 cases t
 ·exact hb
 ·exact ha
theorem sim_evIf(R:zA2 cn r) (H:zAu cn g c env) (hA:AOk A c.dep) {t a b:Expr} {pos:Pos}:Sim cn A g (evIf r c t a b) (eval (.IfExp t a b pos) env) (λg' d w=>VR cn g' d w):=by
 show Sim cn A g _ (do if <-isTrue t env (eval t env) then eval a env else eval b env) _;refine Sim.bind (R.tst t H hA) λg' x u hg hx=>?_;subst hx;exact Sim.pick (R.ev a (H.mono hg) hA) (R.ev b (H.mono hg) hA)
theorem zIs(R:zA2 cn r) {c:Cx} {env:Env} {pos:Pos} {op:BoolOp} {d:Bool} (hd:(op=.And/\d=false)\/(op=.Or/\d=true)):∀ {g:G} (es:List Expr),zAu cn g c env->AOk A c.dep->Sim cn A g (bools r c d es) (boolOp pos op (evalEach es env)) (λg' d w=>VR cn g' d w)
 |g,[],H,hA=>Sim.fail
 |g,[e],H,hA=>R.ev e H hA
 |g,e::e'::es,H,hA=>by
  show Sim cn A g _ (boolOp pos op (eval e env::eval e' env::evalEach es env)) _
  rw [boolOp]
  ·show Sim cn A g (M.b (r.ev c e) λv=>M.b (ofOpt (truth v)) λb=>match b == d with|true=>M.p v|false=>bools r c d (e'::es)) _ _;refine Sim.bind (R.ev e H hA) λg' v u hg hv=>Sim.standAt (Sim.bind (Sim.holding (zNr hv)) λg'' b w hg' hw=>?_);subst hw;have tail:=zIs R (pos:=pos) hd (e'::es) ((H.mono hg).mono hg') hA
   rcases hd with⟨rfl,rfl⟩|⟨rfl,rfl⟩<;>cases w
   ·exact Sim.pure (hv.mono hg'.lw)
   ·exact tail
   ·exact tail
   ·exact Sim.pure (hv.mono hg'.lw)
  ·intro h; cases h
theorem sim_evBool(R:zA2 cn r) (H:zAu cn g c env) (hA:AOk A c.dep) {op:BoolOp} {es:List Expr} {pos:Pos}:Sim cn A g (evBool r c op es) (eval (.BoolOp op es pos) env) (λg' d w=>VR cn g' d w):=by
 show Sim cn A g _ (boolOp pos op (evalEach es env)) _
 cases op with
 |And=>exact zIs R (.inl ⟨rfl,rfl⟩) es H hA
 |Or=>exact zIs R (.inr ⟨rfl,rfl⟩) es H hA
theorem zIn(R:zA2 cn r) {c:Cx} {env:Env} {op:BoolOp} {d:Bool} (hd:(op=.And/\d=false)\/(op=.Or/\d=true)):∀ {g:G} (es:List Expr),zAu cn g c env->AOk A c.dep->Sim cn A g (tests r c d es) (allTrue op es env) (λ_ b w=>w=b)
 |g,[],H,hA=>by
  rcases hd with⟨rfl,rfl⟩|⟨rfl,rfl⟩
  ·exact Sim.pure rfl
  ·exact Sim.pure rfl
 |g,e::es,H,hA=>by
  show Sim cn A g (M.b (r.tst c e) λb=>match b == d with|true=>M.p d|false=>tests r c d es) (isTrue e env (eval e env) >>= λt=>_) _;refine Sim.bind (R.tst e H hA) λg' v u hg hv=>?_;subst hv;have tail:=zIn R hd es (H.mono hg) hA
  rcases hd with⟨rfl,rfl⟩|⟨rfl,rfl⟩<;>cases u
  ·exact Sim.pure rfl
  ·exact tail
  ·exact tail
  ·exact Sim.pure rfl
end
set_option backward.match.sparseCases true
section
variable {cn:Cn} {A:Around} {g:G} {P:Prog} {c:Cx} {env:Env} {r:Rec}
theorem zG5{op:CmpOp} {e:Expr} (t:Sem Value) (h:plainE e=true):markedEach [op] [e] [t]=[t]:=by
 show [markedBehindIn op e t]=[t];rw [markedBehindIn_of_false (plain_mark h)]
theorem zDy{a:V} {op:CmpOp} {ops:List CmpOp} {e:Expr} {es:List Expr} {s:S0} {x:Bool × S0 × List Ob} (h:chain r c a (op::ops) (e::es) s=some x):plainE e=true:=by
 obtain⟨b,s',ob⟩:=x;unfold chain at h;refine zAp h ?_; clear h; rintro v s₁ o₁ oA e3 _ _;exact zDu e3
theorem Sim.need{α β:Type} {m:M α} {t:Sem β} {R:G->α->β->Prop} {p:Prop} (hp:∀ s x,m s=some x->p) (H:p->Sim cn A g m t R):Sim cn A g m t R :=
 λs s' a ob S Q E e ok X hQ=>H (hp s _ e) s s' a ob S Q E e ok X hQ
theorem zNw(R:zA2 cn r) {c:Cx} {env:Env} {pos:Pos}:∀ {g:G} {a:V} {x:Value} (ops:List CmpOp) (es:List Expr),zAu cn g c env->AOk A c.dep->VR cn g a x ->
  Sim cn A g (chain r c a ops es) (compareChain pos x ops (markedEach ops es (evalEach es env))) (λ_ b w=>w=.bool b)
 |g,a,x,[],es,H,hA,hx=>(Sim.fail:Sim cn A g Mine.fail _ _)
 |g,a,x,_::_,[],H,hA,hx=>(Sim.fail:Sim cn A g Mine.fail _ _)
 |g,a,x,[op],[e],H,hA,hx=>Sim.need (λs z h=>zDy h) λhp=>by
  show Sim cn A g (chain r c a [op] [e]) (compareChain pos x [op] (markedEach [op] [e] [eval e env])) _;rw [zG5 _ hp];show Sim cn A g (M.b (evP r c e) λb=>M.b (cmpV op a b) λt=>M.p t) _ _;refine Sim.bind (Sim.holding (zDx R H hA)) λg' b y hg hy=>Sim.standAt ?_;have step:=Sim.operate (vs:=[x,y]) (zLn (A:=A) (op:=op) hA.units (hx.mono hg.lw) hy);intro s s' t ob S Q E e1 ok X hQ;refine zAp e1 ?_; clear e1; rintro t' s₁ o₁ oA e2 e3 rfl;refine zBk e3 ?_; clear e3; rintro rfl rfl rfl;exact step s s' t o₁ S Q E e2 (ok.l) X hQ
 |g,a,x,[op],e::e'::es,H,hA,hx=>by
  intro s s' t ob S Q E h ok X hQ;have h':M.b (evP r c e) (λb=>M.b (cmpV op a b) λt=>(fail:M Bool)) s=some (t,s',ob):=h;refine zAp h' ?_; clear h'; rintro v s₁ o₁ oA _ h3 _;refine zAp h3 ?_; clear h3; rintro v s₁ o₁ oA _ h5 _;exact zAx h5
 |g,a,x,op::op'::ops,e::es,H,hA,hx=>Sim.need (λs z h=>zDy h) λhp=>by
  have e0:markedEach (op::op'::ops) (e::es) (evalEach (e::es) env)=eval e env::markedEach (op'::ops) es (evalEach es env):=by
   cases es<;>rfl
  rw [e0]
  have e1:compareChain pos x (op::op'::ops) (eval e env::markedEach (op'::ops) es (evalEach es env))=(do
    let rv <-holding [x] (eval e env)
    standAt pos
    let c <-holding [x,rv] (compareOp op x rv)
    PySem.release [x,rv] [c]
    if <-holding [c,rv] (truthy c) then compareChain pos rv (op'::ops) (markedEach (op'::ops) es (evalEach es env)) else Pure.pure c):=by
   cases h9:markedEach (op'::ops) es (evalEach es env)<;>rfl
  rw [e1];show Sim cn A g (M.b (evP r c e) λb=>M.b (cmpV op a b) λt=>match t with|true=>chain r c b (op'::ops) es|false=>M.p false) _ _;refine Sim.bind (Sim.holding (zDx R H hA)) λg' b y hg hy=>Sim.standAt ?_;refine Sim.bind (Sim.holding (zLn (A:=A) (op:=op) hA.units (hx.mono hg.lw) hy)) λg'' t w hg' hw=>?_;subst hw;refine Sim.release (Sim.preV (v:=t) (λQ E s h=>wpAny_holding (wpAny_truthy_bool h)) ?_)
  cases t
  ·exact Sim.pure rfl
  ·exact zNw R (op'::ops) es ((H.mono hg).mono hg') hA (hy.mono hg'.lw)
theorem zKy(R:zA2 cn r) {c:Cx} {env:Env} {pos:Pos}:∀ {g:G} {a:V} {x:Value} (ops:List CmpOp) (es:List Expr),zAu cn g c env->AOk A c.dep->VR cn g a x ->
  Sim cn A g (chain r c a ops es) (testChain pos x ops (markedEach ops es (evalEach es env))) (λ_ b w=>w=b)
 |g,a,x,[],es,H,hA,hx=>(Sim.fail:Sim cn A g Mine.fail _ _)
 |g,a,x,_::_,[],H,hA,hx=>(Sim.fail:Sim cn A g Mine.fail _ _)
 |g,a,x,[op],[e],H,hA,hx=>Sim.need (λs z h=>zDy h) λhp=>by
  show Sim cn A g (chain r c a [op] [e]) (testChain pos x [op] (markedEach [op] [e] [eval e env])) _;rw [zG5 _ hp];show Sim cn A g (M.b (evP r c e) λb=>M.b (cmpV op a b) λt=>M.p t) _ _;refine Sim.bind (Sim.holding (zDx R H hA)) λg' b y hg hy=>Sim.standAt ?_;refine Sim.bind (Sim.operate (zLn (A:=A) (op:=op) hA.units (hx.mono hg.lw) hy)) λg'' t w hg' hw=>?_;subst hw;exact Sim.val λQ E S s X h=>wpAny_holding (wpAny_truthy_bool (h S.toks t rfl))
 |g,a,x,[op],e::e'::es,H,hA,hx=>by
  intro s s' t ob S Q E h ok X hQ;have h':M.b (evP r c e) (λb=>M.b (cmpV op a b) λt=>(fail:M Bool)) s=some (t,s',ob):=h;refine zAp h' ?_; clear h'; rintro v s₁ o₁ oA _ h3 _;refine zAp h3 ?_; clear h3; rintro v s₁ o₁ oA _ h5 _;exact zAx h5
 |g,a,x,op::op'::ops,e::es,H,hA,hx=>Sim.need (λs z h=>zDy h) λhp=>by
  have e0:markedEach (op::op'::ops) (e::es) (evalEach (e::es) env)=eval e env::markedEach (op'::ops) es (evalEach es env):=by
   cases es<;>rfl
  rw [e0]
  have e1:testChain pos x (op::op'::ops) (eval e env::markedEach (op'::ops) es (evalEach es env))=(do
    let rv <-holding [x] (eval e env)
    standAt pos
    let c <-holding [x,rv] (compareOp op x rv)
    PySem.release [x,rv] [c]
    if <-holding [c,rv] (truthy c) then testChain pos rv (op'::ops) (markedEach (op'::ops) es (evalEach es env)) else Pure.pure false):=by
   cases h9:markedEach (op'::ops) es (evalEach es env)<;>rfl
  rw [e1];show Sim cn A g (M.b (evP r c e) λb=>M.b (cmpV op a b) λt=>match t with|true=>chain r c b (op'::ops) es|false=>M.p false) _ _;refine Sim.bind (Sim.holding (zDx R H hA)) λg' b y hg hy=>Sim.standAt ?_;refine Sim.bind (Sim.holding (zLn (A:=A) (op:=op) hA.units (hx.mono hg.lw) hy)) λg'' t w hg' hw=>?_;subst hw;refine Sim.release (Sim.preV (v:=t) (λQ E s h=>wpAny_holding (wpAny_truthy_bool h)) ?_)
  cases t
  ·exact Sim.pure rfl
  ·exact zKy R (op'::ops) es ((H.mono hg).mono hg') hA (hy.mono hg'.lw)
theorem sim_evCmp(R:zA2 cn r) (H:zAu cn g c env) (hA:AOk A c.dep) {l:Expr} {ops:List CmpOp} {rs:List Expr} {pos:Pos}:Sim cn A g (evCmp r c l ops rs) (eval (.Compare l ops rs pos) env) (λg' d w=>VR cn g' d w):=by
 show Sim cn A g _ (do compareChain pos (<-eval l env) ops (markedEach ops rs (evalEach rs env))) _;unfold evCmp;refine Sim.bind (R.ev l H hA) λg' a x hg hx=>?_;have step:=zNw R (pos:=pos) ops rs (H.mono hg) hA hx;intro s s' t ob S Q E e1 ok X hQ;refine zAp e1 ?_; clear e1; rintro t' s₁ o₁ oA e2 e3 rfl;refine zBk e3 ?_; clear e3; rintro rfl rfl rfl;exact step s s' t' o₁ S Q E e2 (ok.l) X λg' h' tk b hg Y e=>hQ g' h' tk b hg Y (e▸.bool _)
theorem sim_tstCmp(R:zA2 cn r) (H:zAu cn g c env) (hA:AOk A c.dep) {l:Expr} {ops:List CmpOp} {rs:List Expr} {pos:Pos} {whole:Sem Value}:Sim cn A g (tstCmp r c l ops rs) (isTrue (.Compare l ops rs pos) env whole) (λ_ b w=>w=b):=by
 show Sim cn A g _ (do testChain pos (<-eval l env) ops (markedEach ops rs (evalEach rs env))) _;exact Sim.bind (R.ev l H hA) λg' a x hg hx=>zKy R (pos:=pos) ops rs (H.mono hg) hA hx
theorem sim_tstV(R:zA2 cn r) (H:zAu cn g c env) (hA:AOk A c.dep) {e:Expr}:Sim cn A g (tstV r c e) (do let v <-eval e env; PySem.standAt e.pos; holding [v] (truthy v)) (λ_ b w=>w=b) :=
 Sim.bind (R.ev e H hA) λg' a x hg hx=>Sim.standAt (Sim.holding (zNr hx))
theorem sim_tst(R:zA2 cn r) (H:zAu cn g c env) (hA:AOk A c.dep) (e:Expr):Sim cn A g (tst r c e) (isTrue e env (eval e env)) (λ_ b w=>w=b):=by
 cases e<;>first|exact Sim.fail|exact sim_tstCmp R H hA|exact sim_tstV R H hA|skip
 ·rename_i op es pos
  cases op
  ·exact zIn R (.inl ⟨rfl,rfl⟩) es H hA
  ·exact zIn R (.inr ⟨rfl,rfl⟩) es H hA
 ·rename_i op x pos
  cases op<;>try exact Sim.fail
  exact Sim.mapM (R.tst x H hA) λg' a b hg h=>by rw [h]
 ·rename_i t a b pos;show Sim cn A g (tstIf r c t a b) (do if <-isTrue t env (eval t env) then isTrue a env (eval a env) else isTrue b env (eval b env)) _;refine Sim.bind (R.tst t H hA) λg' x u hg hx=>?_;subst hx;exact Sim.pick (R.tst a (H.mono hg) hA) (R.tst b (H.mono hg) hA)
end
section
variable {prog:Program} {w:World} {A:Around} {E:Value->Shared->Prop} {s:Shared}
theorem adjust_run(a b n:Nat) (hab:a<=b) (hb:b<=n):Builtin.Slice.sliceAdjust (some (a:Int)) (some (b:Int)) 1 (n:Int)=((a:Int),(b:Int)):=by
 unfold Builtin.Slice.sliceAdjust
 have h1:¬ ((1:Int)<0):=by grind
 have h2:¬ ((a:Int)<0):=by grind
 have h3:¬ ((b:Int)<0):=by lia
 simp only [h1,h2,h3,if_false]
 congr 1<;>lia
theorem places_run(a b:Nat) (hab:a<=b):Builtin.Slice.slicePlaces (a:Int) (b:Int) 1=b-a:=by
 unfold Builtin.Slice.slicePlaces
 have h1:(1:Int) > 0:=by grind
 simp only [h1,if_true,Int.ediv_one]
 split<;>grind
theorem zG8{sl:Addr} {a b n:Nat} {u v:Tok} {Q:Int × Int × Nat->Shared->Prop} (hs:s.heap.IsSliceOf sl (.int a u) (.int b v) .none) (hab:a<=b) (hb:b<=n) (h:Q ((a:Int),1,b-a) s) :
  wpAny (model prog w) A (Builtin.Slice.sliceApplied (.ref sl) (pure (n:Int))) Q E s:=by
 obtain⟨os,hos,hcs,hds⟩:=id hs;unfold Builtin.Slice.sliceApplied Builtin.Slice.sliceFields;refine wpAny_bind (wpAny_bind (wpAny_field hos hds (x:=.int a u) rfl (wpAny_bind (wpAny_field hos hds (x:=.int b v) rfl (wpAny_bind (wpAny_field hos hds (x:=.none) rfl (wpAny_pure ?_)))))));refine wpAny_bind (slicePart_none ?_);show wpAny _ _ (if ((1:Int) == 0)=true then _ else _) _ _ s;rw [if_neg (by decide)];refine wpAny_bind (slicePart_int (wpAny_bind (slicePart_int (wpAny_bind (wpAny_pure ?_)))));show wpAny _ _ (match Builtin.Slice.sliceAdjust (some (a:Int)) (some (b:Int)) 1 (n:Int) with|(lo,hi)=>pure (lo,(1:Int),Builtin.Slice.slicePlaces lo hi 1)) _ _ s;rw [adjust_run a b n hab hb];show wpAny _ _ (pure ((a:Int),(1:Int),Builtin.Slice.slicePlaces (a:Int) (b:Int) 1)) _ _ s;rw [places_run a b hab];exact wpAny_pure h
theorem pick_run'(xs:Array Value) (a k:Nat):((List.range k).filterMap λ(j:Nat)=>xs[((a:Int)+(j:Int)*1).toNat]?).toArray=((xs.toList.drop a).take k).toArray:=by
 have e:(λ(j:Nat)=>xs[((a:Int)+(j:Int)*1).toNat]?)=λj=>xs[a+j]?:=by
  funext j
  have:((a:Int)+(j:Int)*1).toNat=a+j:=by grind
  rw [this]
 rw [e]
 have:=pick_run xs a k
 rw [List.filterMap_map] at this;have e2:((λx=>xs[x]?) ∘ λx=>a+x)=λj=>xs[a+j]?:=rfl;rw [e2] at this;rw [this]
theorem zGw{t sl:Addr} {items:Array Value} {a b:Nat} {u v:Tok} {Q:Value->Shared->Prop} (ht:IsTup s.heap t items) (hs:s.heap.IsSliceOf sl (.int a u) (.int b v) .none) (h1:1<=a) (hab:a<=b) (hb:b<=items.size)
  (h:Q (.ref s.heap.objs.size) { s with heap:=s.heap.push { cls:=.type "tuple", data:=.seq ((items.toList.drop a).take (b-a)).toArray } })
  (hsz:items.size<=sizeLine):wpAny (model prog w) A (getItem (.ref t) (.ref sl)) Q E s:=by
 have hdrop:sizeOk (.seq ((items.toList.drop a).take (b-a)).toArray):=by
  show ((items.toList.drop a).take (b-a)).toArray.size<=sizeLine;rw [List.size_toArray,List.length_take,List.length_drop,Array.length_toList];lia
 obtain⟨os,hos,hcs,hds⟩:=id hs
 have hTs:s.TypeIs (.ref sl) "slice" := ⟨os,hos,hcs⟩
 unfold getItem
 try with_reducible refine wpAny_holding ?_
 first|refine wpAny_bind (wpAny_pure ?_)|skip
 refine wpAny_bind (wpAny_sequenceKey ht.typeIs (by decide) ?_)
 refine wpAny_bind (wpAny_callSpecial?_slot (name:=Str.ofString "__getitem__") ht.typeIs slot_tuple_getitem
  (wpAny_call_entry slot_tuple_getitem ht.typeIs entry_tuple_getitem ?_ (args_tuple_getitem _ _)))
 show wpAny _ _ (Builtin.Tuple.tupleItemsOf (.ref t) >>= _) _ _ s;refine wpAny_bind (tupleItemsOf_ ht ?_);refine wpAny_bind (wpAny_typeOf hTs ?_);rw [if_pos (by decide)];refine wpAny_bind (zG8 hs hab hb ?_)
 have hno:¬ (((a:Int) == 0 && (1:Int) == 1 && (b-a) == items.size)=true):=by
  have:((a:Int) == 0)=false:=by rw [beq_eq_false_iff_ne]; grind
  rw [this]; simp
 show wpAny _ _ (if ((a:Int) == 0 && (1:Int) == 1 && (b-a) == items.size)=true then _ else _) _ _ s;rw [if_neg hno,pick_run' items a (b-a)]
 first
  |exact wpAny_bind (m:=Builtin.Tuple.tupleExact _) (wpAny_newObj_type (wpAny_pure ⟨_,rfl,wpAny_pure h⟩) hdrop)
  |exact wpAny_bind (m:=Builtin.Tuple.tupleExact _) (wpAny_newObj_type (wpAny_bind (wpAny_pure (wpAny_pure ⟨_,rfl,wpAny_pure h⟩))) hdrop)
  |exact wpAny_bind (wpAny_bind (m:=Builtin.Tuple.tupleExact _) (wpAny_newObj_type (wpAny_pure (wpAny_pure ⟨_,rfl,wpAny_pure h⟩)) hdrop))
  |exact wpAny_bind (wpAny_bind (m:=Builtin.Tuple.tupleExact _) (wpAny_newObj_type (wpAny_pure ⟨_,rfl,wpAny_pure h⟩) hdrop))
end
set_option backward.match.sparseCases false
section
variable {cn:Cn} {A:Around} {g:G} {P:Prog} {c:Cx} {env:Env} {r:Rec}
theorem blt_le{C:Prop} {k n j:Nat} {v:Option Nat} (h:(match Nat.blt k n with|true=>v|false=>none)=some j) (H:k<n->v=some j->C):C:=by
 cases q:Nat.blt k n with
 |true=>rw [q] at h; exact H (Nat.le_of_ble_eq_true q) h
 |false=>rw [q] at h; exact zAx h
theorem idx_seq{n:Nat} {k:Int} {j:Nat} (h:idx n k=some j):seqIndex? k n=some j/\j<n:=by
 unfold idx at h;unfold seqIndex?
 cases k with
 |ofNat m =>
  refine blt_le h ?_; clear h; rintro q' e;cases e
  have h1:¬ (Int.ofNat j<0):=by simp
  simp only [h1,if_false]
  have h2:(decide (0<=Int.ofNat j) && decide (Int.ofNat j<(n:Int)))=true:=by simp; exact q'
  rw [h2]; exact⟨rfl,q'⟩
 |negSucc m =>
  refine blt_le h ?_; clear h; rintro q' e;cases e;have h1:Int.negSucc m<0:=Int.negSucc_lt_zero m;simp only [h1,if_true]
  have e:Int.negSucc m+(n:Int)=((n-1-m:Nat):Int):=by omega
  rw [e];clear h1 e
  have h2:(decide (0<=((n-1-m:Nat):Int)) && decide (((n-1-m:Nat):Int)<(n:Int)))=true:=by simp; omega
  rw [h2]; exact⟨rfl,by omega⟩
theorem zD9{n:Nat} {k:Int} {j:Nat} (h:seqIndex? k n=some j) (hn:n<=big):-(2 ^ 63)<=k/\k<2 ^ 63/\(0<=k->k.toNat=j)/\(k<0->-(n:Int)<=k/\(k+n).toNat=j):=by
 unfold seqIndex? at h;unfold big at hn
 by_cases hk:k<0
 ·simp only [hk,if_true] at h
  by_cases q:(decide (0<=k+(n:Int)) && decide (k+(n:Int)<(n:Int)))=true
  ·rw [if_pos q] at h;cases h;simp only [Bool.and_eq_true,decide_eq_true_eq] at q;exact⟨by omega,by omega,λh=>by omega,λ_=>⟨by omega,rfl⟩⟩
  ·rw [if_neg q] at h; cases h
 ·simp only [hk,if_false] at h
  by_cases q:(decide (0<=k) && decide (k<(n:Int)))=true
  ·rw [if_pos q] at h;cases h;simp only [Bool.and_eq_true,decide_eq_true_eq] at q;exact⟨by omega,by omega,λ_=>rfl,λh=>by omega⟩
  ·rw [if_neg q] at h; cases h
theorem getL_on{l:Addr} {items:Array Value} {n:Nat} {k:Int} {t:Tok} {j:Nat} {x:Value} {Q:Value->Shared->Prop} {E:Value->Shared->Prop} {S:Shared} (hl:IsL S.heap l items n) (hs:items.size<=big) (hj:seqIndex? k items.size=some j) (hx:items[j]?=some x) (h:Q x S) :
  wpAny (model cn.prog cn.w) A (getItem (.ref l) (.int k t)) Q E S:=by
 obtain⟨b1,b2,b3,b4⟩:=zD9 hj hs
 have hL:S.heap.IsList l items:=⟨_,hl,rfl,_,rfl⟩
 by_cases hk:0<=k
 ·exact wpAny_getItem_list hL hk b2 (by rw [b3 hk]; exact hx) h
 clear b2 b3
 ·have hk':k<0:=by lia
  obtain⟨b5,b6⟩:=b4 hk';exact wpAny_getItem_list_neg hL hk' b5 b1 (by rw [b6]; exact hx) h
theorem zNk{ds:List V} {k:Int} {s s':S0} {d:V} {ob:List Ob} (e:atI ds k s=some (d,s',ob)):(∃ j,seqIndex? k ds.length=some j/\ds[j]?=some d)/\s'=s:=by
 unfold atI at e;refine zCg e ?_; clear e; rintro e1 rfl rfl
 cases q:idx ds.length k with
 |none=>rw [q] at e1; cases e1
 |some j=>rw [q] at e1; exact⟨⟨j,(idx_seq q).1,e1⟩,rfl⟩
theorem zIl{x:Str}:∀ {ks:List Str} {vs:List Value} {v:Value},assoc x ks vs=some v->valueAt (ks.zip vs) x=some v
 |[],_,_,e=>by simp [assoc] at e
 |_::_,[],_,e=>by simp [assoc] at e
 |k::ks,u::vs,v,e=>by
  unfold assoc at e;unfold valueAt;rw [List.zip_cons_cons,List.find?_cons]
  cases q:eqS x k with
  |true =>
   rw [q] at e
   have:=zBa.mp q
   subst this;simpa using e
  |false =>
   rw [q] at e
   have:¬ k=x:=λh=>zB9.mp q h.symm
   simp only [this,decide_false];exact zIl e
theorem zFr:∀ {ks:List Str} {vs:List Value},ks.length=vs.length->(ks.zip vs).map (·.1)=ks
 |[],_,_=>by simp
 |_::_,[],h=>by simp at h
 |k::ks,v::vs,h=>by rw [List.zip_cons_cons,List.map_cons,zFr (by simpa using h)]
theorem getD_on{d:Addr} {ks:List Str} {ds:List V} {vs:List Value} {x:Str} {t:Tok} {v:V} {Q:Value->Shared->Prop} {E:Value->Shared->Prop} {S:Shared} (hm:S.heap.DictOf (strKind cn.prog cn.w) d (ks.zip vs)) (hv:VRs cn g ds vs) (e:assoc x ks ds=some v)
  (h:∀ tk u,VR cn g v u->Q u { S with toks:=tk }):wpAny (model cn.prog cn.w) A (getItem (.ref d) (.str x t)) Q E S:=by
 obtain⟨u,e1,e2⟩:=hv.assoc (α:=Value) e;exact wpAny_getItem_of (strKind_is _ _ _ _) hm.mapOf (zIl e1) (h _ _ e2)
theorem last_at:∀ {post:List V} {v:V} (xs:List V),lastV post=some v->(xs++post)[(xs++post).length-1]?=some v
 |[],_,_,e=>by simp [lastV] at e
 |[x],v,xs,e=>by
  simp only [lastV,Option.some.injEq] at e; subst e
  simp
 |x::y::r,v,xs,e=>by
  have:=last_at (post:=y::r) (v:=v) (xs++[x]) (by simpa [lastV] using e)
  simpa using this
noncomputable def At (L:List V) (k:Int) (d:V):Prop:=∃ j,seqIndex? k L.length=some j/\L[j]?=some d
theorem seq_last{n:Nat} (h:n-1<n):seqIndex? (Int.negSucc 0) n=some (n-1):=by
 obtain⟨m,rfl⟩:∃ m,n=m+1:=⟨n-1,by omega⟩
 unfold seqIndex?;rw [show (if Int.negSucc 0<0 then Int.negSucc 0+((m+1:Nat):Int) else Int.negSucc 0)=(m:Int) by rw [if_pos (by decide)]; grind]
 simp
 omega
theorem At.last{post:List V} {d:V} (xs:List V) (e:lastV post=some d):At (xs++post) (Int.negSucc 0) d:=by
 have h:=last_at xs e;exact⟨_,seq_last (List.getElem?_eq_some_iff.mp h).1,h⟩
theorem At.first{d:V} {L:List V}:At (d::L) 0 d:=⟨0,by simp [seqIndex?],rfl⟩
theorem zGv{pre mid post:List V} {k:Int} {s s':S0} {d:V} {ob:List Ob} (e:getL1 pre mid post k s=some (d,s',ob)):s'=s/\At (pre++mid++post) k d:=by
 cases mid with
 |nil=>obtain⟨h,rfl⟩:=zNk e; rw [List.append_nil]; exact⟨rfl,h⟩
 |cons z zs=>cases k with
  |ofNat q=>cases q with
   |zero=>cases pre with
    |nil=>cases e
    |cons u us=>refine zBk e ?_; clear e; rintro rfl rfl rfl; exact⟨rfl,At.first⟩
   |succ q=>cases e
  |negSucc q=>cases q with
   |zero=>refine zCg e ?_; clear e; rintro e rfl rfl; exact⟨rfl,At.last _ e⟩
   |succ q=>cases e
theorem getL0_some{pre mid post:List V} {k:Int} {s s':S0} {d:V} {ob:List Ob} (e:getL0 pre mid post k s=some (d,s',ob)):s'=s/\At (pre++mid++post) k d:=by
 unfold getL0 at e
 cases hm:isM1 k with
 |true =>
  rw [hm] at e
  cases k with
  |ofNat q=>cases hm
  |negSucc q =>
   cases Nat.eq_of_beq_eq_true hm
   cases post with
   |nil=>exact zGv e
   |cons u us=>refine zCg e ?_; clear e; rintro e rfl rfl; exact⟨rfl,At.last _ e⟩
 |false =>
  rw [hm] at e
  cases hz:isZ k with
  |false=>rw [hz] at e; exact zGv e
  |true =>
   rw [hz] at e
   cases k with
   |negSucc q=>cases hz
   |ofNat q =>
    cases Nat.eq_of_beq_eq_true hz
    cases pre with
    |nil=>exact zGv e
    |cons u us=>refine zBk e ?_; clear e; rintro rfl rfl rfl; exact⟨rfl,At.first⟩
theorem At.list{L:List V} {k:Int} {t:Tok} {d:V} {a:Addr} {vs:Array Value} {n:Nat} {S:Shared} {Q:Value->Shared->Prop} {E:Value->Shared->Prop} (h:At L k d) (hl:IsL S.heap a vs n) (hb:vs.size<=big) (hv:VRs cn g L vs.toList) (hQ:∀ tk v,VR cn g d v->Q v { S with toks:=tk }) :
  SubscriptOn (model cn.prog cn.w) A (.ref a) (.int k t) Q E S:=by
 obtain⟨j,hj,hd⟩:=h;obtain⟨v,hv',hr⟩:=hv.get hd;refine⟨_,_,slot_list_getitem.lookup,⟨_,hl,rfl⟩,?_⟩;rw [<-hv.length,Array.length_toList] at hj;exact getL_on hl hb hj (by simpa using hv') (hQ S.toks v hr)
theorem At.tup{L:List V} {k:Int} {t:Tok} {d:V} {a:Addr} {vs:Array Value} {n:Nat} {s:S0} {S:Shared} {Q:Value->Shared->Prop} {E:Value->Shared->Prop} (h:At L k d) (X:St cn g s S.heap) (hz:(a,(⟨.type "tuple", none,.seq vs n,#[]⟩:Obj))∈g.fz) (hb:vs.size<=big)
  (hv:VRs cn g L vs.toList) (hQ:∀ tk v,VR cn g d v->Q v { S with toks:=tk }):SubscriptOn (model cn.prog cn.w) A (.ref a) (.int k t) Q E S:=by
 obtain⟨j,hj,hd⟩:=h;obtain⟨v,hv',hr⟩:=hv.get hd;refine⟨_,_,slot_tuple_getitem.lookup,⟨_,zCl X hz,rfl⟩,?_⟩;rw [<-hv.length,Array.length_toList] at hj;obtain⟨b1,b2,_,_⟩:=zD9 hj hb;exact getItem_tuple ⟨_,zCl X hz,rfl,_,rfl⟩ b1 b2 hj (by simpa using hv') (hQ S.toks v hr)
theorem getRQ_some{o:AO} {k:Int} {s s':S0} {d:V} {ob:List Ob} (e:getRQ o k s=some (d,s',ob)) (ok:Oks ob):s'=s/\∃ pre mid post,o=.list pre mid post/\At (pre++mid++post) k d:=by
 unfold getRQ at e
 cases o with
 |list pre mid post =>
  cases e;obtain⟨h0,x,hx⟩:=ok (.item _ k) (.head _);obtain⟨q,rfl⟩:=Int.eq_ofNat_of_zero_le h0
  refine⟨rfl,_,_,_,rfl,q,?_,?_⟩
  ·have hl:=(List.getElem?_eq_some_iff.mp hx).1;generalize (pre++mid++post).length=n at hl;have hl:q<n:=hl;simp [seqIndex?]; omega
  ·unfold symAt; rw [hx]; exact hx
 |_=>exact zAx e
theorem getI_on{o i:V} {x y:Value} {s s':S0} {d:V} {ob:List Ob} {S:Shared} {Q:Value->Shared->Prop} {E:Value->Shared->Prop} (e:getI o i s=some (d,s',ob)) (ok:Oks ob) (X:St cn g s S.heap) (hx:VR cn g o x) (hy:VR cn g i y)
  (hQ:∀ tk v,VR cn g d v->Q v { S with toks:=tk }):s'=s/\SubscriptOn (model cn.prog cn.w) A x y Q E S:=by
 cases o with
 |tup ds=>cases i with
  |int k =>
   obtain⟨t,rfl⟩:=hy.inv;obtain⟨a,vs,n,rfl,h1,h2,h3⟩:=hx.inv;obtain⟨h,rfl⟩:=zNk e;exact⟨rfl,At.tup h X h1 h2 h3 hQ⟩
  |_=>exact zAx e
 |lst ds=>cases i with
  |int k =>
   obtain⟨t,rfl⟩:=hy.inv;obtain⟨a,vs,n,rfl,h1,h2,h3⟩:=hx.inv;obtain⟨h,rfl⟩:=zNk e;exact⟨rfl,At.list h (zD4 X h1) h2 h3 hQ⟩
  |_=>exact zAx e
 |dct ks ds=>cases i with
  |str k =>
   obtain⟨t,rfl⟩:=hy.inv
   cases hx with
   |dct h1 h2 h3 h4 h5 h6 h7 hm h8 =>
    obtain⟨e1,rfl,rfl⟩:_/\_/\_:=zCg e λa b c=>⟨a,b,c⟩
    have hD:S.heap.DictOf (strKind cn.prog cn.w) _ _:=⟨_,_,_,X.fzs _ h1,h2,h3,h4,h5,by rw [zFr h7]; exact h6⟩
    exact⟨rfl,_,_,slot_dict_getitem.lookup,hD.typeIs,getD_on hD h8 e1 hQ⟩
  |_=>exact zAx e
 |ref n =>
  obtain⟨a,rfl,hρ⟩:=hx.inv
  have nums:∀ {k:Int} {t:Tok} {ao:AO},s.σ[n]?=some ao->(∃ pre mid post,ao=.list pre mid post/\At (pre++mid++post) k d)->SubscriptOn (model cn.prog cn.w) A (.ref a) (.int k t) Q E S:=λeo h=>by
   obtain⟨pre,mid,post,rfl,h⟩:=h;obtain⟨vs,m,hl,hb,hvs,_⟩:=X.at eo hρ;exact At.list h hl (by simpa using hb) hvs hQ
  cases i with
  |int k =>
   obtain⟨t,rfl⟩:=hy.inv;refine zAp e ?_; clear e; rintro ao s₁ o₁ oA e1 e2 rfl;refine zK3 e1 ?_; clear e1; rintro eo rfl rfl
   cases ao with
   |list pre mid post =>
    obtain⟨rfl,h⟩:=getL0_some e2;exact⟨rfl,nums eo ⟨_,_,_,rfl,h⟩⟩
   |_=>exact zAx e2
  |sym k =>
   obtain⟨t,rfl⟩:=hy.inv;refine zAp e ?_; clear e; rintro ao s₁ o₁ oA e1 e2 rfl;refine zK3 e1 ?_; clear e1; rintro eo rfl rfl;obtain⟨rfl,h⟩:=getRQ_some e2 ok.r;exact⟨rfl,nums eo h⟩
  |str k =>
   obtain⟨t,rfl⟩:=hy.inv;refine zAp e ?_; clear e; rintro ao s₁ o₁ oA e1 e2 rfl;refine zK3 e1 ?_; clear e1; rintro eo rfl rfl
   cases ao with
   |dict ks ds =>
    refine zCg e2 ?_; clear e2; rintro e3 rfl rfl;obtain⟨vs,hD,_,hvs⟩:=X.at eo hρ;exact⟨rfl,_,_,slot_dict_getitem.lookup,hD.typeIs,getD_on hD hvs e3 hQ⟩
   |_=>exact zAx e2
  |_=>exact zAx e
 |_=>exact zAx e
theorem zI2{M:Model} {o:Value} {T:String} {id:String} {S:Shared} {Q:Bool->Shared->Prop} {E:Value->Shared->Prop} (hl:typeLookup (.type T) "__getitem__" = pure (some (.builtin id))) (hT:S.TypeIs o T) (h:Q false S) :
  wpAny M A (getitemInPython o) Q E S:=by
 rw [getitemInPython_of_ne hT.not_modules];refine wpAny_bind (wpAny_specialOf hT hl ?_)
 first
  |exact wpAny_pure h
  |exact wpAny_bind (wpAny_pure h)
theorem zO7{o i:V} {x y:Value} {value slice:Expr} (hx:VR cn g o x) (hy:VR cn g i y) (hs:subscripted slice false x y=PySem.operate [x,y] (getItem x y)) :
  Sim cn A g (getI o i) (do let r <-subscripted slice (<-getitemInPython x) x y; letTemporaryGo value x r; Pure.pure r) (λg' d w=>VR cn g' d w):=by
 intro s s' d ob S Q E e ok X hQ;obtain⟨rfl,_⟩:=getI_on (A:=A) (Q:=λ_ _=>True) (E:=E) e ok X hx hy λ_ _ _=>trivial
 obtain⟨_,T,id,hl,hT,hg⟩:=getI_on (A:=A) (Q:=λr sB=>wpAny (model cn.prog cn.w) A (letTemporaryGo value x r >>= λ_=>Pure.pure r) Q E sB) (E:=E) e ok X hx hy λtk v hv =>
  wpAny_bind (wpAny_letTemporaryGo (wpAny_pure (hQ g S.heap tk v (G.le.refl g) X hv)))
 refine wpAny_bind (zI2 hl hT ?_);rw [hs];exact wpAny_bind (wpAny_operating hg)
theorem sim_subI(R:zA2 cn r) (H:zAu cn g c env) (hA:AOk A c.dep) {o i:Expr} {pos:Pos} (hs:∀ x y,subscripted i false x y=PySem.operate [x,y] (getItem x y)) :
  Sim cn A g (M.b (r.ev c o) λov=>M.b (r.ev c i) (getI ov)) (eval (.Subscript o i pos) env) (λg' d w=>VR cn g' d w):=by
 rw [eval_Subscript];exact Sim.bind (R.ev o H hA) λg' ov x hg hx=>Sim.bind (Sim.holding (R.ev i (H.mono hg) hA)) λg'' iv y hg' hy=>Sim.standAt (zO7 (hx.mono hg'.lw) hy (hs x y))
theorem zKz(R:zA2 cn r) (H:zAu cn g c env) (hA:AOk A c.dep) {o:Option Expr}:Sim cn A g (evPart r c o) (valueOrNone (evalOpt o env)) (λg' d w=>VR cn g' d w):=by
 cases o with
 |none=>exact Sim.pure .none
 |some e=>exact R.ev e H hA
theorem zL5{v:V} {x:Value} {o:Option Nat} (h:VR cn g v x) (e:partV v=some o):(o=none/\x=.none)\/(∃ n t,o=some n/\x=.int (n:Nat) t):=by
 cases v with
 |none=>cases e; exact .inl ⟨rfl,h.inv⟩
 |int i=>cases i with
  |ofNat n=>cases e; exact .inr (let ⟨t,q⟩:=h.inv; ⟨n,t,rfl,q⟩)
  |negSucc=>exact zAx e
 |_=>exact zAx e
theorem zRk{h:Heap} {a:Addr} {vs:Array Value} {n:Nat} {o:Obj} (x:IsT h a vs n):IsT (h.push o) a vs n:=Heap.get?_push_of_some o x
noncomputable def Sim2 (cn:Cn) (A:Around) {α β δ:Type} (g:G) (m:M α) (t:Sem β) (f:β->Sem δ) (R:G->α->δ->Prop):Prop :=
 ∀ (s s':S0) (a:α) (ob:List Ob) (S:Shared) (Q:δ->Shared->Prop) (E:Value->Shared->Prop),m s=some (a,s',ob)->Oks ob->St cn g s S.heap ->
  Kont cn g s' S R a Q->wpAny (model cn.prog cn.w) A t (λb S'=>wpAny (model cn.prog cn.w) A (f b) Q E S') E S
theorem Sim2.ofOpt{α γ β δ:Type} {o:Option α} {k:α->M γ} {t:Sem β} {f:β->Sem δ} {R:G->γ->δ->Prop} (H:∀ a,o=some a->Sim2 cn A g (k a) t f R):Sim2 cn A g (M.b (Mine.ofOpt o) k) t f R:=by
 intro s s' c ob S Q E e ok X hQ;refine zAp e ?_; clear e; rintro a s₁ o₁ oA e1 e2 rfl;refine zCg e1 ?_; clear e1; rintro rfl rfl rfl;exact H a rfl s₁ s' c oA S Q E e2 (ok.r) X hQ
theorem Sim2.fail{α β δ:Type} {t:Sem β} {f:β->Sem δ} {R:G->α->δ->Prop}:Sim2 cn A g (Mine.fail:M α) t f R:=λ_ _ _ _ _ _ _ e _ _ _=>zAx e
theorem Sim2.valH{α β δ:Type} {t:Sem β} {f:β->Sem δ} {R:G->α->δ->Prop} {a:α} (H:∀ (Q:δ->Shared->Prop) (E:Value->Shared->Prop) (S:Shared) (s:S0),St cn g s S.heap->Kont cn g s S R a Q->wpAny (model cn.prog cn.w) A t (λb S'=>wpAny (model cn.prog cn.w) A (f b) Q E S') E S):Sim2 cn A g (M.p a) t f R:=by
 intro s s' a' ob S Q E e ok X hQ;refine zBk e ?_; clear e; rintro rfl rfl rfl;exact H Q E S s' X hQ
noncomputable def sliceK (le ue:Option Expr) (p pos:Pos) (value:Expr) (x i:Value):Sem Value:=do PySem.standAt pos; let r <-subscripted (.Slice le ue none p) (<-getitemInPython x) x i; letTemporaryGo value x r; Pure.pure r
noncomputable abbrev sliceO (y z:Value):Obj:={ cls:=.type "slice", data:=.fields #[y,z,.none] }
noncomputable abbrev upS (S:Shared) (o:Obj):Shared:={ S with heap:=S.heap.push o }
theorem zNq{le ue:Option Expr} {p pos:Pos} {value:Expr} {x y z:Value} {S:Shared} {Q:Value->Shared->Prop} {E:Value->Shared->Prop} {T id:String} (hl:typeLookup (.type T) "__getitem__" = pure (some (.builtin id)))
  (hp:∀ o,(upS S o).TypeIs x T)
  (h:wpAny (model cn.prog cn.w) A (getItem x (.ref S.heap.objs.size)) (λr sB=>wpAny (model cn.prog cn.w) A (letTemporaryGo value x r >>= λ_=>Pure.pure r) Q E sB) E (upS S (sliceO y z))) :
  wpAny (model cn.prog cn.w) A (newFields "slice" [y,z,.none]) (λi S'=>wpAny (model cn.prog cn.w) A (sliceK le ue p pos value x i) Q E S') E S:=by
 refine wpAny_newObj_type (wpAny_bind (wpAny_standAt (wpAny_bind (zI2 hl (hp _) ?_)))) (by size_fits);exact wpAny_bind (wpAny_operating h)
theorem zKw{value:Expr} {x v:Value} {S:Shared} {s:S0} {Q:Value->Shared->Prop} {E:Value->Shared->Prop} {d:V} {g':G} {h':Heap} (hQ:Kont cn g s S (λg' d w=>VR cn g' d w) d Q) (hg:g.le g') (X:St cn g' s h') (hv:VR cn g' d v) :
  wpAny (model cn.prog cn.w) A (letTemporaryGo value x v >>= λ_=>Pure.pure v) Q E { S with heap:=h' }:=wpAny_bind (wpAny_letTemporaryGo (wpAny_pure (hQ _ _ _ _ hg X hv)))
theorem zKx{ad:Addr} {vs:Array Value} {n:Nat} {ds':List V} {pa pb:Option Int} {y z:Value} {le ue:Option Expr} {p pos:Pos} {value:Expr} (h1:(ad,(⟨.type "list", none,.seq vs n,#[]⟩:Obj))∈g.fz) (h2:vs.size<=big) (ha:IsPart y pa) (hb:IsPart z pb)
  (hsz:(slicePick vs pa pb none).size<=big) (hv:VRs cn g ds' (slicePick vs pa pb none).toList):Sim2 cn A g (M.p (.lst ds')) (newFields "slice" [y,z,.none]) (sliceK le ue p pos value (.ref ad)) (λg' d w=>VR cn g' d w):=by
 refine Sim2.valH λQ E S s X hQ=>?_
 have hL:∀ o,(S.heap.push o).IsList ad vs:=λo=>⟨_,(zD4 X h1:IsL S.heap ad vs n).push o,rfl,_,rfl⟩
 refine zNq slot_list_getitem.lookup (λo=>(hL o).typeIs) ?_;obtain⟨g',hg,X',hr⟩:=zO1 (ds:=ds') (vs:=slicePick vs pa pb none) (X.pushK (sliceO y z)) hsz hv;exact wpAny_getItem_list_slice (s:=upS S (sliceO y z)) (hL _) (Heap.IsSliceOf.new ..) ha hb .none (by simp) (zKw hQ hg X' hr) (zDj h2)
theorem zLm{o l u:V} {x y z:Value} {value lo hi:Expr} {le ue:Option Expr} {p:Pos} {pos:Pos} (hx:VR cn g o x) (hl:VR cn g l y) (hu:VR cn g u z) :
  Sim2 cn A g (slice o l u) (newFields "slice" [y,z,.none]) (sliceK le ue p pos value x) (λg' d w=>VR cn g' d w):=by
 unfold slice;refine Sim2.ofOpt λa ea=>Sim2.ofOpt λb eb=>?_
 cases o with
 |tup ds =>
  obtain⟨ad,vs,n,rfl,h1,h2,h3⟩:=hx.inv;clear hx
  rcases zL5 hl ea with⟨rfl,rfl⟩|⟨a,ta,rfl,rfl⟩
  ·exact Sim2.fail
  rcases zL5 hu eb with⟨rfl,rfl⟩|⟨b,tb,rfl,rfl⟩
  ·exact Sim2.fail
  clear hl hu ea eb;show Sim2 cn A g (sliceT ds a b) _ _ _;unfold sliceT
  cases q1:Nat.ble 1 a with
  |false=>exact Sim2.fail
  |true =>
  dsimp only
  cases q2:Nat.ble a b with
  |false=>exact Sim2.fail
  |true =>
  dsimp only
  cases q3:Nat.ble b ds.length with
  |false=>exact Sim2.fail
  |true =>
  refine Sim2.valH λQ E S s X hQ=>?_;refine zNq slot_tuple_getitem.lookup (λo=>⟨_,zRk (zCl X h1),rfl⟩) ?_
  have q3':b<=vs.size:=by have:=zD5 q3; rw [<-h3.length,Array.length_toList] at this; exact this
  have hv:=(h3.drop a).take (b-a)
  have hsz:((vs.toList.drop a).take (b-a)).toArray.size<=big:=by
   rw [List.size_toArray,List.length_take,List.length_drop,Array.length_toList]; omega
  obtain⟨g',hg,X',hr⟩:=zLi (ds:=(ds.drop a).take (b-a)) (vs:=((vs.toList.drop a).take (b-a)).toArray) (X.pushK (sliceO (.int (a:Nat) ta) (.int (b:Nat) tb))) hsz (by simpa using hv);exact zGw (s:=upS S (sliceO (.int (a:Nat) ta) (.int (b:Nat) tb))) ⟨_,zRk (zCl X h1),rfl,_,rfl⟩ (Heap.IsSliceOf.new ..) (zD5 q1) (zD5 q2) q3' (zKw hQ hg X' hr) (zDj h2)
 |lst ds =>
  obtain⟨ad,vs,n,rfl,h1,h2,h3⟩:=hx.inv;clear hx
  rcases zL5 hl ea with⟨rfl,rfl⟩|⟨a,ta,rfl,rfl⟩<;>rcases zL5 hu eb with⟨rfl,rfl⟩|⟨b,tb,rfl,rfl⟩
  ·exact Sim2.fail
  ·refine zKx h1 h2 (pa:=none) (pb:=some (b:Nat)) .none (.int _ _) ?_ ?_
   ·rw [slicePick_upto']; rw [List.size_toArray,List.length_take,Array.length_toList]; omega
   ·rw [slicePick_upto']; exact h3.take b
  ·refine zKx h1 h2 (pa:=some (a:Nat)) (pb:=none) (.int _ _) .none ?_ ?_
   ·rw [slicePick_from']; rw [List.size_toArray,List.length_drop,Array.length_toList]; omega
   ·rw [slicePick_from']; exact h3.drop a
  ·exact Sim2.fail
 |_=>exact Sim2.fail
theorem zO9(R:zA2 cn r) (H:zAu cn g c env) (hA:AOk A c.dep) {o:Expr} {lo hi st:Option Expr} {p pos:Pos} :
  Sim cn A g (M.b (r.ev c o) λov=>evSlice r c ov lo hi st) (eval (.Subscript o (.Slice lo hi st p) pos) env) (λg' d w=>VR cn g' d w):=by
 rw [eval_Subscript];refine Sim.bind (R.ev o H hA) λg' ov x hg hx=>?_
 cases st with
 |some e=>exact Sim.fail
 |none =>
  intro s s' d ob S Q E e ok X hQ;have e':M.b (evPart r c lo) (λl=>M.b (evPart r c hi) λh=>slice ov l h) s=some (d,s',ob):=e;clear e;refine zAp e' ?_; clear e'; rintro l s₁ o₁ oA e1 e2 rfl;refine zAp e2 ?_; clear e2; rintro u sA oB oC e3 e4 rfl;have ok1:Oks o₁:=ok.l;have ok2:Oks oB:=ok.r.l;have ok3:Oks oC:=ok.r.r;clear ok;refine wpAny_bind (wpAny_holding (wpAny_bind (zKz R (H.mono hg) hA s s₁ l o₁ S _ E e1 ok1 X λg1 h1 tk1 y hg1 X1 hy=>?_)));clear s X o₁ e1 ok1;refine wpAny_bind (wpAny_holding (zKz R ((H.mono hg).mono hg1) hA s₁ sA u oB _ _ E e3 ok2 X1 λg2 h2 tk2 z hg2 X2 hz=>?_));refine wpAny_bind (wpAny_holding (wpAny_pure ?_));exact zLm (le:=lo) (ue:=hi) (p:=p) (pos:=pos) (value:=o) (lo:=o) (hi:=o) ((hx.mono hg1.lw).mono hg2.lw) (hy.mono hg2.lw) hz sA s' d oC _ Q E e4 ok3 X2 λg3 h3 tk3 v hg3 X3 hv=>hQ g3 h3 tk3 v ((hg1.trans hg2).trans hg3) X3 hv
theorem sim_evSub(R:zA2 cn r) (H:zAu cn g c env) (hA:AOk A c.dep) {o i:Expr} {pos:Pos}:Sim cn A g (evSub r c o i) (eval (.Subscript o i pos) env) (λg' d w=>VR cn g' d w):=by
 unfold evSub
 have no:∀ {m:M V},m=fail->Sim cn A g (M.b (r.ev c o) λov=>fail) (eval (.Subscript o i pos) env) (λg' d w=>VR cn g' d w):=λ_=>by
  intro s s' d ob S Q E e;refine zAp e ?_; clear e; rintro l s₁ o₁ oA e1 e2 rfl;exact zAx e2
 cases i<;>first|exact sim_subI R H hA (λ_ _=>rfl)|exact zO9 R H hA|exact no rfl
theorem zRf{x:Str} {u:Value}:∀ {l:List (Str × Value)},x∉l.map (·.1)->l.map (λkv=>if kv.1=x then (kv.1,u) else kv)=l
 |[],_=>rfl
 |(k,v)::l,h=>by
  have h1:¬ k=x:=λe=>h (by simp [e]);have h2:x∉l.map (·.1):=λe=>h (by simp only [List.map_cons,List.mem_cons]; exact .inr e);rw [List.map_cons,zRf h2,if_neg h1]
theorem zPh{x:Str} {d:V} {u:Value} (hu:VR cn g d u) {ks:List Str} {ds ds':List V} {vs:List Value} (e:setA x d ks ds=some ds') (hv:VRs cn g ds vs) (hl:ks.length=vs.length) (nd:ks.Nodup) :
  ∃ vs',(ks.zip vs).any (λkv=>kv.1=x)=true/\(ks.zip vs).map (λkv=>if kv.1=x then (kv.1,u) else kv)=ks.zip vs'/\VRs cn g ds' vs'/\ks.length=vs'.length:=by
 induction ks generalizing ds ds' vs with
 |nil=>exact zAx e
 |cons k ks ih=>cases ds with
  |nil=>exact zAx e
  |cons z ds =>
   refine hv.cons_inv λv vs q hz hv'=>?_;subst q;clear hv
   rename VRs cn g ds vs=>hv
   unfold setA at e;obtain⟨n1,n2⟩:=List.nodup_cons.mp nd;have hl':ks.length=vs.length:=Nat.succ.inj hl
   cases q:eqS x k with
   |true =>
    rw [q] at e; cases e
    have:=zBa.mp q
    subst this;refine⟨u::vs,by simp,?_,.cons hu hv,hl⟩;rw [List.zip_cons_cons,List.map_cons,zRf (by rw [zFr hl']; exact n1),if_pos rfl]; rfl
   |false =>
    rw [q] at e;refine zP0 e ?_; clear e; rintro ds'' e1 rfl;obtain⟨vs',h1,h2,h3,h4⟩:=ih e1 hv hl' n2;have hk:¬ k=x:=λh=>zB9.mp q h.symm
    refine⟨v::vs',?_,?_,.cons hz h3,congrArg Nat.succ h4⟩
    ·rw [List.zip_cons_cons,List.any_cons,h1]; exact Bool.or_true _
    ·rw [List.zip_cons_cons,List.map_cons,h2,if_neg hk]; rfl
theorem zDo{h:Heap} {a:Addr} {kvs:List (Str × Value)} (hD:h.DictOf (strKind cn.prog cn.w) a kvs):∃ ob,h.get? a=some ob/\∀ vs,ob.data≠.fields vs:=by
 obtain⟨ob,es,ep,ho,_,hd,_⟩:=hD;exact⟨ob,ho,λvs=>by rw [hd]; exact λq=>nomatch q⟩
theorem sim_setI{o i v:V} {x y z:Value} (hx:VR cn g o x) (hy:VR cn g i y) (hz:VR cn g v z):Sim cn A g (setI o i v) (setItem x y z) (λ_ _ _=>True):=by
 cases hx with
 |ref hρ =>
  cases hy<;>try exact Sim.fail
  ·rename_i n a k t;refine Sim.obj λao s s' d ob S Q E eo e ok X hQ=>?_;unfold setRI at e
   cases q:itemsOf ao with
   |none=>rw [q] at e; exact zAx e
   |some ds =>
    rw [q] at e;obtain⟨pre,post,rfl,rfl⟩:=zC6 q
    cases k with
    |negSucc j=>exact zAx e
    |ofNat j =>
     simp only at e
     cases hj:Nat.blt j (pre++post).length with
     |false=>rw [hj] at e; exact zAx e
     |true =>
      rw [hj] at e;refine zFt e ?_; clear e; rintro rfl rfl;obtain⟨vs,m,hl,hb,hvs,_⟩:=X.at eo hρ
      have hvs':VRs cn g (pre++post) vs:=by simpa using hvs
      have hj':j<vs.length:=by rw [hvs'.length]; exact Nat.le_of_ble_eq_true hj
      have hjb:j<2 ^ 63:=by unfold big at hb; lia
      refine ki_setAt (n:=m) (items:=vs.toArray) hl (Int.ofNat_nonneg j) (by show (j:Int)<_; lia) (by show (j:Int)<_; simp; exact hj') ?_;refine hQ g _ S.toks () (G.le.refl g) (X.upd hρ eo rfl (Heap.SameBut.update ..) (zH8 (Heap.SameBut.update ..) hl λvs=>by simp) ?_) trivial;have hup:=(hl:IsL _ _ _ _).update (λ(xs:Array Value)=>xs.setIfInBounds j z)
      have e9:vs.toArray.setIfInBounds j z=(vs.set j z).toArray:=by simp
      rw [e9] at hup;exact⟨vs.set j z,_,hup,by rw [List.length_set]; exact hb,by simpa using hvs'.set (i:=j) hz,λd hd=>nomatch hd⟩
  ·rename_i n a k t;refine Sim.obj λao s s' d ob S Q E eo e ok X hQ=>?_
   cases ao<;>(unfold setRS at e; try dsimp only at e)<;>try exact zAx e
   rename_i ks ds
   cases hlen:Nat.ble ks.length 100 with
   |false=>rw [hlen] at e; exact zAx e
   |true =>
   rw [hlen] at e;refine zAp e ?_; clear e; rintro ds' s₁ o₁ oA e1 e2 rfl;refine zCg e1 ?_; clear e1; rintro e3 rfl rfl;refine zFt e2 ?_; clear e2; rintro rfl rfl;obtain⟨vs,hD,hl,hvs⟩:=X.at eo hρ
   have nd:ks.Nodup:=by
    obtain⟨_,_,_,_,_,_,_,_,h⟩:=id hD
    rwa [zFr hl] at h
   obtain⟨vs',h1,h2,h3,h4⟩:=zPh hz e3 hvs hl nd;obtain⟨obj,hobj,hnf⟩:=zDo hD
   refine wpAny_setItem_pairs (strKind_is _ _ _ _) hD (λh' hD' hs=>?_) ?_
   ·refine hQ g h' _ () (G.le.refl g) (X.upd hρ eo rfl hs (zH8 hs hobj hnf) ⟨vs',?_,h4,h3⟩) trivial;unfold stored at hD';rw [if_pos h1,h2] at hD';exact hD'
   ·have:=zD5 hlen
    rw [List.length_zip,sizeLine_eq]; lia
 |tup=>exact Sim.fail
 |lst=>exact Sim.fail
 |dct=>exact Sim.fail
 |none=>exact Sim.fail
 |bool=>exact Sim.fail
 |int=>exact Sim.fail
 |sym=>exact Sim.fail
 |str=>exact Sim.fail
 |fn=>exact Sim.fail
 |raw=>exact Sim.fail
end
set_option backward.match.sparseCases true
section
variable {cn:Cn} {A:Around} {g:G} {P:Prog} {c:Cx} {env:Env} {r:Rec}
theorem zNb{x:Str}:∀ {l:List Str},hasS x l=true↔x∈l
 |[]=>by simp [hasS]
 |y::l=>by
  unfold hasS
  cases q:eqS x y with
  |true=>simp [zBa.mp q]
  |false=>simp [zNb (l:=l),zB9.mp q]
theorem zFw:∀ {l:List Str},nodupS l=true->l.Nodup
 |[],_=>List.nodup_nil
 |x::l,h=>by
  unfold nodupS at h
  cases q:hasS x l with
  |true=>rw [q] at h; cases h
  |false =>
   rw [q] at h
   have hn:x∉l:=λhm=>by
    have h2:=zNb.mpr hm;rw [h2] at q;exact absurd q (by simp)
   exact List.nodup_cons.mpr ⟨hn,zFw h⟩
theorem zPy{ks:List Str} {n:Nat} (h:okDict ks n=true):ks.length=n/\n<=15/\ks.Nodup:=by
 unfold okDict at h
 cases q:Nat.beq ks.length n with
 |false=>rw [q] at h; cases h
 |true =>
  rw [q] at h
  cases q2:Nat.ble n 15 with
  |false=>rw [q2] at h; cases h
  |true=>rw [q2] at h; exact⟨Nat.eq_of_beq_eq_true q,zD5 q2,zFw h⟩
noncomputable def pairsOf (env:Env) (pos:Pos):List (Option Expr)->List Expr->List (Sem Value × Sem Value)
 |some k::ks,v::vs=>(eval k env,do let x <-eval v env; standAt pos; Pure.pure x)::pairsOf env pos ks vs
 |_,_=>[]
theorem zCo{k:Option Expr} {ks:List (Option Expr)} {l:List Str} (h:keysOf (k::ks)=some l):∃ x u p l',k=some (.Constant (.str x) u p)/\keysOf ks=some l'/\l=x::l':=by
 cases k with
 |none=>exact zAx h
 |some e =>
  cases e with
  |Constant v u p =>
   cases v with
   |str v =>
    refine zP0 (f:=(v::·)) h ?_; clear h; rintro l' h1 rfl;exact⟨_,_,_,l',rfl,h1,rfl⟩
   |_=>exact zAx h
  |_=>exact zAx h
theorem zI1{pos:Pos}:∀ {keys:List (Option Expr)} {values:List Expr} {ks:List Str},keysOf keys=some ks ->
  (evalEachOpt keys env).zip ((evalEach values env).map λv=>do let x <-v; standAt pos; Pure.pure x)=(pairsOf env pos keys values).map λp=>(some p.1,p.2)
 |[],_,_,_=>rfl
 |k::ks,[],_,h=>by
  obtain⟨x,u,p,l',rfl,h1,rfl⟩:=zCo h;rfl
 |k::ks,v::vs,_,h=>by
  obtain⟨x,u,p,l',rfl,h1,rfl⟩:=zCo h;exact congrArg (_::·) (zI1 (pos:=pos) (values:=vs) h1)
theorem pairs_len{pos:Pos} {keys:List (Option Expr)} {values:List Expr} {ks:List Str} (h:keysOf keys=some ks) (hl:ks.length=values.length):(pairsOf env pos keys values).length=values.length:=by
 induction keys generalizing values ks with
 |nil=>cases h; cases values with
  |nil=>rfl
  |cons=>cases hl
 |cons k keys ih =>
  obtain⟨x,u,p,l',rfl,h1,rfl⟩:=zCo h
  cases values with
  |nil=>cases hl
  |cons v vs=>exact congrArg Nat.succ (ih h1 (Nat.succ.inj hl))
theorem Sim.preK{α β ε:Type} {m:M α} {R:G->α->β->Prop} {u:Sem ε} {p:ε->Prop} {f:ε->Sem β} (hu:∀ (Q:ε->Shared->Prop) (E:Value->Shared->Prop) (s:Shared),(∀ tk b,p b->Q b { s with toks:=tk })->wpAny (model cn.prog cn.w) A u Q E s) (H:∀ b,p b->Sim cn A g m (f b) R):Sim cn A g m (u >>= f) R :=
 λs s' a ob S Q E e ok X hQ=>wpAny_bind (hu _ _ _ λtk b hb=>H b hb s s' a ob { S with toks:=tk } Q E e ok X hQ)
theorem zNu(R:zA2 cn r) {c:Cx} {env:Env} {pos:Pos}:∀ {g:G} (keys:List (Option Expr)) (values:List Expr) (ks:List Str),keysOf keys=some ks->ks.length=values.length->zAu cn g c env->AOk A c.dep ->
  Sim cn A g (evs r c values) (evalPairs (pairsOf env pos keys values)) (λg' ds ws=>allStrKeys ws=true/\∃ us,strPairs ws=ks.zip us/\ks.length=us.length/\VRs cn g' ds us)
 |g,[],[],ks,hk,hl,H,hA=>by
  cases hk;exact Sim.pure (b:=[]) ⟨rfl,[],rfl,rfl,.nil⟩
 |g,[],_::_,ks,hk,hl,H,hA=>by cases hk; simp at hl
 |g,k::keys,[],ks,hk,hl,H,hA=>by
  obtain⟨x,u,p,l',rfl,h1,rfl⟩:=zCo hk;simp at hl
 |g,k::keys,v::values,ks,hk,hl,H,hA=>by
  obtain⟨x,u,p,l',rfl,h1,rfl⟩:=zCo hk;show Sim cn A g (M.b (evP r c v) λd=>M.b (evs r c values) λds=>M.p (d::ds)) (evalPairs ((eval (.Constant (.str x) u p) env,do let x <-eval v env; standAt pos; Pure.pure x)::pairsOf env pos keys values)) _;rw [evalPairs];refine Sim.preK (p:=λb=>∃ t,b=.str x t) (λQ E s h=>Constant_str (h _ _ ⟨_,rfl⟩)) λb hb=>?_;obtain⟨t,rfl⟩:=hb;refine Sim.bind (t:=holding [.str x t] (do let x <-eval v env; standAt pos; Pure.pure x)) (R:=λg' d w=>VR cn g' d w) (Sim.holding (Sim.post (zDx R H hA) λg' a b hg hv Q E s h=>wpAny_bind (wpAny_standAt (wpAny_pure (h b hv))))) λg' d w hg hw=>?_;refine Sim.mapM (Sim.holding (zNu R keys values l' h1 (by simpa using hl) (H.mono hg) hA)) λg'' ds ws hg' h=>?_;obtain⟨h2,us,h3,h4,h5⟩:=h;refine⟨h2,w::us,?_,by simpa using h4,.cons (hw.mono hg'.lw) h5⟩;show (x,w)::strPairs ws=_;rw [h3]; rfl
theorem sealD{s:S0} {h h':Heap} {n:Nat} {a:Addr} {ksA ks:List Str} {dsA ds:List V} {us:List Value} (X:St cn g s h) (ea:g.ρ[n]?=some a) (eo:s.σ[n]?=some (.dict ksA dsA)) (hD:h'.DictOf (strKind cn.prog cn.w) a (ks.zip us)) (hs:Heap.SameBut a h h')
  (hl:ks.length=us.length) (hv:VRs cn g ds us) (hsm:(a == sysModules)=false):∃ g',g.le g'/\St cn g' { s with σ:=s.σ.set n .dead } h'/\VR cn g' (.dct ks ds) (.ref a):=by
 obtain⟨_,hD0,_,_⟩:=X.at eo ea;obtain⟨ob,hob,hnf⟩:=zDo (cn:=cn) hD0;clear hD0;have Y:St cn g { s with σ:=s.σ.set n (.dict ks ds) } h':=X.upd ea eo rfl hs (zH8 hs hob hnf) ⟨us,hD,hl,hv⟩;obtain⟨o,es,ep,ho,hx,hd,hk,hp,hn⟩:=hD
 have hlt:n<s.σ.length:=by obtain⟨l,_⟩:=List.getElem?_eq_some_iff.mp eo; exact l
 have Z:=Y.seal (n:=n) ea (List.getElem?_set_self hlt) rfl ho;have e2:({ s with σ:=s.σ.set n (.dict ks ds) }:S0).σ.set n AO.dead=s.σ.set n AO.dead:=List.set_set ..;refine⟨g.freeze a o,G.le_freeze g a o,?_,.dct (.head _) hx hd hk hp (by rwa [zFr hl] at hn) hl hsm (hv.mono (G.le_freeze g a o).lw)⟩;rw [e2] at Z;exact Z
theorem zG7{s:S0} {h:Heap} (X:St cn g s h) (a:Addr):(g.add a).ρ[s.σ.length]?=some a:=by
 show (g.ρ++[a])[s.σ.length]?=some a;rw [List.getElem?_append_right (by rw [X.objs.length]; exact Nat.le_refl _),X.objs.length]; simp
theorem sim_evDict(R:zA2 cn r) (H:zAu cn g c env) (hA:AOk A c.dep) {keys:List (Option Expr)} {values:List Expr} {pos:Pos}:Sim cn A g (evDict P r c keys values) (eval (.Dict keys values pos) env) (λg' d w=>VR cn g' d w):=by
 unfold evDict;refine Sim.ofOpt λks hk=>?_
 cases q:okDict ks values.length with
 |false=>exact Sim.fail
 |true =>
  obtain⟨hl,h15,nd⟩:=zPy q;intro s s' d ob S Q E e ok X hQ;refine zAp e ?_; clear e; rintro n s₁ o₁ oA e1 e2 rfl;refine zDr e1 ?_; clear e1; rintro rfl rfl rfl;refine zAp e2 ?_; clear e2; rintro ds sA oB oC e3 e4 rfl;have ok1:Oks oB:=ok.r.l;clear ok
  have hsm:(S.heap.objs.size == sysModules)=false:=by
   cases q:cn.h₀.get? mainGlobals with
   |none=>exact absurd q cn.sm
   |some o =>
    have:=Heap.lt_size (X.keep _ _ q)
    rw [beq_eq_false_iff_ne];intro e;rw [e] at this;exact absurd this (by decide)
  clear q
  have X0:=X.push (ob:={ cls:=.type "dict", data:=.dict #[] }) (o:=.dict [] []) ⟨[],Heap.DictOf.new _,rfl,.nil⟩
  have a0:(g.add S.heap.objs.size).ρ[s.σ.length]?=some S.heap.objs.size:=zG7 X _;clear X
  have o0:(s.σ++[AO.dict [] []])[s.σ.length]?=some (.dict [] []):=by simp
  cases keys with
  |nil =>
   cases hk
   cases values with
   |cons=>simp at hl
   |nil =>
    refine zBk e3 ?_; clear e3; rintro rfl rfl rfl;refine zAp e4 ?_; clear e4; rintro ao sB oD oE e5 e6 rfl;refine zK3 e5 ?_; clear e5; rintro eo rfl rfl;have eo':(s.σ++[AO.dict [] []])[s.σ.length]?=some ao:=eo;rw [o0] at eo'; cases eo';have e7:M.b (putO s.σ.length .dead) (λ_=>M.p (V.dct [] [])) { s with σ:=s.σ++[AO.dict [] []] }=some (d,s',oE):=e6;refine zAp e7 ?_; clear e7; rintro _ sB oD oE e5 e6 rfl;refine zFt e5 ?_; clear e5; rintro rfl rfl;refine zBk e6 ?_; clear e6; rintro rfl rfl rfl;obtain⟨g',hg,Y,hv⟩:=sealD (ks:=[]) (ds:=[]) (us:=[]) X0 a0 o0 (Heap.DictOf.new _) (Heap.SameBut.refl _ _) rfl .nil hsm;exact wpAny_Dict_empty (hQ g' _ S.toks _ ((G.le_add g _).trans hg) Y hv)
  |cons k keys =>
   have hne:pairsOf env pos (k::keys) values≠[]:=by
    obtain⟨x,u,p,l',rfl,h1,rfl⟩:=zCo hk
    cases values with
    |nil=>simp at hl
    |cons=>exact List.cons_ne_nil _ _
   refine wpAny_Dict_pairs (knd:=strKind cn.prog cn.w) (zI1 hk) hne (by rw [pairs_len hk hl]; exact h15) ?_;clear h15 hne
   refine zNu (A:=A) R (k::keys) values ks hk hl (H.mono (G.le_add g _)) hA _ sA ds oB { S with heap:=S.heap.push { cls:=.type "dict", data:=.dict #[] } } _ E e3 ok1 X0 λg' h' tk ws hg Y h=>?_
   clear R H hA values hl E oB e3 ok1 X0;obtain⟨h2,us,h3,h4,h5⟩:=h;have a1:=hg.lw.at a0;clear a0;refine zAp e4 ?_; clear e4; rintro ao sB oD oE e5 e6 rfl;refine zK3 e5 ?_; clear e5; rintro eo rfl rfl;unfold fillDict at e6
   cases qe:isEmptyD ao with
   |false=>rw [qe] at e6; exact zAx e6
   |true =>
    rw [qe] at e6
    obtain⟨dsA,rfl⟩:∃ dsA,ao=.dict [] dsA:=by
     cases ao<;>simp only [isEmptyD,reduceCtorEq] at qe;rename_i ks0 ds0
     cases ks0 with
     |nil=>exact⟨ds0,rfl⟩
     |cons=>cases qe
    obtain⟨usA,hD0,hl0,hv0⟩:=Y.at eo a1
    have hD0':h'.DictOf (strKind cn.prog cn.w) S.heap.objs.size []:=by simpa using hD0
    have hn:((strPairs ws).map (·.1)).Nodup:=by rw [h3,zFr h4]; exact nd
    refine display_done_str (P:=λh''=>Q _ { ({ S with heap:=h',toks:=tk }:Shared) with heap:=h'',toks:=tk+ws.length }) h2 hn hD0' λh'' hD hs=>?_;rw [h3] at hD;clear h3
    cases ks with
    |nil =>
     obtain⟨x,u,p,l',rfl,h1,hh⟩:=zCo hk;cases hh
    |cons k0 ks =>
     have e7:(match hasS k0 P.mutD with
      |true=>M.b (putO s.σ.length (.dict (k0::ks) ds)) λ_=>M.p (V.ref s.σ.length)
      |false=>M.b (putO s.σ.length .dead) λ_=>M.p (V.dct (k0::ks) ds)) sB=some (d,s',oE):=e6
     cases qm:hasS k0 P.mutD with
     |true =>
      rw [qm] at e7;refine zAp e7 ?_; clear e7; rintro _ sC oF oG e8 e9 rfl;refine zFt e8 ?_; clear e8; rintro rfl rfl;refine zBk e9 ?_; clear e9; rintro rfl rfl rfl;obtain⟨ob,hob,hnf⟩:=zDo (cn:=cn) hD0;exact hQ g' h'' _ _ ((G.le_add g _).trans hg) (Y.upd a1 eo rfl hs (zH8 hs hob hnf) ⟨us,hD,h4,h5⟩) (.ref a1)
     |false =>
      rw [qm] at e7;refine zAp e7 ?_; clear e7; rintro _ sC oF oG e8 e9 rfl;refine zFt e8 ?_; clear e8; rintro rfl rfl;refine zBk e9 ?_; clear e9; rintro rfl rfl rfl;obtain⟨g'',hg',Z,hv⟩:=sealD Y a1 eo hD hs h4 h5 hsm;exact hQ g'' h'' _ _ (((G.le_add g _).trans hg).trans hg') Z hv
theorem sim_asgSub(R:zA2 cn r) (H:zAu cn g c env) (hA:AOk A c.dep) {o i:Expr} {pos:Pos} {v:V} {x:Value} (hv:VR cn g v x):Sim cn A g (asgSub r c o i v) (assign (.Subscript o i pos) env x) (λ_ _ _=>True):=by
 rw [assign_Subscript];refine Sim.bind (Sim.holding (R.ev o H hA)) λg' ov y hg hy=>Sim.bind (Sim.holding (R.ev i (H.mono hg) hA)) λg'' iv z hg' hz=>Sim.standAt ?_;exact Sim.post (Sim.holding (sim_setI (hy.mono hg'.lw) hz ((hv.mono hg.lw).mono hg'.lw))) λ_ _ _ _ _ Q E s h=>wpAny_release' (h () trivial)
end
set_option backward.match.sparseCases false
section
variable {cn:Cn} {A:Around} {g:G} {P:Prog} {c:Cx} {env:Env} {r:Rec}
theorem zOj{h h':Heap} {a:Addr} {oa:Obj} (hs:Heap.ExtBut a h h') (ha:h.get? a=some oa) (hna:∀ vs q t,oa.data=.fields vs->vs[1]?≠some (.str q t)):∀ cd q,h.CodeRec cd q->h'.CodeRec cd q:=by
 rintro cd q ⟨c,o,vs,t,e,hg,d,hr⟩;refine⟨c,o,vs,t,e,hs _ _ (λhq=>?_) hg,d,hr⟩;subst hq;rw [ha] at hg; cases hg;exact hna vs q t d hr
noncomputable def ItR (g:G) (i:Nat) (w:Value):Prop:=∃ a,w=.ref a/\g.ρ[i]?=some a
theorem zIx(n:Nat):Builtin.Range.rangeSize 0 (n:Int) 1=(n:Int):=by
 unfold Builtin.Range.rangeSize
 split
 ·split<;>lia
 ·lia
theorem small_n{n:Nat} (h:n<=1000):Builtin.Range.small 0 (n:Int) 1=true:=by
 unfold Builtin.Range.small;rw [zIx];unfold Builtin.Range.rangeFitsLong
 simp
 lia
theorem zEl{s:S0} {h:Heap} {a:Addr} {vs:Array Value} {n:Nat} (X:St cn g s h) (hz:(a,(⟨.type "tuple", none,.seq vs n,#[]⟩:Obj))∈g.fz):h.IsTuple a vs:=⟨_,zCl X hz,rfl,_,rfl⟩
theorem zIo{v:V} {x:Value} (hx:VR cn g v x):Sim cn A g (iterV v) (pyIter x) ItR:=by
 have mk:∀ {S:Shared} {s:S0} {Q:Value->Shared->Prop} {s':S0} {i:Nat} {ob:List Ob} {o:AO} {d:Obj},allocO o s=some (i,s',ob)->St cn g s S.heap ->
   (∀ g' h' tk b,g.le g'->St cn g' s' h'->ItR g' i b->Q b { S with heap:=h',toks:=tk })->OR cn (g.add S.heap.objs.size) (S.heap.push d) S.heap.objs.size o->Q (.ref S.heap.objs.size) { S with heap:=S.heap.push d }:=by
  intro S s Q s' i ob o d e X hQ H;refine zDr e ?_; clear e; rintro rfl rfl rfl;exact hQ _ _ S.toks _ (G.le_add g _) (X.push H) ⟨_,rfl,zG7 X _⟩
 cases hx with
 |tup h1 h2 h3 =>
  intro s s' i ob S Q E e ok X hQ;exact wpAny_pyIter_tuple (zEl X h1) (mk e X hQ ⟨_,(VR.tup h1 h2 h3).mono (G.le_add g _).lw,⟨_,Heap.get?_push_size _ rfl,rfl,rfl⟩⟩)
 |lst h1 h2 h3 =>
  intro s s' i ob S Q E e ok X hQ;exact wpAny_pyIter_list (zD4 X h1:IsL _ _ _ _).isList (mk e X hQ ⟨_,(VR.lst h1 h2 h3).mono (G.le_add g _).lw,⟨_,Heap.get?_push_size _ rfl,rfl,rfl⟩⟩)
 |ref hρ =>
  refine Sim.obj λo s s' i ob S Q E eo e ok X hQ=>?_;have Y:=X.at eo hρ;clear eo
  cases o<;>try exact zAx e
  ·obtain⟨vs,m,hl,_⟩:=Y;exact wpAny_pyIter_list (hl:IsL _ _ _ _).isList (mk e X hQ ⟨_,(VR.ref hρ).mono (G.le_add g _).lw,⟨_,Heap.get?_push_size _ rfl,rfl,rfl⟩⟩)
  clear hρ
  ·obtain⟨hn,t,u,v,hr⟩:=Y;refine wpAny_pyIter_range hr (small_n hn) (mk e X hQ ?_);clear mk e X hQ hn hr;rw [zIx];exact Heap.get?_push_size _ rfl
 |dct=>exact Sim.fail
 |none=>exact Sim.fail
 |bool=>exact Sim.fail
 |int=>exact Sim.fail
 |sym=>exact Sim.fail
 |str=>exact Sim.fail
 |fn=>exact Sim.fail
 |raw=>exact Sim.fail
noncomputable def NxR (cn:Cn) (g:G):Option V->Option Value->Prop
 |none,none=>True
 |some d,some v=>VR cn g d v
 |_,_=>False
theorem nextI_some{i k:Nat} {v:V} {ds:List V} {s:S0} {r} (e:nextI i v k ds s=some r):(ds[k]?=none/\r=(none,{ s with σ:=s.σ.set i .dead },[]))\/∃ z,ds[k]?=some z/\r=(some z,{ s with σ:=s.σ.set i (.iter v (k+1)) },[]):=by
 unfold nextI at e
 cases q:ds[k]? with
 |none=>rw [q] at e; exact .inl ⟨rfl,(Option.some.inj e).symm⟩
 |some z=>rw [q] at e; exact .inr ⟨z,rfl,(Option.some.inj e).symm⟩
noncomputable abbrev NxSeq (cn:Cn) (g:G) (S:Shared) (it:Addr) (v:V) (k:Nat) (us:List Value) (Q:Option Value->Shared->Prop):Prop :=
 (∀ x h',us[k]?=some x->Heap.SameBut it S.heap h'->OR cn g h' it (.iter v (k+1))->Q (some x) { S with heap:=h' })/\∀ h',us[k]?=none->Heap.ExtBut it S.heap h'->Q none { S with heap:=h' }
theorem zL8{i k:Nat} {it l:Addr} {v:V} {ds:List V} {us:List Value} {s s':S0} {d:Option V} {ob:List Ob} {S:Shared} {Q:Option Value->Shared->Prop} (X:St cn g s S.heap) (hi:g.ρ[i]?=some it) (eo:s.σ[i]?=some (.iter v k))
  (hd:∃ oa,S.heap.get? it=some oa/\oa.data=.fields #[.ref l,.int (k:Nat) 0]) (hds:VRs cn g ds us) (e:nextI i v k ds s=some (d,s',ob)) (hQ:Kont cn g s' S (NxR cn) d Q):NxSeq cn g S it v k us Q:=by
 obtain⟨oa,ha,hd⟩:=hd
 have hna:∀ vs q t,oa.data=.fields vs->vs[1]?≠some (.str q t):=λvs q t h=>by rw [hd] at h; cases h; simp
 rcases nextI_some e with⟨q,r⟩|⟨z,q,r⟩
 ·clear e;cases r;exact⟨λx h' hx=>absurd ((hds.none q).symm.trans hx) (λh=>nomatch h),λh' _ hs=>hQ g h' S.toks none (G.le.refl g) (X.ext hi eo rfl hs (zOj hs ha hna) trivial) trivial⟩
 ·clear e;cases r;obtain⟨x',hx',hr⟩:=hds.get q;exact⟨λx h' hx hs H=>by cases hx'.symm.trans hx; exact hQ g h' S.toks (some x') (G.le.refl g) (X.ext hi eo rfl hs.extBut (zOj hs.extBut ha hna) H) hr,λh' hx=>absurd (hx'.symm.trans hx) (λh=>nomatch h)⟩
theorem zFa{i:Nat} {it:Addr} (hA:A.handled=none) (hi:g.ρ[i]?=some it):Sim cn A g (nextV i) (pyNext (.ref it)) (NxR cn):=by
 refine Sim.obj λo s s' d ob S Q E eo e ok X hQ=>?_;have Y:=X.at eo hi;clear ok
 cases o with
 |iter v k =>
  obtain⟨l,hv,hit⟩:=Y
  cases v with
  |tup ds =>
   obtain⟨a,vs,m,el,h1,h2,h3⟩:=hv.inv;cases el;have hit:S.heap.IsTupleIter it l k:=hit;obtain⟨oa,ha,_,hd⟩:=id hit;obtain⟨q1,q2⟩:=zL8 X hi eo ⟨oa,ha,hd⟩ h3 e hQ;clear e eo hQ
   cases hx:vs.toList[k]? with
   |none=>exact wpAny_pyNext_tuple_end hA hit (zEl X h1) (by simpa using hx) λh' hs=>q2 h' hx hs
   |some x=>exact wpAny_pyNext_tuple_item hit (zEl X h1) (by simpa using hx) λh' hi' hs=>q1 x h' hx hs ⟨l,hv,hi'⟩
  |lst ds =>
   obtain⟨a,vs,m,el,h1,h2,h3⟩:=hv.inv;cases el;have hit:S.heap.IsListIter it l k:=hit;obtain⟨oa,ha,_,hd⟩:=id hit;obtain⟨q1,q2⟩:=zL8 X hi eo ⟨oa,ha,hd⟩ h3 e hQ;clear e eo hQ
   cases hx:vs.toList[k]? with
   |none=>exact wpAny_pyNext_list_end hA hit (zD4 X h1:IsL _ _ _ _).isList (by simpa using hx) λh' hs=>q2 h' hx hs
   |some x=>exact wpAny_pyNext_list_item hit (zD4 X h1:IsL _ _ _ _).isList (by simpa using hx) λh' hi' hs=>q1 x h' hx hs ⟨l,hv,hi'⟩
  |ref j =>
   obtain⟨a,el,hρ⟩:=hv.inv;cases el;have hit:S.heap.IsListIter it l k:=hit;have e':M.b (obj j) (λo=>match itemsOf o with|some ds=>nextI i (.ref j) k ds|none=>fail) s=some (d,s',ob):=e;clear e;refine zAp e' ?_; clear e'; rintro o s₁ o₁ oA e1 e2 rfl;refine zK3 e1 ?_; clear e1; rintro eo' rfl rfl
   cases qi:itemsOf o with
   |none=>rw [qi] at e2; exact zAx e2
   |some ds =>
    rw [qi] at e2;obtain⟨pre,post,rfl,rfl⟩:=zC6 qi;clear qi;obtain⟨vs,m,hl,hb,hvs,_⟩:=X.at eo' hρ;clear eo' hρ;obtain⟨oa,ha,_,hd⟩:=id hit;obtain⟨q1,q2⟩:=zL8 X hi eo ⟨oa,ha,hd⟩ (by simpa using hvs) e2 hQ;clear e2 eo hQ
    cases hx:vs[k]? with
    |none=>exact wpAny_pyNext_list_end hA hit (hl:IsL _ _ _ _).isList (by simpa using hx) λh' hs=>q2 h' hx hs
    |some x=>exact wpAny_pyNext_list_item hit (hl:IsL _ _ _ _).isList (by simpa using hx) λh' hi' hs=>q1 x h' hx hs ⟨l,hv,hi'⟩
  |_=>exact zAx e
 |riter x n =>
  have hna:∀ vs q t,(Data.fields #[rawInt (x:Int),rawInt (n:Int),rawInt 1])=.fields vs->vs[1]?≠some (.str q t):=by
   intro vs q t h; cases h; simp [rawInt]
  cases n with
  |zero =>
   cases e;exact wpAny_pyNext_range_end hA Y (by simp) λh' hs=>hQ g h' S.toks none (G.le.refl g) (X.ext hi eo rfl hs (zOj hs Y hna) trivial) trivial
  |succ n =>
   cases e;refine wpAny_pyNext_range_item Y (by lia) λh' hit hs=>hQ g h' _ _ (G.le.refl g) (X.ext hi eo rfl hs.extBut (zOj hs.extBut Y hna) ?_) (.int _ _);rw [show ((n+1:Nat):Int)-1=(n:Int) by lia] at hit;exact hit
 |_=>exact zAx e
end
set_option backward.match.sparseCases true
section
variable {cn:Cn} {A:Around} {g:G} {P:Prog} {c:Cx} {env:Env} {r:Rec}
theorem zQz(R:zA2 cn r) (H:zAu cn g c env) (hA:AOk A c.dep) {x:Str} {p:Pos} {i:Nat} {it:Addr} {body:List Stmt} (hi:g.ρ[i]?=some it) :
  SimC cn A g (loop r c x i body) (.forLoop (.Name x p) (.ref it) body [] env) (λg' f res=>∃ w,res=.ok w/\FlR cn g' f w):=by
 intro s s' f ob S Q e ok X hQ;refine zAp e ?_; clear e; rintro d s₁ o₁ oA e1 e2 rfl;have ok1:Oks o₁:=ok.l;have ok2:Oks oA:=ok.r;clear ok;refine codeAny_of_tree ?_;rw [Around.under_of_weight rfl];show wpAny _ A ((forTurn (.Name x p) (.ref it) body [] env).onRaise (λx=>do noteFrame x env; theTreesLotGoes x)) _ _ _;refine wpAny_onRaise ?_;simp only [forTurn];refine wpAny_bind (wpAny_standAt (wpAny_bind (wpAny_onRaise (zFa hA.hd hi s s₁ d o₁ S _ _ e1 ok1 X λg1 h1 tk1 b hg1 Y hb=>?_))));clear X o₁ e1 ok1
 cases d with
 |none =>
  cases b with
  |some=>exact hb.elim
  |none =>
   refine zBk e2 ?_; clear e2; rintro rfl rfl rfl;exact wpAny_pure ⟨rfl,codeAny_block (wpAny_pure (hQ g1 h1 tk1 _ hg1 Y ⟨_,rfl,.next⟩))⟩
 |some v =>
  cases b with
  |none=>exact hb.elim
  |some y =>
   have e2':M.b (storeV c x v) (λ_=>M.b (r.exs c body) (loopF r c x i body)) s₁=some (f,s',oA):=e2;clear e2;refine zAp e2' ?_; clear e2'; rintro _ sA oB oC e3 e4 rfl;refine zAp e4 ?_; clear e4; rintro fl sB oD oE e5 e6 rfl;have ok3:Oks oB:=ok2.l;have ok5:∀ o∈oD,o.Ok:=ok2.r.l;have ok6:∀ o∈oE,o.Ok:=ok2.r.r;clear ok2;have H1:=H.mono hg1;refine wpAny_bind (wpAny_of_eq (a:=()) rfl ?_);refine wpAny_bind (wpAny_bind (wpAny_standAt (zEj H1 hb s₁ sA () oB _ _ _ e3 ok3 Y λg2 h2 tk2 _ hg2 Z _=>?_)));clear s₁ Y hb oB e3 ok3;refine wpAny_bind (R.exs body (H1.mono hg2) hA sA sB fl oD _ _ _ e5 ok5 Z λg3 h3 tk3 w hg3 W hw=>?_);clear sA oD e5 ok5 H1 Z;have hg:=(hg1.trans hg2).trans hg3
   cases hw with
   |next=>exact wpAny_pure ⟨rfl,R.loop (H.mono hg) hA (hg.lw.at hi) sB s' f oE _ _ e6 ok6 W λg4 h4 tk4 res hg4 V hres=>hQ g4 h4 tk4 res (hg.trans hg4) V hres⟩
   |ret hv =>
    refine zBk e6 ?_; clear e6; rintro rfl rfl rfl;exact wpAny_pure (hQ g3 h3 tk3 _ hg W ⟨_,rfl,.ret hv⟩)
end
set_option backward.match.sparseCases false
section
variable {cn:Cn} {A:Around} {g:G} {P:Prog} {c:Cx} {env:Env} {r:Rec}
theorem zIz{e:Expr} {rest:List Expr} (h:plainE e=true):assignEach (e::rest) env=(false,assign e env)::assignEach rest env:=by
 cases e<;>first|rfl|cases h
theorem sim_asgP(R:zA2 cn r) (H:zAu cn g c env) (hA:AOk A c.dep) {e:Expr} {d:V} {v:Value} (hv:VR cn g d v):Sim cn A g (asgP r c e d) (assign e env v) (λ_ _ _=>True):=by
 unfold asgP
 split
 ·exact R.asg e H hA hv
 ·exact Sim.fail
theorem zLg{e:Expr} {d:V} {s:S0} {x:Unit × S0 × List Ob} (h:asgP r c e d s=some x):plainE e=true:=by
 unfold asgP at h
 cases q:plainE e with
 |true=>rfl
 |false=>rw [q] at h; cases h
theorem zLf{ts:List Expr} {ds:List V} {s:S0} {x:Unit × S0 × List Ob} (h:asgs r c ts ds s=some x):ts.length=ds.length/\(assignEach ts env).length=ts.length/\(assignEach ts env).findIdx? (·.1)=none:=by
 induction ts generalizing ds s x with
 |nil=>cases ds with
  |nil=>exact⟨rfl,rfl,rfl⟩
  |cons=>exact zAx h
 |cons t ts ih=>cases ds with
  |nil=>exact zAx h
  |cons d ds =>
   obtain⟨u,s',ob⟩:=x;have h':M.b (asgP r c t d) (λ_=>asgs r c ts ds) s=some (u,s',ob):=h;refine zAp h' ?_; clear h' h; rintro _ s₁ o₁ oA e1 e2 _;obtain⟨i1,i2,i3⟩:=ih e2;rw [zIz (zLg e1)];refine⟨congrArg Nat.succ i1,congrArg Nat.succ i2,?_⟩;rw [List.findIdx?_cons,i3];rfl
theorem zQ4(R:zA2 cn r) {c:Cx} {env:Env} {g:G} (ts:List Expr) (ds:List V) (vs:List Value) (H:zAu cn g c env) (hA:AOk A c.dep) (hv:VRs cn g ds vs):Sim cn A g (asgs r c ts ds) (assignInOrder ((assignEach ts env).map (·.2)) vs) (λ_ _ _=>True):=by
 induction ts generalizing g ds vs with
 |nil=>cases ds with
  |nil=>exact hv.nil_inv▸Sim.pure (a:=()) trivial
  |cons=>exact Sim.fail
 |cons t ts ih=>cases ds with
  |nil=>exact Sim.fail
  |cons d ds =>
   refine hv.cons_inv λv vs e h1 hr=>?_;subst e
   refine Sim.need (p:=plainE t=true) (λs x h=>?_) λhp=>?_
   ·obtain⟨u,s',ob⟩:=x;have h':M.b (asgP r c t d) (λ_=>asgs r c ts ds) s=some (u,s',ob):=h;refine zAp h' ?_; clear h'; rintro _ s₁ o₁ oA e1 e2 _;exact zLg e1
   ·rw [zIz hp];show Sim cn A g (M.b (asgP r c t d) λ_=>asgs r c ts ds) (do holding vs (assign t env v); assignInOrder ((assignEach ts env).map (·.2)) vs) _;exact Sim.bind (Sim.holding (sim_asgP R H hA h1)) λg' _ _ hg _=>ih ds vs (H.mono hg) (hr.mono hg.lw)
theorem St.iterGone{s:S0} {h h':Heap} (X:St cn g s h) (hs:Heap.ExtBut h.objs.size h h'):St cn g s h' :=
 X.grow λb ob e=>hs b ob (Nat.ne_of_lt (Heap.lt_size e)) e
theorem sim_asgTup(R:zA2 cn r) (H:zAu cn g c env) (hA:AOk A c.dep) {ts:List Expr} {v:V} {x:Value} {k:Nat} {pos:Pos} (hv:VR cn g v x):Sim cn A g (asgTup r c ts v) (assign (.Tuple ts k pos) env x) (λ_ _ _=>True):=by
 show Sim cn A g _ (do standAt pos; unpack x (assignEach ts env)) _;refine Sim.standAt ?_
 cases hv with
 |tup h1 h2 h3 =>
  rename_i a vs n ds;intro s s' u ob S Q E e ok X hQ;unfold asgTup at e;simp only at e
  cases q:Nat.beq ds.length ts.length with
  |false=>rw [q] at e; exact zAx e
  |true =>
   rw [q] at e;have e':asgs r c ts ds s=some (u,s',ob):=e;obtain⟨l1,l2,l3⟩:=zLf (env:=env) e';refine wpAny_unpack_tuple hA.hd (zEl X h1) (by rw [l2,l1,<-h3.length,Array.length_toList]) l3 λh' hs=>?_;exact zQ4 R ts ds vs.toList H hA h3 s s' u ob { S with heap:=h' } Q E e' ok (X.iterGone hs) hQ
 |none=>exact Sim.fail
 |bool=>exact Sim.fail
 |int=>exact Sim.fail
 |sym=>exact Sim.fail
 |str=>exact Sim.fail
 |lst=>exact Sim.fail
 |dct=>exact Sim.fail
 |fn=>exact Sim.fail
 |raw=>exact Sim.fail
 |ref=>exact Sim.fail
end
set_option backward.match.sparseCases true
section
variable {cn:Cn} {A:Around} {g:G} {P:Prog} {c:Cx} {env:Env} {r:Rec}
theorem sim_retV(R:zA2 cn r) (H:zAu cn g c env) (hA:AOk A c.dep) {v:Option Expr} {pos:Pos}:Sim cn A g (retV r c v) (exec (.Return v pos) env) (λg' f w=>FlR cn g' f w):=by
 cases v with
 |none =>
  show Sim cn A g _ (do PySem.standAt pos; return Flow.ret .none) _;exact Sim.standAt (Sim.pure (.ret .none))
 |some e =>
  show Sim cn A g _ (do PySem.standAt pos; return Flow.ret (<-eval e env)) _;exact Sim.standAt (Sim.mapM (R.ev e H hA) λg' a b hg h=>.ret h)
theorem sim_stIf(R:zA2 cn r) (H:zAu cn g c env) (hA:AOk A c.dep) {t:Expr} {a b:List Stmt} {pos:Pos}:Sim cn A g (stIf r c t a b) (exec (.If t a b pos) env) (λg' f w=>FlR cn g' f w):=by
 rw [exec_If];refine Sim.standAt (Sim.bind (R.tst t H hA) λg' x u hg hx=>?_);subst hx;exact Sim.pick (R.exs a (H.mono hg) hA) (R.exs b (H.mono hg) hA)
theorem SimC.runOwn{α:Type} {m:M α} {co:Code} {R:G->α->Flow->Prop} (hA:A.handled=none) (H:SimC cn (A.mark none) g m co (λg' a res=>∃ w,res=.ok w/\R g' a w)):Sim cn A g m (runOwn co env) R:=by
 intro s s' a ob S Q E e ok X hQ;refine wpAny_runOwn (H s s' a ob S _ e ok X λg' h' tk res hg Y hr=>?_);obtain⟨w,rfl,hw⟩:=hr;exact hQ g' h' tk w hg Y hw
theorem AOk.mark{d:Nat} (h:AOk A d):AOk (A.mark none) d:=⟨h.hd,h.dp,h.un⟩
theorem zEc{e:Expr} {y:Value} (h:plainE e=true):foldedSetIterable e env y=Pure.pure y:=by
 cases e<;>first|rfl|cases h
theorem sim_stFor(R:zA2 cn r) (H:zAu cn g c env) (hA:AOk A c.dep) {x:Str} {p pos:Pos} {it:Expr} {body:List Stmt}:Sim cn A g (stFor r c x it body) (exec (.For (.Name x p) it body [] pos) env) (λg' f w=>FlR cn g' f w):=by
 rw [exec_For];unfold stFor
 refine Sim.need (p:=plainE it=true) (λs z h=>?_) λhp=>?_
 ·obtain⟨u,s',ob⟩:=z;refine zAp h ?_; clear h; rintro _ s₁ o₁ oA e1 e2 _;exact zDu e1
 refine Sim.standAt (Sim.bind (zDx R H hA) λg1 v y hg1 hy=>?_);rw [zEc hp];refine Sim.preV (v:=y) (λ_ _ _ h=>wpAny_pure h) (Sim.standAt ?_);refine Sim.bind (Sim.holding (zIo hy)) λg2 i w hg2 hw=>?_;obtain⟨a,rfl,ha⟩:=hw;have H2:=(H.mono hg1).mono hg2;refine SimC.runOwn hA.hd (R.loop (c:={ c with dep:=c.dep-1 }) ⟨H2.kind,H2.scope,H2.glob,H2.bi,H2.loc,H2.dbg,H2.cells,H2.lam⟩ (hA.mark.le (Nat.sub_le _ _)) ha)
end
set_option backward.match.sparseCases false
structure ClsOk (cn:Cn) (P:Prog):Prop where
 pg:plainGet cn.K cn.C "" = true
 sa:findIn cn.K (.ref cn.C) "__setattr__" = some (some (.builtin "object.__setattr__"))
 po:plainOver cn.K cn.C=true
 hd:hasDictIn cn.K cn.C=true
 at_:∀ x,hasS x P.attrs=true->findIn cn.K (.ref cn.C) x=some none
 me:∀ x k,lookS x P.meths=some k->∃ f,cn.fnv k=some f/\findIn cn.K (.ref cn.C) x=some (some (.ref f))/\isFn cn.K (.ref f)=true
section
variable {cn:Cn} {A:Around} {g:G} {P:Prog} {c:Cx} {env:Env} {r:Rec}
theorem zOw{o:PySem.Expr} {name:Str} {w:Sem Value} (h:baseE o=true):attributeBase o name env w=w:=by
 cases o<;>first|rfl|cases h
theorem zOl{k x:Str} {t:Tok}:(Value.str k t).isStr x=eqS x k:=by
 cases q:eqS x k with
 |true=>rw [zBa.mp q]; exact beq_self_eq_true _
 |false =>
  have:=zB9.mp q
  show (k == x)=false;rw [beq_eq_false_iff_ne];exact λh=>this h.symm
theorem ER.noRef{ks:List Str} {ds:List V} {es:List DictEntry} (h:ER cn g ks ds es):es.any (·.refKey)=false :=
 h.rec rfl λ_ _ ih=>ih
theorem zOo{x k:Str} {hs:Int} {t:Tok} {v:Value} {es:List DictEntry} (nr:es.any (·.refKey)=false):getL x (⟨hs,.str k t,v⟩::es)=match eqS x k with|true=>some (some v)|false=>getL x es:=by
 unfold getL;rw [List.find?_cons];dsimp only;rw [zOl]
 cases eqS x k with
 |true=>rfl
 |false =>
  dsimp only
  cases es.find? (·.key.isStr x) with
  |some en=>rfl
  |none=>dsimp only; rw [nr,List.any_cons,nr]; rfl
theorem ER.getS{ks:List Str} {ds:List V} {es:List DictEntry} {x:Str} {d:V} (h:ER cn g ks ds es) (e:assoc x ks ds=some d):∃ v,getL x es=some (some v)/\VR cn g d v:=by
 induction h with
 |nil=>cases e
 |cons h r ih =>
  unfold assoc at e;rw [zOo r.noRef];revert e
  cases eqS x _ with
  |true=>intro e; cases e; exact⟨_,rfl,h⟩
  |false=>exact ih
theorem ER.getN{ks:List Str} {ds:List V} {es:List DictEntry} {x:Str} (h:ER cn g ks ds es) (e:hasS x ks=false):getL x es=some none:=by
 induction h with
 |nil=>rfl
 |cons h r ih =>
  unfold hasS at e;rw [zOo r.noRef];revert e
  cases eqS x _ with
  |true=>intro e; cases e
  |false=>exact ih
theorem ER.put{x:Str} {d:V} {v:Value} {hsh:Int} {t:Tok} (hv:VR cn g d v) {ks:List Str} {ds:List V} {es:List DictEntry} (h:ER cn g ks ds es):ER cn g (putA x d ks ds).1 (putA x d ks ds).2 (putL x hsh (.str x t) v es):=by
 induction h with
 |nil=>exact .cons hv .nil
 |cons h r ih =>
  unfold putL;dsimp only;rw [zOl];unfold putA
  cases eqS x _ with
  |true=>exact .cons hv r
  |false=>exact .cons h ih
theorem ER.len{ks:List Str} {ds:List V} {es:List DictEntry} (h:ER cn g ks ds es):es.length=ks.length:=h.rec rfl λ_ _ ih=>congrArg Nat.succ ih
theorem assoc_none:∀ {x:Str} {ks:List Str} {ds:List V},hasS x ks=false->assoc x ks ds=none
 |_,[],_,_=>by simp [assoc]
 |_,_::_,[],_=>by simp [assoc]
 |x,k::ks,d::ds,h=>by
  unfold hasS at h;unfold assoc
  cases q:eqS x k with
  |true=>rw [q] at h; cases h
  |false=>rw [q] at h; exact assoc_none h
theorem zQm{s:S0} {h:Heap} {i d:Nat} {a:Addr} {k:Str} {ks:List Str} {ds:List V} (X:St cn g s h) (ha:g.ρ[i]?=some a) (eo:s.σ[i]?=some (.inst k d)) (ed:s.σ[d]?=some (.attrs ks ds)) :
  ∃ dx es n,g.ρ[d]?=some dx/\h.get? dx=some (dictOf es n)/\ER cn g ks ds es/\InstAt h a ⟨.ref cn.C,some dx,.plain,#[]⟩ cn.C (some (dictOf es n)):=by
 obtain⟨dx,h1,h2,h3⟩:=X.at eo ha;obtain⟨es,n,h4,h5⟩:=X.at ed h2;exact⟨dx,es,n,h2,h4,h5,h3,rfl,rfl,h4⟩
theorem vr_handed{d:V} {v:Value} (h:VR cn g d v):handedIn v=true:=by
 cases h<;>try rfl
 rename_i b
 cases b<;>first|rfl|decide +kernel
theorem zK8{v:V} {s s':S0} {d:Nat} {ob:List Ob} (e:instD v s=some (d,s',ob)):(∃ i k,v=.ref i/\s.σ[i]?=some (.inst k d))/\s'=s:=by
 unfold instD at e
 cases v<;>try exact zAx e
 rename_i i;refine zAp e ?_; clear e; rintro o s₁ o₁ oA e1 e2 rfl;refine zK3 e1 ?_; clear e1; rintro eo rfl rfl
 cases o<;>try exact zAx e2
 refine zBk e2 ?_; clear e2; rintro rfl rfl rfl;exact⟨⟨i,_,rfl,eo⟩,rfl⟩
theorem sim_getA(T:Stat0 cn P) (C:ClsOk cn P) {o:V} {x:Value} {name:Str} {b:Bool} (hx:VR cn g o x):Sim cn A g (getA P o name) (getAttr x name b) (λg' d w=>VR cn g' d w):=by
 intro s s' v ob S Q E e ok X hQ;unfold getA at e
 cases q:hasS name P.attrs with
 |false=>rw [q] at e; exact zAx e
 |true =>
  rw [q] at e;refine zAp e ?_; clear e; rintro d s₁ o₁ oA e1 e2 rfl;obtain⟨⟨i,k,rfl,ei⟩,rfl⟩:=zK8 e1;refine zAp e2 ?_; clear e2; rintro ao sA oB oC e3 e4 rfl;refine zK3 e3 ?_; clear e3; rintro ed rfl rfl
  cases ao<;>try exact zAx e4
  rename_i ks ds;refine zCg e4 ?_; clear e4; rintro e5 rfl rfl
  cases hx with
  |ref ha =>
   obtain⟨dx,es,n,h1,h2,h3,I⟩:=zQm X ha ei ed;obtain⟨u,hu,hr⟩:=h3.getS e5
   refine get_value (v:=u) (T.X.keeps X.keep) I (plainGet_of (name := "") C.pg).1 (findObj_own (attr:=none) C.hd (C.at_ _ q) rfl ((lookIn_dict name es n).trans hu)) (vr_handed hr) ?_
   exact hQ g S.heap _ u (G.le.refl g) X hr
theorem sim_evAttr(T:Stat0 cn P) (C:ClsOk cn P) (R:zA2 cn r) (H:zAu cn g c env) (hA:AOk A c.dep) {o:PySem.Expr} {name:Str} {pos:Pos}:Sim cn A g (evAttr P r c o name) (eval (.Attribute o name pos) env) (λg' d w=>VR cn g' d w):=by
 unfold evAttr
 cases q:baseE o with
 |false=>exact Sim.fail
 |true =>
  rw [arm_eval_Attribute,zOw q];refine Sim.bind (R.ev o H hA) λg' ov x hg hx=>Sim.standAt ?_;exact Sim.post (Sim.holding (sim_getA T C hx)) λg'' d v hg' hv Q E s h=>wpAny_bind (wpAny_letTemporaryGo (wpAny_pure (h v hv)))
theorem zQw{es:List DictEntry} {n:Nat} {name:Str} {hsh:Int} {key v:Value} {h:Heap} {dx:Addr} (D:h.get? dx=some (dictOf es n)) :
  (h.update dx (Obj.putName name hsh key v)).get? dx=some (dictOf (putL name hsh key v es) (putN name es n)):=by
 have e:=putName_dict name hsh key v es n
 have:=Heap.get?_update_self (Obj.putName name hsh key v) D (by rw [e]; rfl)
 rw [this,e]
theorem putA_le{α:Type} {x:Str} {d:α}:∀ (ks:List Str) (ds:List α),(putA x d ks ds).1.length<=ks.length+1:=by
 intro ks
 induction ks with
 |nil=>exact λds=>Nat.le_refl _
 |cons k ks ih =>
  intro ds
  cases ds with
  |nil=>exact Nat.le_add_left _ _
  |cons z ds =>
   unfold putA
   cases eqS x k with
   |true=>exact Nat.le_succ _
   |false=>exact Nat.succ_le_succ (ih ds)
theorem sim_setAt(T:Stat0 cn P) (C:ClsOk cn P) {o d:V} {x v:Value} {name:Str} (hx:VR cn g o x) (hv:VR cn g d v):Sim cn A g (setAt P o name d) (setAttr x name v) (λ_ _ _=>True):=by
 intro s s' u ob S Q E e ok X hQ;unfold setAt at e
 cases q:hasS name P.attrs with
 |false=>rw [q] at e; exact zAx e
 |true =>
  rw [q] at e;refine zAp e ?_; clear e; rintro di s₁ o₁ oA e1 e2 rfl;obtain⟨⟨i,k,rfl,ei⟩,rfl⟩:=zK8 e1;refine zAp e2 ?_; clear e2; rintro ao sA oB oC e3 e4 rfl;refine zK3 e3 ?_; clear e3; rintro ed rfl rfl
  cases ao<;>try exact zAx e4
  rename_i ks ds
  cases hlen:Nat.ble ks.length 100 with
  |false=>dsimp only at e4; rw [hlen] at e4; exact zAx e4
  |true =>
  dsimp only at e4;rw [hlen] at e4;refine zFt e4 ?_; clear e4; rintro rfl rfl
  cases hx with
  |ref ha =>
   obtain⟨dx,es,n,h1,h2,h3,I⟩:=zQm X ha ei ed;have XK:=T.X.keeps X.keep;obtain⟨hh,gg,dd,tt,os⟩:=S;dsimp only at h2 XK I X;refine set_plain XK I C.sa (osa_open (s:=⟨hh,gg,dd,tt+1,os⟩) XK I C.po (by unfold takerIn; rw [C.at_ _ q]; rfl:takerIn cn.K cn.C name=some none) λb=>?_);obtain⟨cd,hc,hd⟩:=any_some C.hd;refine wpAny_bind (wpAny_pure (wpAny_bind (wpAny_bind (wpAny_loadPart I.at_ (wpAny_bind ((looks_clsIn XK hc).at ?_))))));rw [hd];refine wpAny_pure (a:=some dx) (wpAny_bind (wpAny_pure (wpAny_bind ?_)));unfold nsSet;refine wpAny_bind (wpAny_bind (wpAny_askSetting (wpAny_pure (wpAny_bind (wpAny_mkText (wpAny_bind (wpAny_loadPart h2 ?_)))))));dsimp only
   have nr:(es.toArray.any (·.refKey))=false:=by rw [<-Array.any_toList]; exact h3.noRef
   rw [aRefKeyMayBeTheName_at,nr,Bool.and_false];refine wpAny_updatePart h2 ?_
   have hsz:∀ hsh t,(putL name hsh (.str name t) v es).length<=1000:=by
    intro hsh t;have e9:=(h3.put (x:=name) (d:=d) (v:=v) (hsh:=hsh) (t:=t) hv).len
    have:=zD5 hlen
    have:=putA_le (x:=name) (d:=d) ks ds
    clear X hQ T C XK I;lia
   refine wpAny_bind (wpAny_lookBehind (zQw h2) (pastItsLine_dict (by rw [List.size_toArray]; exact Nat.le_trans (hsz _ _) (by rw [sizeLine_eq]; decide))) ?_);refine wpAny_pure ?_;exact hQ g _ _ () (G.le.refl g) (X.upd h1 ed rfl (Heap.SameBut.update ..) (zH8 (Heap.SameBut.update ..) h2 λvs=>by simp) ⟨_,_,zQw h2,h3.put hv⟩) trivial
theorem zPg(T:Stat0 cn P) (C:ClsOk cn P) (R:zA2 cn r) (H:zAu cn g c env) (hA:AOk A c.dep) {o:PySem.Expr} {name:Str} {pos:Pos} {v:V} {x:Value} (hv:VR cn g v x):Sim cn A g (asgAttr P r c o name v) (assign (.Attribute o name pos) env x) (λ_ _ _=>True):=by
 rw [arm_assign_Attribute];refine Sim.bind (Sim.holding (R.ev o H hA)) λg' ov y hg hy=>Sim.standAt ?_;exact Sim.post (Sim.holding (sim_setAt T C hy (hv.mono hg.lw))) λ_ _ _ _ _ Q E s h=>wpAny_release' (h () trivial)
theorem zEb{pos:Pos}:∀ {es:List PySem.Expr},es.all plainE=true->(backTo pos (starEach es env)).any (·.1)=false
 |[],_=>rfl
 |e::es,h=>by
  rw [List.all_cons,Bool.and_eq_true] at h;rw [zFv h.1];show (false || (backTo pos (starEach es env)).any (·.1))=false;rw [zEb h.2]; rfl
theorem sim_args(R:zA2 cn r) (H:zAu cn g c env) (hA:AOk A c.dep) {f:Value} {pos:Pos} {es:List PySem.Expr} (hp:es.all plainE=true) :
  Sim cn A g (evs r c es) (evalArgs f true (backTo pos (starEach es env)) []) (λg' ds a=>a.kw=[]/\VRs cn g' ds a.pos):=by
 cases es with
 |nil =>
  intro s s' ds ob S Q E e ok X hQ;refine zBk e ?_; clear e; rintro rfl rfl rfl;exact PySem.evalArgs_none (hQ g S.heap S.toks ⟨[],[]⟩ (G.le.refl g) X ⟨rfl,.nil⟩)
 |cons e es =>
  rw [List.all_cons,Bool.and_eq_true] at hp;intro s s' ds ob S Q E e1 ok X hQ
  have st:backTo pos (starEach (e::es) env)=(false,eval e env)::backTo pos (starEach es env):=by rw [zFv hp.1]; rfl
  rw [st];refine evalArgs_plain ?_;rw [<-st];exact zIp R pos (e::es) H hA s s' ds ob S _ E e1 ok X λg' h' tk ws hg Y hv=>hQ g' h' tk ⟨ws,[]⟩ hg Y ⟨rfl,hv⟩
theorem zOp:∀ {es:List PySem.Expr} {s:S0} {x:List V × S0 × List Ob},evs r c es s=some x->es.all plainE=true
 |[],_,_,_=>rfl
 |e::es,s,x,h=>by
  obtain⟨u,s',ob⟩:=x;have h':M.b (evP r c e) (λv=>M.b (evs r c es) λvs=>M.p (v::vs)) s=some (u,s',ob):=h;refine zAp h' ?_; clear h'; rintro _ s₁ o₁ oA e1 e2 _;refine zAp e2 ?_; clear e2; rintro _ sA oB oC e3 _ _;rw [List.all_cons,zDu e1,zOp e3]; rfl
noncomputable def Keeps1 (cn:Cn) (f:Value) (h:Heap):Prop:=∃ k,(k=Keeper.frame\/k=Keeper.machine\/k=Keeper.boundFrame)/\Looks (model cn.prog cn.w) h (keeperOf f) k
theorem zG3(R:zA2 cn r) (H:zAu cn g c env) (hA:AOk A c.dep) {fv:Value} {first:List Value} {pos:Pos} {es:List PySem.Expr} (hp:es.all plainE=true) {k:List V->M V}
  (hk:∀ g' s₁ h' ds x,g.le g'->St cn g' s₁ h'->k ds s₁=some x->Keeps1 cn fv h')
  (hcall:∀ g' ds vs,g.le g'->VRs cn g' ds vs->Sim cn A g' (k ds) (PySem.call fv (first++vs)) (λg' d w=>VR cn g' d w)) :
  Sim cn A g (M.b (evs r c es) k) (callWith pos fv first (backTo pos (starEach es env)) []) (λg' d w=>VR cn g' d w):=by
 intro s s' d ob S Q E e ok X hQ;refine zAp e ?_; clear e; rintro ds s₁ o₁ oA e1 e2 rfl;refine callWith_of (P:=Keeps1 cn fv) (by rw [zEb hp]; rfl) (λh x=>x) ?_;refine sim_args R H hA hp s s₁ ds o₁ S _ E e1 (ok.l) X λg1 h1 tk1 a hg1 Y ha=>?_;obtain⟨apos,akw⟩:=a;obtain⟨rfl,hvs⟩:=ha;refine⟨hk g1 s₁ h1 ds _ hg1 Y e2,?_⟩;exact hcall g1 ds apos hg1 hvs s₁ s' d oA _ Q E e2 (ok.r) Y λg2 h2 tk2 v hg2 Z hv=>hQ g2 h2 tk2 v (hg1.trans hg2) Z hv
theorem zNa{f:Value} {h:Heap} (hf:∀ a,f≠.ref a):Keeps1 cn f h:=by
 refine⟨.machine,.inr (.inl rfl),?_⟩
 cases f<;>first|exact .now|exact absurd rfl (hf _)
end
theorem zEw{vs:List Value} {ys:List Str} (h:StrsAre vs ys):vs.length=ys.length:=h.rec rfl λ_ _ _ _ _ ih=>congrArg Nat.succ ih
theorem strsAre_at{vs:List Value} {ys:List Str} {i:Nat} {y:Str} (h:StrsAre vs ys) (e:ys[i]?=some y):∃ t,vs[i]?=some (.str y t):=by
 induction h generalizing i with
 |nil=>cases e
 |cons y t _ ih =>
  cases i with
  |zero=>cases e; exact⟨t,rfl⟩
  |succ i=>exact ih e
theorem zJ1{prog:Program} {w:World} {A:Around} {E:Value->Shared->Prop} {s:Shared} {l:Addr} {us tail:List Value} {n:Nat} {x:Str} {t:Tok} {ys:List Str} {j:Nat} {Q:Value->Shared->Prop}
  (hl:IsT s.heap l (us++tail).toArray n) (hv:StrsAre us ys) (hj:ys[j]?=some x) (hn:∀ i,i<j->ys[i]?≠some x) (h:Q (.int j s.toks) { s with toks:=s.toks+1 }) :
  wpAny (model prog w) A (PySem.call (.builtin "tuple.index") [.ref l,.str x t]) Q E s:=by
 refine wpAny_call_entry F.slot_tuple_index ⟨_,hl,rfl⟩ F.entry_tuple_index ?_ (F.args_tuple_index_2 _ _);unfold Builtin.«tuple.index»
 refine wpAny_bind (m:=selfAndSome "tuple.index" "index" 1 3 _) (wpAny_pure ?_)
 dsimp only;refine wpAny_bind ?_;unfold Builtin.Tuple.tupleItemsOf;refine wpAny_bind (wpAny_seqItems hl rfl (wpAny_pure ?_));refine wpAny_bind (wpAny_pure (wpAny_bind (wpAny_pure (wpAny_bind ?_))));generalize hvs:us++tail=vs at hl ⊢;rw [Std.Legacy.Range.forIn_eq_forIn_range']
 have hsz:(Std.Legacy.Range.size [0:min vs.toArray.size vs.toArray.size])=vs.length:=by
  simp [Std.Legacy.Range.size]
 rw [hsz];clear hsz;obtain⟨hjl,_⟩:=List.getElem?_eq_some_iff.mp hj;rw [<-zEw hv] at hjl
 have hul:us.length<=vs.length:=by rw [<-hvs,List.length_append]; lia
 have loop:∀ (k i:Nat),i+k=vs.length->i<=j->∀ (f:Nat->(Option Fin × Unit)->Sem (ForInStep (Option Fin × Unit))),(∀ m st,f m st=(match vs.toArray[m]? with
      |some y=>do
       let __do_lift <-eqBool y (Value.str x t)
       if __do_lift=true then do
         let __do_lift <-retInt ↑m
         pure (ForInStep.done (some __do_lift,()))
        else pure (ForInStep.yield (none,()))
      |x=>pure (ForInStep.yield (none,())))) ->
   wpAny (model prog w) A.in1 (forIn (List.range' i k) (none,()) f) (λa s'=>wpAny (model prog w) A.in1 (match a.1 with|some r=>pure r|none=>(do rule "tuple.index.not-found"; raiseErrorWords "ValueError" "tuple.index(x): x not in tuple" : Sem Fin)) (λfin s'=>∃ v,fin=Fin.done (Flow.ret v)/\Q v s') E s') E s:=by
  intro k
  induction k with
  |zero=>intro i hi hij; lia
  |succ k ih =>
   intro i hi hij f hf;rw [List.range'_succ,List.forIn_cons,hf]
   have hil:i<ys.length:=by rw [<-zEw hv]; lia
   obtain⟨ti,hti⟩:=strsAre_at hv (List.getElem?_eq_getElem hil)
   have hti':vs.toArray[i]?=some (.str ys[i] ti):=by
    rw [List.getElem?_toArray,<-hvs,List.getElem?_append_left (by rw [zEw hv]; exact hil)]; exact hti
   rw [hti'];refine wpAny_bind (wpAny_bind (wpAny_eqBool_str ?_))
   by_cases q:i=j
   ·subst q
    have e:ys[i]=x:=by rw [List.getElem?_eq_getElem hil] at hj; exact Option.some.inj hj
    rw [decide_eq_true e,if_pos rfl];refine wpAny_bind (wpAny_bind (wpAny_mkInt ?_));exact wpAny_pure (wpAny_pure (wpAny_pure (wpAny_pure ⟨_,rfl,h⟩)))
   ·have e:¬ ys[i]=x:=λe=>hn i (by lia) (by rw [List.getElem?_eq_getElem hil,e]);rw [decide_eq_false e,if_neg (by simp)];exact wpAny_pure (ih (i+1) (by lia) (by lia) f hf)
 refine wpAny_mono (loop vs.length 0 (by lia) (by lia) _ λm st=>?_) (λa s' q=>?_) λ_ _ q=>q
 ·cases vs.toArray[m]?<;>rfl
 ·obtain⟨a,_⟩:=a;cases a<;>exact q
noncomputable def lmId:Lm->String
 | .append => "list.append"
 | .pop => "list.pop"
 | .extend => "list.extend"
section
variable {cn:Cn} {A:Around} {g:G} {P:Prog} {c:Cx} {env:Env} {r:Rec}
theorem zE6{n:Nat} {s s':S0} {u:Unit} {ob:List Ob} (e:askLen n s=some (u,s',ob)):s'=s/\ob=[.len n]:=by
 unfold askLen at e; cases e; exact⟨rfl,rfl⟩
theorem zQk{ds:List V} {vs:List Value} (h:isZero ds=true) (hv:VRs cn g ds vs):∃ t,vs=[.int 0 t]:=by
 cases ds with
 |nil=>exact nay h
 |cons d ds =>
  refine hv.cons_inv λv us e h1 h2=>?_;cases e;clear hv
  cases ds with
  |cons=>cases d<;>exact nay h
  |nil =>
   cases h2.nil_inv
   cases d with
   |int i =>
    obtain⟨t,rfl⟩:=h1.inv
    cases i with
    |ofNat n=>cases Nat.eq_of_beq_eq_true h; exact⟨t,rfl⟩
    |negSucc=>exact nay h
   |_=>exact nay h
theorem erase0(vs:List Value) (v:Value):(v::vs).toArray.eraseIdxIfInBounds 0=vs.toArray:=by
 simp
theorem zK0{l:Nat} {a:Addr} {ds:List V} {vs:List Value} (ha:g.ρ[l]?=some a) (hv:VRs cn g ds vs):Sim cn A g (methL .append (.ref l) ds) (PySem.call (.builtin "list.append") (.ref a::vs)) (λg' d w=>VR cn g' d w):=by
 refine Sim.obj λo s s' d ob S Q E eo e ok X hQ=>?_;have Y:=X.at eo ha
 change appL l o ds s=some (d,s',ob) at e
 unfold appL at e
 cases o<;>try exact zAx e
 rename_i pre mid post
 cases hv with
 |nil=>exact zAx e
 |cons h1 h2 =>
  cases h2 with
  |cons=>exact zAx e
  |nil =>
   rename_i d1 v1;have e':M.b (askLen (pre++mid++post).length) (λ_=>M.b (putO l (.list pre mid (post++[d1]))) λ_=>M.p .none) s=some (d,s',ob):=e;refine zAp e' ?_; clear e'; rintro _ s₁ o₁ oA e1 e2 rfl;obtain⟨rfl,rfl⟩:=zE6 e1;refine zAp e2 ?_; clear e2; rintro _ sA oB oC e3 e4 rfl;refine zFt e3 ?_; clear e3; rintro rfl rfl;refine zBk e4 ?_; clear e4; rintro rfl rfl rfl;obtain⟨us,n,hl,hb,hus,hmid⟩:=Y;have hlen:(pre++mid++post).length<900000:=ok _ (.head _);rw [<-hus.length] at hlen;refine call_meets F.slot_list_append ⟨_,hl,rfl⟩ F.entry_list_append (F.args_list_append_2 _ _) (list_append a us.toArray n v1 (by rw [List.size_toArray,sizeLine_eq]; lia)) ⟨hl,?_⟩;have hup:=(hl:IsL _ _ _ _).update (λ(xs:Array Value)=>xs.push v1);refine hQ g _ S.toks .none (G.le.refl g) (X.upd ha eo rfl (Heap.SameBut.update ..) (zH8 (Heap.SameBut.update ..) hl λvs=>by simp) ?_) .none;refine⟨us++[v1],_,by simpa using hup,by rw [List.length_append]; unfold big; simp; lia,?_,hmid⟩;rw [<-List.append_assoc];exact hus.append (.cons h1 .nil)
theorem sim_extend{l:Nat} {a:Addr} {ds:List V} {vs:List Value} (ha:g.ρ[l]?=some a) (hv:VRs cn g ds vs):Sim cn A g (methL .extend (.ref l) ds) (PySem.call (.builtin "list.extend") (.ref a::vs)) (λg' d w=>VR cn g' d w):=by
 refine Sim.obj λo s s' d ob S Q E eo e ok X hQ=>?_
 change extL l o ds s=some (d,s',ob) at e
 unfold extL at e
 cases o with
 |list pre mid post =>
  cases ds with
  |nil=>exact zAx e
  |cons d1 ds =>
  cases ds with
  |cons=>cases d1<;>exact zAx e
  |nil =>
  cases d1 with
  |lst es =>
    refine hv.cons_inv λv1 vs q h1 h2=>?_;cases q;cases h2.nil_inv;obtain⟨b,ws,m,rfl,z1,z2,z3⟩:=h1.inv;clear hv h1 h2;have Y:=X.at eo ha;have e':M.b (askLen (pre++mid++post++es).length) (λ_=>M.b (putO l (.list pre mid (post++es))) λ_=>M.p .none) s=some (d,s',ob):=e;refine zAp e' ?_; clear e'; rintro _ s₁ o₁ oA e1 e2 rfl;obtain⟨rfl,rfl⟩:=zE6 e1;refine zAp e2 ?_; clear e2; rintro _ sA oB oC e3 e4 rfl;refine zFt e3 ?_; clear e3; rintro rfl rfl;refine zBk e4 ?_; clear e4; rintro rfl rfl rfl;obtain⟨us,n,hl,hb,hus,hmid⟩:=Y;have hlen:(pre++mid++post++es).length<900000:=ok _ (.head _)
    have hlen:us.length+ws.size<900000:=by
     have h1:=hus.length;have h2:=z3.length;rw [Array.length_toList] at h2;simp only [List.length_append] at h1 hlen;lia
    refine call_meets F.slot_list_extend ⟨_,hl,rfl⟩ F.entry_list_extend (F.args_list_extend_2 _ _) (AutoSeq1.list_extend_list_list_0 a us.toArray n b ws m ?_ (by rw [List.size_toArray,sizeLine_eq]; lia) (by rw [List.size_toArray,sizeLine_eq]; lia)) ⟨hl,zD4 X z1,?_⟩
    ·simp only [Bool.and_eq_true,not_and,Bool.not_eq_true];intro _;unfold Builtin.List.listTooLong;simp [sizeLine_eq];lia
    have hup:=(hl:IsL _ _ _ _).update (λ(xs:Array Value)=>xs++ws);refine hQ g _ S.toks .none (G.le.refl g) (X.upd ha eo rfl (Heap.SameBut.update ..) (zH8 (Heap.SameBut.update ..) hl λvs=>by simp) ?_) .none
    have e9:us.toArray++ws=(us++ws.toList).toArray:=by simp
    rw [e9] at hup;refine⟨us++ws.toList,_,hup,by have h9:ws.toList.length=ws.size:=Array.length_toList; rw [List.length_append,h9]; unfold big; lia,?_,hmid⟩;rw [<-List.append_assoc];exact hus.append z3
  |_=>exact zAx e
 |_=>exact zAx e
theorem sim_pop{l:Nat} {a:Addr} {ds:List V} {vs:List Value} (ha:g.ρ[l]?=some a) (hv:VRs cn g ds vs):Sim cn A g (methL .pop (.ref l) ds) (PySem.call (.builtin "list.pop") (.ref a::vs)) (λg' d w=>VR cn g' d w):=by
 refine Sim.obj λo s s' d ob S Q E eo e ok X hQ=>?_;clear ok;have Y:=X.at eo ha;have e':popL l o ds s=some (d,s',ob):=e;clear e;unfold popL at e'
 cases hz:isZero ds with
 |false=>rw [hz] at e'; exact zAx e'
 |true =>
  rw [hz] at e';obtain⟨t,rfl⟩:=zQk hz hv
  cases o<;>try exact zAx e'
  rename_i pre mid post;obtain⟨us,n,hl,hb,hus,hmid⟩:=Y
  have key:∀ (v:V) (pre' post':List V) (s':S0) (ob:List Ob),pre++mid++post=v::(pre'++mid++post')->s'={ s with σ:=s.σ.set l (.list pre' mid post') } ->
    (∀ g' h' tk b,g.le g'->St cn g' s' h'->VR cn g' v b->Q b { S with heap:=h',toks:=tk })->wpAny (model cn.prog cn.w) A (PySem.call (.builtin "list.pop") [.ref a,.int 0 t]) Q E S:=by
   intro v pre' post' s' ob hq hs' hQ;rw [hq] at hus
   cases hus with
   |cons hv1 hr =>
    rename_i v1 us';refine call_meets F.slot_list_pop ⟨_,hl,rfl⟩ F.entry_list_pop (F.args_list_pop_2 _ _) (MeetsSeq.list_pop_at a (v1::us').toArray n 0 t 0 v1 (by decide) (by simp [seqIndex?]) (by simp) (by rw [List.size_toArray,sizeLine_eq]; unfold big at hb; lia)) ⟨hl,?_⟩;have hup:=(hl:IsL _ _ _ _).update (λ(xs:Array Value)=>xs.eraseIdxIfInBounds 0);rw [erase0] at hup;refine hQ g _ S.toks v1 (G.le.refl g) ?_ hv1;rw [hs'];refine X.upd ha eo rfl (Heap.SameBut.update ..) (zH8 (Heap.SameBut.update ..) hl λvs=>by simp) ?_;exact⟨us',_,hup,by simp at hb; lia,hr,hmid⟩
  cases pre with
  |cons v pre =>
   refine zAp e' ?_; clear e'; rintro _ sA oB oC e3 e4 rfl;refine zFt e3 ?_; clear e3; rintro rfl rfl;refine zBk e4 ?_; clear e4; rintro rfl rfl rfl;exact key _ pre post _ [] (by simp) rfl hQ
  |nil =>
   cases mid with
   |cons=>exact zAx e'
   |nil =>
    cases post with
    |nil=>exact zAx e'
    |cons v post =>
     refine zAp e' ?_; clear e'; rintro _ sA oB oC e3 e4 rfl;refine zFt e3 ?_; clear e3; rintro rfl rfl;refine zBk e4 ?_; clear e4; rintro rfl rfl rfl;exact key _ [] post _ [] (by simp) rfl hQ
theorem sim_methL{m:Lm} {l:Nat} {a:Addr} {ds:List V} {vs:List Value} (ha:g.ρ[l]?=some a) (hv:VRs cn g ds vs):Sim cn A g (methL m (.ref l) ds) (PySem.call (.builtin (lmId m)) (.ref a::vs)) (λg' d w=>VR cn g' d w):=by
 cases m
 ·exact zK0 ha hv
 ·exact sim_pop ha hv
 ·exact sim_extend ha hv
theorem zQo{C:Prop} {x:Str} {y:V} {ds:List V} {k:Nat} {v:V} (e:indexT x k (y::ds)=some v) (H:∀ z,y=.str z->(match eqS x z with|true=>some (.int (k:Int))|false=>indexT x (k+1) ds)=some v->C):C:=by
 cases y with
 |str z=>exact H z rfl e
 |_=>cases e
theorem zQn{x:Str} {ds:List V} {k:Nat} {v:V} {vs:List Value} (e:indexT x k ds=some v) (r:VRs cn g ds vs):∃ (ys:List Str) (j:Nat) (tail:List Value) (us:List Value),vs=us++tail/\StrsAre us ys/\ys[j]?=some x/\(∀ i,i<j->ys[i]?≠some x)/\v=.int ((k+j:Nat):Int)/\us.length=j+1:=by
 induction r using VRs.ind generalizing k with
 |n=>cases e
 |@c _ u _ vs hy hr ih =>
  refine zQo e ?_; clear e; rintro y rfl e;obtain⟨ty,rfl⟩:=hy.inv;revert e
  cases q:eqS x y with
  |true =>
   intro e;cases e;exact⟨[y],0,vs,[.str y ty],rfl,.cons _ _ .nil,congrArg some (zBa.mp q).symm,λi h=>absurd h (Nat.not_lt_zero i),rfl,rfl⟩
  |false =>
   intro e;obtain⟨ys,j,tail,us,rfl,h1,h2,h3,h4,h5⟩:=ih (k:=k+1) e;clear ih e;refine⟨y::ys,j+1,tail,.str y ty::us,rfl,.cons _ _ h1,h2,λi hi=>?_,by rw [h4,Nat.add_right_comm]; rfl,congrArg Nat.succ h5⟩
   cases i with
   |zero=>exact λh=>zB9.mp q (Option.some.inj h).symm
   |succ i=>exact h3 i (Nat.lt_of_succ_lt_succ hi)
end
set_option backward.match.sparseCases true
structure CallOk (cn:Cn) (P:Prog):Prop where
 kp:∀ k a,cn.fnv k=some a->keepIn cn.K (.ref a)=true
 cm:∀ k x f,clsM k x P.cmeths=some f->∃ C a,cn.fnv k=some C/\cn.fnv f=some a/\specialIn cn.K (.ref C) "__getattribute__" = some (some (.builtin "type.__getattribute__")) /\
  ∃ mc,readsIn cn.K C mc=true/\findCls cn.K (.ref C) mc x=some (.val (.ref a))
section
variable {cn:Cn} {A:Around} {g:G} {P:Prog} {c:Cx} {env:Env} {r:Rec}
theorem isTup_of{s:S0} {h:Heap} {a:Addr} {vs:Array Value} {n:Nat} (X:St cn g s h) (hz:(a,(⟨.type "tuple", none,.seq vs n,#[]⟩:Obj))∈g.fz):IsTup h a vs:=⟨_,zCl X hz,rfl,_,rfl⟩
theorem big63{n:Nat} (h:n<=big):(n:Int)<2 ^ 63:=by unfold big at h; lia
theorem vr_len{n m:Nat} {t:Tok} (h:n=m):VR cn g (.int (n:Int)) (.int (m:Int) t):=by subst h; exact .int _ _
theorem sim_len{v:V} {u:Value} (hv:VR cn g v u):Sim cn A g (lenV v) (PySem.call (.builtin "len") [u]) (λg' d w=>VR cn g' d w):=by
 cases hv<;>try exact Sim.fail
 ·rename_i a vs n ds h1 h2 h3;exact Sim.val λQ E S s X h=>PyProof.Rows.len_tuple (isTup_of X h1) (big63 h2) (h _ _ (vr_len (by rw [<-h3.length,Array.length_toList])))
 ·rename_i a vs n ds h1 h2 h3;exact Sim.val λQ E S s X h=>call_len_list (zD4 X h1:IsL _ _ _ _).isList (big63 h2) (h _ _ (vr_len (by rw [<-h3.length,Array.length_toList])))
 ·rename_i a o es ep ks vs ds h1 h2 h3 h4 h5 h6 h7 hm h8
  cases ks with
  |cons=>exact Sim.fail
  |nil =>
   refine Sim.val λQ E S s X h=>?_
   have hD:S.heap.DictOf (strKind cn.prog cn.w) a []:=⟨_,_,_,X.fzs _ h1,h2,h3,h4,by simpa using h5,by simp⟩
   exact call_len_dict hm hD (by decide) (h _ _ (.int _ _))
 ·rename_i i a hρ;refine Sim.obj λo s s' d ob S Q E eo e ok X hQ=>?_;have Y:=X.at eo hρ;clear hρ eo
  cases o<;>try exact zAx e
  rename_i pre mid post;obtain⟨us,n,hl,hb,hus,hmid⟩:=Y;clear hmid;refine zBk e ?_; clear e; rintro rfl rfl rfl;refine call_len_list (hl:IsL _ _ _ _).isList (by rw [List.size_toArray]; exact big63 hb) (hQ g S.heap _ _ (G.le.refl g) X ?_);clear X hQ hl hb;have h9:=hus.length;clear hus;rw [List.size_toArray,h9];clear h9;unfold lenL
  cases mid with
  |nil=>exact vr_len (by simp)
  |cons=>exact .sym _ _
theorem sim_abs{v:V} {u:Value} (hv:VR cn g v u):Sim cn A g (absV v) (PySem.call (.builtin "abs") [u]) (λg' d w=>VR cn g' d w):=by
 have e:∀ i:Int,(if i<0 then -i else i)=(i.natAbs:Int):=λi=>by split<;>lia
 cases hv<;>try exact Sim.fail
 ·exact Sim.val λQ E S s X h=>call_abs_int λu tk=>h _ _ (by rw [e]; exact .int _ _)
 ·exact Sim.val λQ E S s X h=>call_abs_int λu tk=>h _ _ (by rw [e]; exact .sym _ _)
theorem sim_listOf{v:V} {u:Value} (hv:VR cn g v u):Sim cn A g (listOfV v) (PySem.call (.type "list") [u]) (λg' d w=>VR cn g' d w):=by
 cases hv<;>try exact Sim.fail
 rename_i a vs n ds h1 h2 h3;refine Sim.valH λQ E S s X h=>call_list_seq (hsz:=zDj h2) a (.inl rfl) (zD4 X h1) rfl rfl λh' c' hk hD=>?_;exact h _ _ S.toks _ (G.le_freeze g _ _) (X.freeze hk (Nat.le_refl _) hD) (.lst (.head _) h2 (h3.mono (G.le_freeze g _ _).lw))
theorem zO5{v:V} {u:Value} (hv:VR cn g v u):Sim cn A g (tupleOfV v) (PySem.call (.type "tuple") [u]) (λg' d w=>VR cn g' d w):=by
 cases hv<;>try exact Sim.fail
 rename_i a vs n ds h1 h2 h3;refine Sim.valH λQ E S s X h=>call_tuple_list (hsz:=zDj h2) (zD4 X h1:IsL _ _ _ _).isList λh' hk=>?_;exact h _ _ S.toks _ (G.le_freeze g _ _) ((X.grow hk).pushZ rfl) (.tup (.head _) h2 (h3.mono (G.le_freeze g _ _).lw))
theorem zOx{i:Int}:∀ {k:Int} {n f:Nat} {s s':S0} {m:Nat} {ob:List Ob},askN i k n f s=some (m,s',ob)->Oks ob->n+f<=1000->k=(n:Int)->SameMem s s'/\i=(m:Int)/\m<=1000
 |_,_,0,_,_,_,_,e,_,_,_=>zAx e
 |k,n,f+1,s,s',m,ob,e,ok,hn,hk=>by
  unfold askN at e;refine zAp e ?_; clear e; rintro b s₁ o₁ oA e1 e2 rfl;obtain⟨⟨o,rfl⟩,rfl⟩:=zG1 e1;have h1:decide (i=k)=b:=ok (.eq i k b) (by simp)
  cases b with
  |true =>
   refine zBk e2 ?_; clear e2; rintro rfl rfl rfl;exact⟨⟨o,rfl⟩,by rw [of_decide_eq_true h1,hk],by lia⟩
  |false =>
   obtain⟨h2,h3⟩:=zOx e2 (ok.r) (by lia) (by lia);exact⟨SameMem.trans ⟨o,rfl⟩ h2,h3⟩
theorem sim_range{v:V} {u:Value} (hv:VR cn g v u):Sim cn A g (rangeV v) (PySem.call (.type "range") [u]) (λg' d w=>VR cn g' d w):=by
 have mk:∀ {n:Nat} {t:Tok} {s s':S0} {d:V} {ob:List Ob} {S:Shared} {Q:Value->Shared->Prop} {E:Value->Shared->Prop},n<=1000->M.b (allocO (.range n)) (λr=>M.p (V.ref r)) s=some (d,s',ob)->St cn g s S.heap ->
   (∀ g' h' tk b,g.le g'->St cn g' s' h'->VR cn g' d b->Q b { S with heap:=h',toks:=tk })->wpAny (model cn.prog cn.w) A (PySem.call (.type "range") [.int (n:Int) t]) Q E S:=by
  intro n t s s' d ob S Q E hn e X hQ;refine zAp e ?_; clear e; rintro i s₁ o₁ oA e1 e2 rfl;refine zDr e1 ?_; clear e1; rintro rfl rfl rfl;refine zBk e2 ?_; clear e2; rintro rfl rfl rfl;exact call_range_1 (hQ _ _ _ _ (G.le_add g _) (X.push (o:=.range n) ⟨hn,_,_,_,IsRange.new ..⟩) (.ref (zG7 X _)))
 cases hv<;>try exact Sim.fail
 ·rename_i i t;intro s s' d ob S Q E e ok X hQ;unfold rangeV at e
  cases i with
  |negSucc=>exact zAx e
  |ofNat n =>
   dsimp only at e
   cases hn:Nat.ble n 1000 with
   |false=>rw [hn] at e; exact zAx e
   |true=>rw [hn] at e; exact mk (zD5 hn) e X hQ
 ·rename_i i t;intro s s' d ob S Q E e ok X hQ;unfold rangeV at e;refine zAp e ?_; clear e; rintro n s₁ o₁ oA e1 e2 rfl;obtain⟨hs,rfl,hn⟩:=zOx e1 (ok.l) (by decide) rfl;exact mk hn e2 (hs.st X) hQ
theorem zPe{b:Bi} {as:List V} {vs:List Value} (hv:VRs cn g as vs):Sim cn A g (builtinV b as) (PySem.call (biOf b) vs) (λg' d w=>VR cn g' d w):=by
 cases hv with
 |nil=>exact Sim.fail
 |cons h1 h2 =>
  cases h2 with
  |cons=>exact Sim.fail
  |nil =>
   cases b
   ·exact sim_len h1
   ·exact sim_abs h1
   ·exact sim_listOf h1
   ·exact zO5 h1
   ·exact sim_range h1
theorem lmOf_some{x:Str} {m:Lm} (h:lmOf x=some m):(m=.append/\x = "append")\/(m=.pop/\x = "pop")\/(m=.extend/\x = "extend"):=by
 unfold lmOf at h
 cases q1:eqS x "append" with
 |true=>rw [q1] at h; cases h; exact .inl ⟨rfl,zBa.mp q1⟩
 |false =>
  rw [q1] at h
  cases q2:eqS x "pop" with
  |true=>rw [q2] at h; cases h; exact .inr (.inl ⟨rfl,zBa.mp q2⟩)
  |false =>
   rw [q2] at h
   cases q3:eqS x "extend" with
   |true=>rw [q3] at h; cases h; exact .inr (.inr ⟨rfl,zBa.mp q3⟩)
   |false=>rw [q3] at h; cases h
theorem clsM_some{k x:Str} {f:Str} {P:Prog} (C:CallOk cn P) (h:clsM k x P.cmeths=some f):∃ C a,cn.fnv k=some C/\cn.fnv f=some a/\specialIn cn.K (.ref C) "__getattribute__" = some (some (.builtin "type.__getattribute__")) /\
  ∃ mc,readsIn cn.K C mc=true/\findCls cn.K (.ref C) mc x=some (.val (.ref a)):=C.cm _ _ _ h
inductive SlR (cn:Cn) (g:G):Sl->V->Value->Value->List Value->Prop
 |inst {k f i a}:cn.fnv k=some f->g.ρ[i]?=some a->SlR cn g (.inst k) (.ref i) (.ref a) (.ref f) [.ref a]
 |list {m l a}:g.ρ[l]?=some a->SlR cn g (.list m) (.ref l) (.ref a) (.builtin (lmId m)) [.ref a]
 |tup {ds x}:VR cn g (.tup ds) x->SlR cn g .tup (.tup ds) x (.builtin "tuple.index") [x]
 |cls {k f k' x}:cn.fnv k=some f->SlR cn g (.cls k) (.fn k') x (.ref f) []
noncomputable abbrev Got (cn:Cn) (g:G) (S:Shared) (k:Sl) (ov:V) (x:Value) (name:Str):Prop:=∃ fv first,SlR cn g k ov x fv first /\
 ∀ (A:Around) (pl:Sem Bool) (Q:Value × List Value->Shared->Prop) (E:Value->Shared->Prop),(∀ tk,Q (fv,first) { S with toks:=tk })->wpAny (model cn.prog cn.w) A (getMethod x name pl) Q E S
theorem got_list{i:Nat} {a:Addr} {m:Lm} {name:Str} {us:List Value} {n:Nat} {S:Shared} (hρ:g.ρ[i]?=some a) (hl:IsL S.heap a us.toArray n) (e:lmOf name=some m):Got cn g S (.list m) (.ref i) (.ref a) name:=by
 refine⟨_,_,.list hρ,λA pl Q E h=>?_⟩
 have hT:S.TypeIs (.ref a) "list" := ⟨_,hl,rfl⟩
 have hd:∀ b,Value.ref a=.ref b->∃ o,S.heap.get? b=some o/\o.dict=none:=λb hb=>by cases hb; exact⟨_,hl,rfl⟩
 clear hl hρ
 rcases lmOf_some e with⟨rfl,rfl⟩|⟨rfl,rfl⟩|⟨rfl,rfl⟩
 ·exact getMethod_builtin hT F.plainAttrs_list F.slot_list_append F.type_list_append hd (h S.toks)
 ·exact getMethod_builtin hT F.plainAttrs_list F.slot_list_pop F.type_list_pop hd (h S.toks)
 ·exact getMethod_builtin hT F.plainAttrs_list F.slot_list_extend F.type_list_extend hd (h S.toks)
theorem got_inst(T:Stat0 cn P) (C:ClsOk cn P) {i d:Nat} {a:Addr} {kk k' name:Str} {ks:List Str} {ds:List V} {s:S0} {S:Shared} (X:St cn g s S.heap) (hρ:g.ρ[i]?=some a) (eo:s.σ[i]?=some (.inst kk d)) (ed:s.σ[d]?=some (.attrs ks ds))
  (q:hasS name ks=false) (e:lookS name P.meths=some k'):Got cn g S (.inst k') (.ref i) (.ref a) name:=by
 obtain⟨dx,es,n,h1,h2,h3,I⟩:=zQm X hρ eo ed;obtain⟨f,h4,h5,h6⟩:=C.me _ _ e;refine⟨_,_,.inst h4 hρ,λA pl Q E h=>?_⟩
 exact method_fn (T.X.keeps X.keep) I (plainGet_of (name := "") C.pg).1 (plainGet_of (name := "") C.pg).2 h5 (beq_iff_eq.mp h6) (by show (lookIn name (dictOf es n)).map _=_; rw [lookIn_dict,h3.getN q]; rfl) (h S.toks)
theorem slotO_get(T:Stat0 cn P) (C:ClsOk cn P) {i:Nat} {a:Addr} {o:AO} {name:Str} {k:Sl} {s s':S0} {ob:List Ob} {S:Shared} (X:St cn g s S.heap) (hρ:g.ρ[i]?=some a) (eo:s.σ[i]?=some o) (e:slotO P name o s=some (k,s',ob)) :
  s'=s/\ob=[]/\Got cn g S k (.ref i) (.ref a) name:=by
 cases o with
 |list pre mid post =>
  unfold slotO at e;refine zAp e ?_; clear e; rintro m s₁ o₁ oA e3 e4 rfl;refine zCg e3 ?_; clear e3; rintro e5 rfl rfl;refine zBk e4 ?_; clear e4; rintro rfl rfl rfl;obtain⟨us,n,hl,_⟩:=X.at eo hρ;exact⟨rfl,rfl,got_list hρ hl e5⟩
 |inst kk d =>
  unfold slotO at e;refine zAp e ?_; clear e; rintro ao s₁ o₁ oA e3 e4 rfl;refine zK3 e3 ?_; clear e3; rintro ed rfl rfl
  cases ao with
  |attrs ks ds =>
   unfold slotD at e4;dsimp only at e4
   cases q:hasS name ks with
   |true=>rw [q] at e4; exact zAx e4
   |false =>
    rw [q] at e4;refine zAp e4 ?_; clear e4; rintro k' s₁ o₁ oA e5 e6 rfl;refine zCg e5 ?_; clear e5; rintro e7 rfl rfl;refine zBk e6 ?_; clear e6; rintro rfl rfl rfl;exact⟨rfl,rfl,got_inst T C X hρ eo ed q e7⟩
  |_=>exact zAx e4
 |_=>exact zAx e
theorem slot_get(T:Stat0 cn P) (C:ClsOk cn P) (CC:CallOk cn P) {ov:V} {x:Value} {name:Str} {k:Sl} {s s':S0} {ob:List Ob} {S:Shared} (hx:VR cn g ov x) (e:slotV P name ov s=some (k,s',ob)) (X:St cn g s S.heap) :
  s'=s/\ob=[]/\Got cn g S k ov x name:=by
 cases ov with
 |tup ds =>
  unfold slotV at e;dsimp only at e
  cases q:eqS name "index" with
  |false=>rw [q] at e; exact zAx e
  |true =>
   rw [q] at e;refine zBk e ?_; clear e; rintro rfl rfl rfl;cases zBa.mp q;obtain⟨a,vs,n,rfl,h1,h2,h3⟩:=hx.inv;exact⟨rfl,rfl,_,_,.tup hx,λA pl Q E h=>getMethod_builtin ⟨_,zCl X h1,rfl⟩ F.plainAttrs_tuple F.slot_tuple_index F.type_tuple_index (λb hb=>by cases hb; exact⟨_,zCl X h1,rfl⟩) (h S.toks)⟩
 |fn k' =>
  unfold slotV at e;refine zAp e ?_; clear e; rintro f s₁ o₁ oA e1 e2 rfl;refine zCg e1 ?_; clear e1; rintro e3 rfl rfl;refine zBk e2 ?_; clear e2; rintro rfl rfl rfl;obtain⟨a,rfl,ha⟩:=hx.inv;obtain⟨D,b,h1,h2,h3,mc,h4,h5⟩:=clsM_some CC e3;rw [ha] at h1; cases h1;exact⟨rfl,rfl,_,_,.cls h2,λA pl Q E h=>method_cls (T.X.keeps X.keep) h3 (cls_value (T.X.keeps X.keep) h4 h5 rfl (h _))⟩
 |ref i =>
  unfold slotV at e;refine zAp e ?_; clear e; rintro o s₁ o₁ oA e1 e2 rfl;refine zK3 e1 ?_; clear e1; rintro eo rfl rfl;obtain⟨a,rfl,hρ⟩:=hx.inv;exact slotO_get T C X hρ eo e2
 |_=>exact zAx e
end
set_option backward.match.sparseCases false
section
variable {cn:Cn} {A:Around} {g:G} {P:Prog} {c:Cx} {env:Env} {r:Rec}
theorem SlR.mono{g g':G} (h:g.le g') {k:Sl} {ov:V} {x fv:Value} {first:List Value} (H:SlR cn g k ov x fv first):SlR cn g' k ov x fv first:=by
 cases H with
 |inst h1 h2=>exact .inst h1 (h.lw.at h2)
 |list h1=>exact .list (h.lw.at h1)
 |tup h1=>exact .tup (h1.mono h.lw)
 |cls h1=>exact .cls h1
theorem sim_methT{ds:List V} {x:Value} {as:List V} {vs:List Value} (hx:VR cn g (.tup ds) x) (hv:VRs cn g as vs):Sim cn A g (methT (.tup ds) as) (PySem.call (.builtin "tuple.index") (x::vs)) (λg' d w=>VR cn g' d w):=by
 show Sim cn A g (idxT ds as) _ _
 cases hx with
 |tup h1 h2 h3 =>
 rename_i a us n;unfold idxT
 cases hv with
 |nil=>exact Sim.fail
 |cons h4 h5 =>
  cases h5 with
  |cons=>exact Sim.fail
  |nil =>
   cases h4<;>try exact Sim.fail
   rename_i y t;refine Sim.ofOpt' λv e=>?_;obtain⟨ys,j,tail,ws,h6,h7,h8,h9,rfl,h10⟩:=zQn e h3;refine Sim.val λQ E S s X h=>?_;refine zJ1 (us:=ws) (tail:=tail) (n:=n) (by rw [<-h6]; exact zCl X h1) h7 h8 h9 (h _ _ ?_);rw [Nat.zero_add]; exact .int _ _
theorem sim_callM(CC:CallOk cn P) (R:zA2 cn r) (hA:AOk A c.dep) {k:Sl} {ov:V} {x fv:Value} {first:List Value} {as:List V} {vs:List Value} (H:SlR cn g k ov x fv first) (hv:VRs cn g as vs) :
  Sim cn A g (callM r c ov as k) (PySem.call fv (first++vs)) (λg' d w=>VR cn g' d w):=by
 cases H with
 |inst h1 h2=>exact R.call hA (.fn h1) (.cons (.ref h2) hv)
 |list h1=>exact sim_methL h1 hv
 |tup h1=>exact sim_methT h1 hv
 |cls h1=>exact R.call hA (.fn h1) hv
theorem slr_keeps(T:Stat0 cn P) (CC:CallOk cn P) {k:Sl} {ov:V} {x fv:Value} {first:List Value} {s:S0} {h:Heap} (H:SlR cn g k ov x fv first) (X:St cn g s h):Keeps1 cn fv h:=by
 cases H with
 |inst h1 h2=>exact keeps_K (CC.kp _ _ h1) h (T.X.keeps X.keep)
 |list h1=>exact zNa λa h=>nomatch h
 |tup h1=>exact zNa λa h=>nomatch h
 |cls h1=>exact keeps_K (CC.kp _ _ h1) h (T.X.keeps X.keep)
theorem zPx{o:PySem.Expr} {args:List PySem.Expr} {l l':Nat} (h:okMeth o args l l'=true):baseE o=true/\args.all plainE=true/\args.length<=20/\l=l':=by
 unfold okMeth at h
 cases q1:baseE o with
 |false=>rw [q1] at h; cases h
 |true =>
  rw [q1] at h
  cases q2:args.all plainE with
  |false=>rw [q2] at h; cases h
  |true =>
   rw [q2] at h
   cases q3:Nat.ble args.length 20 with
   |false=>rw [q3] at h; cases h
   |true=>rw [q3] at h; exact⟨rfl,rfl,zD5 q3,Nat.eq_of_beq_eq_true h⟩
theorem any_not{l:List (Bool × Sem Value)} (h:l.any (·.1)=false):l.all (!·.1)=true:=by
 rw [List.all_eq_true];intro x hx;rw [List.any_eq_false] at h
 have:=h x hx
 simpa using this
theorem sim_evMeth(T:Stat0 cn P) (C:ClsOk cn P) (CC:CallOk cn P) (R:zA2 cn r) (H:zAu cn g c env) (hA:AOk A c.dep) {o:PySem.Expr} {name:Str} {apos pos:Pos} {args:List PySem.Expr} :
  Sim cn A g (evMeth P r c o name args apos.endLine pos.line) (eval (.Call (.Attribute o name apos) args [] pos) env) (λg' d w=>VR cn g' d w):=by
 unfold evMeth
 cases q:okMeth o args apos.endLine pos.line with
 |false=>exact Sim.fail
 |true =>
  obtain⟨h1,h2,h3,h4⟩:=zPx q;rw [arm_eval_Call,zOw h1];refine Sim.bind (R.ev o H hA) λg' ov x hg hx=>Sim.standAt ?_;intro s s' d ob S Q E e ok X hQ;refine zAp e ?_; clear e; rintro k s₁ o₁ oA e1 e2 rfl;obtain⟨rfl,rfl,fv,first,hs,hget⟩:=slot_get T C CC hx e1 X
  have form:methodCallForm (args.length+([]:List Keyword).length) (backTo pos (starEach args env)) (backToKw pos (keywordEach [] env))=true:=by
   unfold methodCallForm;rw [any_not (zEb h2)];show (true && true && decide (args.length+0+0<30))=true
   simp
   lia
  show wpAny _ _ (methodCall o name apos pos env x (args.length+([]:List Keyword).length) (backTo pos (starEach args env)) (backToKw pos (keywordEach [] env))) _ _ _;unfold methodCall;rw [form];refine wpAny_bind (wpAny_holding ?_);show wpAny _ _ (getMethod x name _) _ _ _;refine hget _ _ _ _ λtk=>?_
  have hp:methodCallPos true o env apos pos=Pure.pure pos:=by
   unfold methodCallPos;rw [if_pos (by simp [h4])]
  dsimp only;rw [hp];refine wpAny_bind (wpAny_pure ?_);show wpAny _ _ (callWith pos fv first (backTo pos (starEach args env)) []) _ _ _;refine zG3 (k:=λvs=>callM r c ov vs k) R (H.mono hg) hA h2 (λg1 s₁ h' ds y hg1 Y _=>slr_keeps T CC (hs.mono hg1) Y) (λg1 ds vs hg1 hv=>sim_callM CC R hA (hs.mono hg1) hv) s₁ s' d oA _ Q E e2 (ok.r) X λg2 h2' tk2 v hg2 Z hv=>hQ g2 h2' tk2 v hg2 Z hv
theorem zPb(T:Stat0 cn P) (CC:CallOk cn P) (R:zA2 cn r) (H:zAu cn g c env) (hA:AOk A c.dep) {x:Str} {p pos:Pos} {args:List PySem.Expr} :
  Sim cn A g (evCall1 r c (.Name x p) args) (eval (.Call (.Name x p) args [] pos) env) (λg' d w=>VR cn g' d w):=by
 show Sim cn A g _ (do callWith pos (<-eval (.Name x p) env) [] (backTo pos (starEach args env)) (backToKw pos (keywordEach [] env))) _;refine Sim.bind (R.ev _ H hA) λg' fv f hg hf=>?_
 refine Sim.need (p:=args.all plainE=true) (λs z h=>?_) λhp=>?_
 ·obtain⟨u,s',ob⟩:=z;refine zAp h ?_; clear h; rintro _ s₁ o₁ oA e1 e2 _;exact zOp e1
 show Sim cn A g' (M.b (evs r c args) λvs=>r.call c.dep fv vs) (callWith pos f [] (backTo pos (starEach args env)) []) _;refine zG3 (first:=[]) R (H.mono hg) hA hp (λg1 s₁ h' ds y hg1 Y e=>?_) (λg1 ds vs hg1 hv=>R.call hA (hf.mono hg1.lw) hv)
 rcases R.callee e with⟨k,rfl⟩|⟨b,rfl⟩|⟨i,ps,body,scope,cs,rfl,ei⟩
 ·cases hf with
  |fn h1=>exact keeps_K (CC.kp _ _ h1) h' (T.X.keeps Y.keep)
 ·cases hf
  exact zNa λa h=>by cases b<;>cases h
 ·cases hf with
  |ref h1 =>
   obtain⟨fd,o,ho,hd,_⟩:=Y.at ei (hg1.lw.at h1);refine⟨.frame,.inl rfl,λA Q E s k q=>?_⟩;unfold keeperOf;refine wpAny_bind (wpAny_load (k _ _ ho) ?_);rw [hd];exact wpAny_pure q
theorem sim_evCall(T:Stat0 cn P) (C:ClsOk cn P) (CC:CallOk cn P) (R:zA2 cn r) (H:zAu cn g c env) (hA:AOk A c.dep) {f:PySem.Expr} {args:List PySem.Expr} {kw:List Keyword} {pos:Pos} :
  Sim cn A g (evCall P r c f args kw pos) (eval (.Call f args kw pos) env) (λg' d w=>VR cn g' d w):=by
 unfold evCall
 cases kw with
 |cons=>exact Sim.fail
 |nil =>
  cases f<;>first|exact Sim.fail|exact sim_evMeth T C CC R H hA|exact zPb T CC R H hA
noncomputable def G.withφ (g:G) (φ:List Addr):G:={ g with φ:=φ }
theorem G.lw_withφ(g:G) (φ:List Addr):g.lw (g.withφ φ):=⟨⟨[],by simp [G.withφ]⟩,λ_ h=>h⟩
theorem lw_of_withφ{g g':G} {φ:List Addr} (h:(g.withφ φ).lw g'):g.lw g':=(G.lw_withφ g φ).trans h
theorem OR.withφ{h:Heap} {a:Addr} {o:AO} {φ:List Addr} (H:OR cn g h a o):OR cn (g.withφ φ) h a o:=H.mono (G.lw_withφ g φ) (λ_ e=>e) λ_ _ c=>c
theorem St.pushF{s:S0} {h:Heap} (X:St cn g s h) {cls:Value}:St cn (g.withφ (h.objs.size::g.φ)) { s with fr:=([],[])::s.fr } (h.push { cls:=cls,data:=.dict #[] }):=by
 have k:∀ b ob,h.get? b=some ob->(h.push { cls:=cls,data:=.dict #[] }).get? b=some ob:=λ_ _ e=>Heap.get?_push_of_some _ e;have Y:=X.grow k;have lt:∀ b,b<h.objs.size->b≠h.objs.size:=λb hb q=>Nat.lt_irrefl _ (q▸hb)
 refine⟨Y.keep,Y.objs.imp λa o _ H=>H.mono (G.lw_withφ g _) (λ_ e=>e) λ_ _ c=>c,?_,Y.fzs,Y.one,?_,?_,Y.baseρ,?_,Y.offρ,?_,Y.z0⟩
 ·refine .cons ⟨_,Heap.Ns.new h cls,λx d e=>?_⟩ (Y.frs.imp λa o _ H=>H.mono (G.lw_withφ g _) λ_ e=>e);simp [assoc] at e
 ·exact List.nodup_cons.mpr ⟨λhm=>lt _ (X.ltφ hm) rfl,X.nφ⟩
 ·intro n a o ea eo hd hm
  rcases List.mem_cons.mp hm with rfl|hm
  ·exact lt _ (X.lt ea eo hd) rfl
  ·exact X.offρφ n a o ea eo hd hm
 ·intro a hm
  rcases List.mem_cons.mp hm with rfl|hm
  ·exact zRc X (Nat.le_refl _)
  ·exact X.baseφ a hm
 ·intro a hm p hp
  rcases List.mem_cons.mp hm with rfl|hm
  ·exact λq=>lt _ (q▸Heap.lt_size (X.fzs p hp)) rfl
  ·exact X.offφ a hm p hp
theorem St.popF{s:S0} {h:Heap} {f:List Str × List V} {fr:List (List Str × List V)} {L:Addr} {φ:List Addr} (X:St cn g s h) (hf:s.fr=f::fr) (hφ:g.φ=L::φ):St cn (g.withφ φ) { s with fr:=fr } h:=by
 have hm:∀ a,a∈φ->a∈g.φ:=λa h=>by rw [hφ]; exact .tail _ h
 refine⟨X.keep,X.objs.imp λa o _ H=>H.mono (G.lw_withφ g _) (λ_ e=>e) λ_ _ c=>c,?_,X.fzs,X.one,?_,?_,X.baseρ,?_,X.offρ,?_,X.z0⟩
 ·have Y:=X.frs;rw [hf,hφ] at Y
  cases Y with
  |cons _ Y=>exact Y.imp λa o _ H=>H.mono (G.lw_withφ g _) λ_ e=>e
 ·have:=X.nφ
  rw [hφ] at this;exact (List.nodup_cons.mp this).2
 ·exact λn a o ea eo hd h=>X.offρφ n a o ea eo hd (hm _ h)
 ·exact λa h=>X.baseφ a (hm _ h)
 ·exact λa h=>X.offφ a (hm _ h)
theorem zIy{s s':S0} {u:Unit} {ob:List Ob} (e:popF s=some (u,s',ob)):(∃ f r,s.fr=f::r/\s'={ s with fr:=r })/\ob=[]:=by
 unfold popF at e
 cases h:s.fr with
 |nil=>rw [h] at e; cases e
 |cons a r=>rw [h] at e; cases e; exact⟨⟨a,r,rfl,rfl⟩,rfl⟩
theorem zK2{s s':S0} {f:List Str × List V} {u:Unit} {ob:List Ob} (e:pushF f s=some (u,s',ob)):s'={ s with fr:=f::s.fr }/\ob=[]:=by
 unfold pushF at e; cases e; exact⟨rfl,rfl⟩
theorem sizeO_some{s s':S0} {n:Nat} {ob:List Ob} (e:sizeO s=some (n,s',ob)):n=s.σ.length/\s'=s/\ob=[]:=by
 unfold sizeO at e; cases e; exact⟨rfl,rfl,rfl⟩
theorem zJc(k:NameKind):(k == NameKind.cell)=true↔k=.cell:=by cases k<;>decide
theorem zNj:∀ (names:List (Str × NameKind)) {g:G} {s s':S0} {h:Heap} {u:Unit} {ob:List Ob} {acc:List (Str × Nat)} {accA:List (Str × Addr)},St cn g s h->allocCells (cellNames names) s=some (u,s',ob) ->
  (∀ x i,lookS x acc=some i->∃ a,accA.lookup x=some a/\g.ρ[i]?=some a) ->
  ∃ g',g.le g'/\St cn g' s' (pushCells h names)/\∀ x i,lookS x (layCells s.σ.length (cellNames names) acc)=some i->∃ a,(cellsFrom h.objs.size names accA).lookup x=some a/\g'.ρ[i]?=some a
 |[],g,s,s',h,u,ob,acc,accA,X,e,hacc=>by
  refine zBk e ?_; clear e; rintro rfl rfl rfl;exact⟨g,G.le.refl g,X,hacc⟩
 |(x,k)::r,g,s,s',h,u,ob,acc,accA,X,e,hacc=>by
  by_cases hk:(k == NameKind.cell)=true
  ·have hk':=(zJc k).mp hk;subst hk';have e':M.b (allocO (.cell none)) (λ_=>allocCells (cellNames r)) s=some (u,s',ob):=e;refine zAp e' ?_; clear e'; rintro n s₁ o₁ oA e1 e2 rfl;refine zDr e1 ?_; clear e1; rintro rfl rfl rfl
   have Y:=X.push (ob:={ cls:=.type "cell", data:=.cell none }) (o:=.cell none) ⟨none,⟨_,Heap.get?_push_size _ rfl,rfl⟩,trivial⟩
   obtain⟨g',hg,Z,hz⟩:=zNj r (acc:=(x,s.σ.length)::acc) (accA:=(x,h.objs.size)::accA) Y e2 (λy i hy=>by
    unfold lookS at hy;rw [List.lookup_cons]
    cases q:eqS y x with
    |true =>
     rw [q] at hy; cases hy;rw [zBa.mp q];exact⟨h.objs.size,by simp,zG7 X _⟩
    |false =>
     rw [q] at hy;rw [beq_eq_false_iff_ne.mpr (zB9.mp q)];obtain⟨a,h1,h2⟩:=hacc y i hy
     exact⟨a,h1,(G.le_add g _).lw.at h2⟩)
   refine⟨g',(G.le_add g _).trans hg,?_,?_⟩
   ·show St cn g' s' (if (NameKind.cell == NameKind.cell)=true then pushCells (h.push { cls:=.type "cell", data:=.cell none }) r else pushCells h r)
    rw [if_pos hk]; exact Z
   ·intro y i hy;have hy':lookS y (layCells (s.σ.length+1) (cellNames r) ((x,s.σ.length)::acc))=some i:=hy
    have e9:({ s with σ:=s.σ++[AO.cell none] }:S0).σ.length=s.σ.length+1:=by simp
    rw [<-e9] at hy';obtain⟨a,h1,h2⟩:=hz y i hy';refine⟨a,?_,h2⟩;rw [Heap.size_push] at h1;show (if (NameKind.cell == NameKind.cell)=true then cellsFrom (h.objs.size+1) r ((x,h.objs.size)::accA) else cellsFrom h.objs.size r accA).lookup y=some a;rw [if_pos hk]; exact h1
  ·have hk':k≠.cell:=λq=>hk ((zJc k).mpr q)
   have e0:cellNames ((x,k)::r)=cellNames r:=by cases k<;>first|rfl|exact absurd rfl hk'
   rw [e0] at e ⊢;obtain⟨g',hg,Z,hz⟩:=zNj r X e hacc
   refine⟨g',hg,?_,?_⟩
   ·show St cn g' s' (if (k == NameKind.cell)=true then pushCells (h.push { cls:=.type "cell", data:=.cell none }) r else pushCells h r)
    rw [if_neg hk]; exact Z
   ·intro y i hy;obtain⟨a,h1,h2⟩:=hz y i hy;refine⟨a,?_,h2⟩;show (if (k == NameKind.cell)=true then cellsFrom (h.objs.size+1) r ((x,h.objs.size)::accA) else cellsFrom h.objs.size r accA).lookup y=some a;rw [if_neg hk]; exact h1
theorem zPf{c:Cx} {env:Env} (f:Str × Value->PUnit->Sem (ForInStep PUnit)) (hf:∀ n v u,f (n,v) u=(do storeName env n v; pure (.yield ⟨⟩))) {g:G} (xs:List Str) (ds:List V) (vs:List Value) (H:zAu cn g c env) (hv:VRs cn g ds vs) :
  Sim cn A g (bindAll c xs ds) (forIn (xs.zip vs) ⟨⟩ f) (λ_ _ _=>True):=by
 induction xs generalizing g ds vs with
 |nil=>cases ds with
  |nil=>rw [List.zip_nil_left,List.forIn_nil]; exact Sim.pure (a:=()) trivial
  |cons=>exact Sim.fail
 |cons x xs ih=>cases ds with
  |nil=>exact Sim.fail
  |cons d ds =>
   refine hv.cons_inv λv vs e h1 hr=>?_;subst e;rw [List.zip_cons_cons,List.forIn_cons,hf];show Sim cn A g (M.b (storeV c x d) λ_=>bindAll c xs ds) _ _;refine Sim.bind (t:=(do storeName env x v; pure (.yield ⟨⟩):Sem (ForInStep PUnit))) (R:=λ_ _ w=>w=.yield ⟨⟩) (Sim.post (zNt H h1) λ_ _ _ _ _ Q E s h=>wpAny_pure (h _ rfl)) λg' _ w hg hw=>?_;subst hw;exact ih ds vs (H.mono hg) (hr.mono hg.lw)
theorem env_st{scope:Scope} {cells:List (Str × Nat)} {clos:List (Str × Addr)} {dep:Nat} {lam:Bool} {as:List V} {vs:List Value} {ps:List Str} {qual:Str} {a:Addr} {code:Value} {s s':S0} {c:Cx} {ob:List Ob} {S:Shared} {Q:Env->Shared->Prop} {E:Value->Shared->Prop}
  (hkd:scope.kind=.function) (hdbg:lookS "__debug__" scope.names=none) (hlam:lam=true->∃ cc,code=.ref cc/\CodeHd cn.h₀ cc cn.P/\g.ρ[0]?=some cn.P)
  (hcl:∀ x i,lookS x cells=some i->∃ a,clos.lookup x=some a/\g.ρ[i]?=some a) (hv:VRs cn g as vs)
  (e:M.b (newFrame scope cells dep lam) (λc=>M.b (bindAll c ps as) λ_=>M.p c) s=some (c,s',ob)) (ok:Oks ob) (X:St cn g s S.heap)
  (hQ:∀ g' h' tk env,(g.withφ (env.locals::g.φ)).le g'->c.dep=dep->St cn g' s' h'->zAu cn g' c env->Q env { S with heap:=h',toks:=tk }) :
  wpAny (model cn.prog cn.w) A (newFunctionEnv scope mainGlobals clos (ps.zip vs) qual (some a) code none builtinsNs) Q E S:=by
 refine zAp e ?_; clear e; rintro c' s₁ o₁ oA e1 e2 rfl;refine zAp e1 ?_; clear e1; rintro _ sA oB oC e3 e4 rfl;obtain⟨rfl,rfl⟩:=zK2 e3;refine zAp e4 ?_; clear e4; rintro n sB oD oE e5 e6 rfl;obtain⟨rfl,rfl,rfl⟩:=sizeO_some e5;refine zAp e6 ?_; clear e6; rintro _ sC oF oG e7 e8 rfl;refine zBk e8 ?_; clear e8; rintro rfl rfl rfl;refine zAp e2 ?_; clear e2; rintro _ sE oH oI e9 e10 rfl;refine zBk e10 ?_; clear e10; rintro rfl rfl rfl
 have X1:=X.pushF (cls:=.type "frame")
 obtain⟨g2,hg2,X2,hc2⟩:=zNj scope.names X1 e7 hcl;simp only [newFunctionEnv,Option.isSome_none,Bool.false_eq_true,if_false];refine wpAny_bind (wpAny_alloc ?_);refine wpAny_bind (wpAny_layCells _ (λname kind cells=>by cases hkc:kind == NameKind.cell<;>simp) _ _ _ _ ?_);dsimp only
 have H2:zAu cn g2 { scope:=scope,cells:=layCells s.σ.length (cellNames scope.names) cells,dep:=dep,lam:=lam } (newEnv scope S.heap.objs.size mainGlobals (cellsFrom (S.heap.push { cls:=.type "frame", data:=.dict #[] }).objs.size scope.names clos) qual (some a) code none builtinsNs) :=
  ⟨hkd,rfl,rfl,rfl,⟨g.φ,hg2.2.2⟩,hdbg,hc2,λhl=>by obtain⟨cc,h1,h2,h3⟩:=hlam hl; exact⟨cc,h1,h2,hg2.lw.at h3⟩⟩
 have hv2:=(hv.mono (G.lw_withφ g (S.heap.objs.size::g.φ))).mono hg2.lw;refine wpAny_bind (zPf _ (λ_ _ _=>rfl) ps as vs H2 hv2 _ _ () _ _ _ E e9 (ok.r.l) X2 λg3 h3 tk3 _ hg3 X3 _=>?_);exact wpAny_pure (hQ g3 h3 tk3 _ (hg2.trans hg3) rfl X3 (H2.mono hg3))
end
set_option backward.match.sparseCases true
theorem zK5:∀ {xs:List Str} {vs:List Value} {n:Str},xs.length=vs.length->n∈xs->(List.lookup n (xs.zip vs)).isSome=true
 |[],_,_,_,h=>by simp at h
 |x::xs,[],_,h,_=>by simp at h
 |x::xs,v::vs,n,h,hn=>by
  rw [List.zip_cons_cons,List.lookup_cons]
  by_cases q:n=x
  ·subst q; simp
  ·rw [beq_eq_false_iff_ne.mpr q]
   rcases List.mem_cons.mp hn with h'|h'
   ·exact absurd h' q
   ·exact zK5 (by simpa using h) h'
theorem zFm:∀ (pre:List (Str × Value)) {xs:List Str} {vs:List Value},xs.length=vs.length->xs.Nodup->(∀ x∈xs,List.lookup x pre=none)->xs.filterMap (λn=>(List.lookup n (pre++xs.zip vs)).map λv=>(n,v))=xs.zip vs
 |_,[],_,_,_,_=>by simp
 |_,x::xs,[],h,_,_=>by simp at h
 |pre,x::xs,v::vs,h,nd,hp=>by
  obtain⟨n1,n2⟩:=List.nodup_cons.mp nd
  have e1:List.lookup x (pre++(x::xs).zip (v::vs))=some v:=by
   rw [List.lookup_append,hp x (.head _)]
   simp
  rw [List.filterMap_cons,e1]
  have ih:=zFm (pre++[(x,v)]) (xs:=xs) (vs:=vs) (by simpa using h) n2 (λy hy=>by
   rw [List.lookup_append,hp y (.tail _ hy)]
   have:¬ y=x:=λq=>n1 (q▸hy)
   simp [List.lookup_cons,beq_eq_false_iff_ne.mpr this])
  rw [List.append_assoc] at ih;show (x,v)::_=_;rw [List.zip_cons_cons]
  congr 1
theorem zipNil{γ β δ:Type} {A:List γ} {k:Nat} {i:β} {f:γ × Value->β->Sem (ForInStep β)} {g:β->Sem δ} {x:Sem δ} (h:g i=x):(forIn (A.zip (List.drop k ([]:List Value))) i f >>= g)=x:=by
 rw [List.drop_nil,List.zip_nil_right,List.forIn_nil]; exact h
theorem forNil{γ β δ:Type} {i:β} {f:γ->β->Sem (ForInStep β)} {g:β->Sem δ} {x:Sem δ} (h:g i=x):(forIn ([]:List γ) i f >>= g)=x:=by
 rw [List.forIn_nil]; exact h
theorem zLd{fd:FuncData} {xs:List Arg} (hp:fd.params=⟨[],xs,none,[],[],none,[]⟩) (hd:fd.defaults=.none) (hn:(xs.map (·.arg)).Nodup) {vals:List Value} (hl:vals.length=xs.length) :
  bindArgs fd ⟨vals,[]⟩=Pure.pure ((xs.map (·.arg)).zip vals):=by
 obtain⟨name,qn,params,body,scope,gl,cl,df,kd,doc,pm,an,cd,ct,bi⟩:=fd;dsimp only at hp hd;subst hp hd
 have h1:(xs.map (·.arg)).length=vals.length:=by simp [hl]
 have h4:¬((decide (vals.length > (xs.map (·.arg)).length) && true)=true):=by rw [h1]; simp
 refine (if_neg (c:=(decide (vals.length > (xs.map (·.arg)).length) && true)=true) h4).trans ?_
 have h2:(xs.map (·.arg)).filter (λn=>(List.lookup n ((xs.map (·.arg)).zip vals)).isNone)=[]:=by
  rw [List.filter_eq_nil_iff];intro n hm
  have:=zK5 h1 hm
  cases q:List.lookup n ((xs.map (·.arg)).zip vals) with
  |none=>rw [q] at this; cases this
  |some=>simp
 have h3:=zFm [] h1 hn (λ_ _=>rfl);rw [List.nil_append] at h3
 have h6:¬((!(List.filter (λn=>(List.lookup n ((xs.map (·.arg)).zip vals)).isNone) (List.take ((xs.map (·.arg)).length-(List.drop ((#[]:Array Value).toList.length-(xs.map (·.arg)).length) ([]:List Value)).length) (xs.map (·.arg)))).isEmpty)=true):=by
  rw [List.drop_nil,List.length_nil,Nat.sub_zero,List.take_length,h2];exact λh=>nomatch h
 refine (if_neg (c:=(!(List.filter (λn=>(List.lookup n ((xs.map (·.arg)).zip vals)).isNone) (List.take ((xs.map (·.arg)).length-(List.drop ((#[]:Array Value).toList.length-(xs.map (·.arg)).length) ([]:List Value)).length) (xs.map (·.arg)))).isEmpty)=true) h6).trans ?_;clear h6 h4 h2 hl h1
 have h5:(xs.map (λx:Arg=>x.arg)++[]).filterMap (λn=>(List.lookup n ((xs.map (λx:Arg=>x.arg)).zip vals)).map λv=>(n,v))=(xs.map (λx:Arg=>x.arg)).zip vals:=by rw [List.append_nil]; exact h3
 exact zipNil (forNil (γ:=Str) ((if_neg (λh=>nomatch h)).trans (congrArg Pure.pure h5)))
set_option backward.match.sparseCases false
structure FnAt (cn:Cn) (a:Addr) (fn:Fn):Prop where
 kd:fn.scope.kind=.function
 co:fn.scope.isCoroutine=false
 ge:fn.scope.isGenerator=false
 dbg:lookS "__debug__" fn.scope.names=none
 at_:∃ o fd,cn.h₀.get? a=some o/\o.data=.func fd/\fd.body=.stmts fn.body/\fd.scope=fn.scope/\fd.globals=mainGlobals/\fd.builtins=builtinsNs/\fd.closure=[]/\cn.h₀.CodeRec fd.code fd.qualname /\
  (fn.lam=true->∃ cc,fd.code=.ref cc/\CodeHd cn.h₀ cc cn.P) /\
  ∃ dvs,VRs cn ⟨[],cn.fzA,[]⟩ fn.dflt dvs/\∀ (s:Shared) (vals:List Value),(∀ b o,cn.h₀.get? b=some o->s.heap.get? b=some o)->vals.length+dvs.length=fn.ps.length->BindsTo s fd ⟨vals,[]⟩ (fn.ps.zip (vals++dvs))
structure FnsOk (cn:Cn) (P:Prog):Prop where
 fn:∀ k f a,lookS k P.fns=some f->cn.fnv k=some a->FnAt cn a f
 cls:∀ k ik,lookS k P.init=some ik->cn.fnv k=some cn.C/\∃ f,cn.fnv ik=some f/\findIn cn.K (.ref cn.C) "__init__" = some (some (.ref f))/\typeIn cn.K (.ref f)=some (.type "function")
 mks:makesIn cn.K cn.C=true
section
variable {cn:Cn} {A:Around} {g:G} {P:Prog} {c:Cx} {env:Env} {r:Rec}
theorem zJu{c:Cx} {xs:List Str} {ds:List V} {s:S0} {x:Unit × S0 × List Ob} (h:bindAll c xs ds s=some x):xs.length=ds.length:=by
 induction xs generalizing ds s x with
 |nil=>cases ds with
  |nil=>rfl
  |cons=>exact zAx h
 |cons y xs ih=>cases ds with
  |nil=>exact zAx h
  |cons d ds =>
   obtain⟨u,s',ob⟩:=x;have h':M.b (storeV c y d) (λ_=>bindAll c xs ds) s=some (u,s',ob):=h;refine zAp h' ?_; clear h' h; rintro _ s₁ o₁ oA e1 e2 _;exact congrArg Nat.succ (ih e2)
theorem zJt{α β:Type} {m:M α} {k:α->M β} {s s₁ sA:S0} {a:α} {b:β} {o₁ oA:List Ob} (h1:m s=some (a,s₁,o₁)) (h2:k a s₁=some (b,sA,oA)):M.b m k s=some (b,sA,o₁++oA):=by
 unfold M.b;rw [h1];dsimp only;rw [h2]
theorem AOk.deeper{A:Around} {d:Nat} (h:AOk A (d+1)) (env:Env):AOk (A.deeper env) d:=⟨h.hd,by have:=h.dp; show A.depth+1+4*d<=900; lia,by have:=h.un; show A.units+3+16*d<=8000; lia⟩
theorem AOk.creation{A:Around} {d:Nat} (h:AOk A (d+1)) {C:Addr} {rest:List Value}:AOk (A.under (.builtin "type.__call__" ⟨.ref C::rest,[]⟩)) d:=by
 have e1:Code.frames (.builtin "type.__call__" ⟨.ref C::rest,[]⟩)=0:=by rfl
 have e2:Code.weight (.builtin "type.__call__" ⟨.ref C::rest,[]⟩)=1:=by rfl
 have e3:Code.cUnits (.builtin "type.__call__" ⟨.ref C::rest,[]⟩)=1:=by
  show 1+3*Code.frames _=1;rw [e1]
 exact⟨h.hd,by have:=h.dp; show A.depth+Code.weight _+4*d<=900; rw [e2]; lia,by have:=h.un; show A.units+Code.cUnits _+16*d<=8000; rw [e3]; lia⟩
theorem zRj{o:AO} (h:isTab o=true):o=.tab:=by cases o<;>first|rfl|cases h
theorem tabOk_some{s s':S0} {u:Unit} {b:Bool} {ob:List Ob} {h:Heap} (X:St cn g s h) (e:tabOk b s=some (u,s',ob)):s'=s/\ob=[]/\(b=true->g.ρ[0]?=some cn.P):=by
 cases b with
 |false =>
  refine zBk e ?_; clear e; rintro rfl rfl rfl;exact⟨rfl,rfl,λh=>by cases h⟩
 |true =>
  refine zAp e ?_; clear e; rintro o s₁ o₁ oA e1 e2 rfl;refine zK3 e1 ?_; clear e1; rintro eo rfl rfl;unfold isTabM at e2
  cases q:isTab o with
  |false=>rw [q] at e2; exact zAx e2
  |true =>
   rw [q] at e2;refine zBk e2 ?_; clear e2; rintro rfl rfl rfl;rw [zRj q] at eo;obtain⟨a,h1,h2,_⟩:=X.obj eo;exact⟨rfl,rfl,λ_=>by rw [h1,h2]⟩
theorem sim_callFn(T:Stat0 cn P) (FO:FnsOk cn P) (R:zA2 cn r) {dep:Nat} (hA:AOk A (dep+1)) {k:Str} {a:Addr} (ha:cn.fnv k=some a) {as:List V} {vs:List Value} (hv:VRs cn g as vs) :
  SimC cn A g (callFn P r dep k as) (.call (.ref a) ⟨vs,[]⟩) (λg' d res=>∃ w,res=.ok (.ret w)/\VR cn g' d w):=by
 intro s s' d ob S Q e ok X hQ;refine zAp e ?_; clear e; rintro fn s₁ o₁ oA e1 e2 rfl;refine zCg e1 ?_; clear e1; rintro e3 rfl rfl;obtain⟨kd,co,ge,dbg,o,fd,ho,hd,hb,hsc,hgl,hbi,hcl,hcr,hlam,dvs,hdv,hbind⟩:=FO.fn _ _ _ e3 ha;refine zAp e2 ?_; clear e2; rintro _ sG oK oH e20 e21 rfl;obtain⟨rfl,rfl,hz⟩:=tabOk_some X e20;refine zAp e21 ?_; clear e21; rintro c sA oB oC e4 e5 rfl;refine zAp e5 ?_; clear e5; rintro _ sB oD oE e6 e7 rfl;refine zAp e7 ?_; clear e7; rintro fl sC oF oG e8 e9 rfl;have ok1:Oks oB:=ok.r.r.l;have ok2:∀ o∈oD,o.Ok:=ok.r.r.r.l;have ok3:∀ o∈oF,o.Ok:=ok.r.r.r.r.l;have hl:=zJu e6;have hall:VRs cn g (as++fn.dflt) (vs++dvs):=hv.append (hdv.mono X.base)
 have hlen:vs.length+dvs.length=fn.ps.length:=by
  have h1:=hall.length;rw [List.length_append] at h1;rw [hl]; exact h1
 have hkeep:=X.keep;refine codeAny_call_function hA.room (hkeep _ _ ho) hd (by rw [hsc]; exact co) (by rw [hsc]; exact ge) hb (hcr.keeps hkeep) (hbind S vs hkeep hlen _ _ _ _ ?_);rw [hsc,hgl,hbi,hcl];have e10:=zJt (k:=λc=>M.b (bindAll c fn.ps (as++fn.dflt)) λ_=>M.p c) e4 (zJt (k:=λ_=>M.p c) e6 rfl)
 refine env_st (g:=g) kd dbg (λh=>by obtain⟨cc,h1,h2⟩:=hlam h; exact⟨cc,h1,h2,hz h⟩) (λx i h=>by cases h) hall e10 (λo ho=>by
  rcases List.mem_append.mp ho with h|h
  ·exact ok1 o h
  ·exact ok2 o (by simpa using h)) X λg1 h1 tk1 env hg1 hdep X1 H1=>?_
 refine⟨(T.lim.keeps X1.keep),codeAny_func ?_⟩;refine R.exs fn.body H1 (by rw [hdep]; exact hA.deeper env) sB sC fl oF _ _ _ e8 ok3 X1 λg2 h2 tk2 w hg2 X2 hw=>?_;have hφ2:g2.φ=env.locals::g.φ:=hg2.2.2.trans (hg1.2.2)
 have fin:∀ (d':V) (w':Value),VR cn g2 d' w'->M.b popF (λ_=>M.p d') sC=some (d,s',oG)->Q (.ok (.ret w')) { S with heap:=h2,toks:=tk2 }:=by
  intro d' w' hd' e11;refine zAp e11 ?_; clear e11; rintro _ sE oH oI e12 e13 rfl;obtain⟨⟨f,fr,hf,rfl⟩,rfl⟩:=zIy e12;refine zBk e13 ?_; clear e13; rintro rfl rfl rfl
  refine hQ (g2.withφ g.φ) h2 tk2 _ ⟨?_,?_,rfl⟩ (X2.popF hf hφ2) ⟨w',rfl,hd'.mono (G.lw_withφ _ _)⟩
  ·exact (hg1.lw.trans hg2.lw).1
  ·exact (hg1.lw.trans hg2.lw).2
 cases hw with
 |next=>exact fin _ _ .none e9
 |ret h=>exact fin _ _ h e9
theorem zPd(T:Stat0 cn P) (FO:FnsOk cn P) (R:zA2 cn r) {dep:Nat} (hA:AOk A (dep+1)) {k ik:Str} {a:Addr} (ha:cn.fnv k=some a) (hi:lookS k P.init=some ik) {as:List V} {vs:List Value} (hv:VRs cn g as vs) :
  SimC cn A g (callCls r dep k ik as) (.call (.ref a) ⟨vs,[]⟩) (λg' d res=>∃ w,res=.ok (.ret w)/\VR cn g' d w):=by
 intro s s' d ob S Q e ok X hQ;obtain⟨h1,f,h2,h3,h4⟩:=FO.cls _ _ hi;rw [ha] at h1; cases h1;refine zAp e ?_; clear e; rintro dn s₁ o₁ oA e1 e2 rfl;refine zDr e1 ?_; clear e1; rintro rfl rfl rfl;refine zAp e2 ?_; clear e2; rintro xn sA oB oC e3 e4 rfl;refine zDr e3 ?_; clear e3; rintro rfl rfl rfl;refine zAp e4 ?_; clear e4; rintro v sB oD oE e5 e6 rfl;refine zAp e6 ?_; clear e6; rintro _ sC oF oG e7 e8 rfl;refine zBk e8 ?_; clear e8; rintro rfl rfl rfl
 have hn:v=.none/\s'=sB:=by
  unfold noneV at e7
  cases v<;>try exact zAx e7
  refine zBk e7 ?_; clear e7; rintro _ rfl _;exact⟨rfl,rfl⟩
 obtain⟨rfl,rfl⟩:=hn;obtain⟨hh,gg,dd,tt,os⟩:=S;have X1:=X.push (ob:=emptyDict) (o:=.attrs [] []) ⟨[],0,Heap.get?_push_size _ rfl,.nil⟩;have a1:(g.add hh.objs.size).ρ[s.σ.length]?=some hh.objs.size:=zG7 X _;have hin:(hh.push emptyDict).objs.size=hh.objs.size+1:=Heap.size_push ..;have X2:=X1.push (ob:=instObj cn.C hh.objs.size) (o:=.inst k s.σ.length) ⟨hh.objs.size,ha,(G.le_add _ _).lw.at a1,Heap.get?_push_size _ rfl⟩;have a2:=zG7 X1 (hh.push emptyDict).objs.size;have hgg:g.le ((g.add hh.objs.size).add (hh.push emptyDict).objs.size):=(G.le_add _ _).trans (G.le_add _ _);refine make_core (makes_of (T.X.keeps X.keep) FO.mks) (looks_findIn (T.X.keeps X.keep) h3) (λself=>bind_fn (T.X.keeps X.keep) self h4) (.inl rfl) ?_
 refine R.callC hA.creation h2 (.cons (.ref (g:=(g.add hh.objs.size).add (hh.push emptyDict).objs.size) (n:=(s.σ++[AO.attrs [] []]).length) (a:=hh.objs.size+1) ?_) (hv.mono hgg.lw)) _ _ _ _ ⟨_,gg,dd,tt,os⟩ _ e5 (ok.r.r.l) X2 λg' h' tk res hg Y hr=>?_
 ·rw [<-hin]; exact a2
 ·obtain⟨w,rfl,hw⟩:=hr;cases hw;refine⟨rfl,hQ g' h' tk _ (hgg.trans hg) Y ⟨_,rfl,.ref ?_⟩⟩
  have:=hg.lw.at a2
  rw [<-hin]; exact this
end
theorem zJo{p pos:Pos} {c cv:Value}:∀ (l:List Value),TriplesOk l->codeAmong p (l++[rawInt pos.line,rawInt pos.col,c])=some cv->codeAmong p l=some cv\/cv=c:=by
 intro l h e
 fun_induction TriplesOk l with
 |case1 =>
  simp only [List.nil_append,codeAmong,rawInt] at e
  split at e
  ·cases e; exact .inr rfl
  ·cases e
 |case2 a t b u x rest ih =>
  simp only [List.cons_append,codeAmong] at e ⊢
  split at e
  ·cases e; rename_i hc; rw [if_pos hc]; exact .inl rfl
  ·rename_i hc; rw [if_neg hc]; exact ih h e
 |case3 l h1 h2=>exact h.elim
structure LamOk (cn:Cn):Prop where
 top:∃ mg,cn.h₀.Ns mainGlobals mg/\cn.h₀.BuiltinsAt mg cn.P
 ne:mainGlobals≠cn.P
section
variable {cn:Cn} {A:Around} {g:G} {P:Prog} {c:Cx} {env:Env} {r:Rec}
theorem zDi{s:Scope} (h:okScope s=true):s.kind=.function/\s.isCoroutine=false/\s.isGenerator=false/\lookS "__debug__" s.names=none:=by
 unfold okScope at h
 cases h1:s.kind<;>rw [h1] at h<;>first|cases h|skip
 cases h2:s.isCoroutine<;>rw [h2] at h
 ·cases h3:s.isGenerator<;>rw [h3] at h
  ·cases h4:lookS "__debug__" s.names<;>rw [h4] at h
   ·exact⟨rfl,rfl,rfl,rfl⟩
   ·cases h
  ·cases h
 ·cases h
theorem zNi(H:zAu cn g c env) (f:Str × NameKind->List (Str × Addr)->Sem (ForInStep (List (Str × Addr))))
  (hf:∀ name kind cs,f (name,kind) cs=if kind == .free then (do let a <-cellOf env name; Pure.pure (.yield ((name,a)::cs))) else Pure.pure (.yield cs)) :
  ∀ (names:List (Str × NameKind)) (acc cs:List (Str × Nat)) (accA:List (Str × Addr)),closV c names acc=some cs->(∀ x i,lookS x acc=some i->∃ a,accA.lookup x=some a/\g.ρ[i]?=some a) ->
  ∃ clos,forIn names accA f=Pure.pure clos/\∀ x i,lookS x cs=some i->∃ a,clos.lookup x=some a/\g.ρ[i]?=some a
 |[],acc,cs,accA,e,h=>by cases e; exact⟨accA,rfl,h⟩
 |(x,k)::r,acc,cs,accA,e,h=>by
  rw [List.forIn_cons,hf]
  by_cases hk:k=.free
  ·subst hk;have e':(match lookS x c.cells with|some i=>closV c r ((x,i)::acc)|none=>none)=some cs:=e
   cases q:lookS x c.cells with
   |none=>rw [q] at e'; cases e'
   |some i =>
    rw [q] at e';obtain⟨a,h1,h2⟩:=H.cells _ _ q
    have hc:cellOf env x=Pure.pure a:=by unfold cellOf; rw [h1]
    rw [if_pos (show (NameKind.free == NameKind.free)=true from rfl),hc]
    obtain⟨clos,h3,h4⟩:=zNi H f hf r ((x,i)::acc) cs ((x,a)::accA) e' (λy j hy=>by
     unfold lookS at hy;rw [List.lookup_cons]
     cases q2:eqS y x with
     |true =>
      rw [q2] at hy; cases hy;rw [zBa.mp q2];exact⟨a,by simp,h2⟩
     |false =>
      rw [q2] at hy;rw [beq_eq_false_iff_ne.mpr (zB9.mp q2)]
      exact h y j hy)
    exact⟨clos,h3,h4⟩
  ·have e':closV c r acc=some cs:=by cases k<;>first|exact e|exact absurd rfl hk
   have hb:(k == NameKind.free)=false:=by cases k<;>first|rfl|exact absurd rfl hk
   rw [hb];obtain⟨clos,h3,h4⟩:=zNi H f hf r acc cs accA e' h;exact⟨clos,h3,h4⟩
theorem zGy(H:zAu cn g c env) {scope:Scope} {cs:List (Str × Nat)} (e:closV c scope.names []=some cs) :
  ∃ clos,closureFor scope env=Pure.pure clos/\∀ x i,lookS x cs=some i->∃ a,clos.lookup x=some a/\g.ρ[i]?=some a:=by
 obtain⟨clos,h1,h2⟩:=zNi H (λx cs=>do
  if x.2 == .free then (do let a <-cellOf env x.1; Pure.pure (.yield ((x.1,a)::cs))) else Pure.pure (.yield cs)) (λ_ _ _=>rfl) scope.names [] cs [] e (λx i h=>by cases h)
 refine⟨clos,?_,h2⟩;unfold closureFor
 have:(forIn scope.names ([]:List (Str × Addr)) λ(x:Str × NameKind) cs=>do
  if x.2 == NameKind.free then (do let a <-cellOf env x.1; Pure.pure (ForInStep.yield ((x.1,a)::cs))) else Pure.pure (ForInStep.yield cs)) >>= (λr=>Pure.pure r)=(Pure.pure clos:Sem _):=by
  rw [h1]; rfl
 refine Eq.trans ?_ this
 congr 1
theorem lamP_some{a:Arguments} {x:Str} (h:lamP a=some x):∃ y,a=⟨[],[y],none,[],[],none,[]⟩/\x=y.arg:=by
 obtain⟨po,as,va,ko,kd,kw,d⟩:=a
 cases po with
 |cons=>cases h
 |nil=>cases as with
  |nil=>cases h
  |cons y as=>cases as with
   |cons=>cases h
   |nil=>cases va with
    |some=>cases h
    |none=>cases ko with
     |cons=>cases h
     |nil=>cases kd with
      |cons=>cases h
      |nil=>cases kw with
       |some=>cases h
       |none=>cases d with
        |cons=>cases h
        |nil=>cases h; exact⟨_,rfl,rfl⟩
theorem lam_binds{fd:FuncData} {y:Arg} {s:Shared} (hp:fd.params=⟨[],[y],none,[],[],none,[]⟩) (hd:fd.defaults=.none) (hk:fd.kwdefaults=.none):∀ (vals:List Value) (s:Shared),vals.length=1->BindsTo s fd ⟨vals,[]⟩ ([y.arg].zip vals):=by
 exact λvals s hl=>BindsTo.of_eq (zLd (xs:=[y]) hp hd (List.nodup_cons.mpr ⟨λh=>(nomatch h),List.nodup_nil⟩) hl)
theorem sim_evLam(LO:LamOk cn) (H:zAu cn g c env) {args:Arguments} {body:PySem.Expr} {scope:Scope} {pos:Pos}:Sim cn A g (evLam c args body scope) (eval (.Lambda args body scope pos) env) (λg' d w=>VR cn g' d w):=by
 unfold evLam
 cases hl:c.lam with
 |false=>exact Sim.fail
 |true =>
  obtain⟨cc,hcode,CH,hρ⟩:=H.lam hl;refine Sim.obj λo s s' d ob S Q E eo e ok X hQ=>?_;unfold mkLam at e
  cases q1:isTab o with
  |false=>rw [q1] at e; exact zAx e
  |true =>
  rw [q1] at e
  cases q2:okScope scope with
  |false=>rw [q2] at e; exact zAx e
  |true =>
  rw [q2] at e;refine zAp e ?_; clear e; rintro x s₁ o₁ oA e1 e2 rfl;refine zCg e1 ?_; clear e1; rintro e3 rfl rfl;obtain⟨y,rfl,rfl⟩:=lamP_some e3;refine zAp e2 ?_; clear e2; rintro cs sA oB oC e4 e5 rfl;refine zCg e4 ?_; clear e4; rintro e6 rfl rfl;refine zAp e5 ?_; clear e5; rintro n sB oD oE e7 e8 rfl;refine zDr e7 ?_; clear e7; rintro rfl rfl rfl;refine zBk e8 ?_; clear e8; rintro rfl rfl rfl;obtain⟨clos,hcl,hcs⟩:=zGy H e6
  have:=zRj q1
  subst this;obtain⟨-,ps,hP,ht,htab⟩:=X.at eo hρ;obtain⟨mg,hg,hb⟩:=LO.top;have k0:=X.keep;obtain⟨oc,vs,file,tf,flags,tg,inF,text,tt,hc1,hc2⟩:=CH
  have CH':CodeHd _ cc cn.P:=⟨oc,vs,file,tf,flags,tg,inF,text,tt,k0 _ _ hc1,hc2⟩
  have hb':S.heap.BuiltinsAt mg cn.P:=by
   obtain⟨bm,o,h1,h2,h3,h4,h5,h6⟩:=hb;exact⟨bm,o,h1,h2,h3,h4,k0 _ _ h5,h6⟩
  have hg':=hg.keeps k0;refine kla_eval rfl ?_
  have fin:∀ (cv ctv:Value) (h':Heap) (tk:Tok) (Y:St cn g sA h'),(∃ q,h'.CodeRec cv q) ->
    Q (.ref h'.objs.size) { S with heap:=h'.push { cls:=.type "function", data:=.func (kla_fn "<lambda>" (env.qual ++ "<lambda>") ⟨[],[y],none,[],[],none,[]⟩ body scope clos ((mg "__name__").getD .none) cv ctv) },toks:=tk }:=by
   intro cv ctv h' tk Y hcr;refine hQ _ _ tk _ (G.le_add g _) (Y.push (o:=.lam [y.arg] body scope cs) ?_) (.ref (zG7 Y _))
   refine⟨_,_,Heap.get?_push_size _ rfl,rfl,rfl,rfl,rfl,rfl,?_,q2,λx i hx=>?_,λvals s hl=>lam_binds (fd:=kla_fn "<lambda>" (env.qual ++ "<lambda>") ⟨[],[y],none,[],[],none,[]⟩ body scope clos ((mg "__name__").getD .none) cv ctv) (s:=s) rfl rfl rfl vals s hl⟩
   ·obtain⟨q,hq⟩:=hcr;exact⟨q,hq.keeps λ_ _ e=>Heap.get?_push_of_some _ e⟩
   ·obtain⟨a,h1,h2⟩:=hcs x i hx;exact⟨a,h1,(G.le_add g _).lw.at h2⟩
  cases q3:codeAmong pos ps.toList with
  |some cv =>
   refine kla_makeFunctionHit (mg:=mg) hcl H.glob hg' hcode CH' hP ht q3 hb' λctv h' tk hk hsz=>fin cv ctv h' tk (X.grow hk) ?_;obtain⟨q,hq⟩:=htab _ _ q3;exact⟨q,hq.keeps hk⟩
  |none =>
   refine kla_makeFunction (mg:=mg) hcl H.glob hg' hcode CH' hP ht q3 LO.ne hb' λc' ctv h' tk hx hge hlt hrec htb=>fin (.ref c') ctv h' tk ?_ ⟨_,hrec⟩;have kr:∀ cd q,S.heap.CodeRec cd q->h'.CodeRec cd q:=zOj hx hP (λvs q t hvs=>by cases hvs; rw [<-Array.getElem?_toList]; exact triples_no_str ht q t)
   have Y:=X.ext hρ eo rfl hx kr (o':=.tab) ⟨rfl,_,htb,by rw [Array.toList_append]; exact TriplesOk_snoc _ _ _ _ ht,λp cv hcv=>by
    rw [Array.toList_append] at hcv
    rcases zJo _ ht hcv with h|rfl
    ·obtain⟨q,hq⟩:=htab _ _ h;exact⟨q,kr _ _ hq⟩
    ·exact⟨_,hrec⟩⟩
   have e9:sA.σ.set 0 AO.tab=sA.σ:=by
    obtain⟨h0,h1⟩:=List.getElem?_eq_some_iff.mp eo;rw [<-h1]; exact List.set_getElem_self h0
   rw [e9] at Y;exact Y
theorem zM9{prog:Program} {w:World} {A:Around} {R:Result->Shared->Prop} {s:Shared} {a:Addr} {args:Args} {o:Obj} {fd:FuncData} {body:PySem.Expr} {q:Str} (hroom:A.depth<recursionLimit)
  (ho:s.heap.get? a=some o)
  (hd':o.data=.func fd) (hco:fd.scope.isCoroutine=false) (hgen:fd.scope.isGenerator=false) (hbody:fd.body=.expr body) (hcd:s.heap.CodeRec fd.code q)
  (h:wpAny (model prog w) A.in1 (bindArgs fd args) (λbinds s₁ =>
   wpAny (model prog w) A.in1 (newFunctionEnv fd.scope fd.globals fd.closure binds (q ++ ".<locals>.") (some a) fd.code none fd.builtins)
    (λenv sA=>sA.heap.NoLimit/\codeAny (model prog w) A (.expr body env) R sA) (λe s'=>R (.error e) s') s₁) (λe s'=>R (.error e) s') s) :
  codeAny (model prog w) A (.call (.ref a) args) R s:=by
 refine codeAny_of_tree ?_;show wpAny _ A.in1 (callAny (.ref a) args) _ _ s
 (unfold callAny; try dsimp only)
 refine wpAny_bind (wpAny_load ho ?_);obtain⟨c,oc,vs,tq,hc,hoc,hdc,hq⟩:=hcd;simp only [hd',callFunction,hco,hgen,hbody,hc];rw [hc] at h;refine wpAny_bind (m:=field (.ref c) 1) (wpAny_field hoc hdc hq (wpAny_bind (wpAny_pure ?_)))
 exact wpAny_bind (wpAny_mono h (λbinds s₁ h₁=>wpAny_bind (wpAny_mono h₁ (λenv sA hB=>wpAny_bind (wpAny_enterFrame hB.1 hroom
  (wpAny_pure (And.intro rfl hB.2)))) λ_ _ h'=>h')) λ_ _ h'=>h')
theorem zPc(T:Stat0 cn P) (R:zA2 cn r) {dep:Nat} (hA:AOk A (dep+1)) {i:Nat} {a:Addr} (ha:g.ρ[i]?=some a) {as:List V} {vs:List Value} (hv:VRs cn g as vs) {ps:List Str} {body:PySem.Expr} {scope:Scope} {cs:List (Str × Nat)}
  {s s':S0} {d:V} {ob:List Ob} {S:Shared} {Q:Result->Shared->Prop} (ei:s.σ[i]?=some (.lam ps body scope cs)) (e:callLam r dep ps body scope cs as s=some (d,s',ob)) (ok:Oks ob) (X:St cn g s S.heap)
  (hQ:∀ g' h' tk b,g.le g'->St cn g' s' h'->VR cn g' d b->Q (.ok (.ret b)) { S with heap:=h',toks:=tk }):codeAny (model cn.prog cn.w) A (.call (.ref a) ⟨vs,[]⟩) Q S:=by
 obtain⟨fd,o,ho,hd,hb,hsc,hgl,hbi,⟨q,hcr⟩,hos,hcl,hbind⟩:=X.at ei ha;obtain⟨kd,co,ge,dbg⟩:=zDi hos;refine zAp e ?_; clear e; rintro c sA oB oC e4 e5 rfl;refine zAp e5 ?_; clear e5; rintro _ sB oD oE e6 e7 rfl;refine zAp e7 ?_; clear e7; rintro v sC oF oG e8 e9 rfl;refine zAp e9 ?_; clear e9; rintro _ sE oH oI e12 e13 rfl;obtain⟨⟨f,fr,hf,rfl⟩,rfl⟩:=zIy e12;refine zBk e13 ?_; clear e13; rintro rfl rfl rfl;have ok1:Oks oB:=ok.l;have ok2:∀ o∈oD,o.Ok:=ok.r.l;have ok3:∀ o∈oF,o.Ok:=ok.r.r.l;have hl:=zJu e6
 have hlen:vs.length=ps.length:=by rw [hv.length,hl]
 refine zM9 hA.room ho hd (by rw [hsc]; exact co) (by rw [hsc]; exact ge) hb hcr (hbind vs S hlen _ _ _ _ ?_);rw [hsc,hgl,hbi];have e10:=zJt (k:=λc=>M.b (bindAll c ps as) λ_=>M.p c) e4 (zJt (k:=λ_=>M.p c) e6 rfl)
 refine env_st (g:=g) kd dbg (λh=>by cases h) hcl hv e10 (λo ho=>by
  rcases List.mem_append.mp ho with h|h
  ·exact ok1 o h
  ·exact ok2 o (by simpa using h)) X λg1 h1 tk1 env hg1 hdep X1 H1=>?_
 refine⟨(T.lim.keeps X1.keep),kla_codeExpr ?_⟩;refine R.ev body H1 (by rw [hdep]; exact hA.deeper env) sB sC _ oF _ _ _ e8 ok3 X1 λg2 h2 tk2 w hg2 X2 hw=>?_;have hφ2:g2.φ=env.locals::g.φ:=hg2.2.2.trans (hg1.2.2)
 refine hQ (g2.withφ g.φ) h2 tk2 _ ⟨?_,?_,rfl⟩ (X2.popF hf hφ2) (hw.mono (G.lw_withφ _ _))
 ·exact (hg1.lw.trans hg2.lw).1
 ·exact (hg1.lw.trans hg2.lw).2
theorem zC3{α:Type} {s:S0} {x:α × S0 × List Ob} (h:(fail:M α) s=some x):False:=by unfold fail at h; cases h
theorem zGz{n:Nat} {f:V} {as:List V} {s:S0} {x:V × S0 × List Ob} (h:call P r n f as s=some x):∃ d,n=d+1/\((∃ k,f=.fn k)\/(∃ b,f=.raw b)\/(∃ i ps body scope cs,f=.ref i/\s.σ[i]?=some (.lam ps body scope cs))):=by
 unfold call at h
 cases n with
 |zero=>exact (zC3 h).elim
 |succ d =>
  refine⟨d,rfl,?_⟩
  cases f with
  |fn k=>exact .inl ⟨_,rfl⟩
  |raw b=>exact .inr (.inl ⟨_,rfl⟩)
  |ref i =>
   obtain⟨u,s',ob⟩:=x;refine zAp h ?_; clear h; rintro o s₁ o₁ oA e1 e2 _;refine zK3 e1 ?_; clear e1; rintro eo rfl rfl;unfold callObj at e2
   cases o<;>first|exact zAx e2|skip
   exact .inr (.inr ⟨i,_,_,_,_,rfl,eo⟩)
  |none=>exact (zC3 h).elim
  |bool=>exact (zC3 h).elim
  |int=>exact (zC3 h).elim
  |sym=>exact (zC3 h).elim
  |str=>exact (zC3 h).elim
  |tup=>exact (zC3 h).elim
  |lst=>exact (zC3 h).elim
  |dct=>exact (zC3 h).elim
theorem zIr(T:Stat0 cn P) (FO:FnsOk cn P) (R:zA2 cn r) {n:Nat} (hA:AOk A n) {k:Str} {a:Addr} (ha:cn.fnv k=some a) {as:List V} {vs:List Value} (hv:VRs cn g as vs) :
  SimC cn A g (call P r n (.fn k) as) (.call (.ref a) ⟨vs,[]⟩) (λg' d res=>∃ w,res=.ok (.ret w)/\VR cn g' d w):=by
 cases n with
 |zero=>exact λs s' d ob S Q e=>by unfold call at e; exact zAx e
 |succ d =>
  show SimC cn A g (callK P r d k as (lookS k P.init)) _ _
  cases q:lookS k P.init with
  |some ik=>exact zPd T FO R hA ha q hv
  |none=>exact sim_callFn T FO R hA ha hv
theorem zQ2(T:Stat0 cn P) (FO:FnsOk cn P) (R:zA2 cn r) {n:Nat} (hA:AOk A n) {f:V} {fv:Value} (hf:VR cn g f fv) {as:List V} {vs:List Value} (hv:VRs cn g as vs) :
  Sim cn A g (call P r n f as) (PySem.call fv vs) (λg' d w=>VR cn g' d w):=by
 intro s s' d ob S Q E e ok X hQ;obtain⟨dd,rfl,h⟩:=zGz e
 rcases h with⟨k,rfl⟩|⟨b,rfl⟩|⟨i,ps,body,scope,cs,rfl,ei⟩
 ·cases hf with
  |fn ha =>
   refine wpAny_call (zIr T FO R hA ha hv s s' d ob S _ e ok X λg' h' tk res hg Y hr=>?_);obtain⟨w,rfl,hw⟩:=hr;exact hQ g' h' tk w hg Y hw
 ·cases hf;exact zPe hv s s' d ob S Q E e ok X hQ
 ·cases hf with
  |ref ha =>
   have e':M.b (obj i) (callObj r dd as) s=some (d,s',ob):=e;refine zAp e' ?_; clear e'; rintro o s₁ o₁ oA e1 e2 rfl;refine zK3 e1 ?_; clear e1; rintro eo rfl rfl;rw [ei] at eo; cases eo;exact wpAny_call (zPc T R hA ha hv ei e2 ok X λg' h' tk b hg Y hb=>hQ g' h' tk b hg Y hb)
theorem iter_self{s:S0} {S:Shared} {i:Nat} {it:Addr} {o:AO} {Q:Value->Shared->Prop} {E:Value->Shared->Prop} (X:St cn g s S.heap) (hi:g.ρ[i]?=some it) (eo:s.σ[i]?=some o) (ho:(∃ v k,o=.iter v k)\/(∃ k n,o=.riter k n)) (h:Q (.ref it) S) :
  wpAny (model cn.prog cn.w) A (pyIter (.ref it)) Q E S:=by
 have Y:=X.at eo hi;clear s i X hi eo
 rcases ho with⟨v,k,rfl⟩|⟨k,n,rfl⟩
 ·obtain⟨l,hv,hit⟩:=Y;clear hv
  cases v<;>first|exact wpAny_pyIter_tupleiter hit h|exact wpAny_pyIter_listiter hit h
 ·exact wpAny_pyIter_rangeiter Y h
theorem sim_addL{n:Nat} {acc:Addr} {w:V} {x:Value} (hn:g.ρ[n]?=some acc) (hx:VR cn g w x):Sim cn A g (addL n w) (PySem.call (.builtin "list.append") [.ref acc,x]) (λ_ _ _=>True):=by
 refine Sim.obj λo s s' d ob S Q E eo e ok X hQ=>?_
 cases o<;>try exact zAx e
 rename_i pre mid post
 have e2:methL .append (.ref n) [w] s=some (.none,s',ob):=by
  refine zAp e ?_; clear e; rintro _ s₁ o₁ oA e1 e3 rfl;obtain⟨rfl,rfl⟩:=zE6 e1;refine zFt e3 ?_; clear e3; rintro rfl rfl;unfold methL;refine zJt (s₁:=s₁) (a:=.list pre mid post) (o₁:=[]) (by unfold obj; rw [eo]) ?_;rfl
 exact zK0 hn (.cons hx .nil) s s' .none ob S Q E e2 ok X λg' h' tk b hg Y _=>hQ g' h' tk b hg Y trivial
theorem zQ1(R:zA2 cn r) (H:zAu cn g c env) (hA:AOk A c.dep) {elt iter:PySem.Expr} {x:Str} {p pos:Pos} {t:Option PySem.Expr} {scope:Scope} {i n:Nat} {it acc:Addr} (hi:g.ρ[i]?=some it) (hn:g.ρ[n]?=some acc) :
  SimC cn A g (comp r c elt x t i n) (.compLoop (.ListComp elt [⟨.Name x p,iter,ifsOf t,0⟩] scope pos) 0 (.ref it) (.ref acc) env) (λ_ _ res=>res=.ok .next):=by
 intro s s' u ob S Q e ok X hQ;refine zAp e ?_; clear e; rintro d s₁ o₁ oA e1 e2 rfl;have ok1:Oks o₁:=ok.l;have ok2:Oks oA:=ok.r;clear ok;refine codeAny_of_tree ?_;rw [Around.under_of_weight rfl];show wpAny _ A ((compTurn (.ListComp elt [⟨.Name x p,iter,ifsOf t,0⟩] scope pos) 0 (.ref it) (.ref acc) env).onRaise (λx=>do noteFrame x env; theTreesLotGoes x)) _ _ _;refine wpAny_onRaise ?_;rw [compTurn_list];refine wpAny_bind (wpAny_standAt (wpAny_bind (zFa hA.hd hi s s₁ d o₁ S _ _ e1 ok1 X λg1 h1 tk1 b hg1 Y hb=>?_)));clear X o₁ e1 ok1
 cases d with
 |none =>
  cases b with
  |some=>exact hb.elim
  |none =>
   refine zBk e2 ?_; clear e2; rintro rfl rfl rfl;exact wpAny_pure (hQ g1 h1 tk1 _ hg1 Y rfl)
 |some v =>
  cases b with
  |none=>exact hb.elim
  |some y =>
   have e2':M.b (storeV c x v) (λ_=>M.b (compT r c t) (compE r c elt x t i n)) s₁=some (u,s',oA):=e2;clear e2;refine zAp e2' ?_; clear e2'; rintro _ sA oB oC e3 e4 rfl;refine zAp e4 ?_; clear e4; rintro tb sB oD oE e5 e6 rfl;have ok3:Oks oB:=λo ho=>ok2 o (by simp [ho]);have ok5:∀ o∈oD,o.Ok:=λo ho=>ok2 o (by simp [ho]);have ok6:∀ o∈oE,o.Ok:=λo ho=>ok2 o (by simp [ho]);clear ok2;have H1:=H.mono hg1;refine wpAny_bind (wpAny_of_eq (a:=()) rfl ?_);refine wpAny_bind (wpAny_bind (wpAny_standAt (zEj H1 hb s₁ sA () oB _ _ _ e3 ok3 Y λg2 h2 tk2 _ hg2 Z _=>?_)));clear s₁ Y oB e3 ok3;have H2:=H1.mono hg2;have hg12:=hg1.trans hg2
   have rest:∀ (E:Value->Shared->Prop) g3 h3 tk3 (b:Bool),g2.le g3->St cn g3 sB h3->tb=b->wpAny (model cn.prog cn.w) A (if b=true then ((do let yA <-eval elt env; let _ <-PySem.call (.builtin "list.append") [.ref acc,yA]; Pure.pure ():Sem Unit) >>= λ_=>PySem.again (.compLoop (.ListComp elt [⟨.Name x p,iter,ifsOf t,0⟩] scope pos) 0 (.ref it) (.ref acc) env)) else PySem.again (.compLoop (.ListComp elt [⟨.Name x p,iter,ifsOf t,0⟩] scope pos) 0 (.ref it) (.ref acc) env):Sem Fin)
     (λfin s'=>match fin with | .done f=>Q (.ok f) s' | .again c'=>c'.quiet=true/\codeAny (model cn.prog cn.w) A c' Q s') E { S with heap:=h3,toks:=tk3 }:=by
    intro E g3 h3 tk3 b hg3 W hb;subst hb;have hg123:=hg12.trans hg3
    cases tb with
    |false =>
     exact wpAny_pure ⟨rfl,R.comp (H.mono hg123) hA (hg123.lw.at hi) (hg123.lw.at hn) sB s' u oE _ _ e6 ok6 W λg4 h4 tk4 res hg4 V hres=>hQ g4 h4 tk4 res (hg123.trans hg4) V hres⟩
    |true =>
     refine zAp e6 ?_; clear e6; rintro w sC oF oG e7 e8 rfl;refine zAp e8 ?_; clear e8; rintro _ sE oH oI e9 e10 rfl;have ok7:∀ o∈oF,o.Ok:=λo ho=>ok6 o (by simp [ho]);have ok9:∀ o∈oH,o.Ok:=λo ho=>ok6 o (by simp [ho]);have ok10:∀ o∈oI,o.Ok:=λo ho=>ok6 o (by simp [ho]);refine wpAny_bind (wpAny_bind (R.ev elt (H.mono hg123) hA sB sC w oF _ _ _ e7 ok7 W λg4 h4 tk4 y hg4 V hy=>?_));have hg1234:=hg123.trans hg4;refine wpAny_bind (sim_addL (hg1234.lw.at hn) hy sC sE () oH _ _ _ e9 ok9 V λg5 h5 tk5 _ hg5 U _=>?_);have hgg:=hg1234.trans hg5;exact wpAny_pure (wpAny_pure ⟨rfl,R.comp (H.mono hgg) hA (hgg.lw.at hi) (hgg.lw.at hn) sE s' u oI _ _ e10 ok10 U λg6 h6 tk6 res hg6 T' hres=>hQ g6 h6 tk6 res (hgg.trans hg6) T' hres⟩)
   clear H hi hn s' u hQ oE e6 ok6 hg12
   cases t with
   |none =>
    refine zBk e5 ?_; clear e5; rintro rfl rfl rfl;refine wpAny_bind (wpAny_tests_nil ?_);exact rest _ g2 h2 tk2 true (G.le.refl g2) Z rfl
   |some tt =>
    refine wpAny_bind (wpAny_tests_one (R.tst tt H2 hA sA sB tb oD _ _ _ e5 ok5 Z λg3 h3 tk3 b hg3 W hb=>?_));exact rest _ g3 h3 tk3 b hg3 W hb.symm
theorem St.other{s:S0} {h h':Heap} {C:Addr} (X:St cn g s h) (hs:Heap.SameBut C h h') (kr:∀ cd q,h.CodeRec cd q->h'.CodeRec cd q) (h1:∀ (n:Nat) (o:AO),g.ρ[n]?=some C->s.σ[n]?=some o->isDead o=true) (h2:C∉g.φ) (h3:∀ p∈g.fz,p.1≠C) (h4:cn.h₀.get? C=none):St cn g s h':=by
 refine⟨λb o e=>(hs.2 b (zFx h4 e)).trans (X.keep b o e),?_,X.frs.imp λb f hb H=>H.mono (G.lw.refl g) λob e=>(hs.2 b (λq=>h2 (q▸hb))).trans e,λp hp=>(hs.2 p.1 (h3 p hp)).trans (X.fzs p hp),X.one,X.nφ,X.offρφ,X.baseρ,X.baseφ,X.offρ,X.offφ,X.z0⟩;refine Lay.of X.objs.length λm b ob eb eo=>?_
 cases hdo:isDead ob with
 |true=>cases ob<;>first|trivial|cases hdo
 |false =>
  have hb:b≠C:=λq=>by
   subst q;rw [h1 m ob eb eo] at hdo; cases hdo
  exact (X.at eo eb).mono (G.lw.refl g) (λob e=>(hs.2 b hb).trans e) kr
theorem zFz{names:List (Str × NameKind)}:∀ {l:List (Str × NameKind)},locOk names l=true->(∀ x∈l,x.2=.local->names.lookup x.1=some .local)/\(∀ x∈l,x.2≠.cell)
 |[],_=>⟨λ_ h=>(nomatch h),λ_ h=>(nomatch h)⟩
 |(x,k)::l,h=>by
  unfold locOk at h
  cases k with
  |«local» =>
   dsimp only at h
   cases q:lookS x names with
   |none=>rw [q] at h; cases h
   |some k' =>
    rw [q] at h
    cases k'<;>first|cases h|skip
    obtain⟨h1,h2⟩:=zFz h
    refine⟨λy hy hl=>?_,λy hy=>?_⟩
    ·rcases List.mem_cons.mp hy with rfl|hy
     ·rw [<-zM1]; exact q
     ·exact h1 y hy hl
    ·rcases List.mem_cons.mp hy with rfl|hy
     ·exact λq=>nomatch q
     ·exact h2 y hy
  |cell=>cases h
  |_ =>
   obtain⟨h1,h2⟩:=zFz (l:=l) h
   refine⟨λy hy hl=>?_,λy hy=>?_⟩
   ·rcases List.mem_cons.mp hy with rfl|hy
    ·cases hl
    ·exact h1 y hy hl
   ·rcases List.mem_cons.mp hy with rfl|hy
    ·exact λq=>nomatch q
    ·exact h2 y hy
theorem zPz:∀ {l:List (Str × NameKind)} (n:Nat) (h:Heap) (acc:List (Str × Addr)),(∀ x∈l,x.2≠.cell)->cellsFrom n l acc=acc/\pushCells h l=h
 |[],_,_,_,_=>⟨rfl,rfl⟩
 |(x,k)::l,n,h,acc,hl=>by
  have hk:¬ (k == NameKind.cell)=true:=λq=>hl (x,k) (.head _) ((zJc k).mp q);obtain⟨h1,h2⟩:=zPz (l:=l) n h acc λy hy=>hl y (.tail _ hy);unfold cellsFrom pushCells;rw [if_neg hk,if_neg hk];exact⟨h1,h2⟩
theorem relab_eq(H:zAu cn g c env) (scope:Scope):relabel scope env=relab scope c:=by
 unfold relabel relab
 have hk:(env.scope.kind == ScopeKind.function)=true:=by rw [H.kind]; rfl
 congr 1
 apply List.map_congr_left;rintro ⟨n,k⟩ _;dsimp only;rw [H.kindOf,hk]
 cases k<;>try rfl
 simp only [Bool.and_true]
 cases q:lookS n c.scope.names with
 |none=>rfl
 |some k'=>cases k'<;>rfl
theorem zOh{f:Str × NameKind->Str × NameKind} (hf:∀ p,(f p).1=p.1) {x:Str}:∀ {l:List (Str × NameKind)},lookS x l=none->lookS x (l.map f)=none
 |[],_=>rfl
 |p::l,h=>by
  unfold lookS at h;rw [List.map_cons];unfold lookS;rw [hf]
  cases q:eqS x p.1 with
  |true=>rw [q] at h; cases h
  |false=>rw [q] at h; exact zOh hf h
theorem relab_dbg{scope:Scope} (h:lookS "__debug__" scope.names=none):lookS "__debug__" (relab scope c).names=none:=by
 unfold relab;refine zOh (λp=>?_) h;obtain⟨n,k⟩:=p
 cases k<;>try rfl
 dsimp only
 cases lookS n c.scope.names with
 |none=>rfl
 |some k2=>cases k2<;>rfl
theorem iterV_some{v:V} {s s':S0} {i:Nat} {ob:List Ob} (e:iterV v s=some (i,s',ob)):∃ o,s'.σ[i]?=some o/\((∃ v k,o=.iter v k)\/(∃ k n,o=.riter k n)):=by
 have al:∀ {o:AO} {s s':S0} {i:Nat} {ob:List Ob},allocO o s=some (i,s',ob)->s'.σ[i]?=some o:=by
  intro o s s' i ob e;refine zDr e ?_; clear e; rintro rfl rfl rfl
  simp
 unfold iterV at e
 cases v with
 |tup ds=>exact⟨_,al e,.inl ⟨_,_,rfl⟩⟩
 |lst ds=>exact⟨_,al e,.inl ⟨_,_,rfl⟩⟩
 |ref n =>
  refine zAp e ?_; clear e; rintro o s₁ o₁ oA e1 e2 rfl;refine zK3 e1 ?_; clear e1; rintro eo rfl rfl;clear eo
  cases o<;>first|exact zAx e2|skip
  ·exact⟨_,al e2,.inl ⟨_,_,rfl⟩⟩
  ·exact⟨_,al e2,.inr ⟨_,_,rfl⟩⟩
 |none=>exact zAx e
 |bool=>exact zAx e
 |int=>exact zAx e
 |sym=>exact zAx e
 |str=>exact zAx e
 |dct=>exact zAx e
 |fn=>exact zAx e
 |raw=>exact zAx e
theorem zOq(R:zA2 cn r) (H:zAu cn g c env) (hA:AOk A c.dep) {elt iter:PySem.Expr} {x:Str} {p pos:Pos} {ifs:List PySem.Expr} {scope:Scope} {use:Option (Value->Sem Unit)} {n:Nat} {s sD:S0} {ob:List Ob} {S:Shared} {Q:Value->Shared->Prop} {E:Value->Shared->Prop}
  (e:evComp1 r c elt x iter ifs scope s=some (n,sD,ob)) (ok:Oks ob) (X:St cn g s S.heap)
  (fin:∀ g5 h5 tk5 C acc,g5.φ=C::g.φ->g.lw g5->St cn g5 sD h5->g5.ρ[n]?=some acc->compPost (model cn.prog cn.w) A E use Q (.ref acc) C (.ok .next) { S with heap:=h5,toks:=tk5 }) :
  wpAny (model cn.prog cn.w) A (comprehension (.ListComp elt [⟨.Name x p,iter,ifs,0⟩] scope pos) scope env (firstIterPos [⟨.Name x p,iter,ifs,0⟩] pos) (newList []) (firstAsync [⟨.Name x p,iter,ifs,0⟩]) (firstIter [⟨.Name x p,iter,ifs,0⟩] env) use) Q E S:=by
 unfold evComp1 at e
 cases q:okComp scope with
 |false=>rw [q] at e; exact zAx e
 |true =>
 rw [q] at e;unfold okComp at q
 cases q1:okScope scope with
 |false=>rw [q1] at q; cases q
 |true =>
 rw [q1] at q;obtain⟨kd,_,_,dbg⟩:=zDi q1;obtain⟨hloc,hcell⟩:=zFz q;refine zAp e ?_; clear e; rintro v s₁ o₁ oA e1 e2 rfl;refine zAp e2 ?_; clear e2; rintro i sA oB oC e3 e4 rfl;refine zAp e4 ?_; clear e4; rintro n' sB oD oE e5 e6 rfl;refine zDr e5 ?_; clear e5; rintro rfl rfl rfl;refine zAp e6 ?_; clear e6; rintro cs sC oF oG e7 e8 rfl;refine zCg e7 ?_; clear e7; rintro e9 rfl rfl;refine zAp e8 ?_; clear e8; rintro _ sE oH oI e10 e11 rfl;obtain⟨rfl,rfl⟩:=zK2 e10;refine zAp e11 ?_; clear e11; rintro _ sF oJ oL e12 e13 rfl;refine zBk e13 ?_; clear e13; rintro rfl rfl rfl;have ok1:Oks o₁:=ok.l;have ok2:Oks oB:=ok.r.l;have ok3:∀ o∈oJ,o.Ok:=ok.r.r.r.r.r.l;have hp:=zDu e1;obtain⟨clos,hclos,_⟩:=zGy H e9;refine wpAny_comprehension_free rfl (λy=>zEc hp) hclos kd hloc ?_;refine zDx R H hA s s₁ v o₁ S _ E e1 ok1 X λg1 h1 tk1 y hg1 X1 hy=>?_;refine zIo hy s₁ sA i oB _ _ E e3 ok2 X1 λg2 h2 tk2 it hg2 X2 hit=>?_;obtain⟨ia,rfl,hia⟩:=hit;refine wpAny_newObj_type ?_ (by size_fits)
 have X3:=X2.push (ob:={ cls:=.type "list", data:=.seq ([]:List Value).toArray }) (o:=.list [] [] []) ⟨[],0,Heap.get?_push_size _ rfl,by decide,.nil,λd hd=>nomatch hd⟩
 have ha3:=zG7 X2 h2.objs.size
 have hg3:=((hg1.trans hg2).trans (G.le_add g2 h2.objs.size))
 have H3:=H.mono hg3;obtain⟨clos',hclos',hcs⟩:=zGy H3 e9
 have hcc:clos'=clos:=by rw [hclos] at hclos'; cases hclos'; rfl
 subst hcc
 have X4:=X3.pushF (cls:=.type "dict")
 simp only [newFunctionEnv,Option.isSome_some,if_true];refine wpAny_bind (wpAny_alloc ?_);refine wpAny_bind (wpAny_layCells _ (λname kind cells=>by cases hkc:kind == NameKind.cell<;>simp) _ _ _ _ ?_);rw [(zPz _ h2 _ hcell).1,(zPz 0 _ [] hcell).2];refine wpAny_bind (wpAny_pure (wpAny_pure ?_));dsimp only
 have hia4:((g2.add h2.objs.size).withφ ((h2.push { cls:=Value.type "list", data:=Data.seq #[] }).objs.size::(g2.add h2.objs.size).φ)).ρ[i]?=some ia:=(G.le_add g2 h2.objs.size).lw.at hia
 obtain⟨io,hio,hio2⟩:=iterV_some e3
 have hio4:(sA.σ++[AO.list [] [] []])[i]?=some io:=by
  rw [List.getElem?_append_left (by obtain⟨h,_⟩:=List.getElem?_eq_some_iff.mp hio; exact h)]; exact hio
 have H4:zAu cn ((g2.add h2.objs.size).withφ ((h2.push { cls:=Value.type "list", data:=Data.seq #[] }).objs.size::(g2.add h2.objs.size).φ)) (compCx c scope cs)
   { scope:=relabel scope env,locals:=(h2.push { cls:=Value.type "list", data:=Data.seq #[] }).objs.size,globals:=env.globals,cells:=clos',qual:=env.qual,code:=env.code,frame:=env.frame,builtins:=env.builtins } :=
  ⟨kd,relab_eq H scope,H.glob,H.bi,⟨_,rfl⟩,relab_dbg dbg,hcs,λh=>by cases h⟩
 have fin:∀ g' h' tk r,((g2.add h2.objs.size).withφ ((h2.push { cls:=Value.type "list", data:=Data.seq #[] }).objs.size::(g2.add h2.objs.size).φ)).le g'->St cn g' sD h'->r=.ok .next ->
   compPost (model cn.prog cn.w) A E use Q (Value.ref h2.objs.size) (h2.push { cls:=Value.type "list", data:=Data.seq #[] }).objs.size r { S with heap:=h',toks:=tk }:=by
  rintro g5 h5 tk5 _ hg5 X5 rfl;exact fin g5 h5 tk5 _ _ (hg5.2.2.trans (by show _::(g2.add h2.objs.size).φ=_; rw [hg3.2.2])) (hg3.lw.trans (lw_of_withφ hg5.lw)) X5 (hg5.lw.at ha3)
 have loop:codeAny (model cn.prog cn.w) A (.compLoop (.ListComp elt [⟨.Name x p,iter,ifs,0⟩] scope pos) 0 (.ref ia) (.ref h2.objs.size)
   { scope:=relabel scope env,locals:=(h2.push { cls:=Value.type "list", data:=Data.seq #[] }).objs.size,globals:=env.globals,cells:=clos',qual:=env.qual,code:=env.code,frame:=env.frame,builtins:=env.builtins })
   (compPost (model cn.prog cn.w) A E use Q (Value.ref h2.objs.size) (h2.push { cls:=Value.type "list", data:=Data.seq #[] }).objs.size)
   { S with heap:=(h2.push { cls:=Value.type "list", data:=Data.seq #[] }).push { cls:=Value.type "dict", data:=Data.dict #[] },toks:=tk2 }:=by
  cases ifs with
  |nil=>exact R.comp (t:=none) H4 (hA.le (Nat.sub_le _ _)) hia4 ha3 _ sD _ oJ _ _ e12 ok3 X4 λg' h' tk r hg Y hr=>fin g' h' tk r hg Y hr
  |cons t ts =>
   cases ts with
   |cons=>unfold evComp' at e12; exact zAx e12
   |nil=>exact R.comp (t:=some t) H4 (hA.le (Nat.sub_le _ _)) hia4 ha3 _ sD _ oJ _ _ e12 ok3 X4 λg' h' tk r hg Y hr=>fin g' h' tk r hg Y hr
 exact codeAny_compStart_list loop (iter_self X4 hia4 hio4 hio2 loop)
theorem zRq{g5:G} {sD s':S0} {h5:Heap} {C acc:Addr} {φ:List Addr} {n:Nat} {d:V} {ob:List Ob} (X5:St cn g5 sD h5) (hφ:g5.φ=C::φ) (ha:g5.ρ[n]?=some acc) (e:M.b popF (λ_=>freezeL n) sD=some (d,s',ob)) :
  (∃ m,h5.Ns C m)/\C∉φ/\∃ g',g5.lw g'/\g'.φ=φ/\VR cn g' d (.ref acc)/\St cn g' s' h5/\(∀ h' oc,h5.get? C=some oc->(∀ vs,oc.data≠.fields vs)->∀ {g7:G} {s7:S0} {h7 h8:Heap},g'.le g7->St cn g7 s7 h7->(∀ (n:Nat) (o:AO),g7.ρ[n]?=some C->s7.σ[n]?=some o->isDead o=true)->(∀ p∈g7.fz,p.1≠C)->h7.get? C=some oc->Heap.SameBut C h7 h8->h'=h8->St cn g7 s7 h8) /\
   (∀ (n:Nat) (o:AO),g'.ρ[n]?=some C->s'.σ[n]?=some o->isDead o=true)/\(∀ p∈g'.fz,p.1≠C):=by
 refine zAp e ?_; clear e; rintro _ sF oM oN e14 e15 rfl;obtain⟨⟨f,fr,hf,rfl⟩,rfl⟩:=zIy e14
 have hC:C∈g5.φ:=by rw [hφ]; exact .head _
 have nd:=X5.nφ;rw [hφ] at nd;obtain⟨n1,n2⟩:=List.nodup_cons.mp nd
 refine⟨?_,n1,?_⟩
 ·have Y:=X5.frs;rw [hφ,hf] at Y
  cases Y with
  |cons h _=>obtain⟨m,hm,_⟩:=h; exact⟨m,hm⟩
 have Y:=X5.popF hf hφ;refine zAp e15 ?_; clear e15; rintro o sI oO oP e21 e22 rfl;refine zK3 e21 ?_; clear e21; rintro eo rfl rfl
 cases qi:itemsOf o with
 |none=>rw [qi] at e22; exact zAx e22
 |some ds =>
  rw [qi] at e22;obtain⟨pre,post,rfl,rfl⟩:=zC6 qi;refine zAp e22 ?_; clear e22; rintro _ sJ oQ oR e23 e24 rfl;refine zFt e23 ?_; clear e23; rintro rfl rfl;refine zBk e24 ?_; clear e24; rintro rfl rfl rfl;obtain⟨us,un,hul,hub,huv,_⟩:=Y.at eo ha;have hz:=Y.seal ha eo rfl hul;have hne:acc≠C:=λq=>X5.offρφ n acc _ ha eo rfl (q▸hC)
  refine⟨_,(G.lw_withφ g5 φ).trans (G.le_freeze _ _ _).lw,rfl,.lst (.head _) (by simpa using hub) (by simpa using huv.mono (G.le_freeze _ _ _).lw),hz,?_,?_,?_⟩
  ·rintro h' oc hoc hnf g7 s7 h7 h8 hg7 X7 q1 q2 q3 q4 rfl;exact X7.other q4 (zH8 q4 q3 hnf) q1 (by rw [hg7.2.2]; exact n1) q2 (X5.baseφ C hC)
  ·intro m o' e1 e2
   rcases zDh e2 with⟨rfl,rfl⟩|⟨hm,e2⟩
   ·rfl
   ·cases hdo:isDead o' with
    |true=>rfl
    |false=>exact absurd hC (X5.offρφ m C o' e1 e2 hdo)
  ·intro q hq
   rcases List.mem_cons.mp hq with rfl|hq
   ·exact hne
   ·exact X5.offφ C hC q hq
theorem sim_evComp(R:zA2 cn r) (H:zAu cn g c env) (hA:AOk A c.dep) {elt iter:PySem.Expr} {x:Str} {p pos:Pos} {ifs:List PySem.Expr} {scope:Scope} :
  Sim cn A g (evComp r c elt x iter ifs scope) (eval (.ListComp elt [⟨.Name x p,iter,ifs,0⟩] scope pos) env) (λg' d w=>VR cn g' d w):=by
 intro s s' d ob S Q E e ok X hQ;refine zAp e ?_; clear e; rintro n sD o₁ oA e1 e2 rfl;rw [eval_ListComp];refine zOq (use:=none) R H hA e1 (ok.l) X λg5 h5 tk5 C acc hφ hlw X5 ha=>?_;obtain⟨⟨m,hns⟩,hCφ,g',hg',hφ',hv,Z,oth,q1,q2⟩:=zRq X5 hφ ha e2;obtain⟨oc,es,ep,hoc,hdc,hr⟩:=id hns;refine⟨m,hns,λh' hs=>?_⟩
 have hle:g.le g':=⟨(hlw.trans hg').1,(hlw.trans hg').2,hφ'⟩
 exact hQ g' h' tk5 _ hle (oth h' oc hoc (λvs=>by rw [hdc]; exact λq=>nomatch q) (G.le.refl g') Z q1 q2 hoc hs rfl) hv
theorem zPa(R:zA2 cn r) (H:zAu cn g c env) (hA:AOk A c.dep) {elt iter:PySem.Expr} {x y:Str} {p pos pt:Pos} {ifs:List PySem.Expr} {scope:Scope} (hy:lookS y c.scope.names=some .local) :
  Sim cn A g (M.b (evComp r c elt x iter ifs scope) λv=>M.b (storeV c y v) λ_=>M.p Fl.next) (do evalThenUse (.ListComp elt [⟨.Name x p,iter,ifs,0⟩] scope pos) env (assign (.Name y pt) env); Pure.pure Flow.next) (λg' f w=>FlR cn g' f w):=by
 intro s s' d ob S Q E e ok X hQ;refine zAp e ?_; clear e; rintro v s₁ o₁ oA e1 e2 rfl;refine zAp e1 ?_; clear e1; rintro n sD oB oC e3 e4 rfl;refine zAp e2 ?_; clear e2; rintro _ sA oD oE e5 e6 rfl;refine zBk e6 ?_; clear e6; rintro rfl rfl rfl;refine wpAny_bind ?_;show wpAny _ _ (comprehension _ scope env _ (newList []) _ _ (some (assign (.Name y pt) env)) >>= λ_=>Pure.pure ()) _ _ _;refine wpAny_bind (zOq (use:=some (assign (.Name y pt) env)) R H hA e3 (ok.l.l) X λg5 h5 tk5 C acc hφ hlw X5 ha=>?_);obtain⟨⟨m,hns⟩,hCφ,g',hg',hφ',hv,Z,oth,q1,q2⟩:=zRq X5 hφ ha e4;obtain⟨oc,es,ep,hoc,hdc,hr⟩:=id hns;clear hns
 have hle:g.le g':=⟨(hlw.trans hg').1,(hlw.trans hg').2,hφ'⟩
 have H':=H.mono hle
 have e5':storeLoc y v s₁=some ((),s',oD):=by
  have:storeV c y v=storeLoc y v:=by unfold storeV; rw [hy]
  rw [<-this]; exact e5
 refine zAp e5' ?_; clear e5'; rintro f sB oF oG e7 e8 rfl;obtain⟨⟨fr,hfr⟩,rfl,rfl⟩:=zIm e7;obtain⟨⟨f',fr',hfr',rfl⟩,rfl⟩:=zN6 e8;rw [hfr] at hfr'; cases hfr';obtain⟨m2,hn2,hm2⟩:=Z.frame H' hfr;obtain⟨φ,hφ2⟩:=H'.loc;have hCL:C≠env.locals:=λq=>hCφ (by rw [<-hφ',hφ2,q]; exact .head _);show wpAny _ _ (do standAt pt; bindName env y (.ref acc)) _ _ _;refine wpAny_bind (wpAny_standAt (PyProof.Rows.bindName_ ?_));refine wpAny_storeName_local (by rw [H.kindOf,hy]) hn2 (λh' hn' hs=>?_) (by rw [H.kind]; rfl)
 have X7:St cn g' { sB with fr:=(putA y v f.1 f.2)::fr } h':=by
  obtain⟨ob,es,ep,ho,hd,_⟩:=hn2;refine Z.updF hfr hφ2 hs (zH8 hs ho λvs=>by rw [hd]; exact λq=>nomatch q) ⟨_,hn',λy' z ey=>?_⟩
  rcases zG0 ey with⟨rfl,rfl⟩|⟨h1,h2⟩
  ·exact⟨_,if_pos rfl,hv⟩
  ·obtain⟨w,e1,e2⟩:=hm2 _ _ h2;exact⟨w,(if_neg h1).trans e1,e2⟩
 have hoc':h'.get? C=some oc:=(hs.2 C hCL).trans hoc;refine⟨m,⟨oc,es,ep,hoc',hdc,hr⟩,λh'' hs''=>wpAny_pure (wpAny_pure ?_)⟩;exact hQ g' h'' _ _ hle (oth h'' oc hoc (λvs=>by rw [hdc]; exact λq=>nomatch q) (G.le.refl g') X7 q1 q2 hoc' hs'' rfl) .next
end
set_option backward.match.sparseCases true
section
variable {cn:Cn} {A:Around} {g:G} {P:Prog} {c:Cx} {env:Env} {r:Rec}
theorem zIq(R:zA2 cn r) (H:zAu cn g c env) (hA:AOk A c.dep) {elt:PySem.Expr} {gens:List Comprehension} {scope:Scope} {pos:Pos} :
  Sim cn A g (evComps r c elt gens scope) (eval (.ListComp elt gens scope pos) env) (λg' d w=>VR cn g' d w):=by
 unfold evComps
 cases gens with
 |nil=>exact Sim.fail
 |cons gg gs =>
  cases gs with
  |cons=>exact Sim.fail
  |nil =>
   obtain⟨t,iter,ifs,a⟩:=gg
   cases a with
   |negSucc=>exact Sim.fail
   |ofNat n =>
    cases n with
    |succ=>exact Sim.fail
    |zero =>
     cases t<;>first|exact Sim.fail|exact sim_evComp R H hA
theorem zNv(R:zA2 cn r) (H:zAu cn g c env) (hA:AOk A c.dep) {elt:PySem.Expr} {gens:List Comprehension} {scope:Scope} {pos pt:Pos} {y:Str} (hy:lookS y c.scope.names=some .local) :
  Sim cn A g (M.b (evComps r c elt gens scope) λv=>M.b (storeV c y v) λ_=>M.p Fl.next) (do evalThenUse (.ListComp elt gens scope pos) env (assign (.Name y pt) env); Pure.pure Flow.next) (λg' f w=>FlR cn g' f w):=by
 have no:∀ {t:Sem Flow},Sim cn A g (M.b (fail:M V) λv=>M.b (storeV c y v) λ_=>M.p Fl.next) t (λg' f w=>FlR cn g' f w):=λs s' d ob S Q E e=>by
  refine zAp e ?_; clear e; rintro l s₁ o₁ oA e1 e2 rfl;exact zAx e1
 unfold evComps
 cases gens with
 |nil=>exact no
 |cons gg gs =>
  cases gs with
  |cons=>exact no
  |nil =>
   obtain⟨t,iter,ifs,a⟩:=gg
   cases a with
   |negSucc=>exact no
   |ofNat n =>
    cases n with
    |succ=>exact no
    |zero =>
     cases t<;>first|exact no|exact zPa R H hA hy
theorem block_fn(H:zAu cn g c env):(env.blockKind == ScopeKind.function)=true:=by
 unfold Env.blockKind
 first|rw [H.kind]; rfl|simp [H.kind]
theorem zJh{x:Str}:isLocal c x=true↔lookS x c.scope.names=some .local:=by
 unfold isLocal
 cases q:lookS x c.scope.names with
 |none=>simp
 |some k=>cases k<;>simp
theorem asg_one(R:zA2 cn r) (H:zAu cn g c env) (hA:AOk A c.dep) {t v:PySem.Expr} {pos:Pos} (hp:plainE t=true) (hs:swapsWithSole [t] v pos.line env=Pure.pure false) (hw:swappedStores [t] v env=Pure.pure none) {m:M V} (hm:Sim cn A g m (eval v env) (λg' d w=>VR cn g' d w))
  {k:V->M Unit} (hk:∀ g' d w,g.le g'->VR cn g' d w->Sim cn A g' (k d) (assign t env w) (λ_ _ _=>True)) :
  Sim cn A g (M.b m λv=>M.b (k v) λ_=>M.p Fl.next) (exec (.Assign [t] v pos) env) (λg' f w=>FlR cn g' f w):=by
 rw [arm_exec_Assign];refine Sim.standAt ?_;rw [hs];refine Sim.preV (v:=false) (λ_ _ _ h=>wpAny_pure h) ?_;rw [if_neg (by decide)];refine Sim.bind hm λg' d w hg hd=>?_;rw [hw];refine Sim.preV (v:=none) (λ_ _ _ h=>wpAny_pure h) ?_;rw [zIz hp];show Sim cn A g' (M.b (k d) λ_=>M.p Fl.next) (do assign t env w; Pure.pure Flow.next) _;exact Sim.mapM (k:=λ_=>Fl.next) (f:=λ_=>Flow.next) (hk g' d w hg hd) λ_ _ _ _ _=>.next
theorem zEi(R:zA2 cn r) (H:zAu cn g c env) (hA:AOk A c.dep) {t v:PySem.Expr} {pos:Pos} (hp:plainE t=true) (hs:swapsWithSole [t] v pos.line env=Pure.pure false) (hw:swappedStores [t] v env=Pure.pure none) :
  Sim cn A g (stAsg1 r c t v) (exec (.Assign [t] v pos) env) (λg' f w=>FlR cn g' f w) :=
 asg_one R H hA hp hs hw (R.ev v H hA) λg' d w hg hd=>R.asg t (H.mono hg) hA hd
theorem sim_stAsgN(R:zA2 cn r) (H:zAu cn g c env) (hA:AOk A c.dep) {x:Str} {p pos:Pos} {v:PySem.Expr}:Sim cn A g (stAsgN r c x p v) (exec (.Assign [.Name x p] v pos) env) (λg' f w=>FlR cn g' f w):=by
 cases v<;>first|exact Sim.fail|exact zEi R H hA rfl rfl rfl|skip
 rename_i elt gens scope lp;have hs:swapsWithSole [.Name x p] (.ListComp elt gens scope lp) pos.line env=(Pure.pure (env.blockKind == .function && env.kindOf x == some .local && p.line == lp.line && !(scope.names.any λ(n,k)=>n == x && (k == .local || k == .cell))):Sem Bool):=rfl
 cases q:(env.blockKind == .function && env.kindOf x == some .local && p.line == lp.line && !(scope.names.any λ(n,k)=>n == x && (k == .local || k == .cell))) with
 |false =>
  rw [q] at hs;refine asg_one R H hA rfl hs rfl (zIq R H hA) λg' d w hg hd=>?_;show Sim cn A g' (storeV c x d) (do standAt p; bindName env x w) _;exact Sim.standAt (zEj (H.mono hg) hd)
 |true =>
  rw [q] at hs
  have hl:lookS x c.scope.names=some .local:=by
   simp only [Bool.and_eq_true] at q;rw [<-H.kindOf];exact beq_iff_eq.mp q.1.1.2
  rw [arm_exec_Assign];refine Sim.standAt ?_;rw [hs];refine Sim.preV (v:=true) (λ_ _ _ h=>wpAny_pure h) ?_;rw [if_pos rfl];exact zNv R H hA (pt:=p) hl
theorem VRs.reverse{ds:List V} {vs:List Value} (h:VRs cn g ds vs):VRs cn g ds.reverse vs.reverse:=by
 induction h using VRs.ind with
 |n=>exact .nil
 |c h _ ih=>rw [List.reverse_cons,List.reverse_cons]; exact ih.append (.cons h .nil)
theorem zDz{line:Nat} {x:Str} {p:Pos} {r:List PySem.Expr}:allNames c line (.Name x p::r)=(match isLocal c x with|true=>(match Nat.beq p.line line with|true=>(match allNames c line r with|some l=>some (x::l)|none=>none)|false=>none)|false=>none):=rfl
noncomputable def AllN (c:Cx) (line:Nat) (f:PySem.Expr->Option Str) (ts:List PySem.Expr):Prop:=(∀ l,allNames c line ts=some l->ts.filterMap f=l/\l.length=ts.length)/\(allNames c line ts=none->(ts.filterMap f).length<ts.length)
theorem AllN.bad{line:Nat} {f:PySem.Expr->Option Str} {e:PySem.Expr} {r:List PySem.Expr} (h1:f e=none) (h2:allNames c line (e::r)=none):AllN c line f (e::r) :=
 ⟨λl h=>zAx (h2.symm.trans h),λ_=>by rw [List.filterMap_cons,h1]; exact Nat.lt_succ_of_le (List.length_filterMap_le f r)⟩
theorem AllN.good{line:Nat} {f:PySem.Expr->Option Str} {e:PySem.Expr} {r:List PySem.Expr} {x:Str} (ih:AllN c line f r) (h1:f e=some x) (h2:allNames c line (e::r)=(match allNames c line r with|some l=>some (x::l)|none=>none)):AllN c line f (e::r):=by
 obtain⟨ih1,ih2⟩:=ih;unfold AllN;rw [h2,List.filterMap_cons,h1];dsimp only
 cases q3:allNames c line r with
 |none=>exact⟨λl h=>zAx h,λ_=>Nat.succ_lt_succ (ih2 q3)⟩
 |some l' =>
  obtain⟨h1,h2⟩:=ih1 l' q3;exact⟨λl h=>by cases h; exact⟨by rw [h1],congrArg Nat.succ h2⟩,λh=>nomatch h⟩
theorem zQr(H:zAu cn g c env) {line:Nat} (f:PySem.Expr->Option Str) (hf:∀ e,f e=match e with | .Name id pos=>(if (env.kindOf id == some NameKind.local && pos.line == line)=true then some id else none)|_=>none) (ts:List PySem.Expr) :
  AllN c line f ts:=by
 induction ts with
 |nil=>exact⟨λl h=>by cases h; exact⟨rfl,rfl⟩,λh=>nomatch h⟩
 |cons e r ih =>
  cases e with
  |Name x p =>
   have hfx:=hf (.Name x p);clear hf;dsimp only at hfx;rw [H.kindOf] at hfx;clear H
   cases q1:isLocal c x with
   |false=>exact AllN.bad (hfx.trans (if_neg (by simp [show ¬ lookS x c.scope.names=some .local from λh=>by rw [zJh.mpr h] at q1; cases q1]))) (by rw [zDz,q1])
   |true =>
    rw [zJh.mp q1] at hfx
    cases q2:Nat.beq p.line line with
    |false=>exact AllN.bad (hfx.trans (if_neg (by simp [show ¬ p.line=line from λh=>by rw [h] at q2; simp at q2]))) (by rw [zDz,q1,q2])
    |true=>exact ih.good (hfx.trans (if_pos (by simp [Nat.eq_of_beq_eq_true q2]))) (by rw [zDz,q1,q2])
  |_=>exact AllN.bad (hf _) rfl
theorem live_no{e:PySem.Expr} (h:liveE e=true):foldedForSure 8 e=false/\constantsAlone 8 e=false:=by
 have nd:∀ {x:Str},(!eqS x "__debug__")=true->(x == ("__debug__" : Str))=false:=λ{x} h=>by
  rw [beq_eq_false_iff_ne];exact zB9.mp (by simpa using h)
 cases e<;>first|exact⟨rfl,rfl⟩|(exact absurd h Bool.false_ne_true)|skip
 ·rename_i v s p
  cases v<;>first|(exact absurd h Bool.false_ne_true)|skip
  rename_i x q;refine⟨rfl,?_⟩
  show (x == ("__debug__" : Str) && constantsAlone 7 s)=false
  rw [nd h]; rfl
 ·exact⟨rfl,nd h⟩
theorem any_all{p:PySem.Expr->Bool} {q:PySem.Expr->Bool} (h:∀ e,p e=true->q e=false) {l:List PySem.Expr} (hl:l.any p=true):l.all q=false:=by
 obtain⟨e,he,hp⟩:=List.any_eq_true.mp hl;rw [List.all_eq_false];exact⟨e,he,by rw [h e hp]; simp⟩
theorem iteN{α:Type} {c:Prop} [Decidable c] {a x:α} (h:¬c->a=x):(if c then x else a)=x:=by
 by_cases q:c
 ·exact if_pos q
 ·rw [if_neg q]; exact h q
theorem swap_ok(H:zAu cn g c env) {ts vs:List PySem.Expr} {k k2:Nat} {tp vp:Pos} {sw:Option (List Str)} (h:swapped c ts vs=some sw):swappedStores [.Tuple ts k tp] (.Tuple vs k2 vp) env=Pure.pure sw/\∀ names,sw=some names->names.length=ts.length:=by
 unfold swapped at h;have key:=zQr (line:=lineOf ts) H (λ| .Name id pos=>if (env.kindOf id == some NameKind.local && pos.line == lineOf ts)=true then some id else none|_=>none) (λe=>by cases e<;>rfl) ts
 cases q:allNames c (lineOf ts) ts with
 |none =>
  rw [q] at h; cases h;refine⟨?_,λn h=>by cases h⟩;have hlt:=key.2 q;exact iteN λ_=>iteN λ_=>iteN λh3=>absurd (by rw [Bool.or_eq_true]; exact .inl (bne_iff_ne.mpr (Nat.ne_of_lt hlt))) h3
 |some names =>
  rw [q] at h;dsimp only at h
  cases q2:okSwap ts vs names with
  |false=>rw [q2] at h; cases h
  |true =>
   rw [q2] at h; cases h;obtain⟨h1,h2⟩:=key.1 _ q;refine⟨?_,λn h=>by cases h; exact h2⟩;unfold okSwap at q2;simp only [Bool.and_eq_true] at q2;obtain⟨⟨⟨⟨e1,e2⟩,e3⟩,e4⟩,e5⟩:=q2;unfold swappedStores;dsimp only
   have f1:(!(ts.length == 2 || ts.length == 3) || vs.length != ts.length || env.blockKind != ScopeKind.function)=false:=by
    have g1:(ts.length == 2 || ts.length == 3)=true:=by
     rw [Bool.or_eq_true] at e1 ⊢
     exact e1.imp (λh=>by rw [Nat.eq_of_beq_eq_true h]; rfl) λh=>by rw [Nat.eq_of_beq_eq_true h]; rfl
    have g2:(vs.length == ts.length)=true:=by rw [Nat.eq_of_beq_eq_true e2]; simp
    have g3:=block_fn H;rw [g1];show (false || !(vs.length == ts.length) || !(env.blockKind == ScopeKind.function))=false;rw [g2,g3]; rfl
   have f2:(vs.any λx=>match x with | .Starred ..=>true|_=>false)=false:=by
    rw [List.any_eq_false];intro e he
    have:=List.all_eq_true.mp e5 e he
    cases e<;>first|exact Bool.false_ne_true|cases this
   have f3:(names.length != ts.length || names.eraseDups.length != names.length)=false:=by
    have g2:(names.eraseDups.length == names.length)=true:=by rw [Nat.eq_of_beq_eq_true e3]; simp
    show (!(names.length == ts.length) || !(names.eraseDups.length == names.length))=false;rw [g2,h2]; simp
   rw [if_neg (by rw [f1]; decide)];have h1':=h1
   have goal2:∀ nm:List Str,nm=names->(if (nm.length != ts.length || nm.eraseDups.length != nm.length)=true then (Pure.pure none:Sem (Option (List Str))) else if vs.all (foldedForSure 8)=true then Pure.pure none else (if vs.all (constantsAlone 8)=true then (do unsupported "assign.tuple-of-constant-expressions:order-of-the-stores"; Pure.pure (some nm)) else Pure.pure (some nm)))=Pure.pure (some names):=by
    rintro nm rfl;rw [if_neg (by rw [f3]; decide),if_neg (by rw [any_all (λe h=>(live_no h).1) e4]; decide),if_neg (by rw [any_all (λe h=>(live_no h).2) e4]; decide)]
   exact (if_neg λh9=>Bool.false_ne_true (f2.symm.trans h9)).trans (goal2 _ h1)
end
set_option backward.match.sparseCases false
section
variable {cn:Cn} {A:Around} {g:G} {P:Prog} {c:Cx} {env:Env} {r:Rec}
theorem zLo{c:Cx} {env:Env} {g:G} (xs:List Str) (ds:List V) (vs:List Value) (H:zAu cn g c env) (hv:VRs cn g ds vs):Sim cn A g (bindAll c xs ds) (assignInOrder (xs.map λn=>bindName env n) vs) (λ_ _ _=>True):=by
 induction xs generalizing g ds vs with
 |nil=>cases ds with
  |nil=>exact hv.nil_inv▸Sim.pure (a:=()) trivial
  |cons=>exact Sim.fail
 |cons x xs ih=>cases ds with
  |nil=>exact Sim.fail
  |cons d ds =>
   refine hv.cons_inv λv vs e h1 hr=>?_;subst e;show Sim cn A g (M.b (storeV c x d) λ_=>bindAll c xs ds) (do holding vs (bindName env x v); assignInOrder (xs.map λn=>bindName env n) vs) _;exact Sim.bind (Sim.holding (zEj H h1)) λg' _ _ hg _=>ih ds vs (H.mono hg) (hr.mono hg.lw)
theorem sim_stAsgT(R:zA2 cn r) (H:zAu cn g c env) (hA:AOk A c.dep) {ts vs:List PySem.Expr} {k k2:Nat} {tp vp pos:Pos} :
  Sim cn A g (stAsgT r c ts vs) (exec (.Assign [.Tuple ts k tp] (.Tuple vs k2 vp) pos) env) (λg' f w=>FlR cn g' f w):=by
 unfold stAsgT;refine Sim.ofOpt λsw hsw=>?_;obtain⟨hst,hnm⟩:=swap_ok (k:=k) (k2:=k2) (tp:=tp) (vp:=vp) H hsw;clear hsw;rw [arm_exec_Assign];refine Sim.standAt ?_;refine Sim.preV (v:=false) (λ_ _ _ h=>wpAny_pure h) ?_;rw [if_neg (by decide),hst];clear hst;intro s s' d ob S Q E e ok X hQ;refine zAp e ?_; clear e; rintro ds s₁ o₁ oA e1 e2 rfl;have ok1:Oks o₁:=ok.l;have ok2:Oks oA:=ok.r;clear ok;unfold stTup at e2
 cases q:Nat.beq ds.length ts.length with
 |false=>rw [q] at e2; exact zAx e2
 |true =>
 rw [q] at e2;dsimp only at e2
 cases q4:Nat.ble ds.length 1000 with
 |false=>rw [q4] at e2; exact zAx e2
 |true =>
 rw [q4] at e2;have hl:=Nat.eq_of_beq_eq_true q;refine wpAny_bind ?_;show wpAny _ _ (do standAt vp; newTuple (<-spliced (backTo vp (starEach vs env)))) _ _ _;refine wpAny_bind (wpAny_standAt (wpAny_bind (zIp R vp vs H hA s s₁ ds o₁ S _ E e1 ok1 X λg1 h1 tk1 ws hg1 X1 hws=>?_)));clear vp s X o₁ e1 ok1;have hwl:=hws.length
 have hnm3:∀ names,sw=some names->names.length=ws.length:=λn h=>by rw [hnm n h,hwl,hl]
 clear hnm hl
 have hsmall:ws.length<=1000:=by rw [hwl]; exact zD5 q4
 have hsz:ws.toArray.size<=big:=by rw [List.size_toArray]; unfold big; omega
 obtain⟨g2,hg2,X2,hv2⟩:=zLi (ds:=ds) (vs:=ws.toArray) X1 hsz (by simpa using hws);refine wpAny_newObj_type ?_ (zDj hsz);refine wpAny_bind (wpAny_pure ?_);have H2:=(H.mono hg1).mono hg2;have hg12:=hg1.trans hg2
 cases hv2 with
 |tup z1 z2 z3 =>
 rename_i ws' n
 have hT:IsT (h1.push ⟨.type "tuple", none,.seq ws.toArray 0,#[]⟩) h1.objs.size ws.toArray 0:=Heap.get?_push_size _ rfl
 have hT':(h1.push ⟨.type "tuple", none,.seq ws.toArray 0,#[]⟩).IsTuple h1.objs.size ws.toArray:=⟨_,hT,rfl,_,rfl⟩
 cases sw with
 |none =>
  refine zAp e2 ?_; clear e2; rintro _ sA oB oC e3 e4 rfl;refine zBk e4 ?_; clear e4; rintro rfl rfl rfl;show wpAny _ _ (do assignAll (.ref h1.objs.size) [assign (.Tuple ts k tp) env]; Pure.pure Flow.next) _ _ _;refine wpAny_bind ?_;show wpAny _ _ (do standAt tp; unpack (.ref h1.objs.size) (assignEach ts env)) _ _ _;obtain⟨l1,l2,l3⟩:=zLf (env:=env) e3;refine wpAny_bind (wpAny_standAt (wpAny_unpack_tuple hA.hd hT' (by rw [l2,List.size_toArray,hwl]; exact l1) l3 λh' hs=>?_));refine zQ4 R ts ds ws H2 hA (by simpa using (hws.mono hg2.lw)) s₁ _ () oB { S with heap:=h',toks:=tk1 } _ E e3 (ok2.l) (X2.iterGone hs) λg3 h3 tk3 _ hg3 X3 _=>wpAny_pure ?_;exact hQ g3 h3 tk3 _ (hg12.trans hg3) X3 .next
 |some names =>
  refine zAp e2 ?_; clear e2; rintro _ sA oB oC e3 e4 rfl;refine zBk e4 ?_; clear e4; rintro rfl rfl rfl
  show wpAny _ _ (do rule "assign.swapped-stores"; let items <-unpackItems (.ref h1.objs.size) names.length none; assignInOrder (names.reverse.map λn=>bindName env n) items.reverse; Pure.pure Flow.next) _ _ _
  refine wpAny_bind (wpAny_rule (wpAny_bind ?_))
  have hn:names.length=ws.toArray.size:=by rw [List.size_toArray]; exact hnm3 names rfl
  rw [hn];refine wpAny_unpackItems_tuple hA.hd hT' λh' hs=>?_;have hr:=VRs.reverse (hws.mono hg2.lw);refine wpAny_bind (zLo names.reverse ds.reverse ws.reverse H2 hr s₁ _ () oB { S with heap:=h',toks:=tk1 } _ E e3 (ok2.l) (X2.iterGone hs) λg3 h3 tk3 _ hg3 X3 _=>wpAny_pure ?_);exact hQ g3 h3 tk3 _ (hg12.trans hg3) X3 .next
theorem zJ2{o v:PySem.Expr} {x:Str} {p pos:Pos}:swapsWithSole [.Attribute o x p] v pos.line env=Pure.pure false:=by cases v<;>rfl
theorem zLk{o i v:PySem.Expr} {p pos:Pos}:swapsWithSole [.Subscript o i p] v pos.line env=Pure.pure false:=by cases v<;>rfl
theorem sim_stAsg(R:zA2 cn r) (H:zAu cn g c env) (hA:AOk A c.dep) {t v:PySem.Expr} {pos:Pos}:Sim cn A g (stAsg r c t v) (exec (.Assign [t] v pos) env) (λg' f w=>FlR cn g' f w):=by
 cases t<;>try exact Sim.fail
 ·exact zEi R H hA rfl zJ2 rfl
 ·exact zEi R H hA rfl zLk rfl
 ·exact sim_stAsgN R H hA
 ·cases v<;>first|exact Sim.fail|exact sim_stAsgT R H hA|exact zEi R H hA rfl rfl rfl
theorem sim_stExpr(R:zA2 cn r) (H:zAu cn g c env) (hA:AOk A c.dep) {e:PySem.Expr} {pos:Pos}:Sim cn A g (stExpr r c e) (exec (.Expr e pos) env) (λg' f w=>FlR cn g' f w):=by
 cases e<;>try exact Sim.fail
 rename_i f args kw p;intro s s' d ob S Q E e ok X hQ;unfold stExpr at e;refine zAp e ?_; clear e; rintro v s₁ o₁ oA e1 e2 rfl;refine zBk e2 ?_; clear e2; rintro rfl rfl rfl;refine wpAny_Expr_any ?_ (by unfold interactive; rw [H.kind]; rfl) rfl;exact R.ev _ H hA _ _ v o₁ S _ E e1 (ok.l) X λg' h' tk w hg Y _=>hQ g' h' tk _ hg Y .next
theorem zQ0(R:zA2 cn r) (H:zAu cn g c env) (hA:AOk A c.dep) (s:Stmt):Sim cn A g (ex r c s) (exec s env) (λg' f w=>FlR cn g' f w):=by
 cases s with
 |Expr e p=>exact sim_stExpr R H hA
 |Return v p=>exact sim_retV R H hA
 |Assign ts v pos =>
  cases ts with
  |nil=>exact Sim.fail
  |cons t ts =>
   cases ts with
   |cons=>exact Sim.fail
   |nil=>exact sim_stAsg R H hA
 |If t a b p=>exact sim_stIf R H hA
 |For t it body orelse pos =>
  cases t<;>try exact Sim.fail
  cases orelse with
  |cons=>exact Sim.fail
  |nil=>exact sim_stFor R H hA
 |_=>exact Sim.fail
theorem zO8(R:zA2 cn r) {c:Cx} {env:Env}:∀ {g:G} (ss:List Stmt),zAu cn g c env->AOk A c.dep->Sim cn A g (exs r c ss) (execs ss env) (λg' f w=>FlR cn g' f w)
 |g,[],H,hA=>Sim.pure .next
 |g,s::ss,H,hA=>by
  rw [arm_execs_cons];show Sim cn A g (M.b (ex r c s) λf=>match f with | .next=>exs r c ss | .ret v=>M.p (.ret v)) _ _;refine Sim.bind (zQ0 R H hA s) λg' f w hg hf=>?_
  cases hf with
  |next=>exact zO8 R ss (H.mono hg) hA
  |ret h=>exact Sim.pure (.ret h)
theorem sim_asg(T:Stat0 cn P) (C:ClsOk cn P) (R:zA2 cn r) (H:zAu cn g c env) (hA:AOk A c.dep) (t:PySem.Expr) {d:V} {v:Value} (hv:VR cn g d v):Sim cn A g (asg P r c t d) (assign t env v) (λ_ _ _=>True):=by
 cases t<;>try exact Sim.fail
 ·exact zPg T C R H hA hv
 ·exact sim_asgSub R H hA hv
 ·rename_i x p;show Sim cn A g (storeV c x d) (do standAt p; bindName env x v) _;exact Sim.standAt (zEj H hv)
 ·exact sim_asgTup R H hA hv
structure zD0 (cn:Cn) (P:Prog):Prop where
 T:Stat0 cn P
 C:ClsOk cn P
 CC:CallOk cn P
 FO:FnsOk cn P
 LO:LamOk cn
theorem sim_ev(O:zD0 cn P) (R:zA2 cn r) (H:zAu cn g c env) (hA:AOk A c.dep) (e:PySem.Expr):Sim cn A g (ev P r c e) (eval e env) (λg' d w=>VR cn g' d w):=by
 cases e<;>first
  |exact Sim.fail
  |exact sim_evBool R H hA
  |exact sim_evBin R H hA
  |exact sim_evUn R H hA
  |exact sim_evLam O.LO H
  |exact sim_evIf R H hA
  |exact sim_evDict R H hA
  |exact sim_evList R H hA
  |exact sim_evTup R H hA
  |exact zIq R H hA
  |exact sim_evCmp R H hA
  |exact sim_evCall O.T O.C O.CC R H hA
  |exact sim_evAttr O.T O.C R H hA
  |exact sim_evSub R H hA
  |exact sim_Const
  |exact sim_Name O.T H
theorem SimC.fail{α:Type} {co:Code} {RR:G->α->Result->Prop}:SimC cn A g (Mine.fail:M α) co RR:=λ_ _ _ _ _ _ e=>zAx e
theorem zK1:zA2 cn Rec.none where
 ev _ _ _:=Sim.fail
 tst _ _ _:=Sim.fail
 exs _ _ _:=Sim.fail
 asg _ _ _ _ _ _:=Sim.fail
 call _ _ _:=Sim.fail
 callC _ _ _:=SimC.fail
 callee {n f as s x} e:=by
  have e':(fail:M V) s=some x:=e;exact (zC3 e').elim
 loop _ _ _:=SimC.fail
 comp _ _ _ _:=SimC.fail
theorem recOk_step(O:zD0 cn P) (R:zA2 cn r):zA2 cn (step P r) where
 ev e H hA:=sim_ev O R H hA e
 tst e H hA:=sim_tst R H hA e
 exs ss H hA:=zO8 R ss H hA
 asg e _ _ H hA hv:=sim_asg O.T O.C R H hA e hv
 call hA hf hv:=zQ2 O.T O.FO R hA hf hv
 callC hA ha hv:=zIr O.T O.FO R hA ha hv
 callee e:=by obtain⟨_,_,h⟩:=zGz e; exact h
 loop H hA hi:=zQz R H hA hi
 comp H hA hi hn:=zQ1 R H hA hi hn
theorem zCj(O:zD0 cn P):∀ n,zA2 cn (run P n)
 |0=>zK1
 |n+1=>recOk_step O (zCj O n)
end
set_option backward.match.sparseCases true
noncomputable def fnTab:List (Str × Addr):=([("is_at_least", 24),("on_hello", 31),("on_two_way", 38),("on_adjacent", 45),("on_exchange_event", 52),("next_state", 59),("is_told", 66),("barred", 73),("newer_of", 81),("key_of", 88),
 ("Describing.__init__", 102),("Describing.first", 109),("Describing.next_packet", 116),("Describing.has_told_all", 123),("Describing", 126),
 ("Exchange.__init__", 144),("Exchange.begin", 151),("Exchange.take", 158),("Exchange.is_double", 165),("Exchange.is_wrong", 172),("Exchange.take_first", 179),("Exchange.take_next", 186),("Exchange.led", 193),("Exchange.followed", 200),("Exchange.ended", 207),("Exchange.again", 233),("Exchange", 236),
 ("_law_drawn", 245),("_law_begun", 250),("_law_event", 257),("_law_hello", 264),("_law_again", 271),("_law_look", 278),("_law_come", 283),("_law_deed", 290),("_law_stands", 295)]:List (String × Addr)).map λp=>(Str.ofString p.1,p.2)
noncomputable def tupO (K:Frag) (a:Addr):List (Addr × Obj):=match K.lookup a with
 |some o=>[(a,o)]
 |none=>[]
noncomputable def fz0 (K:Frag):List (Addr × Obj):=tupO K 15++(tupO K 16++tupO K 17)
noncomputable def mkCn (w:World) (K:Frag) (h₀:Heap) (sm:h₀.get? mainGlobals≠none):Cn where
 prog:=PySem.Challenge.rw_sj0181_01.row.prog
 w:=w
 K:=K
 h₀:=h₀
 fnv:=λk=>lookS k fnTab
 fzA:=fz0 K
 C:=236
 P:=280
 sm:=sm
noncomputable def plainP (a:Arguments):Option (List Str):=match a with
 |⟨po,as,va,ko,kd,kw,d⟩=>match po,va,ko,kd,kw,d with
  |[],none,[],[],none,[]=>some (as.map (·.arg))
  |_,_,_,_,_,_=>none
noncomputable def codeChk (K:Frag) (fd:FuncData):Bool:=match fd.code with
 | .ref c=>match K.lookup c with
  |some ⟨_,_,.fields vs,_⟩=>match (vs[1]?:Option Value) with
   |some (Value.str q _)=>eqS q fd.qualname
   |_=>false
  |_=>false
 |_=>false
noncomputable def fdChk (K:Frag) (fd:FuncData):Bool :=
 Nat.beq fd.globals mainGlobals && Nat.beq fd.builtins builtinsNs && fd.closure.isEmpty && okScope fd.scope && codeChk K fd
noncomputable def isNoneV:Value->Bool
 | .none=>true
 |_=>false
noncomputable def fnData (K:Frag) (a:Addr):Option (List Str × List Stmt × Scope × Bool):=match K.lookup a with
 |some ⟨_,_,.func fd,_⟩=>match fd.body with
  | .stmts b=>match plainP fd.params with
   |some ps=>some (ps,b,fd.scope,fdChk K fd && nodupS ps && isNoneV fd.defaults)
   |none=>none
  |_=>none
 |_=>none
theorem zPs{a:Arguments} {ps:List Str} (h:plainP a=some ps):∃ xs,a=⟨[],xs,none,[],[],none,[]⟩/\ps=xs.map (·.arg):=by
 obtain⟨po,as,va,ko,kd,kw,d⟩:=a
 cases po with
 |cons=>exact zAx h
 |nil=>cases va with
  |some=>exact zAx h
  |none=>cases ko with
   |cons=>exact zAx h
   |nil=>cases kd with
    |cons=>exact zAx h
    |nil=>cases kw with
     |some=>exact zAx h
     |none=>cases d with
      |cons=>exact zAx h
      |nil=>exact⟨_,rfl,(Option.some.inj h).symm⟩
theorem codeV_ok{h:Heap} {cv:Value} {q:Str} {vs:Array Value} {k:Value} {d:Option Addr} {sl:Array (Option Value)} {c:Addr} (hc:cv=.ref c) (X:h.get? c=some ⟨k,d,.fields vs,sl⟩) (e:(match (vs[1]?:Option Value) with
   |some (Value.str q' _)=>eqS q' q
   |_=>false)=true):h.CodeRec cv q:=by
 cases hv:vs[1]? with
 |none=>rw [hv] at e; exact nay e
 |some v =>
  rw [hv] at e
  cases v with
  |str q2 t=>exact⟨c,_,vs,t,hc,X,rfl,by rw [<-zBa.mp e]; exact hv⟩
  |_=>exact nay e
theorem zLc{K:Frag} {h:Heap} {fd:FuncData} (X:K.In h) (e:codeChk K fd=true):h.CodeRec fd.code fd.qualname:=by
 unfold codeChk at e
 cases hc:fd.code with
 |ref c =>
  rw [hc] at e
  cases q:K.lookup c with
  |none=>dsimp only at e; rw [q] at e; exact nay e
  |some o =>
   dsimp only at e;rw [q] at e;obtain⟨k,d,dt,sl⟩:=o
   cases dt with
   |fields vs=>exact codeV_ok rfl (X _ _ q) e
   |_=>exact nay e
 |_=>rw [hc] at e; exact nay e
theorem fnData_ok{cn:Cn} {a:Addr} {fn:Fn} (X:cn.K.In cn.h₀) (e:fnData cn.K a=some (fn.ps,fn.body,fn.scope,true)) (hd:fn.dflt=[]) (hl:fn.lam=true->∃ o fd cc,cn.K.lookup a=some o/\o.data=.func fd/\fd.code=.ref cc/\CodeHd cn.h₀ cc cn.P):FnAt cn a fn:=by
 unfold fnData at e
 cases q:cn.K.lookup a with
 |none=>rw [q] at e; exact zAx e
 |some o =>
  rw [q] at e;obtain⟨c0,d0,dt,sl⟩:=o
  cases dt with
  |func fd =>
   dsimp only at e
   cases hb:fd.body with
   |stmts b =>
    rw [hb] at e;dsimp only at e
    cases hps:plainP fd.params with
    |none=>rw [hps] at e; exact zAx e
    |some ps =>
    rw [hps] at e;simp only [Option.some.injEq,Prod.mk.injEq,Bool.and_eq_true] at e;obtain⟨e1,e2,e3,⟨e4,e5⟩,e6⟩:=e;unfold fdChk at e4;simp only [Bool.and_eq_true] at e4;obtain⟨⟨⟨⟨f1,f2⟩,f3⟩,f4⟩,f5⟩:=e4;obtain⟨k1,k2,k3,k4⟩:=zDi f4;obtain⟨xs,hxs,rfl⟩:=zPs hps
    refine⟨by rw [<-e3]; exact k1,by rw [<-e3]; exact k2,by rw [<-e3]; exact k3,by rw [<-e3]; exact k4,_,fd,X _ _ q,rfl,by rw [hb,e2],e3,Nat.eq_of_beq_eq_true f1,Nat.eq_of_beq_eq_true f2,by simpa using f3,zLc X f5,λh=>?_,[],by rw [hd]; exact .nil,λs vals _ hlen=>?_⟩
    ·obtain⟨o,fd',cc,h1,h2,h3,h4⟩:=hl h;rw [q] at h1; cases h1; cases h2;exact⟨cc,h3,h4⟩
    ·have hdf:fd.defaults=.none:=by
      cases hq:fd.defaults<;>rw [hq] at e6<;>first|rfl|cases e6
     rw [List.append_nil,<-e1];refine BindsTo.of_eq (zLd hxs hdf (zFw e5) ?_);rw [<-e1] at hlen;simpa using hlen
   |_=>rw [hb] at e; exact zAx e
  |_=>exact zAx e
noncomputable def cmFd (K:Frag):Option Value:=match K.lookup 283 with
 |some ⟨_,_,.func fd,_⟩=>some fd.code
 |_=>none
noncomputable def nwChk (K:Frag):Option (List Stmt × Scope × Bool × Arguments × Value):=match K.lookup 81 with
 |some ⟨_,_,.func fd,_⟩=>match fd.body with
  | .stmts b=>some (b,fd.scope,fdChk K fd,fd.params,fd.defaults)
  |_=>none
 |_=>none
noncomputable def ps4 (l:List Arg) (d:List Expr):Arguments:=⟨[],l,none,[],[],none,d⟩
noncomputable def vInt:Option (Option Value)->Option Int
 |some (some (.int i _))=>some i
 |_=>none
noncomputable def chkGlob (K:Frag) (p:Str × V):Bool:=match p.2 with
 | .int i=>match vInt (nsIn K mainGlobals p.1) with
  |some j=>match decEq i j with
   |Decidable.isTrue _=>true
   |Decidable.isFalse _=>false
  |none=>false
 | .fn k=>match lookS k fnTab with
  |some a=>match nsIn K mainGlobals p.1 with
   |some (some (.ref b))=>Nat.beq a b
   |_=>false
  |none=>false
 | .raw _=>match nsIn K mainGlobals p.1 with
  |some none=>!eqS p.1 "__name__"
  |_=>false
 | .tup _=>true
 |_=>false
noncomputable def fnsT:List (Str × Fn):=P.fns.filter λp=>!eqS p.1 "newer_of" && !eqS p.1 "law" && !eqS p.1 "Exchange.asked" && !eqS p.1 "Exchange.came" && !eqS p.1 "Exchange.answer"
noncomputable def strsV:List (String × Tok)->Array Value:=λl=>(l.map λp=>Value.str (Str.ofString p.1) p.2).toArray
noncomputable def tupS (a:Addr) (l:List (String × Tok)):Addr × Obj:=(a,⟨.type "tuple", none,.seq (strsV l) 0,#[]⟩)
noncomputable def tup15:List (String × Tok):=[("down", 189),("attempt", 190),("init", 191),("two_way", 192),("exstart", 193),("exchange", 194),("loading", 195),("full", 196)]
noncomputable def tup17:List (String × Tok):=[("clear_lists", 200),("stop_inactivity", 201)]
noncomputable def restF (K:Frag):=(fnsT.map λp=>(lookS p.1 fnTab).bind (fnData K),cmFd K,nwChk K,K.lookup 74,P.attrs.map λx=>findIn K (.ref 236) x,
 P.meths.map λp=>(lookS p.2 fnTab).map λf=>(findIn K (.ref 236) p.1,isFn K (.ref f)),
 (plainGet K 236 "", plainOver K 236,hasDictIn K 236,makesIn K 236,findIn K (.ref 236) "__setattr__"),fnTab.map λp=>keepIn K (.ref p.2),
 (specialIn K (.ref 126) "__getattribute__", readsIn K 126 (.type "type"),findCls K (.ref 126) (.type "type") "__init__", findIn K (.ref 236) "__init__", typeIn K (.ref 144)),
 P.globs.all (chkGlob K),fz0 K,(nsIn K mainGlobals "STATES", nsIn K mainGlobals "BEGIN", nsIn K mainGlobals "ENDED"),(K.lookup 15,K.lookup 16,K.lookup 17),noTabs K,codeHdIn K 282 280)
noncomputable def restV:=(fnsT.map λp=>some (p.2.ps,p.2.body,p.2.scope,true),some (Value.ref 282),
 (lookS "newer_of" P.fns).map (λfn=>(fn.body,fn.scope,true,ps4 [⟨"one", none,⟨56,13,56,16⟩⟩,⟨"other", none,⟨56,18,56,23⟩⟩,⟨"max_age", none,⟨56,25,56,32⟩⟩,⟨"max_diff", none,⟨56,42,56,50⟩⟩] [.Name "MAX_AGE" ⟨56,33,56,40⟩,.Name "MAX_AGE_DIFF" ⟨56,51,56,63⟩],Value.ref 74)),
 some (⟨.type "tuple", none,.seq #[.int 3600 276,.int 900 278] 0,#[]⟩:Obj),P.attrs.map λ_=>some (none:Option Value),
 P.meths.map λp=>(lookS p.2 fnTab).map λf=>(some (some (Value.ref f)),true),
 (true,true,true,true,some (some (Value.builtin "object.__setattr__"))),fnTab.map λ_=>true,
 (some (some (Value.builtin "type.__getattribute__")),true,some (CFound.val (.ref 102)),some (some (Value.ref 144)),some (Value.type "function")),
 true,[tupS 15 tup15,tupS 16 [("begin_exchange", 198)],tupS 17 tup17],(some (some (Value.ref 15)),some (some (Value.ref 16)),some (some (Value.ref 17))),(some (tupS 15 tup15).2,some (tupS 16 [("begin_exchange", 198)]).2,some (tupS 17 tup17).2),true,true)
noncomputable abbrev pw:Program:=PySem.Challenge.pw_sj0181_01
noncomputable def topRunT (tb:String->Option Builtin) (p:Program) (w:World) (nC:Nat) (ann:Option Value):Nat->SharedT->Thread->Option SharedT
 |0,_,_=>none
 |n+1,s,t=>match through t with
  |true=>some s
  |false=>match stepOk nC ann t with
   |false=>none
   |true=>match stepT (denote tb) p w s t with
    |some (s',t')=>topRunT tb p w nC ann n s' t'
    |none=>none
theorem zKr{tb:String->Option Builtin} {p:Program} {w:World} {nC:Nat} {ann:Option Value}:∀ {n:Nat} {s s':SharedT} {t:Thread},topRunT tb p w nC ann n s t=some s'->topRun tb p w nC ann n s.abs t=some s'.abs
 |0,_,_,_,h=>by cases h
 |n+1,s,s',t,h=>by
  unfold topRunT at h;unfold topRun
  cases he:through t with
  |true=>rw [he] at h; cases h; rfl
  |false =>
   rw [he] at h
   cases hk:stepOk nC ann t with
   |false=>rw [hk] at h; cases h
   |true =>
    rw [hk] at h
    cases hs:stepT (denote tb) p w s t with
    |none=>rw [hs] at h; cases h
    |some r=>obtain⟨sA,tA⟩:=r; rw [hs] at h; rw [stepT_spec hs]; exact zKr h
noncomputable def toT:Nat->BT->List Obj->BT
 |_,t,[]=>t
 |n,t,o::l=>toT (n+1) (t.ins n o) l
noncomputable def bootT (w:World) (os:OsState):SharedT:=⟨toT 0 .nil (boot_heap w.params).objs.toList,11,(boot_heap w.params).life,#[],boot_drawn,boot_toks,os⟩
theorem bootT_abs(w:World) (os:OsState):(bootT w os).abs=⟨boot_heap w.params,#[],boot_drawn,boot_toks,os⟩:=by kernel_rfl
theorem boot(N:Nat) (hN:Nat.ble 600 N=true):∀ w:World,(fencedOpening treeTable pw w N).map (λs=>(s.heap,s.gens,s.drawn,s.toks))=some (boot_heap w.params,Array.mk [],boot_drawn,boot_toks) :=
 boot_open (by kernel_rfl) hN (λ_=>by kernel_rfl)
noncomputable def seenT (q:Program) (loose:List Str) {α:Type} (Yf:Heap->α) (w:World) (s:Shared):=(staticsOk (importedModules pw.main.body) (boot_heap w.params) s.heap && namesBound pw s.heap && gensDone s && laidKept (boot_heap w.params) s.heap,openSeen q loose (importedModules pw.main.body) (λ_=>true) true s,Yf s.heap)
theorem left_of{q:Program} {loose:List Str} {α:Type} {Yf:Heap->α} {Ya:World->α} {N:Nat} (hN:Nat.ble 600 N=true)
  (run:∀ w os,(topRunT treeTable pw w 11 (some (.ref 6)) N (bootT w os) (topStub pw)).map (λs=>seenT q loose Yf w s.abs)=some (true,openGood q loose,Ya w)) :
  LeftO pw q loose (λ_=>true) (λs=>Yf s.heap) Ya N:=λw=>by
 refine zP0 (boot N hN w) ?_; rintro ⟨h,gs,d,k,os⟩ e e'
 obtain⟨rfl,rfl,rfl,rfl⟩:h=boot_heap w.params/\gs=#[]/\d=boot_drawn/\k=boot_toks:=by simpa using e'
 refine zP0 (run w os) ?_; rintro s hs hl;have r:=zKr hs;rw [bootT_abs] at r;obtain⟨l1,l2⟩:=Prod.mk.inj hl
 have z:((boot_heap w.params).isNs mainGlobals && (#[]:Array GenState).size == 0,(boot_heap w.params).objs.size,(boot_heap w.params).nsMap mainGlobals "__annotations__")=(true,11,some (.ref 6)):=by kernel_rfl
 obtain⟨z1,z2,z3⟩:_/\_/\_:=by simpa only [Prod.mk.injEq] using z
 have t:topFrom treeTable pw w N ⟨boot_heap w.params,#[],boot_drawn,boot_toks,os⟩=some s.abs:=by
  unfold topFrom;dsimp only;rw [z1,z2,z3,r];show (match staticsOk (importedModules pw.main.body) (boot_heap w.params) s.abs.heap && namesBound pw s.abs.heap && gensDone s.abs && laidKept (boot_heap w.params) s.abs.heap with|true=>some s.abs|false=>none)=_;rw [l1]
 unfold openEnds;rw [e];show (topFrom treeTable pw w N _).map _=_;rw [t];exact congrArg some l2
theorem said_row:PySem.Challenge.rw_sj0181_01.row.wellSaid=true:=by kernel_rfl
theorem said:PySem.Challenge.rw_sj0181_01.wellSaid=true:=by
 unfold OpenLaw.wellSaid;rw [said_row]
 kernel_rfl
noncomputable def looseT:List Str:=(["__name__", "STATES", "BEGIN", "ENDED", "is_at_least", "on_hello", "on_two_way", "on_adjacent", "on_exchange_event", "next_state", "is_told", "EXTERNAL", "GREATEST_KIND", "barred", "MAX_AGE", "MAX_AGE_DIFF", "newer_of", "key_of", "MASTER", "MORE", "INIT", "NUMBERS", "Describing", "Exchange", "_law_drawn", "_law_begun", "_law_event", "_law_hello", "_law_again", "_law_look", "_law_come", "_law_deed", "_law_stands"]:List String).map Str.ofString
noncomputable def qv:Program:=view pw [37]
noncomputable def asK:List Addr:=[2,3,15,16,17,18,20,21,23,24,25,27,28,30,31,32,34,35,37,38,39,41,42,44,45,46,48,49,51,52,53,55,56,58,59,60,62,63,65,66,67,69,70,72,73,74,75,77,78,80,81,82,84,85,87,88,96,98,99,101,102,103,105,106,108,109,110,112,113,115,116,117,119,120,122,123,124,125,126,127,128,131,138,140,141,143,144,145,147,148,150,151,152,154,155,157,158,159,161,162,164,165,166,168,169,171,172,173,175,176,178,179,180,182,183,185,186,187,189,190,192,193,194,196,197,199,200,201,203,204,206,207,208,210,211,213,214,215,217,218,220,221,222,225,226,227,229,230,232,233,234,235,236,239,241,242,244,245,246,249,250,251,253,254,256,257,258,260,261,263,264,265,267,268,270,271,272,274,275,277,278,279,282,283,284,286,287,289,290,291,294,295,296,299,300]
noncomputable def KK (h:Heap):Frag:=asK.map λa=>(a,(h.get? a).getD default)
noncomputable def allK (h:Heap):Bool:=asK.all λa=>(h.get? a).isSome
@[reducible] noncomputable def ent (P:Params) (k:String) (t:Tok) (v:Value):DictEntry:={ hash:=PyData.keyHash P (Str.ofString k),key:=.str (Str.ofString k) t,val:=v }
noncomputable def K2 (P:Params):Frag:=[(nat_lit 3,{ cls:=.type "dict", data:=.dict #[ent P "__name__" 165 (.str (Str.ofString "law_sj0181_01") 526),ent P "__doc__" 166 .none,ent P "__package__" 167 .none,ent P "__loader__" 168 (.builtin "__main__.__loader__#opaque"),ent P "__spec__" 169 .none,ent P "__annotations__" 170 (.ref 6),ent P "__builtins__" 171 (.ref 4),ent P "__file__" 173 (.str (Str.ofString "/claim/cut.py") 172),ent P "__cached__" 174 .none,ent P "STATES" 197 (.ref 15),ent P "BEGIN" 199 (.ref 16),ent P "ENDED" 202 (.ref 17),ent P "is_at_least" 210 (.ref 24),ent P "on_hello" 218 (.ref 31),ent P "on_two_way" 226 (.ref 38),ent P "on_adjacent" 234 (.ref 45),ent P "on_exchange_event" 243 (.ref 52),ent P "next_state" 252 (.ref 59),ent P "is_told" 259 (.ref 66),ent P "EXTERNAL" 263 (.int 5 262),ent P "GREATEST_KIND" 265 (.int 5 264),ent P "barred" 273 (.ref 73),ent P "MAX_AGE" 277 (.int 3600 276),ent P "MAX_AGE_DIFF" 279 (.int 900 278),ent P "newer_of" 289 (.ref 81),ent P "key_of" 296 (.ref 88),ent P "MASTER" 300 (.int 1 299),ent P "MORE" 302 (.int 2 301),ent P "INIT" 304 (.int 4 303),ent P "NUMBERS" 308 (.int 4294967296 307),ent P "Describing" 370 (.ref 126),ent P "Exchange" 525 (.ref 236),ent P "_law_drawn" 535 (.ref 245),ent P "_law_begun" 541 (.ref 250),ent P "_law_event" 554 (.ref 257),ent P "_law_hello" 562 (.ref 264),ent P "_law_again" 572 (.ref 271),ent P "_law_look" 580 (.ref 278),ent P "_law_come" 586 (.ref 283),ent P "_law_deed" 598 (.ref 290),ent P "_law_stands" 604 (.ref 295),ent P "law" 610 (.ref 300)] 42 })]
noncomputable def obsH (h:Heap):=(allK h,h.get? 280,h.get? 3,restF (KK h))
noncomputable def valH (P:Params):=(true,some (tabObj #[]),(K2 P).lookup 3,restV)
theorem KK_keeps{h h':Heap} (e:allK h=true) (k:∀ b o,h.get? b=some o->h'.get? b=some o):KK h'=KK h/\allK h'=true:=by
 have q:∀ a∈asK,h'.get? a=h.get? a:=λa ha=>by
  obtain⟨o,ho⟩:=Option.isSome_iff_exists.mp (List.all_eq_true.mp e a ha);rw [ho,k a o ho]
 exact⟨List.map_congr_left λa ha=>by rw [q a ha],List.all_eq_true.mpr λa ha=>by rw [q a ha]; exact List.all_eq_true.mp e a ha⟩
theorem obs_keeps{P:Params} {h h':Heap} (e:obsH h=valH P) (k:∀ b o,h.get? b=some o->h'.get? b=some o):obsH h'=valH P:=by
 obtain⟨e1,e2⟩:=Prod.mk.inj e;obtain⟨e2,e3⟩:=Prod.mk.inj e2;obtain⟨e3,e4⟩:=Prod.mk.inj e3;obtain⟨k1,k2⟩:=KK_keeps e1 k;unfold obsH;rw [k1,k2,k _ _ e2,k _ _ e3,e4];rfl
theorem zFy{f:Addr->Obj} {a:Addr} {o:Obj}:∀ {l:List Addr},(l.map λa=>(a,f a)).lookup a=some o->a∈l/\f a=o
 |[],e=>by cases e
 |b::l,e=>by
  rw [List.map_cons,List.lookup_cons] at e
  cases hb:a == b with
  |true=>rw [hb] at e; cases e; rw [eq_of_beq hb]; exact⟨.head _,rfl⟩
  |false=>rw [hb] at e; exact⟨.tail _ (zFy e).1,(zFy e).2⟩
theorem KK_in{h:Heap} (e:allK h=true):(KK h).In h:=λa o q=>by
 obtain⟨h1,h2⟩:=zFy q;obtain⟨o',ho⟩:=Option.isSome_iff_exists.mp (List.all_eq_true.mp e a h1);rw [ho] at h2 ⊢;exact congrArg some h2
theorem top_run:∀ w os,(topRunT treeTable pw w 11 (some (.ref 6)) 4000 (bootT w os) (topStub pw)).map (λs=>seenT qv looseT obsH w s.abs)=some (true,openGood qv looseT,valH w.params):=λw os=>by kernel_rfl
theorem left:LeftO pw qv looseT (λ_=>true) (λs=>obsH s.heap) (λw=>valH w.params) 4000:=left_of rfl top_run
structure Held (h:Heap):Prop where
 ex:∃ K:Frag,K.In h/\restF K=restV/\noTabs K=true
theorem Held.ghost{h:Heap} {tabs:List (Addr × Addr)} (hT:TabsAt tabs h) (H:Held h):Held (ghostOf h tabs) :=
 let ⟨K,X,e,n⟩:=H.ex; ⟨K,ghost_K hT X n,e,n⟩
theorem obs_parts{P:Params} {h:Heap} (Y:obsH h=valH P):TabsAt [(282,280)] h/\(K2 P).In h/\Held h:=by
 have h1:allK h=true:=congrArg (λx=>x.1) Y;have h2:h.get? 280=some (tabObj #[]):=congrArg (λx=>x.2.1) Y;have h4:h.get? 3=(K2 P).lookup 3:=congrArg (λx=>x.2.2.1) Y;have h3:restF (KK h)=restV:=congrArg (λx=>x.2.2.2) Y;have X:=KK_in h1;have c1:noTabs (KK h)=true:=congrArg (λx=>x.2.2.2.2.2.2.2.2.2.2.2.2.2.1) h3;have c2:codeHdIn (KK h) 282 280=true:=congrArg (λx=>x.2.2.2.2.2.2.2.2.2.2.2.2.2.2) h3;refine⟨List.forall_mem_cons.mpr ⟨⟨codeHd_of_K X c2,h2⟩,λ_ h=>nomatch h⟩,λa o e=>?_,⟨KK h,X,h3,c1⟩⟩
 have q:a=3:=by
  unfold K2 at e;rw [List.lookup_cons] at e
  cases hb:a == 3 with
  |true=>exact eq_of_beq hb
  |false=>rw [hb] at e; cases e
 subst q;exact h4.trans e
theorem post_hide{α:Type} {M:Model} {A:Around} {t:Sem α} {Q:α->Shared->Prop} {E:Value->Shared->Prop} {S:Shared} (h:∀ (Q0:α->Shared->Prop) (E0:Value->Shared->Prop),(∀ a s,Q a s->Q0 a s)->(∀ e s,E e s->E0 e s)->wpAny M A t Q0 E0 S):wpAny M A t Q E S:=h Q E (λ_ _ h=>h) (λ_ _ h=>h)
section
variable {w:World} {K:Frag} {h₀:Heap} {sm:h₀.get? mainGlobals≠none}
noncomputable def oddFn (k:Str):Bool:=eqS k "newer_of" || eqS k "law" || eqS k "Exchange.asked" || eqS k "Exchange.came" || eqS k "Exchange.answer"
theorem zDe{α:Type} {x:Str} {a:α}:∀ {l:List (Str × α)},lookS x l=some a->(x,a)∈l
 |[],h=>by cases h
 |p::l,h=>by
  unfold lookS at h
  cases q:eqS x p.1 with
  |true =>
   rw [q] at h; cases h;rw [zBa.mp q]; exact .head _
  |false=>rw [q] at h; exact .tail _ (zDe h)
theorem zI3{α β:Type} {f g:α->β}:∀ {l:List α},l.map f=l.map g->∀ a∈l,f a=g a
 |[],_,_,h=>by cases h
 |x::l,e,a,h=>by
  rw [List.map_cons,List.map_cons] at e
  injection e with e1 e2
  rcases List.mem_cons.mp h with rfl|h
  ·exact e1
  ·exact zI3 e2 a h
theorem dflt_none:∀ p∈P.fns,oddFn p.1=false->p.2.dflt=[]:=by
 have h:(P.fns.all λp=>oddFn p.1 || p.2.dflt.isEmpty)=true:=by kernel_rfl
 intro p hp ho
 have:=List.all_eq_true.mp h p hp
 rw [ho] at this;simpa using this
theorem lam_only:∀ p∈P.fns,p.2.lam=true->p.1 = "_law_come" := by
 have h:(P.fns.all λp=>!p.2.lam || eqS p.1 "_law_come")=true:=by kernel_rfl
 intro p hp ho
 have:=List.all_eq_true.mp h p hp
 rw [ho] at this;exact zBa.mp (by simpa using this)
theorem odd_tab:∀ k a,lookS k fnTab=some a->oddFn k=true->k = "newer_of" := by
 have h:(fnTab.all λp=>!oddFn p.1 || eqS p.1 "newer_of")=true:=by kernel_rfl
 intro k a hk ho
 have:=List.all_eq_true.mp h _ (zDe hk)
 dsimp only at this;rw [ho] at this;exact zBa.mp (by simpa using this)
theorem nw_data:(lookS "newer_of" P.fns).map (λfn=>(fn.ps,fn.dflt.length,fn.lam))=some ((["one", "other", "max_age", "max_diff"]:List Str),2,false):=by kernel_rfl
theorem nw_dflt:(lookS "newer_of" P.fns).map (λfn=>fn.dflt)=some [.int 3600,.int 900]:=by kernel_rfl
theorem nw_binds{fd:FuncData} {p1 p2 p3 p4:Pos} {d:List Expr} (hp:fd.params=ps4 [⟨"one", none,p1⟩,⟨"other", none,p2⟩,⟨"max_age", none,p3⟩,⟨"max_diff", none,p4⟩] d) (hd:fd.defaults=.ref 74) {s:Shared} (h:s.heap.get? 74=some ⟨.type "tuple", none,.seq #[.int 3600 276,.int 900 278] 0,#[]⟩) (v1 v2:Value) :
  BindsTo s fd ⟨[v1,v2],[]⟩ [("one", v1),("other", v2),("max_age", .int 3600 276),("max_diff", .int 900 278)]:=by
 obtain⟨name,qn,params,body,scope,gl,cl,df,kd,doc,pm,an,cd,ct,bi⟩:=fd;dsimp only at hp hd;subst hp hd;exact BindsTo.of_defaults rfl h rfl rfl rfl
theorem len2E{α:Type} {l:List α} (h:l.length=2):∃ a b,l=[a,b]:=by
 cases l with
 |nil=>cases h
 |cons a l=>cases l with
  |nil=>cases h
  |cons b l=>cases l with
   |nil=>exact⟨a,b,rfl⟩
   |cons=>cases h
theorem fnsOk_fn(X:K.In h₀) (e0:restF K=restV) (CH:CodeHd h₀ 282 280):∀ k f a,lookS k P.fns=some f->(mkCn w K h₀ sm).fnv k=some a->FnAt (mkCn w K h₀ sm) a f:=by
 intro k f a hk ha;have ha':lookS k fnTab=some a:=ha;have hm:=zDe hk
 cases ho:oddFn k with
 |true =>
  have:=odd_tab k a ha' ho
  subst this
  have ea:a=81:=by
   have e:lookS "newer_of" fnTab=some 81:=by kernel_rfl
   rw [e] at ha'; cases ha'; rfl
  subst ea;have e1:=congrArg (λx=>x.2.2.1) e0;dsimp only [restF,restV] at e1;have e2:=nw_data;have e3:=nw_dflt;rw [hk] at e1 e2 e3;simp only [Option.map_some,Option.some.injEq,Prod.mk.injEq] at e1 e2 e3;obtain⟨q1,q2,q3⟩:=e2;unfold nwChk at e1
  cases q:K.lookup 81 with
  |none=>rw [q] at e1; exact zAx e1
  |some o =>
   rw [q] at e1;obtain⟨c0,d0,dt,sl⟩:=o
   cases dt with
   |func fd =>
    dsimp only at e1
    cases hb:fd.body with
    |stmts b =>
     rw [hb] at e1;simp only [Option.some.injEq,Prod.mk.injEq] at e1;obtain⟨g1,g2,g3,g4,g5⟩:=e1;unfold fdChk at g3;simp only [Bool.and_eq_true] at g3;obtain⟨⟨⟨⟨f1,f2⟩,f3⟩,f4⟩,f5⟩:=g3;obtain⟨k1,k2,k3,k4⟩:=zDi f4
     refine⟨by rw [<-g2]; exact k1,by rw [<-g2]; exact k2,by rw [<-g2]; exact k3,by rw [<-g2]; exact k4,_,fd,X _ _ q,rfl,by rw [hb,g1],g2,Nat.eq_of_beq_eq_true f1,Nat.eq_of_beq_eq_true f2,by simpa using f3,zLc X f5,λh=>(by rw [q3] at h; cases h),
      [.int 3600 276,.int 900 278],by rw [e3]; exact .cons (.int _ _) (.cons (.int _ _) .nil),λs vals hkeep hlen=>?_⟩
     rw [q1] at hlen ⊢;obtain⟨v1,v2,rfl⟩:=len2E (Nat.add_right_cancel (m:=2) hlen);exact nw_binds g4 g5 (hkeep _ _ (X _ _ (congrArg (λx=>x.2.2.2.1) e0))) v1 v2
    |_=>rw [hb] at e1; exact zAx e1
   |_=>exact zAx e1
 |false =>
  refine fnData_ok X ?_ (dflt_none _ hm ho) λhl=>?_
  ·have hmf:(k,f)∈fnsT:=by
    refine List.mem_filter.mpr ⟨hm,?_⟩;unfold oddFn at ho;simp only [Bool.or_eq_false_iff] at ho;obtain⟨⟨⟨⟨o1,o2⟩,o3⟩,o4⟩,o5⟩:=ho;dsimp only;rw [o1,o2,o3,o4,o5]; rfl
   have:=zI3 (f:=λp:Str × Fn=>(lookS p.1 fnTab).bind (fnData K)) (g:=λp=>some (p.2.ps,p.2.body,p.2.scope,true)) (congrArg (λx=>x.1) e0) _ hmf
   dsimp only at this;rw [ha'] at this;exact this
  ·have:=lam_only _ hm hl
   dsimp only at this;subst this
   have ea:a=283:=by
    have e:lookS "_law_come" fnTab=some 283:=by kernel_rfl
    rw [e] at ha'; cases ha'; rfl
   subst ea;have e:cmFd K=some (.ref 282):=congrArg (λx=>x.2.1) e0;unfold cmFd at e
   cases q:K.lookup 283 with
   |none=>rw [q] at e; exact zAx e
   |some o =>
    rw [q] at e;obtain⟨c0,d0,dt,sl⟩:=o
    cases dt with
    |func fd=>exact⟨_,fd,282,q,rfl,Option.some.inj e,CH⟩
    |_=>exact zAx e
theorem mem_hasS{x:Str} {l:List Str} (h:hasS x l=true):x∈l:=zNb.mp h
theorem clsOk(e0:restF K=restV):ClsOk (mkCn w K h₀ sm) P where
 pg:=congrArg (λx=>x.2.2.2.2.2.2.1.1) e0
 sa:=congrArg (λx=>x.2.2.2.2.2.2.1.2.2.2.2) e0
 po:=congrArg (λx=>x.2.2.2.2.2.2.1.2.1) e0
 hd:=congrArg (λx=>x.2.2.2.2.2.2.1.2.2.1) e0
 at_ x hx:=by
  have h:(P.attrs.map λx=>findIn K (.ref 236) x)=P.attrs.map λ_=>some none:=congrArg (λx=>x.2.2.2.2.1) e0;exact zI3 h x (mem_hasS hx)
 me x k hk:=by
  have h:(P.meths.map λp=>(lookS p.2 fnTab).map λf=>(findIn K (.ref 236) p.1,isFn K (.ref f)))=P.meths.map λp=>(lookS p.2 fnTab).map λf=>(some (some (.ref f)),true):=congrArg (λx=>x.2.2.2.2.2.1) e0
  have h2:(P.meths.map λp=>(lookS p.2 fnTab).isSome)=P.meths.map λ_=>true:=by kernel_rfl
  have e:=zI3 h _ (zDe hk);have e2:=zI3 h2 _ (zDe hk);dsimp only at e e2;obtain⟨f,hf⟩:=Option.isSome_iff_exists.mp e2;rw [hf] at e;simp only [Option.map_some,Option.some.injEq,Prod.mk.injEq] at e;exact⟨f,hf,e.1,e.2⟩
theorem callOk(e0:restF K=restV):CallOk (mkCn w K h₀ sm) P where
 kp k a hk:=by
  have h:(fnTab.map λp=>keepIn K (.ref p.2))=fnTab.map λ_=>true:=congrArg (λx=>x.2.2.2.2.2.2.2.1) e0;exact zI3 h (k,a) (zDe hk)
 cm k x f hf:=by
  have e:P.cmeths=[((Str.ofString "Describing", Str.ofString "__init__"),Str.ofString "Describing.__init__")]:=by kernel_rfl
  rw [e] at hf;unfold clsM at hf;dsimp only at hf
  cases q1:eqS k "Describing" with
  |false=>rw [q1] at hf; cases hf
  |true =>
   rw [q1] at hf
   cases q2:eqS x "__init__" with
   |false=>rw [q2] at hf; cases hf
   |true =>
    rw [q2] at hf; cases hf;rw [zBa.mp q1,zBa.mp q2]
    refine⟨126,102,by kernel_rfl,by kernel_rfl,congrArg (λx=>x.2.2.2.2.2.2.2.2.1.1) e0,.type "type", congrArg (λx=>x.2.2.2.2.2.2.2.2.1.2.1) e0,congrArg (λx=>x.2.2.2.2.2.2.2.2.1.2.2.1) e0⟩
theorem fnsOk(X:K.In h₀) (e0:restF K=restV) (CH:CodeHd h₀ 282 280):FnsOk (mkCn w K h₀ sm) P where
 fn:=fnsOk_fn X e0 CH
 cls k ik hk:=by
  have e:P.init=[(Str.ofString "Exchange", Str.ofString "Exchange.__init__")]:=by kernel_rfl
  rw [e] at hk;unfold lookS at hk;dsimp only at hk
  cases q1:eqS k "Exchange" with
  |false=>rw [q1] at hk; cases hk
  |true =>
   rw [q1] at hk; cases hk;rw [zBa.mp q1];exact⟨by kernel_rfl,144,by kernel_rfl,congrArg (λx=>x.2.2.2.2.2.2.2.2.1.2.2.2.1) e0,congrArg (λx=>x.2.2.2.2.2.2.2.2.1.2.2.2.2) e0⟩
 mks:=congrArg (λx=>x.2.2.2.2.2.2.1.2.2.2.1) e0
theorem lamOk{mg:Str->Option Value} (hg:h₀.Ns mainGlobals mg) (hb:∃ bm ob,mg "__builtins__" = some (.ref bm)/\bm≠builtinsNs/\h₀.get? bm=some ob/\ob.cls=.type "module" /\ ob.dict=some builtinsNs/\ob.data=.plain) (hP:∀ o,h₀.get? 280≠some o):LamOk (mkCn w K h₀ sm) where
 top:=by
  obtain⟨bm,ob,h1,h2,h3,h4,h5,h6⟩:=hb
  refine⟨mg,hg,bm,ob,h1,h2,?_,?_,h3,h4,h5,h6⟩
  ·rintro rfl;obtain⟨o,es,ep,ho,hd,_⟩:=hg;rw [h3] at ho; cases ho;rw [h6] at hd; cases hd
  ·rintro rfl;exact hP _ h3
 ne:=by
  show mainGlobals≠(280:Nat)
  decide
noncomputable def GlobOk (cn:Cn) (x:Str) (d:V):Prop:=∃ val,VR cn ⟨[],cn.fzA,[]⟩ d val/\(nsIn cn.K mainGlobals x=some (some val)\/(nsIn cn.K mainGlobals x=some none/\bootBuiltins x=some val/\x ≠ "__name__"))
theorem stat_glob{cn:Cn} (X:cn.K.In cn.h₀) {mg mb:Str->Option Value} (hg:cn.h₀.Ns mainGlobals mg) (hb:cn.h₀.Ns builtinsNs mb) (hbi:∀ x:Str,x ≠ "__name__" -> mb x=bootBuiltins x) {x:Str} {d:V} (h:GlobOk cn x d) :
  ∃ val,VR cn ⟨[],cn.fzA,[]⟩ d val/\∀ (A:Around) (env:Env) (Q:Value->Shared->Prop) (E:Value->Shared->Prop) (s:Shared),
  env.scope.kind=.function->env.kindOf x=some .globalImplicit->env.globals=mainGlobals->env.builtins=builtinsNs->(∀ b o,cn.h₀.get? b=some o->s.heap.get? b=some o)->Q val s->wpAny (model cn.prog cn.w) A (loadName env x) Q E s:=by
 obtain⟨val,hv,h⟩:=h;refine⟨val,hv,λA env Q E s hk hx hgl hbl hkeep hQ=>?_⟩;unfold loadName;simp only [Env.blockKind,hk,hx,ScopeKind.isAnnotationScope,Bool.false_and,Bool.false_eq_true,if_false]
 rcases h with h|⟨h1,h2,h3⟩
 ·exact loadGlobal_global (env:=env) (by rw [hgl]; exact hg.keeps hkeep) (mg_of X hg h) hQ
 ·exact loadGlobal_builtin (env:=env) (by rw [hgl]; exact hg.keeps hkeep) (mg_none_of X hg h1) (by rw [hbl]; exact hb.keeps hkeep) ((hbi x h3).trans h2) hQ
noncomputable def rawOf:V->Option Bi
 | .raw b=>some b
 |_=>none
noncomputable def isTup:V->Bool
 | .tup _=>true
 |_=>false
theorem raw_boot:∀ p∈P.globs,∀ b,p.2=.raw b->bootBuiltins p.1=some (biOf b):=by
 have h:(P.globs.map λp=>(rawOf p.2).map λb=>bootBuiltins p.1)=P.globs.map λp=>(rawOf p.2).map λb=>some (biOf b):=by kernel_rfl
 intro p hp b hb
 have:=zI3 h p hp
 rw [hb] at this;simpa [rawOf] using this
theorem tup_three:(P.globs.filter λp=>isTup p.2)=[(Str.ofString "STATES", mkStrs ["down", "attempt", "init", "two_way", "exstart", "exchange", "loading", "full"]),(Str.ofString "BEGIN", mkStrs ["begin_exchange"]),(Str.ofString "ENDED", mkStrs ["clear_lists", "stop_inactivity"])]:=by kernel_rfl
theorem tup_vr(w:World) {a:Addr} {ss:List String} {l:List (String × Tok)} (hl:l.map (·.1)=ss) (h:K.lookup a=some ⟨.type "tuple", none,.seq (strsV l) 0,#[]⟩) (hm:(a,(⟨.type "tuple", none,.seq (strsV l) 0,#[]⟩:Obj))∈fz0 K) (hs:l.length<=10):VR (mkCn w K h₀ sm) ⟨[],fz0 K,[]⟩ (mkStrs ss) (.ref a):=by
 refine .tup (n:=0) hm ?_ ?_
 ·unfold strsV big; simp; lia
 ·subst hl;unfold strsV;simp only;clear h hm hs
  induction l with
  |nil=>exact .nil
  |cons p l ih=>exact .cons (.str _ _) ih
theorem glob_tup(e0:restF K=restV) {x:Str} {ds:List V} (hm:(x,V.tup ds)∈P.globs):GlobOk (mkCn w K h₀ sm) x (.tup ds):=by
 have hf:(x,V.tup ds)∈P.globs.filter λp=>isTup p.2:=List.mem_filter.mpr ⟨hm,rfl⟩;rw [tup_three] at hf
 have ez:fz0 K=[tupS 15 tup15,tupS 16 [("begin_exchange", 198)],tupS 17 tup17]:=congrArg (λx=>x.2.2.2.2.2.2.2.2.2.2.1) e0
 clear hm
 rcases List.mem_cons.mp hf with e|hf
 ·cases e;exact⟨_,tup_vr w (l:=tup15) rfl (congrArg (λx=>x.2.2.2.2.2.2.2.2.2.2.2.2.1.1) e0) (by rw [ez]; exact .head _) (by decide),.inl (congrArg (λx=>x.2.2.2.2.2.2.2.2.2.2.2.1.1) e0)⟩
 rcases List.mem_cons.mp hf with e|hf
 ·cases e
  exact⟨_,tup_vr w (l:=[("begin_exchange", 198)]) rfl (congrArg (λx=>x.2.2.2.2.2.2.2.2.2.2.2.2.1.2.1) e0) (by rw [ez]; exact .tail _ (.head _)) (by decide),.inl (congrArg (λx=>x.2.2.2.2.2.2.2.2.2.2.2.1.2.1) e0)⟩
 cases List.mem_singleton.mp hf;exact⟨_,tup_vr w (l:=tup17) rfl (congrArg (λx=>x.2.2.2.2.2.2.2.2.2.2.2.2.1.2.2) e0) (by rw [ez]; exact .tail _ (.tail _ (.head _))) (by decide),.inl (congrArg (λx=>x.2.2.2.2.2.2.2.2.2.2.2.1.2.2) e0)⟩
theorem glob_ok(e0:restF K=restV) {x:Str} {d:V} (h:lookS x P.globs=some d):GlobOk (mkCn w K h₀ sm) x d:=by
 have hm:=zDe h;clear h;have hc:=List.all_eq_true.mp (congrArg (λx=>x.2.2.2.2.2.2.2.2.2.1) e0:P.globs.all (chkGlob K)=true) _ hm;unfold chkGlob at hc
 cases d with
 |int i =>
  clear e0 hm
  cases q:nsIn K mainGlobals x with
  |none=>dsimp only at hc; rw [q] at hc; exact nay hc
  |some o =>
   dsimp only at hc;rw [q] at hc
   cases o with
   |none=>exact nay hc
   |some v =>
    cases v with
    |int j t =>
     cases hd:decEq i j with
     |isFalse _=>unfold vInt at hc; dsimp only at hc; rw [hd] at hc; exact nay hc
     |isTrue e=>subst e; exact⟨_,.int _ _,.inl q⟩
    |_=>exact nay hc
 |tup ds=>exact glob_tup e0 hm
 |fn k =>
  clear e0 hm;dsimp only at hc
  cases q1:lookS k fnTab with
  |none=>rw [q1] at hc; exact nay hc
  |some a =>
   rw [q1] at hc;dsimp only at hc
   cases q:nsIn K mainGlobals x with
   |none=>rw [q] at hc; exact nay hc
   |some o =>
    rw [q] at hc
    cases o with
    |none=>exact nay hc
    |some v =>
     cases v with
     |ref b =>
      cases Nat.eq_of_beq_eq_true hc;exact⟨_,.fn q1,.inl q⟩
     |_=>exact nay hc
 |raw b =>
  clear e0;dsimp only at hc
  cases q:nsIn K mainGlobals x with
  |none=>rw [q] at hc; exact nay hc
  |some o =>
   rw [q] at hc
   cases o with
   |some v=>exact nay hc
   |none=>exact⟨_,.raw b,.inr ⟨q,raw_boot _ hm b rfl,zB9.mp (by simpa using hc)⟩⟩
 |_=>exact nay hc
theorem allOk{mg mb:Str->Option Value} (X:K.In h₀) (e0:restF K=restV) (CH:CodeHd h₀ 282 280) (hg:h₀.Ns mainGlobals mg) (hb:h₀.Ns builtinsNs mb) (hbi:∀ x:Str,x ≠ "__name__" -> mb x=bootBuiltins x) (hlim:h₀.NoLimit)
  (hbm:∃ bm ob,mg "__builtins__" = some (.ref bm)/\bm≠builtinsNs/\h₀.get? bm=some ob/\ob.cls=.type "module" /\ ob.dict=some builtinsNs/\ob.data=.plain) (hP:∀ o,h₀.get? 280≠some o):zD0 (mkCn w K h₀ sm) P where
 T:=⟨X,hlim,λx d h=>stat_glob (cn:=mkCn w K h₀ sm) X hg hb hbi (glob_ok e0 h)⟩
 C:=clsOk e0
 CC:=callOk e0
 FO:=fnsOk X e0 CH
 LO:=lamOk hg hbm hP
end
mutual
inductive zCx (ix:List Nat):V->V->Prop
 |none:zCx ix .none .none
 |bool (b):zCx ix (.bool b) (.bool b)
 |ii {i j}:i=j->zCx ix (.int i) (.int j)
 |is {i j}:i=j->zCx ix (.int i) (.sym j)
 |si {i j}:i=j->zCx ix (.sym i) (.int j)
 |ss {i j}:i=j->zCx ix (.sym i) (.sym j)
 |str (x):zCx ix (.str x) (.str x)
 |tup {ds es}:zBl ix ds es->zCx ix (.tup ds) (.tup es)
 |lst {ds es}:zBl ix ds es->zCx ix (.lst ds) (.lst es)
 |dct {ks ds es}:zBl ix ds es->zCx ix (.dct ks ds) (.dct ks es)
 |fn (k):zCx ix (.fn k) (.fn k)
 |raw (b):zCx ix (.raw b) (.raw b)
 |ref {i j}:ix[j]?=some i->zCx ix (.ref i) (.ref j)
inductive zBl (ix:List Nat):List V->List V->Prop
 |nil:zBl ix [] []
 |cons {d e ds es}:zCx ix d e->zBl ix ds es->zBl ix (d::ds) (e::es)
end
noncomputable def RenN (ix:List Nat) (i j:Nat):Prop:=ix[j]?=some i
noncomputable def zBe (ix:List Nat):AO->AO->Prop
 | .list a b c,.list a' b' c'=>zBl ix (a++b++c) (a'++b'++c')/\∀ d∈b',okV 12 d=true
 | .dict ks ds,.dict ks' es=>ks=ks'/\zBl ix ds es
 | .attrs ks ds,.attrs ks' es=>ks=ks'/\zBl ix ds es
 | .inst k d,.inst k' d'=>k=k'/\RenN ix d d'
 | .tab,.tab=>True
 | .iter v i,.iter v' i'=>zCx ix v v'/\i=i'
 | .riter i n,.riter i' n'=>i=i'/\n=n'
 | .range n,.range n'=>n=n'
 |_,.dead=>True
 |_,_=>False
noncomputable def G.pick (g:G) (ix:List Nat):G:={ g with ρ:=ix.map λi=>(g.ρ[i]?).getD 0 }
section
variable {cn:Cn} {g:G} {ix:List Nat}
theorem zL4{i j:Nat} {a:Addr} (h:ix[j]?=some i) (ha:g.ρ[i]?=some a):(g.pick ix).ρ[j]?=some a:=by
 show (ix.map λi=>(g.ρ[i]?).getD 0)[j]?=some a;rw [List.getElem?_map,h];simp [ha]
theorem VR.ren2:(∀ {d e:V},zCx ix d e->∀ {v:Value},VR cn g d v->VR cn (g.pick ix) e v)/\∀ {ds es:List V},zBl ix ds es->∀ {vs:List Value},VRs cn g ds vs->VRs cn (g.pick ix) es vs:=by
 have dc:∀ {ks ds es} {v:Value},(∀ vs,VRs cn g ds vs->VRs cn (g.pick ix) es vs)->VR cn g (.dct ks ds) v->VR cn (g.pick ix) (.dct ks es) v:=λr hv=>by
  cases hv with
  |dct h1 h2 h3 h4 h5 h6 h7 hm h8=>exact .dct h1 h2 h3 h4 h5 h6 h7 hm (r _ h8)
 have ni:∀ {b} {v:Value},VR cn g (.int b) v\/VR cn g (.sym b) v->VR cn (g.pick ix) (.int b) v/\VR cn (g.pick ix) (.sym b) v:=λh=>by
  obtain⟨t,rfl⟩:=h.elim VR.inv VR.inv;exact⟨.int _ _,.sym _ _⟩
 have M1:∀ {d e:V},zCx ix d e->∀ v:Value,VR cn g d v->VR cn (g.pick ix) e v:=λh=>zCx.rec (motive_1:=λd e _=>∀ v,VR cn g d v->VR cn (g.pick ix) e v) (motive_2:=λds es _=>∀ vs,VRs cn g ds vs->VRs cn (g.pick ix) es vs)
  (λv h=>(show v=_ from h.inv)▸.none) (λb v h=>(show v=_ from h.inv)▸.bool b) (λe v h=>e▸(ni (.inl h)).1) (λe v h=>e▸(ni (.inl h)).2) (λe v h=>e▸(ni (.inr h)).1) (λe v h=>e▸(ni (.inr h)).2)
  (λx v h=>let ⟨t,e⟩:=h.inv; e▸.str x t) (λ_ r v h=>let ⟨_,_,_,e,h1,h2,h3⟩:=h.inv; e▸.tup h1 h2 (r _ h3)) (λ_ r v h=>let ⟨_,_,_,e,h1,h2,h3⟩:=h.inv; e▸.lst h1 h2 (r _ h3))
  (λ_ r v h=>dc r h) (λk v h=>let ⟨_,e,h1⟩:=h.inv; e▸.fn h1) (λb v h=>(show v=_ from h.inv)▸.raw b) (λq v h=>let ⟨_,e,h1⟩:=h.inv; e▸.ref (zL4 q h1))
  (λvs h=>h.nil_inv▸.nil) (λ_ _ r1 r2 vs h=>h.cons_inv λ_ _ e a b=>e▸.cons (r1 _ a) (r2 _ b)) h
 refine⟨λh _=>M1 h _,λ{ds es} h=>?_⟩
 induction ds generalizing es with
 |nil=>cases h; exact λh=>h.nil_inv▸.nil
 |cons d ds ih=>cases h with
  |cons h r=>exact λq=>q.cons_inv λ_ _ e a b=>e▸.cons (M1 h _ a) (ih r b)
theorem VR.ren{d e:V} {v:Value} (r:zCx ix d e) (h:VR cn g d v):VR cn (g.pick ix) e v:=VR.ren2.1 r h
theorem VRs.ren{ds es:List V} {vs:List Value} (r:zBl ix ds es) (h:VRs cn g ds vs):VRs cn (g.pick ix) es vs:=VR.ren2.2 r h
theorem zBl.nil_inv{es:List V} (h:zBl ix [] es):es=[]:=by cases h; rfl
theorem zBl.cons_inv{C:Prop} {d:V} {ds es:List V} (h:zBl ix (d::ds) es) (K:∀ e us,es=e::us->zCx ix d e->zBl ix ds us->C):C:=by
 cases h with
 |cons h r=>exact K _ _ rfl h r
theorem zBl.ind{m:List V->List V->Prop} (n:m [] []) (c:∀ {d e ds es},zCx ix d e->zBl ix ds es->m ds es->m (d::ds) (e::es)):∀ {ds es:List V},zBl ix ds es->m ds es:=by
 intro ds
 induction ds with
 |nil=>exact λh=>h.nil_inv▸n
 |cons d ds ih=>exact λh=>h.cons_inv λ_ _ e a b=>e▸c a b (ih b)
theorem ER.ren{ks:List Str} {ds es:List V} {l:List DictEntry} (r:zBl ix ds es) (h:ER cn g ks ds l):ER cn (g.pick ix) ks es l:=by
 induction h generalizing es with
 |nil=>exact r.nil_inv▸.nil
 |cons hv _ ih=>exact r.cons_inv λ_ _ e a b=>e▸.cons (VR.ren a hv) (ih b)
theorem zBl.len{ds es:List V} (h:zBl ix ds es):ds.length=es.length:=h.ind (m:=λds es=>ds.length=es.length) rfl λ_ _ ih=>congrArg Nat.succ ih
theorem OR.ren{h:Heap} {a:Addr} {o o':AO} (r:zBe ix o o') (H:OR cn g h a o):OR cn (g.pick ix) h a o':=by
 cases o<;>cases o'<;>first|trivial|exact r.elim|skip
 ·obtain⟨vs,n,h1,h2,h3,h4⟩:=H;exact⟨vs,n,h1,h2,h3.ren r.1,r.2⟩
 ·obtain⟨vs,h1,h2,h3⟩:=H;obtain⟨rfl,r2⟩:=r;exact⟨vs,h1,h2,h3.ren r2⟩
 ·obtain⟨es,n,h1,h2⟩:=H;obtain⟨rfl,r2⟩:=r;exact⟨es,n,h1,h2.ren r2⟩
 ·obtain⟨dx,h1,h2,h3⟩:=H;obtain⟨rfl,r2⟩:=r;exact⟨dx,h1,zL4 r2 h2,h3⟩
 ·obtain⟨l,h1,h2⟩:=H;obtain⟨r1,rfl⟩:=r;refine⟨l,h1.ren r1,?_⟩;cases r1<;>exact h2
 ·obtain⟨rfl,rfl⟩:=r;exact H
 ·have r:_=_:=r;subst r;exact H
inductive RenFs (ix:List Nat):List (List Str × List V)->List (List Str × List V)->Prop
 |nil:RenFs ix [] []
 |cons {ks ds es fs fs'}:zBl ix ds es->RenFs ix fs fs'->RenFs ix ((ks,ds)::fs) ((ks,es)::fs')
theorem assoc_ren{x:Str} {ks:List Str} {ds es:List V} {e:V} (r:zBl ix ds es) (h:assoc x ks es=some e):∃ d,assoc x ks ds=some d/\zCx ix d e:=by
 induction ks generalizing ds es with
 |nil=>cases h
 |cons k ks ih =>
  cases es with
  |nil=>cases h
  |cons e0 es =>
   cases ds with
   |nil=>exact nomatch r.nil_inv
   |cons d ds =>
    refine r.cons_inv λ_ _ q hd hr=>?_;cases q;unfold assoc at h ⊢
    cases q:eqS x k with
    |true=>rw [q] at h; cases h; exact⟨_,rfl,hd⟩
    |false=>rw [q] at h; exact ih hr h
theorem FR.ren{h:Heap} {L:Addr} {ks:List Str} {ds es:List V} (r:zBl ix ds es) (H:FR cn g h L (ks,ds)):FR cn (g.pick ix) h L (ks,es):=by
 obtain⟨m,hn,hm⟩:=H;refine⟨m,hn,λx e he=>?_⟩;obtain⟨d,hd,hr⟩:=assoc_ren r he;obtain⟨v,h1,h2⟩:=hm x d hd;exact⟨v,h1,h2.ren hr⟩
theorem lay_ren{h:Heap} {φ:List Addr} {fs fs':List (List Str × List V)} (r:RenFs ix fs fs') (H:Lay (FR cn g h) φ fs):Lay (FR cn (g.pick ix) h) φ fs':=by
 induction H generalizing fs' with
 |nil=>cases r; exact .nil
 |cons hf _ ih=>cases r with
  |cons r rs=>exact .cons (FR.ren r hf) (ih rs)
theorem St.pick{s:S0} {h:Heap} (X:St cn g s h) {σ':List AO} {fr':List (List Str × List V)} (orc':List Bool) (nd:ix.Nodup) (hl:σ'.length=ix.length) (hf:RenFs ix s.fr fr')
  (ho:∀ (j i:Nat) (o':AO),ix[j]?=some i->σ'[j]?=some o'->∃ o,s.σ[i]?=some o/\zBe ix o o'):St cn (g.pick ix) ⟨fr',σ',orc'⟩ h:=by
 have back:∀ {j:Nat} {a:Addr} {o':AO},(g.pick ix).ρ[j]?=some a->σ'[j]?=some o'->∃ i o,ix[j]?=some i/\g.ρ[i]?=some a/\s.σ[i]?=some o/\zBe ix o o':=by
  intro j a o' ha ho';have ha':(ix.map λi=>(g.ρ[i]?).getD 0)[j]?=some a:=ha;rw [List.getElem?_map] at ha'
  cases q:ix[j]? with
  |none=>rw [q] at ha'; cases ha'
  |some i =>
   rw [q] at ha';obtain⟨o,h1,h2⟩:=ho j i o' q ho';obtain⟨b,h3,_⟩:=X.obj h1;rw [Option.map_some,h3] at ha';cases ha';exact⟨i,o,rfl,h3,h1,h2⟩
 have live:∀ {o o':AO},zBe ix o o'->isDead o'=false->isDead o=false:=by
  intro o o' r h
  cases o<;>cases o'<;>first|rfl|exact absurd h (by decide)|exact r.elim
 refine⟨X.keep,Lay.of (by show (ix.map _).length=σ'.length; rw [List.length_map,hl]) λj a o' ha ho'=>?_,lay_ren hf X.frs,X.fzs,?_,X.nφ,?_,?_,X.baseφ,?_,X.offφ,X.z0⟩
 ·obtain⟨i,o,_,h2,h3,h4⟩:=back ha ho';exact (X.at h3 h2).ren h4
 ·intro j k a o o' h1 h2 h3 h4 d1 d2;obtain⟨i1,p1,e1,f1,g1,r1⟩:=back h1 h3;obtain⟨i2,p2,e2,f2,g2,r2⟩:=back h2 h4
  have:=X.one i1 i2 a p1 p2 f1 f2 g1 g2 (live r1 d1) (live r2 d2)
  subst this;obtain⟨l1,q1⟩:=List.getElem?_eq_some_iff.mp e1;obtain⟨l2,q2⟩:=List.getElem?_eq_some_iff.mp e2
  exact List.getElem_inj (h₀:=l1) (h₁:=l2) nd |>.mp (q1.trans q2.symm)
 ·intro j a o' h1 h2 d;obtain⟨i,o,e1,f1,g1,r1⟩:=back h1 h2;exact X.offρφ i a o f1 g1 (live r1 d)
 ·intro j a o' h1 h2 d;obtain⟨i,o,e1,f1,g1,r1⟩:=back h1 h2;exact X.baseρ i a o f1 g1 (live r1 d)
 ·intro j a o' h1 h2 d;obtain⟨i,o,e1,f1,g1,r1⟩:=back h1 h2;exact X.offρ i a o f1 g1 (live r1 d)
end
noncomputable abbrev Ovr:=Str->Option (Nat->List V->M V)
noncomputable def callX (P:Prog) (F:Ovr) (r:Rec) (n:Nat) (f:V) (as:List V):M V:=match f with
 | .fn k=>match F k with
  |some m=>m n as
  |none=>call P r n (.fn k) as
 |f=>call P r n f as
noncomputable def stepX (P:Prog) (F:Ovr) (r:Rec):Rec:=⟨ev P r,tst r,exs r,asg P r,callX P F r,loop r,comp r⟩
noncomputable def runX (P:Prog) (F:Ovr):Nat->Rec
 |0=>Rec.none
 |n+1=>stepX P F (runX P F n)
noncomputable def OvrOk (cn:Cn) (F:Ovr):Prop:=∀ k m,F k=some m->∀ (g:G) (A:Around) (n:Nat) (a:Addr) (as:List V) (vs:List Value),AOk A n->cn.fnv k=some a->VRs cn g as vs ->
 SimC cn A g (m n as) (.call (.ref a) ⟨vs,[]⟩) (λg' d res=>∃ w,res=.ok (.ret w)/\VR cn g' d w)
section
variable {cn:Cn} {P:Prog} {F:Ovr} {r:Rec}
theorem zQq{n:Nat} {f:V} {as:List V} (h:∀ k,f≠.fn k):callX P F r n f as=call P r n f as:=by
 cases f<;>first|rfl|exact absurd rfl (h _)
theorem zPq(O:zD0 cn P) (OF:OvrOk cn F) (R:zA2 cn r):zA2 cn (stepX P F r):=by
 have cc:∀ {g:G} {A:Around} {n:Nat} {k:Str} {a:Addr} {as:List V} {vs:List Value},AOk A n->cn.fnv k=some a->VRs cn g as vs->SimC cn A g (callX P F r n (.fn k) as) (.call (.ref a) ⟨vs,[]⟩) (λg' d res=>∃ w,res=.ok (.ret w)/\VR cn g' d w):=by
  intro g A n k a as vs hA ha hv;unfold callX;dsimp only
  cases q:F k with
  |none=>dsimp only; exact zIr O.T O.FO R hA ha hv
  |some m=>dsimp only; exact OF k m q g A n a as vs hA ha hv
 exact {
  ev:=λe H hA=>sim_ev O R H hA e
  tst:=λe H hA=>sim_tst R H hA e
  exs:=λss H hA=>zO8 R ss H hA
  asg:=λe _ _ H hA hv=>sim_asg O.T O.C R H hA e hv
  call:=by
   intro g A n f fv as vs hA hf hv
   cases f with
   |fn k =>
    cases hf with
    |fn ha =>
     intro s s' d ob S Q E e ok X hQ;refine wpAny_call (cc hA ha hv s s' d ob S _ e ok X λg' h' tk res hg Y hr=>?_);obtain⟨w,rfl,hw⟩:=hr;exact hQ g' h' tk w hg Y hw
   |_=>exact zQ2 O.T O.FO R hA hf hv
  callC:=λhA ha hv=>cc hA ha hv
  callee:=by
   intro n f as s x e
   by_cases hf:∃ k,f=.fn k
   ·exact .inl hf
   ·have e':callX P F r n f as s=some x:=e;rw [zQq λk q=>hf ⟨k,q⟩] at e';obtain⟨_,_,h⟩:=zGz e';exact h
  loop:=λH hA hi=>zQz R H hA hi
  comp:=λH hA hi hn=>zQ1 R H hA hi hn }
theorem zFs(O:zD0 cn P) (OF:OvrOk cn F):∀ n,zA2 cn (runX P F n)
 |0=>zK1
 |n+1=>zPq O OF (zFs O OF n)
end
set_option backward.match.sparseCases false
noncomputable def zBf:List Str:=["state", "talk", "lists", "heard"]
noncomputable def zBo:List Str:=["mtu", "options", "portion", "is_master", "seq", "left", "sent", "own", "other", "stage", "met", "requests"]
noncomputable def sv (s:String):V:=.str (Str.ofString s)
structure Sd where
 st:V
 talk:V
 lists:AO
 heard:AO
 inst:AO
 td:AO
noncomputable def posN (n:Nat):List Nat->Nat->Nat
 |[],k=>k
 |m::l,k=>match Nat.beq n m with
  |true=>k
  |false=>posN n l (k+1)
noncomputable def renV1 (ix:List Nat):V->V
 | .ref i=>.ref (posN i ix 0)
 |v=>v
noncomputable def renO1 (ix:List Nat):AO->AO
 | .dict ks ds=>.dict ks (ds.map (renV1 ix))
 | .inst k d=>.inst k (posN d ix 0)
 |o=>o
noncomputable def pickA (σ:List AO) (i:Nat):AO:=match σ[i]? with
 |some o=>o
 |none=>.dead
noncomputable def pickσ (a:Bool) (ix:List Nat) (σ:List AO):Nat->List Nat->List AO
 |_,[]=>[]
 |j,i::r=>(match (match a with|false=>Nat.beq j 6 || Nat.beq j 12|true=>Nat.beq j 7 || Nat.beq j 14) with
  |true=>renO1 ix (pickA σ i)
  |false=>pickA σ i)::pickσ a ix σ (j+1) r
noncomputable def headV (at_ turn name:Nat):V:=.tup [.int 0,.int 2,.int 1,.sym (100*turn+name:Nat),.int (at_+1:Nat),.int 1,.int 7]
noncomputable def keyV (at_ turn name:Nat):V:=.tup [.int 1,.sym (100*turn+name:Nat),.int (at_+1:Nat)]
noncomputable def zAl (at_ turn:Nat):List V:=(List.range ((turn+at_)%4)).map (headV at_ turn)
noncomputable def zAq (at_ turn:Nat):List V:=(List.range ((turn+at_)%4)).map (keyV at_ turn)
noncomputable def numV (at_ turn:Nat):V:=.sym (1000*turn+500*at_:Nat)
noncomputable def zC9 (at_ turn:Nat):V:=.tup [sv "dd", .int 1500,.int 2,.int 7,numV at_ turn,.tup []]
noncomputable def zDp (at_ turn:Nat):AO:=.attrs zBo [.int 1500,.int 2,.int 1,.bool true,numV at_ turn,.lst (zAl at_ turn),zC9 at_ turn,.int (5+4*at_:Nat),.int (9-4*at_:Nat),sv "exstart", .none,.dct [] []]
noncomputable def isKs:List Str->List Str->Bool
 |[],[]=>true
 |k::ks,l::ls=>eqS k l && isKs ks ls
 |_,_=>false
noncomputable def isRef (n:Nat):V->Bool
 | .ref m=>Nat.beq n m
 |_=>false
noncomputable def isRs:List Nat->List V->Bool
 |[],[]=>true
 |n::ns,d::ds=>isRef n d && isRs ns ds
 |_,_=>false
noncomputable def isL (ns:List Nat):AO->Bool
 | .list p [] []=>isRs ns p
 |_=>false
noncomputable def isD (ks:List Str) (ns:List Nat):AO->Bool
 | .dict k d=>isKs k ks && isRs ns d
 |_=>false
noncomputable def mid:AO->Option (List V)
 | .list [] m []=>some m
 |_=>none
noncomputable def sid (n:Nat):AO->Option V
 | .dict ks [st,_,r,_]=>match isKs ks zBf && isRs [n] [r] with
  |true=>some st
  |false=>none
 |_=>none
noncomputable def begR (k:Nat) (w ls sd lm dd L:AO):Option (V × List V × List V):=match isD ["lines", "sides"] [2,5] w && isL [3,4] ls && isL [6,7] sd with
 |true=>(sid k dd).bind λst=>(mid lm).bind λm=>(mid L).map λm0=>(st,m,m0)
 |false=>none
noncomputable def begN' (at_ turn n:Nat):List AO:=[.dead,.dead,.dead,.dead,.dead,zDp at_ turn,.inst "Exchange" (n+5),.dead,.list [] [] [],.dead,.dead,.dead]
noncomputable def beg0 (σ:List AO):Option (List AO × List Ob):=match σ with
 |t::w::ls::l0::lm::sd::dd::d1::L::rest=>(begR 8 w ls sd lm dd L).map λx=>let turn:=x.2.2.length+1
   let n:=rest.length+9
   (t::w::ls::l0::.list [] x.2.1 ([.tup [sv "dd", zC9 0 turn]])::sd::.dict zBf [x.1,.ref (n+6),.ref 8,.ref (n+8)]::d1::.list [] x.2.2 ([.lst (zAq 0 turn)])::rest++begN' 0 turn n,[.len x.2.1.length,.len x.2.2.length])
 |_=>none
noncomputable def beg1 (σ:List AO):Option (List AO × List Ob):=match σ with
 |t::w::ls::lm::l1::sd::d0::dd::L0::L::rest=>(begR 9 w ls sd lm dd L).map λx=>let turn:=x.2.2.length+1
   let n:=rest.length+10
   (t::w::ls::.list [] x.2.1 ([.tup [sv "dd", zC9 1 turn]])::l1::sd::d0::.dict zBf [x.1,.ref (n+6),.ref 9,.ref (n+8)]::L0::.list [] x.2.2 ([.lst (zAq 1 turn)])::rest++begN' 1 turn n,[.len x.2.1.length,.len x.2.2.length])
 |_=>none
noncomputable def begN (n e:Nat):Bool:=(Nat.beq n 37 && Nat.beq e 24) || (Nat.beq n 36 && Nat.beq e 27)
noncomputable def begA (at_:Nat) (σ:List AO):Option (List AO × List Ob):=match at_ with
 |0=>beg0 σ
 |1=>beg1 σ
 |_=>none
noncomputable def natV:V->Option Nat
 | .int (.ofNat n)=>some n
 |_=>none
noncomputable def argB:List V->Option Nat
 |[x,y]=>match isRef 1 x with
  |true=>natV y
  |false=>none
 |_=>none
noncomputable def begM (n:Nat) (as:List V):M V:=λs=>match begN n s.σ.length with
 |true=>(argB as).bind λa=>(begA a s.σ).map λr=>(.none,{ s with σ:=r.1 },r.2)
 |false=>none
noncomputable def FB:Ovr:=λk=>match eqS k "_law_begun" with
 |true=>some begM
 |false=>none
noncomputable def RB:Rec:=runX P FB 300
noncomputable def R3:Rec:=run P 300
noncomputable def zAh (ix:List Nat) (r:Option (V × S0 × List Ob)):Option (V × List (List Str × List V) × List AO × Nat × List Bool × List Ob):=match r with
 |some (v,s,ob)=>some (v,s.fr,ix.map (pickA s.σ),s.σ.length,s.orc,ob)
 |none=>none
section
variable (fr:List (List Str × List V)) (p m q h:List V) (x st tk hr:V) (t l0 l1 d0 d1 L0 L1 e0 e1 e2 e3 e4 e5 e6 e7 e8 e9 e10 e11 e12 e13 e14 e15 e16 e17:AO)
theorem beg_0_24_n:zAh [0,1,2,3,4,5,6,7,8,9,10,11,12,13,14,15,16,17,18,19,20,21,22,23,29,30,32] (R3.call 37 (.fn "_law_begun") [.ref 1,.int 0] ⟨fr,[t,.dict ["lines", "sides"] [.ref 2,.ref 5],.list [.ref 3,.ref 4] [] [],l0,.list p m q,.list [.ref 6,.ref 7] [] [],.dict zBf [st,tk,.ref 8,hr],d1,.list [] [] [],e0,e1,e2,e3,e4,e5,e6,e7,e8,e9,e10,e11,e12,e13,e14],[]⟩) =
  some (.none,fr,[t,.dict ["lines", "sides"] [.ref 2,.ref 5],.list [.ref 3,.ref 4] [] [],l0,.list p m (q++[.tup [sv "dd", .tup [sv "dd", .int 1500,.int 2,.int 7,.int 1000,.tup []]]]),.list [.ref 6,.ref 7] [] [],.dict zBf [st,.ref 30,.ref 8,.ref 32],d1,.list [] [] [.lst [.tup [.int 1,.int 100,.int 1]]],e0,e1,e2,e3,e4,e5,e6,e7,e8,e9,e10,e11,e12,e13,e14,.attrs zBo [.int 1500,.int 2,.int 1,.bool true,.int 1000,.lst [.tup [.int 0,.int 2,.int 1,.int 100,.int 1,.int 1,.int 7]],.tup [sv "dd", .int 1500,.int 2,.int 7,.int 1000,.tup []],.int 5,.int 9,sv "exstart", .none,.dct [] []],.inst "Exchange" 29,.list [] [] []],36,[],[.len 0,.len 0,.len 0,.len ((p++m)++q).length]):=by kernel_rfl
theorem beg_0_24_0:zAh [0,1,2,3,4,5,6,7,8,9,10,11,12,13,14,15,16,17,18,19,20,21,22,23,29,30,32] (R3.call 37 (.fn "_law_begun") [.ref 1,.int 0] ⟨fr,[t,.dict ["lines", "sides"] [.ref 2,.ref 5],.list [.ref 3,.ref 4] [] [],l0,.list p m q,.list [.ref 6,.ref 7] [] [],.dict zBf [st,tk,.ref 8,hr],d1,.list [] (x::h) [],e0,e1,e2,e3,e4,e5,e6,e7,e8,e9,e10,e11,e12,e13,e14],[true]⟩) =
  some (.none,fr,[t,.dict ["lines", "sides"] [.ref 2,.ref 5],.list [.ref 3,.ref 4] [] [],l0,.list p m (q++[.tup [sv "dd", .tup [sv "dd", .int 1500,.int 2,.int 7,.sym (1000*((((x::h)++[]).length:Int)+1)+500*0),.tup []]]]),.list [.ref 6,.ref 7] [] [],.dict zBf [st,.ref 30,.ref 8,.ref 32],d1,.list [] (x::h) [.lst []],e0,e1,e2,e3,e4,e5,e6,e7,e8,e9,e10,e11,e12,e13,e14,.attrs zBo [.int 1500,.int 2,.int 1,.bool true,.sym (1000*((((x::h)++[]).length:Int)+1)+500*0),.lst [],.tup [sv "dd", .int 1500,.int 2,.int 7,.sym (1000*((((x::h)++[]).length:Int)+1)+500*0),.tup []],.int 5,.int 9,sv "exstart", .none,.dct [] []],.inst "Exchange" 29,.list [] [] []],36,[],[.eq ((((((x::h)++[]).length:Int)+1)+0).fmod 4) 0 true,.len ((x::h)++[]).length,.len ((p++m)++q).length]):=by kernel_rfl
theorem beg_0_24_1:zAh [0,1,2,3,4,5,6,7,8,9,10,11,12,13,14,15,16,17,18,19,20,21,22,23,29,30,32] (R3.call 37 (.fn "_law_begun") [.ref 1,.int 0] ⟨fr,[t,.dict ["lines", "sides"] [.ref 2,.ref 5],.list [.ref 3,.ref 4] [] [],l0,.list p m q,.list [.ref 6,.ref 7] [] [],.dict zBf [st,tk,.ref 8,hr],d1,.list [] (x::h) [],e0,e1,e2,e3,e4,e5,e6,e7,e8,e9,e10,e11,e12,e13,e14],[false,true]⟩) =
  some (.none,fr,[t,.dict ["lines", "sides"] [.ref 2,.ref 5],.list [.ref 3,.ref 4] [] [],l0,.list p m (q++[.tup [sv "dd", .tup [sv "dd", .int 1500,.int 2,.int 7,.sym (1000*((((x::h)++[]).length:Int)+1)+500*0),.tup []]]]),.list [.ref 6,.ref 7] [] [],.dict zBf [st,.ref 30,.ref 8,.ref 32],d1,.list [] (x::h) [.lst [.tup [.int 1,.sym (100*((((x::h)++[]).length:Int)+1)+0),.int 1]]],e0,e1,e2,e3,e4,e5,e6,e7,e8,e9,e10,e11,e12,e13,e14,.attrs zBo [.int 1500,.int 2,.int 1,.bool true,.sym (1000*((((x::h)++[]).length:Int)+1)+500*0),.lst [.tup [.int 0,.int 2,.int 1,.sym (100*((((x::h)++[]).length:Int)+1)+0),.int 1,.int 1,.int 7]],.tup [sv "dd", .int 1500,.int 2,.int 7,.sym (1000*((((x::h)++[]).length:Int)+1)+500*0),.tup []],.int 5,.int 9,sv "exstart", .none,.dct [] []],.inst "Exchange" 29,.list [] [] []],36,[],[.eq ((((((x::h)++[]).length:Int)+1)+0).fmod 4) 0 false,.eq ((((((x::h)++[]).length:Int)+1)+0).fmod 4) 1 true,.len 0,.len 0,.len ((x::h)++[]).length,.len ((p++m)++q).length]):=by kernel_rfl
theorem beg_0_24_2:zAh [0,1,2,3,4,5,6,7,8,9,10,11,12,13,14,15,16,17,18,19,20,21,22,23,29,30,32] (R3.call 37 (.fn "_law_begun") [.ref 1,.int 0] ⟨fr,[t,.dict ["lines", "sides"] [.ref 2,.ref 5],.list [.ref 3,.ref 4] [] [],l0,.list p m q,.list [.ref 6,.ref 7] [] [],.dict zBf [st,tk,.ref 8,hr],d1,.list [] (x::h) [],e0,e1,e2,e3,e4,e5,e6,e7,e8,e9,e10,e11,e12,e13,e14],[false,false,true]⟩) =
  some (.none,fr,[t,.dict ["lines", "sides"] [.ref 2,.ref 5],.list [.ref 3,.ref 4] [] [],l0,.list p m (q++[.tup [sv "dd", .tup [sv "dd", .int 1500,.int 2,.int 7,.sym (1000*((((x::h)++[]).length:Int)+1)+500*0),.tup []]]]),.list [.ref 6,.ref 7] [] [],.dict zBf [st,.ref 30,.ref 8,.ref 32],d1,.list [] (x::h) [.lst [.tup [.int 1,.sym (100*((((x::h)++[]).length:Int)+1)+0),.int 1],.tup [.int 1,.sym (100*((((x::h)++[]).length:Int)+1)+1),.int 1]]],e0,e1,e2,e3,e4,e5,e6,e7,e8,e9,e10,e11,e12,e13,e14,.attrs zBo [.int 1500,.int 2,.int 1,.bool true,.sym (1000*((((x::h)++[]).length:Int)+1)+500*0),.lst [.tup [.int 0,.int 2,.int 1,.sym (100*((((x::h)++[]).length:Int)+1)+0),.int 1,.int 1,.int 7],.tup [.int 0,.int 2,.int 1,.sym (100*((((x::h)++[]).length:Int)+1)+1),.int 1,.int 1,.int 7]],.tup [sv "dd", .int 1500,.int 2,.int 7,.sym (1000*((((x::h)++[]).length:Int)+1)+500*0),.tup []],.int 5,.int 9,sv "exstart", .none,.dct [] []],.inst "Exchange" 29,.list [] [] []],36,[],[.eq ((((((x::h)++[]).length:Int)+1)+0).fmod 4) 0 false,.eq ((((((x::h)++[]).length:Int)+1)+0).fmod 4) 1 false,.eq ((((((x::h)++[]).length:Int)+1)+0).fmod 4) 2 true,.len 0,.len 1,.len 0,.len 1,.len ((x::h)++[]).length,.len ((p++m)++q).length]):=by kernel_rfl
theorem beg_0_24_3:zAh [0,1,2,3,4,5,6,7,8,9,10,11,12,13,14,15,16,17,18,19,20,21,22,23,29,30,32] (R3.call 37 (.fn "_law_begun") [.ref 1,.int 0] ⟨fr,[t,.dict ["lines", "sides"] [.ref 2,.ref 5],.list [.ref 3,.ref 4] [] [],l0,.list p m q,.list [.ref 6,.ref 7] [] [],.dict zBf [st,tk,.ref 8,hr],d1,.list [] (x::h) [],e0,e1,e2,e3,e4,e5,e6,e7,e8,e9,e10,e11,e12,e13,e14],[false,false,false,true]⟩) =
  some (.none,fr,[t,.dict ["lines", "sides"] [.ref 2,.ref 5],.list [.ref 3,.ref 4] [] [],l0,.list p m (q++[.tup [sv "dd", .tup [sv "dd", .int 1500,.int 2,.int 7,.sym (1000*((((x::h)++[]).length:Int)+1)+500*0),.tup []]]]),.list [.ref 6,.ref 7] [] [],.dict zBf [st,.ref 30,.ref 8,.ref 32],d1,.list [] (x::h) [.lst [.tup [.int 1,.sym (100*((((x::h)++[]).length:Int)+1)+0),.int 1],.tup [.int 1,.sym (100*((((x::h)++[]).length:Int)+1)+1),.int 1],.tup [.int 1,.sym (100*((((x::h)++[]).length:Int)+1)+2),.int 1]]],e0,e1,e2,e3,e4,e5,e6,e7,e8,e9,e10,e11,e12,e13,e14,.attrs zBo [.int 1500,.int 2,.int 1,.bool true,.sym (1000*((((x::h)++[]).length:Int)+1)+500*0),.lst [.tup [.int 0,.int 2,.int 1,.sym (100*((((x::h)++[]).length:Int)+1)+0),.int 1,.int 1,.int 7],.tup [.int 0,.int 2,.int 1,.sym (100*((((x::h)++[]).length:Int)+1)+1),.int 1,.int 1,.int 7],.tup [.int 0,.int 2,.int 1,.sym (100*((((x::h)++[]).length:Int)+1)+2),.int 1,.int 1,.int 7]],.tup [sv "dd", .int 1500,.int 2,.int 7,.sym (1000*((((x::h)++[]).length:Int)+1)+500*0),.tup []],.int 5,.int 9,sv "exstart", .none,.dct [] []],.inst "Exchange" 29,.list [] [] []],36,[],[.eq ((((((x::h)++[]).length:Int)+1)+0).fmod 4) 0 false,.eq ((((((x::h)++[]).length:Int)+1)+0).fmod 4) 1 false,.eq ((((((x::h)++[]).length:Int)+1)+0).fmod 4) 2 false,.eq ((((((x::h)++[]).length:Int)+1)+0).fmod 4) 3 true,.len 0,.len 1,.len 2,.len 0,.len 1,.len 2,.len ((x::h)++[]).length,.len ((p++m)++q).length]):=by kernel_rfl
theorem beg_0_27_n:zAh [0,1,2,3,4,5,6,7,8,9,10,11,12,13,14,15,16,17,18,19,20,21,22,23,24,25,26,32,33,35] (R3.call 36 (.fn "_law_begun") [.ref 1,.int 0] ⟨fr,[t,.dict ["lines", "sides"] [.ref 2,.ref 5],.list [.ref 3,.ref 4] [] [],l0,.list p m q,.list [.ref 6,.ref 7] [] [],.dict zBf [st,tk,.ref 8,hr],d1,.list [] [] [],e0,e1,e2,e3,e4,e5,e6,e7,e8,e9,e10,e11,e12,e13,e14,e15,e16,e17],[]⟩) =
  some (.none,fr,[t,.dict ["lines", "sides"] [.ref 2,.ref 5],.list [.ref 3,.ref 4] [] [],l0,.list p m (q++[.tup [sv "dd", .tup [sv "dd", .int 1500,.int 2,.int 7,.int 1000,.tup []]]]),.list [.ref 6,.ref 7] [] [],.dict zBf [st,.ref 33,.ref 8,.ref 35],d1,.list [] [] [.lst [.tup [.int 1,.int 100,.int 1]]],e0,e1,e2,e3,e4,e5,e6,e7,e8,e9,e10,e11,e12,e13,e14,e15,e16,e17,.attrs zBo [.int 1500,.int 2,.int 1,.bool true,.int 1000,.lst [.tup [.int 0,.int 2,.int 1,.int 100,.int 1,.int 1,.int 7]],.tup [sv "dd", .int 1500,.int 2,.int 7,.int 1000,.tup []],.int 5,.int 9,sv "exstart", .none,.dct [] []],.inst "Exchange" 32,.list [] [] []],39,[],[.len 0,.len 0,.len 0,.len ((p++m)++q).length]):=by kernel_rfl
theorem beg_0_27_0:zAh [0,1,2,3,4,5,6,7,8,9,10,11,12,13,14,15,16,17,18,19,20,21,22,23,24,25,26,32,33,35] (R3.call 36 (.fn "_law_begun") [.ref 1,.int 0] ⟨fr,[t,.dict ["lines", "sides"] [.ref 2,.ref 5],.list [.ref 3,.ref 4] [] [],l0,.list p m q,.list [.ref 6,.ref 7] [] [],.dict zBf [st,tk,.ref 8,hr],d1,.list [] (x::h) [],e0,e1,e2,e3,e4,e5,e6,e7,e8,e9,e10,e11,e12,e13,e14,e15,e16,e17],[true]⟩) =
  some (.none,fr,[t,.dict ["lines", "sides"] [.ref 2,.ref 5],.list [.ref 3,.ref 4] [] [],l0,.list p m (q++[.tup [sv "dd", .tup [sv "dd", .int 1500,.int 2,.int 7,.sym (1000*((((x::h)++[]).length:Int)+1)+500*0),.tup []]]]),.list [.ref 6,.ref 7] [] [],.dict zBf [st,.ref 33,.ref 8,.ref 35],d1,.list [] (x::h) [.lst []],e0,e1,e2,e3,e4,e5,e6,e7,e8,e9,e10,e11,e12,e13,e14,e15,e16,e17,.attrs zBo [.int 1500,.int 2,.int 1,.bool true,.sym (1000*((((x::h)++[]).length:Int)+1)+500*0),.lst [],.tup [sv "dd", .int 1500,.int 2,.int 7,.sym (1000*((((x::h)++[]).length:Int)+1)+500*0),.tup []],.int 5,.int 9,sv "exstart", .none,.dct [] []],.inst "Exchange" 32,.list [] [] []],39,[],[.eq ((((((x::h)++[]).length:Int)+1)+0).fmod 4) 0 true,.len ((x::h)++[]).length,.len ((p++m)++q).length]):=by kernel_rfl
theorem beg_0_27_1:zAh [0,1,2,3,4,5,6,7,8,9,10,11,12,13,14,15,16,17,18,19,20,21,22,23,24,25,26,32,33,35] (R3.call 36 (.fn "_law_begun") [.ref 1,.int 0] ⟨fr,[t,.dict ["lines", "sides"] [.ref 2,.ref 5],.list [.ref 3,.ref 4] [] [],l0,.list p m q,.list [.ref 6,.ref 7] [] [],.dict zBf [st,tk,.ref 8,hr],d1,.list [] (x::h) [],e0,e1,e2,e3,e4,e5,e6,e7,e8,e9,e10,e11,e12,e13,e14,e15,e16,e17],[false,true]⟩) =
  some (.none,fr,[t,.dict ["lines", "sides"] [.ref 2,.ref 5],.list [.ref 3,.ref 4] [] [],l0,.list p m (q++[.tup [sv "dd", .tup [sv "dd", .int 1500,.int 2,.int 7,.sym (1000*((((x::h)++[]).length:Int)+1)+500*0),.tup []]]]),.list [.ref 6,.ref 7] [] [],.dict zBf [st,.ref 33,.ref 8,.ref 35],d1,.list [] (x::h) [.lst [.tup [.int 1,.sym (100*((((x::h)++[]).length:Int)+1)+0),.int 1]]],e0,e1,e2,e3,e4,e5,e6,e7,e8,e9,e10,e11,e12,e13,e14,e15,e16,e17,.attrs zBo [.int 1500,.int 2,.int 1,.bool true,.sym (1000*((((x::h)++[]).length:Int)+1)+500*0),.lst [.tup [.int 0,.int 2,.int 1,.sym (100*((((x::h)++[]).length:Int)+1)+0),.int 1,.int 1,.int 7]],.tup [sv "dd", .int 1500,.int 2,.int 7,.sym (1000*((((x::h)++[]).length:Int)+1)+500*0),.tup []],.int 5,.int 9,sv "exstart", .none,.dct [] []],.inst "Exchange" 32,.list [] [] []],39,[],[.eq ((((((x::h)++[]).length:Int)+1)+0).fmod 4) 0 false,.eq ((((((x::h)++[]).length:Int)+1)+0).fmod 4) 1 true,.len 0,.len 0,.len ((x::h)++[]).length,.len ((p++m)++q).length]):=by kernel_rfl
theorem beg_0_27_2:zAh [0,1,2,3,4,5,6,7,8,9,10,11,12,13,14,15,16,17,18,19,20,21,22,23,24,25,26,32,33,35] (R3.call 36 (.fn "_law_begun") [.ref 1,.int 0] ⟨fr,[t,.dict ["lines", "sides"] [.ref 2,.ref 5],.list [.ref 3,.ref 4] [] [],l0,.list p m q,.list [.ref 6,.ref 7] [] [],.dict zBf [st,tk,.ref 8,hr],d1,.list [] (x::h) [],e0,e1,e2,e3,e4,e5,e6,e7,e8,e9,e10,e11,e12,e13,e14,e15,e16,e17],[false,false,true]⟩) =
  some (.none,fr,[t,.dict ["lines", "sides"] [.ref 2,.ref 5],.list [.ref 3,.ref 4] [] [],l0,.list p m (q++[.tup [sv "dd", .tup [sv "dd", .int 1500,.int 2,.int 7,.sym (1000*((((x::h)++[]).length:Int)+1)+500*0),.tup []]]]),.list [.ref 6,.ref 7] [] [],.dict zBf [st,.ref 33,.ref 8,.ref 35],d1,.list [] (x::h) [.lst [.tup [.int 1,.sym (100*((((x::h)++[]).length:Int)+1)+0),.int 1],.tup [.int 1,.sym (100*((((x::h)++[]).length:Int)+1)+1),.int 1]]],e0,e1,e2,e3,e4,e5,e6,e7,e8,e9,e10,e11,e12,e13,e14,e15,e16,e17,.attrs zBo [.int 1500,.int 2,.int 1,.bool true,.sym (1000*((((x::h)++[]).length:Int)+1)+500*0),.lst [.tup [.int 0,.int 2,.int 1,.sym (100*((((x::h)++[]).length:Int)+1)+0),.int 1,.int 1,.int 7],.tup [.int 0,.int 2,.int 1,.sym (100*((((x::h)++[]).length:Int)+1)+1),.int 1,.int 1,.int 7]],.tup [sv "dd", .int 1500,.int 2,.int 7,.sym (1000*((((x::h)++[]).length:Int)+1)+500*0),.tup []],.int 5,.int 9,sv "exstart", .none,.dct [] []],.inst "Exchange" 32,.list [] [] []],39,[],[.eq ((((((x::h)++[]).length:Int)+1)+0).fmod 4) 0 false,.eq ((((((x::h)++[]).length:Int)+1)+0).fmod 4) 1 false,.eq ((((((x::h)++[]).length:Int)+1)+0).fmod 4) 2 true,.len 0,.len 1,.len 0,.len 1,.len ((x::h)++[]).length,.len ((p++m)++q).length]):=by kernel_rfl
theorem beg_0_27_3:zAh [0,1,2,3,4,5,6,7,8,9,10,11,12,13,14,15,16,17,18,19,20,21,22,23,24,25,26,32,33,35] (R3.call 36 (.fn "_law_begun") [.ref 1,.int 0] ⟨fr,[t,.dict ["lines", "sides"] [.ref 2,.ref 5],.list [.ref 3,.ref 4] [] [],l0,.list p m q,.list [.ref 6,.ref 7] [] [],.dict zBf [st,tk,.ref 8,hr],d1,.list [] (x::h) [],e0,e1,e2,e3,e4,e5,e6,e7,e8,e9,e10,e11,e12,e13,e14,e15,e16,e17],[false,false,false,true]⟩) =
  some (.none,fr,[t,.dict ["lines", "sides"] [.ref 2,.ref 5],.list [.ref 3,.ref 4] [] [],l0,.list p m (q++[.tup [sv "dd", .tup [sv "dd", .int 1500,.int 2,.int 7,.sym (1000*((((x::h)++[]).length:Int)+1)+500*0),.tup []]]]),.list [.ref 6,.ref 7] [] [],.dict zBf [st,.ref 33,.ref 8,.ref 35],d1,.list [] (x::h) [.lst [.tup [.int 1,.sym (100*((((x::h)++[]).length:Int)+1)+0),.int 1],.tup [.int 1,.sym (100*((((x::h)++[]).length:Int)+1)+1),.int 1],.tup [.int 1,.sym (100*((((x::h)++[]).length:Int)+1)+2),.int 1]]],e0,e1,e2,e3,e4,e5,e6,e7,e8,e9,e10,e11,e12,e13,e14,e15,e16,e17,.attrs zBo [.int 1500,.int 2,.int 1,.bool true,.sym (1000*((((x::h)++[]).length:Int)+1)+500*0),.lst [.tup [.int 0,.int 2,.int 1,.sym (100*((((x::h)++[]).length:Int)+1)+0),.int 1,.int 1,.int 7],.tup [.int 0,.int 2,.int 1,.sym (100*((((x::h)++[]).length:Int)+1)+1),.int 1,.int 1,.int 7],.tup [.int 0,.int 2,.int 1,.sym (100*((((x::h)++[]).length:Int)+1)+2),.int 1,.int 1,.int 7]],.tup [sv "dd", .int 1500,.int 2,.int 7,.sym (1000*((((x::h)++[]).length:Int)+1)+500*0),.tup []],.int 5,.int 9,sv "exstart", .none,.dct [] []],.inst "Exchange" 32,.list [] [] []],39,[],[.eq ((((((x::h)++[]).length:Int)+1)+0).fmod 4) 0 false,.eq ((((((x::h)++[]).length:Int)+1)+0).fmod 4) 1 false,.eq ((((((x::h)++[]).length:Int)+1)+0).fmod 4) 2 false,.eq ((((((x::h)++[]).length:Int)+1)+0).fmod 4) 3 true,.len 0,.len 1,.len 2,.len 0,.len 1,.len 2,.len ((x::h)++[]).length,.len ((p++m)++q).length]):=by kernel_rfl
theorem beg_1_24_n:zAh [0,1,2,3,4,5,6,7,8,9,10,11,12,13,14,15,16,17,18,19,20,21,22,23,29,30,32] (R3.call 37 (.fn "_law_begun") [.ref 1,.int 1] ⟨fr,[t,.dict ["lines", "sides"] [.ref 2,.ref 5],.list [.ref 3,.ref 4] [] [],.list p m q,l1,.list [.ref 6,.ref 7] [] [],d0,.dict zBf [st,tk,.ref 9,hr],L0,.list [] [] [],e0,e1,e2,e3,e4,e5,e6,e7,e8,e9,e10,e11,e12,e13],[]⟩) =
  some (.none,fr,[t,.dict ["lines", "sides"] [.ref 2,.ref 5],.list [.ref 3,.ref 4] [] [],.list p m (q++[.tup [sv "dd", .tup [sv "dd", .int 1500,.int 2,.int 7,.int 1500,.tup []]]]),l1,.list [.ref 6,.ref 7] [] [],d0,.dict zBf [st,.ref 30,.ref 9,.ref 32],L0,.list [] [] [.lst [.tup [.int 1,.int 100,.int 2],.tup [.int 1,.int 101,.int 2]]],e0,e1,e2,e3,e4,e5,e6,e7,e8,e9,e10,e11,e12,e13,.attrs zBo [.int 1500,.int 2,.int 1,.bool true,.int 1500,.lst [.tup [.int 0,.int 2,.int 1,.int 100,.int 2,.int 1,.int 7],.tup [.int 0,.int 2,.int 1,.int 101,.int 2,.int 1,.int 7]],.tup [sv "dd", .int 1500,.int 2,.int 7,.int 1500,.tup []],.int 9,.int 5,sv "exstart", .none,.dct [] []],.inst "Exchange" 29,.list [] [] []],36,[],[.len 0,.len 1,.len 0,.len 1,.len 0,.len ((p++m)++q).length]):=by kernel_rfl
theorem beg_1_24_0:zAh [0,1,2,3,4,5,6,7,8,9,10,11,12,13,14,15,16,17,18,19,20,21,22,23,29,30,32] (R3.call 37 (.fn "_law_begun") [.ref 1,.int 1] ⟨fr,[t,.dict ["lines", "sides"] [.ref 2,.ref 5],.list [.ref 3,.ref 4] [] [],.list p m q,l1,.list [.ref 6,.ref 7] [] [],d0,.dict zBf [st,tk,.ref 9,hr],L0,.list [] (x::h) [],e0,e1,e2,e3,e4,e5,e6,e7,e8,e9,e10,e11,e12,e13],[true]⟩) =
  some (.none,fr,[t,.dict ["lines", "sides"] [.ref 2,.ref 5],.list [.ref 3,.ref 4] [] [],.list p m (q++[.tup [sv "dd", .tup [sv "dd", .int 1500,.int 2,.int 7,.sym (1000*((((x::h)++[]).length:Int)+1)+500*1),.tup []]]]),l1,.list [.ref 6,.ref 7] [] [],d0,.dict zBf [st,.ref 30,.ref 9,.ref 32],L0,.list [] (x::h) [.lst []],e0,e1,e2,e3,e4,e5,e6,e7,e8,e9,e10,e11,e12,e13,.attrs zBo [.int 1500,.int 2,.int 1,.bool true,.sym (1000*((((x::h)++[]).length:Int)+1)+500*1),.lst [],.tup [sv "dd", .int 1500,.int 2,.int 7,.sym (1000*((((x::h)++[]).length:Int)+1)+500*1),.tup []],.int 9,.int 5,sv "exstart", .none,.dct [] []],.inst "Exchange" 29,.list [] [] []],36,[],[.eq ((((((x::h)++[]).length:Int)+1)+1).fmod 4) 0 true,.len ((x::h)++[]).length,.len ((p++m)++q).length]):=by kernel_rfl
theorem beg_1_24_1:zAh [0,1,2,3,4,5,6,7,8,9,10,11,12,13,14,15,16,17,18,19,20,21,22,23,29,30,32] (R3.call 37 (.fn "_law_begun") [.ref 1,.int 1] ⟨fr,[t,.dict ["lines", "sides"] [.ref 2,.ref 5],.list [.ref 3,.ref 4] [] [],.list p m q,l1,.list [.ref 6,.ref 7] [] [],d0,.dict zBf [st,tk,.ref 9,hr],L0,.list [] (x::h) [],e0,e1,e2,e3,e4,e5,e6,e7,e8,e9,e10,e11,e12,e13],[false,true]⟩) =
  some (.none,fr,[t,.dict ["lines", "sides"] [.ref 2,.ref 5],.list [.ref 3,.ref 4] [] [],.list p m (q++[.tup [sv "dd", .tup [sv "dd", .int 1500,.int 2,.int 7,.sym (1000*((((x::h)++[]).length:Int)+1)+500*1),.tup []]]]),l1,.list [.ref 6,.ref 7] [] [],d0,.dict zBf [st,.ref 30,.ref 9,.ref 32],L0,.list [] (x::h) [.lst [.tup [.int 1,.sym (100*((((x::h)++[]).length:Int)+1)+0),.int 2]]],e0,e1,e2,e3,e4,e5,e6,e7,e8,e9,e10,e11,e12,e13,.attrs zBo [.int 1500,.int 2,.int 1,.bool true,.sym (1000*((((x::h)++[]).length:Int)+1)+500*1),.lst [.tup [.int 0,.int 2,.int 1,.sym (100*((((x::h)++[]).length:Int)+1)+0),.int 2,.int 1,.int 7]],.tup [sv "dd", .int 1500,.int 2,.int 7,.sym (1000*((((x::h)++[]).length:Int)+1)+500*1),.tup []],.int 9,.int 5,sv "exstart", .none,.dct [] []],.inst "Exchange" 29,.list [] [] []],36,[],[.eq ((((((x::h)++[]).length:Int)+1)+1).fmod 4) 0 false,.eq ((((((x::h)++[]).length:Int)+1)+1).fmod 4) 1 true,.len 0,.len 0,.len ((x::h)++[]).length,.len ((p++m)++q).length]):=by kernel_rfl
theorem beg_1_24_2:zAh [0,1,2,3,4,5,6,7,8,9,10,11,12,13,14,15,16,17,18,19,20,21,22,23,29,30,32] (R3.call 37 (.fn "_law_begun") [.ref 1,.int 1] ⟨fr,[t,.dict ["lines", "sides"] [.ref 2,.ref 5],.list [.ref 3,.ref 4] [] [],.list p m q,l1,.list [.ref 6,.ref 7] [] [],d0,.dict zBf [st,tk,.ref 9,hr],L0,.list [] (x::h) [],e0,e1,e2,e3,e4,e5,e6,e7,e8,e9,e10,e11,e12,e13],[false,false,true]⟩) =
  some (.none,fr,[t,.dict ["lines", "sides"] [.ref 2,.ref 5],.list [.ref 3,.ref 4] [] [],.list p m (q++[.tup [sv "dd", .tup [sv "dd", .int 1500,.int 2,.int 7,.sym (1000*((((x::h)++[]).length:Int)+1)+500*1),.tup []]]]),l1,.list [.ref 6,.ref 7] [] [],d0,.dict zBf [st,.ref 30,.ref 9,.ref 32],L0,.list [] (x::h) [.lst [.tup [.int 1,.sym (100*((((x::h)++[]).length:Int)+1)+0),.int 2],.tup [.int 1,.sym (100*((((x::h)++[]).length:Int)+1)+1),.int 2]]],e0,e1,e2,e3,e4,e5,e6,e7,e8,e9,e10,e11,e12,e13,.attrs zBo [.int 1500,.int 2,.int 1,.bool true,.sym (1000*((((x::h)++[]).length:Int)+1)+500*1),.lst [.tup [.int 0,.int 2,.int 1,.sym (100*((((x::h)++[]).length:Int)+1)+0),.int 2,.int 1,.int 7],.tup [.int 0,.int 2,.int 1,.sym (100*((((x::h)++[]).length:Int)+1)+1),.int 2,.int 1,.int 7]],.tup [sv "dd", .int 1500,.int 2,.int 7,.sym (1000*((((x::h)++[]).length:Int)+1)+500*1),.tup []],.int 9,.int 5,sv "exstart", .none,.dct [] []],.inst "Exchange" 29,.list [] [] []],36,[],[.eq ((((((x::h)++[]).length:Int)+1)+1).fmod 4) 0 false,.eq ((((((x::h)++[]).length:Int)+1)+1).fmod 4) 1 false,.eq ((((((x::h)++[]).length:Int)+1)+1).fmod 4) 2 true,.len 0,.len 1,.len 0,.len 1,.len ((x::h)++[]).length,.len ((p++m)++q).length]):=by kernel_rfl
theorem beg_1_24_3:zAh [0,1,2,3,4,5,6,7,8,9,10,11,12,13,14,15,16,17,18,19,20,21,22,23,29,30,32] (R3.call 37 (.fn "_law_begun") [.ref 1,.int 1] ⟨fr,[t,.dict ["lines", "sides"] [.ref 2,.ref 5],.list [.ref 3,.ref 4] [] [],.list p m q,l1,.list [.ref 6,.ref 7] [] [],d0,.dict zBf [st,tk,.ref 9,hr],L0,.list [] (x::h) [],e0,e1,e2,e3,e4,e5,e6,e7,e8,e9,e10,e11,e12,e13],[false,false,false,true]⟩) =
  some (.none,fr,[t,.dict ["lines", "sides"] [.ref 2,.ref 5],.list [.ref 3,.ref 4] [] [],.list p m (q++[.tup [sv "dd", .tup [sv "dd", .int 1500,.int 2,.int 7,.sym (1000*((((x::h)++[]).length:Int)+1)+500*1),.tup []]]]),l1,.list [.ref 6,.ref 7] [] [],d0,.dict zBf [st,.ref 30,.ref 9,.ref 32],L0,.list [] (x::h) [.lst [.tup [.int 1,.sym (100*((((x::h)++[]).length:Int)+1)+0),.int 2],.tup [.int 1,.sym (100*((((x::h)++[]).length:Int)+1)+1),.int 2],.tup [.int 1,.sym (100*((((x::h)++[]).length:Int)+1)+2),.int 2]]],e0,e1,e2,e3,e4,e5,e6,e7,e8,e9,e10,e11,e12,e13,.attrs zBo [.int 1500,.int 2,.int 1,.bool true,.sym (1000*((((x::h)++[]).length:Int)+1)+500*1),.lst [.tup [.int 0,.int 2,.int 1,.sym (100*((((x::h)++[]).length:Int)+1)+0),.int 2,.int 1,.int 7],.tup [.int 0,.int 2,.int 1,.sym (100*((((x::h)++[]).length:Int)+1)+1),.int 2,.int 1,.int 7],.tup [.int 0,.int 2,.int 1,.sym (100*((((x::h)++[]).length:Int)+1)+2),.int 2,.int 1,.int 7]],.tup [sv "dd", .int 1500,.int 2,.int 7,.sym (1000*((((x::h)++[]).length:Int)+1)+500*1),.tup []],.int 9,.int 5,sv "exstart", .none,.dct [] []],.inst "Exchange" 29,.list [] [] []],36,[],[.eq ((((((x::h)++[]).length:Int)+1)+1).fmod 4) 0 false,.eq ((((((x::h)++[]).length:Int)+1)+1).fmod 4) 1 false,.eq ((((((x::h)++[]).length:Int)+1)+1).fmod 4) 2 false,.eq ((((((x::h)++[]).length:Int)+1)+1).fmod 4) 3 true,.len 0,.len 1,.len 2,.len 0,.len 1,.len 2,.len ((x::h)++[]).length,.len ((p++m)++q).length]):=by kernel_rfl
theorem beg_1_27_n:zAh [0,1,2,3,4,5,6,7,8,9,10,11,12,13,14,15,16,17,18,19,20,21,22,23,24,25,26,32,33,35] (R3.call 36 (.fn "_law_begun") [.ref 1,.int 1] ⟨fr,[t,.dict ["lines", "sides"] [.ref 2,.ref 5],.list [.ref 3,.ref 4] [] [],.list p m q,l1,.list [.ref 6,.ref 7] [] [],d0,.dict zBf [st,tk,.ref 9,hr],L0,.list [] [] [],e0,e1,e2,e3,e4,e5,e6,e7,e8,e9,e10,e11,e12,e13,e14,e15,e16],[]⟩) =
  some (.none,fr,[t,.dict ["lines", "sides"] [.ref 2,.ref 5],.list [.ref 3,.ref 4] [] [],.list p m (q++[.tup [sv "dd", .tup [sv "dd", .int 1500,.int 2,.int 7,.int 1500,.tup []]]]),l1,.list [.ref 6,.ref 7] [] [],d0,.dict zBf [st,.ref 33,.ref 9,.ref 35],L0,.list [] [] [.lst [.tup [.int 1,.int 100,.int 2],.tup [.int 1,.int 101,.int 2]]],e0,e1,e2,e3,e4,e5,e6,e7,e8,e9,e10,e11,e12,e13,e14,e15,e16,.attrs zBo [.int 1500,.int 2,.int 1,.bool true,.int 1500,.lst [.tup [.int 0,.int 2,.int 1,.int 100,.int 2,.int 1,.int 7],.tup [.int 0,.int 2,.int 1,.int 101,.int 2,.int 1,.int 7]],.tup [sv "dd", .int 1500,.int 2,.int 7,.int 1500,.tup []],.int 9,.int 5,sv "exstart", .none,.dct [] []],.inst "Exchange" 32,.list [] [] []],39,[],[.len 0,.len 1,.len 0,.len 1,.len 0,.len ((p++m)++q).length]):=by kernel_rfl
theorem beg_1_27_0:zAh [0,1,2,3,4,5,6,7,8,9,10,11,12,13,14,15,16,17,18,19,20,21,22,23,24,25,26,32,33,35] (R3.call 36 (.fn "_law_begun") [.ref 1,.int 1] ⟨fr,[t,.dict ["lines", "sides"] [.ref 2,.ref 5],.list [.ref 3,.ref 4] [] [],.list p m q,l1,.list [.ref 6,.ref 7] [] [],d0,.dict zBf [st,tk,.ref 9,hr],L0,.list [] (x::h) [],e0,e1,e2,e3,e4,e5,e6,e7,e8,e9,e10,e11,e12,e13,e14,e15,e16],[true]⟩) =
  some (.none,fr,[t,.dict ["lines", "sides"] [.ref 2,.ref 5],.list [.ref 3,.ref 4] [] [],.list p m (q++[.tup [sv "dd", .tup [sv "dd", .int 1500,.int 2,.int 7,.sym (1000*((((x::h)++[]).length:Int)+1)+500*1),.tup []]]]),l1,.list [.ref 6,.ref 7] [] [],d0,.dict zBf [st,.ref 33,.ref 9,.ref 35],L0,.list [] (x::h) [.lst []],e0,e1,e2,e3,e4,e5,e6,e7,e8,e9,e10,e11,e12,e13,e14,e15,e16,.attrs zBo [.int 1500,.int 2,.int 1,.bool true,.sym (1000*((((x::h)++[]).length:Int)+1)+500*1),.lst [],.tup [sv "dd", .int 1500,.int 2,.int 7,.sym (1000*((((x::h)++[]).length:Int)+1)+500*1),.tup []],.int 9,.int 5,sv "exstart", .none,.dct [] []],.inst "Exchange" 32,.list [] [] []],39,[],[.eq ((((((x::h)++[]).length:Int)+1)+1).fmod 4) 0 true,.len ((x::h)++[]).length,.len ((p++m)++q).length]):=by kernel_rfl
theorem beg_1_27_1:zAh [0,1,2,3,4,5,6,7,8,9,10,11,12,13,14,15,16,17,18,19,20,21,22,23,24,25,26,32,33,35] (R3.call 36 (.fn "_law_begun") [.ref 1,.int 1] ⟨fr,[t,.dict ["lines", "sides"] [.ref 2,.ref 5],.list [.ref 3,.ref 4] [] [],.list p m q,l1,.list [.ref 6,.ref 7] [] [],d0,.dict zBf [st,tk,.ref 9,hr],L0,.list [] (x::h) [],e0,e1,e2,e3,e4,e5,e6,e7,e8,e9,e10,e11,e12,e13,e14,e15,e16],[false,true]⟩) =
  some (.none,fr,[t,.dict ["lines", "sides"] [.ref 2,.ref 5],.list [.ref 3,.ref 4] [] [],.list p m (q++[.tup [sv "dd", .tup [sv "dd", .int 1500,.int 2,.int 7,.sym (1000*((((x::h)++[]).length:Int)+1)+500*1),.tup []]]]),l1,.list [.ref 6,.ref 7] [] [],d0,.dict zBf [st,.ref 33,.ref 9,.ref 35],L0,.list [] (x::h) [.lst [.tup [.int 1,.sym (100*((((x::h)++[]).length:Int)+1)+0),.int 2]]],e0,e1,e2,e3,e4,e5,e6,e7,e8,e9,e10,e11,e12,e13,e14,e15,e16,.attrs zBo [.int 1500,.int 2,.int 1,.bool true,.sym (1000*((((x::h)++[]).length:Int)+1)+500*1),.lst [.tup [.int 0,.int 2,.int 1,.sym (100*((((x::h)++[]).length:Int)+1)+0),.int 2,.int 1,.int 7]],.tup [sv "dd", .int 1500,.int 2,.int 7,.sym (1000*((((x::h)++[]).length:Int)+1)+500*1),.tup []],.int 9,.int 5,sv "exstart", .none,.dct [] []],.inst "Exchange" 32,.list [] [] []],39,[],[.eq ((((((x::h)++[]).length:Int)+1)+1).fmod 4) 0 false,.eq ((((((x::h)++[]).length:Int)+1)+1).fmod 4) 1 true,.len 0,.len 0,.len ((x::h)++[]).length,.len ((p++m)++q).length]):=by kernel_rfl
theorem beg_1_27_2:zAh [0,1,2,3,4,5,6,7,8,9,10,11,12,13,14,15,16,17,18,19,20,21,22,23,24,25,26,32,33,35] (R3.call 36 (.fn "_law_begun") [.ref 1,.int 1] ⟨fr,[t,.dict ["lines", "sides"] [.ref 2,.ref 5],.list [.ref 3,.ref 4] [] [],.list p m q,l1,.list [.ref 6,.ref 7] [] [],d0,.dict zBf [st,tk,.ref 9,hr],L0,.list [] (x::h) [],e0,e1,e2,e3,e4,e5,e6,e7,e8,e9,e10,e11,e12,e13,e14,e15,e16],[false,false,true]⟩) =
  some (.none,fr,[t,.dict ["lines", "sides"] [.ref 2,.ref 5],.list [.ref 3,.ref 4] [] [],.list p m (q++[.tup [sv "dd", .tup [sv "dd", .int 1500,.int 2,.int 7,.sym (1000*((((x::h)++[]).length:Int)+1)+500*1),.tup []]]]),l1,.list [.ref 6,.ref 7] [] [],d0,.dict zBf [st,.ref 33,.ref 9,.ref 35],L0,.list [] (x::h) [.lst [.tup [.int 1,.sym (100*((((x::h)++[]).length:Int)+1)+0),.int 2],.tup [.int 1,.sym (100*((((x::h)++[]).length:Int)+1)+1),.int 2]]],e0,e1,e2,e3,e4,e5,e6,e7,e8,e9,e10,e11,e12,e13,e14,e15,e16,.attrs zBo [.int 1500,.int 2,.int 1,.bool true,.sym (1000*((((x::h)++[]).length:Int)+1)+500*1),.lst [.tup [.int 0,.int 2,.int 1,.sym (100*((((x::h)++[]).length:Int)+1)+0),.int 2,.int 1,.int 7],.tup [.int 0,.int 2,.int 1,.sym (100*((((x::h)++[]).length:Int)+1)+1),.int 2,.int 1,.int 7]],.tup [sv "dd", .int 1500,.int 2,.int 7,.sym (1000*((((x::h)++[]).length:Int)+1)+500*1),.tup []],.int 9,.int 5,sv "exstart", .none,.dct [] []],.inst "Exchange" 32,.list [] [] []],39,[],[.eq ((((((x::h)++[]).length:Int)+1)+1).fmod 4) 0 false,.eq ((((((x::h)++[]).length:Int)+1)+1).fmod 4) 1 false,.eq ((((((x::h)++[]).length:Int)+1)+1).fmod 4) 2 true,.len 0,.len 1,.len 0,.len 1,.len ((x::h)++[]).length,.len ((p++m)++q).length]):=by kernel_rfl
theorem beg_1_27_3:zAh [0,1,2,3,4,5,6,7,8,9,10,11,12,13,14,15,16,17,18,19,20,21,22,23,24,25,26,32,33,35] (R3.call 36 (.fn "_law_begun") [.ref 1,.int 1] ⟨fr,[t,.dict ["lines", "sides"] [.ref 2,.ref 5],.list [.ref 3,.ref 4] [] [],.list p m q,l1,.list [.ref 6,.ref 7] [] [],d0,.dict zBf [st,tk,.ref 9,hr],L0,.list [] (x::h) [],e0,e1,e2,e3,e4,e5,e6,e7,e8,e9,e10,e11,e12,e13,e14,e15,e16],[false,false,false,true]⟩) =
  some (.none,fr,[t,.dict ["lines", "sides"] [.ref 2,.ref 5],.list [.ref 3,.ref 4] [] [],.list p m (q++[.tup [sv "dd", .tup [sv "dd", .int 1500,.int 2,.int 7,.sym (1000*((((x::h)++[]).length:Int)+1)+500*1),.tup []]]]),l1,.list [.ref 6,.ref 7] [] [],d0,.dict zBf [st,.ref 33,.ref 9,.ref 35],L0,.list [] (x::h) [.lst [.tup [.int 1,.sym (100*((((x::h)++[]).length:Int)+1)+0),.int 2],.tup [.int 1,.sym (100*((((x::h)++[]).length:Int)+1)+1),.int 2],.tup [.int 1,.sym (100*((((x::h)++[]).length:Int)+1)+2),.int 2]]],e0,e1,e2,e3,e4,e5,e6,e7,e8,e9,e10,e11,e12,e13,e14,e15,e16,.attrs zBo [.int 1500,.int 2,.int 1,.bool true,.sym (1000*((((x::h)++[]).length:Int)+1)+500*1),.lst [.tup [.int 0,.int 2,.int 1,.sym (100*((((x::h)++[]).length:Int)+1)+0),.int 2,.int 1,.int 7],.tup [.int 0,.int 2,.int 1,.sym (100*((((x::h)++[]).length:Int)+1)+1),.int 2,.int 1,.int 7],.tup [.int 0,.int 2,.int 1,.sym (100*((((x::h)++[]).length:Int)+1)+2),.int 2,.int 1,.int 7]],.tup [sv "dd", .int 1500,.int 2,.int 7,.sym (1000*((((x::h)++[]).length:Int)+1)+500*1),.tup []],.int 9,.int 5,sv "exstart", .none,.dct [] []],.inst "Exchange" 32,.list [] [] []],39,[],[.eq ((((((x::h)++[]).length:Int)+1)+1).fmod 4) 0 false,.eq ((((((x::h)++[]).length:Int)+1)+1).fmod 4) 1 false,.eq ((((((x::h)++[]).length:Int)+1)+1).fmod 4) 2 false,.eq ((((((x::h)++[]).length:Int)+1)+1).fmod 4) 3 true,.len 0,.len 1,.len 2,.len 0,.len 1,.len 2,.len ((x::h)++[]).length,.len ((p++m)++q).length]):=by kernel_rfl
end
section
variable {cn:Cn} {g:G}
theorem pick_id:g.pick (List.range g.ρ.length)=g:=by
 unfold G.pick
 have:((List.range g.ρ.length).map λi=>(g.ρ[i]?).getD 0)=g.ρ:=by
  apply List.ext_getElem
  ·simp
  ·intro i h1 h2;simp at h1;simp [List.getElem?_eq_getElem h1]
 rw [this]
theorem St.swap{s:S0} {h:Heap} (X:St cn g s h) {σ':List AO} (orc':List Bool) (hl:σ'.length=s.σ.length)
  (ho:∀ (i:Nat) (o o':AO),s.σ[i]?=some o->σ'[i]?=some o'->o'=o\/zBe (List.range s.σ.length) o o'):St cn g ⟨s.fr,σ',orc'⟩ h:=by
 have hρ:g.ρ.length=s.σ.length:=X.objs.length
 have back:∀ {i:Nat} {o':AO},σ'[i]?=some o'->∃ o,s.σ[i]?=some o/\(o'=o\/zBe (List.range s.σ.length) o o'):=by
  intro i o' e;obtain⟨l,_⟩:=List.getElem?_eq_some_iff.mp e;have l':i<s.σ.length:=hl▸l;exact⟨_,List.getElem?_eq_getElem l',ho i _ o' (List.getElem?_eq_getElem l') e⟩
 have live:∀ {o o':AO},(o'=o\/zBe (List.range s.σ.length) o o')->isDead o'=false->isDead o=false:=by
  intro o o' r h
  rcases r with r|r
  ·exact r▸h
  ·cases o<;>cases o'<;>first|rfl|exact absurd h (by decide)|exact r.elim
 refine⟨X.keep,Lay.of (by rw [hl]; exact hρ) λi a o' ha ho'=>?_,X.frs,X.fzs,?_,X.nφ,?_,?_,X.baseφ,?_,X.offφ,X.z0⟩
 ·obtain⟨o,h1,r⟩:=back ho';have H:=X.at h1 ha
  rcases r with r|r
  ·exact r▸H
  ·have:=H.ren r
   rw [<-hρ,pick_id] at this;exact this
 ·intro j k a o o' h1 h2 h3 h4 d1 d2;obtain⟨p1,g1,r1⟩:=back h3;obtain⟨p2,g2,r2⟩:=back h4;exact X.one j k a p1 p2 h1 h2 g1 g2 (live r1 d1) (live r2 d2)
 ·intro j a o' h1 h2 d;obtain⟨o,g1,r1⟩:=back h2;exact X.offρφ j a o h1 g1 (live r1 d)
 ·intro j a o' h1 h2 d;obtain⟨o,g1,r1⟩:=back h2;exact X.baseρ j a o h1 g1 (live r1 d)
 ·intro j a o' h1 h2 d;obtain⟨o,g1,r1⟩:=back h2;exact X.offρ j a o h1 g1 (live r1 d)
end
theorem isKs_eq{ks:List Str}:∀ {ls:List Str},isKs ks ls=true->ks=ls:=by
 induction ks with
 |nil=>intro ls h; cases ls with
  |nil=>rfl
  |cons=>cases h
 |cons k ks ih=>intro ls h; cases ls with
  |nil=>cases h
  |cons l ls=>exact congr (congrArg _ (zBa.mp (Bool.and_eq_true_iff.mp h).1)) (ih (Bool.and_eq_true_iff.mp h).2)
theorem zRl{n:Nat} {d:V} (h:isRef n d=true):d=.ref n:=by
 cases d<;>first|exact congrArg _ (Nat.eq_of_beq_eq_true h).symm|cases h
theorem zQl{ns:List Nat}:∀ {ds:List V},isRs ns ds=true->ds=ns.map .ref:=by
 induction ns with
 |nil=>intro ds h; cases ds with
  |nil=>rfl
  |cons=>cases h
 |cons n ns ih=>intro ds h; cases ds with
  |nil=>cases h
  |cons d ds=>exact congr (congrArg _ (zRl (Bool.and_eq_true_iff.mp h).1)) (ih (Bool.and_eq_true_iff.mp h).2)
theorem isD_eq{ks:List Str} {ns:List Nat} {o:AO} (h:isD ks ns o=true):o=.dict ks (ns.map .ref):=by
 cases o<;>first|cases h; done|exact congr (congrArg _ (isKs_eq (Bool.and_eq_true_iff.mp h).1)) (zQl (Bool.and_eq_true_iff.mp h).2)
theorem isL_eq{ns:List Nat} {o:AO} (h:isL ns o=true):o=.list (ns.map .ref) [] []:=by
 cases o with
 |list p m q=>cases m<;>cases q<;>first|cases h; done|exact congrArg (AO.list · [] []) (zQl h)
 |_=>cases h
theorem mid_eq{o:AO} {m:List V} (h:mid o=some m):o=.list [] m []:=by
 cases o with
 |list p m q=>cases p<;>cases q<;>cases h; rfl
 |_=>cases h
theorem sid_eq{n:Nat} {o:AO} {st:V} (h:sid n o=some st):∃ tk hr,o=.dict zBf [st,tk,.ref n,hr]:=by
 cases o with
 |dict ks ds =>
  rcases ds with _|⟨a,_|⟨b,_|⟨c,_|⟨d,_|_⟩⟩⟩⟩<;>try cases h; done
  change (match isKs ks zBf && isRs [n] [c] with|true=>some a|false=>none)=some st at h
  cases q:isKs ks zBf && isRs [n] [c] with
  |false=>rw [q] at h; cases h
  |true =>
   rw [q] at h; cases h;obtain⟨q1,q2⟩:=Bool.and_eq_true_iff.mp q;cases isKs_eq q1; cases zQl q2;exact⟨b,d,rfl⟩
 |_=>cases h
theorem begRE{C:Prop} {k:Nat} {w ls sd lm dd L:AO} {x} (h:begR k w ls sd lm dd L=some x) (H:∀ tk hr,w=.dict ["lines", "sides"] [.ref 2,.ref 5]->ls=.list [.ref 3,.ref 4] [] []->sd=.list [.ref 6,.ref 7] [] [] ->
  lm=.list [] x.2.1 []->dd=.dict zBf [x.1,tk,.ref k,hr]->L=.list [] x.2.2 []->C):C:=by
 unfold begR at h
 cases q:isD ["lines", "sides"] [2,5] w && isL [3,4] ls && isL [6,7] sd with
 |false=>rw [q] at h; cases h
 |true =>
  rw [q] at h;refine obindE h ?_; clear h; rintro st h1 h;refine obindE h ?_; clear h; rintro m h2 h;refine zP0 h ?_; clear h; rintro m0 h3 rfl;obtain⟨tk,hr,h4⟩:=sid_eq h1;obtain⟨q,q3⟩:=Bool.and_eq_true_iff.mp q;obtain⟨q1,q2⟩:=Bool.and_eq_true_iff.mp q;exact H tk hr (isD_eq q1) (isL_eq q2) (isL_eq q3) (mid_eq h2) h4 (mid_eq h3)
theorem zEk{ix:List Nat} {r:Option (V × S0 × List Ob)} {v fr σ n orc ob} (h:zAh ix r=some (v,fr,σ,n,orc,ob)) :
  ∃ s',r=some (v,⟨fr,s',orc⟩,ob)/\s'.length=n/\ix.map (pickA s')=σ:=by
 unfold zAh at h
 cases r with
 |none=>cases h
 |some x =>
  obtain⟨v',⟨fr',σ',orc'⟩,ob'⟩:=x;cases h;exact⟨_,rfl,rfl,rfl⟩
section
variable {cn:Cn}
noncomputable def Bears (k:Str) (n:Nat) (as:List V) (s s':S0) (v:V):Prop :=
 ∃ (orc:List Bool) (obs:List Ob) (ix:List Nat) (σR:List AO) (N:Nat),
  zAh ix (R3.call n (.fn k) as ⟨s.fr,s.σ,orc⟩)=some (v,s.fr,σR,N,[],obs)/\(Oks obs)/\s'.σ.length=N/\s'.fr=s.fr /\
  (∀ (j i:Nat) (o o':AO),ix[j]?=some i->σR[j]?=some o->s'.σ[i]?=some o'->o'=o\/zBe (List.range N) o o')/\(∀ (i:Nat) (o':AO),i∉ix->s'.σ[i]?=some o'->o'=.dead)
theorem zBb{ix:List Nat} (o:AO):zBe ix o .dead:=by cases o<;>trivial
theorem sim_bears(O:zD0 cn P) {g:G} {A:Around} {n:Nat} {k:Str} {a:Addr} {as:List V} {vs:List Value} (hA:AOk A n) (ha:cn.fnv k=some a) (hv:VRs cn g as vs)
  {s s':S0} {v:V} {S:Shared} {Q:Result->Shared->Prop} (B:Bears k n as s s' v) (X:St cn g s S.heap)
  (hQ:∀ g' h' tk r,g.le g'->St cn g' s' h'->(∃ w,r=.ok (.ret w)/\VR cn g' v w)->Q r { S with heap:=h',toks:=tk }):codeAny (model cn.prog cn.w) A (.call (.ref a) ⟨vs,[]⟩) Q S:=by
 obtain⟨orc,obs,ix,σR,N,e,ok,hN,hfr,hsame,hdead⟩:=B;obtain⟨σ1,e1,e2,e3⟩:=zEk e
 have X1:St cn g ⟨s.fr,s.σ,orc⟩ S.heap:=⟨X.keep,X.objs,X.frs,X.fzs,X.one,X.nφ,X.offρφ,X.baseρ,X.baseφ,X.offρ,X.offφ,X.z0⟩
 refine (zCj O 300).callC hA ha hv _ _ v obs S Q e1 ok X1 λg' h' tk r hg Y hr=>hQ g' h' tk r hg ?_ hr
 have Z:=Y.swap (σ':=s'.σ) s'.orc (hN.trans e2.symm) λi o o' h1 h2=>by
  by_cases hi:i∈ix
  ·obtain⟨j,hj⟩:=List.getElem?_of_mem hi
   have hR:σR[j]?=some o:=by
    rw [<-e3,List.getElem?_map,hj,Option.map_some];unfold pickA;rw [show σ1[i]?=some o from h1]
   rcases hsame j i o o' hj hR h2 with q|q
   ·exact .inl q
   ·exact .inr (by show zBe (List.range σ1.length) o o'; rw [e2]; exact q)
  ·rw [hdead i o' hi h2]; exact .inr (zBb o)
 obtain⟨fr',σ',orc'⟩:=s';dsimp only at hfr Z;rw [hfr];exact Z
end
theorem zQ8{ix:List Nat} (n:Nat):(∀ v:V,okV n v=true->zCx ix v v)/\∀ ds:List V,ds.all (okV n)=true->zBl ix ds ds:=by
 have seq:∀ n,(∀ v:V,okV n v=true->zCx ix v v)->∀ ds:List V,ds.all (okV n)=true->zBl ix ds ds:=λn ih ds h=>by
  induction ds with
  |nil=>exact .nil
  |cons d ds i2=>exact .cons (ih d (Bool.and_eq_true_iff.mp h).1) (i2 (Bool.and_eq_true_iff.mp h).2)
 have one:∀ v:V,okV n v=true->zCx ix v v:=by
  induction n with
  |zero=>exact λv h=>nay h
  |succ n ih =>
   intro v h
   cases v with
   |none=>exact .none
   |bool b=>exact .bool b
   |int=>exact .ii rfl
   |sym=>exact .ss rfl
   |str x=>exact .str x
   |tup ds=>exact .tup (seq n ih ds h)
   |lst ds=>exact .lst (seq n ih ds h)
   |_=>exact nay h
 exact⟨one,seq n one⟩
theorem okV_ren{ix:List Nat} {n:Nat} {v:V} (h:okV n v=true):zCx ix v v:=(zQ8 n).1 v h
theorem zQ7{ix:List Nat} {n:Nat} {ds:List V} (h:ds.all (okV n)=true):zBl ix ds ds:=(zQ8 n).2 ds h
inductive Pairs (N:Nat):List AO->List AO->Prop
 |nil:Pairs N [] []
 |same {o l l'}:Pairs N l l'->Pairs N (o::l) (o::l')
 |ren {o o' l l'}:zBe (List.range N) o o'->Pairs N l l'->Pairs N (o::l) (o'::l')
theorem Pairs.at{N:Nat} {l l':List AO} {j:Nat} {o o':AO} (h:Pairs N l l') (h1:l[j]?=some o) (h2:l'[j]?=some o'):o'=o\/zBe (List.range N) o o':=by
 induction h generalizing j with
 |nil=>cases h1
 |same _ ih =>
  cases j with
  |zero=>cases h1; cases h2; exact .inl rfl
  |succ j=>exact ih h1 h2
 |ren r _ ih =>
  cases j with
  |zero=>cases h1; cases h2; exact .inr r
  |succ j=>exact ih h1 h2
theorem Bears.mk{k:Str} {n:Nat} {as:List V} {s s':S0} {v:V} {orc:List Bool} {obs:List Ob} {ix:List Nat} {σR σ':List AO} {N:Nat}
  (e:zAh ix (R3.call n (.fn k) as ⟨s.fr,s.σ,orc⟩)=some (v,s.fr,σR,N,[],obs)) (ok:Oks obs) (hN:s'.σ.length=N) (hf:s'.fr=s.fr)
  (hp:ix.map (pickA s'.σ)=σ') (hs:Pairs N σR σ') (hd:∀ (i:Nat) (o':AO),i∉ix->s'.σ[i]?=some o'->o'=.dead):Bears k n as s s' v:=by
 refine⟨orc,obs,ix,σR,N,e,ok,hN,hf,λj i o o' h1 h2 h3=>hs.at h2 (j:=j) ?_,hd⟩;rw [<-hp,List.getElem?_map,h1,Option.map_some];unfold pickA;rw [h3]
theorem zBd{at_ turn c:Nat} (h:(turn+at_)%4=c):zAl at_ turn=(List.range c).map (headV at_ turn):=by unfold zAl; rw [h]
theorem zBt{at_ turn c:Nat} (h:(turn+at_)%4=c):zAq at_ turn=(List.range c).map (keyV at_ turn):=by unfold zAq; rw [h]
theorem zAa{o:Ob} {l:List Ob} (h:o.Ok) (r:∀ o∈l,o.Ok):∀ o'∈o::l,o'.Ok:=λo' e=>by
 rcases List.mem_cons.mp e with e|e
 ·exact e▸h
 ·exact r o' e
theorem zAc:∀ o'∈([]:List Ob),o'.Ok:=λ_ e=>nomatch e
theorem zCp{N:Nat} {l:List Nat} {σ:List AO} (h:(List.range N).all (λi=>l.contains i || isDead (pickA σ i))=true) (hN:σ.length=N) :
  ∀ (i:Nat) (o':AO),i∉l->σ[i]?=some o'->isDead o'=true:=by
 intro i o' hi e
 have hl:i<N:=by
  obtain⟨q,_⟩:=List.getElem?_eq_some_iff.mp e;exact hN▸q
 have:=List.all_eq_true.mp h i (List.mem_range.mpr hl)
 rw [Bool.or_eq_true] at this
 rcases this with q|q
 ·exact absurd (List.contains_iff_mem.mp q) hi
 ·unfold pickA at q; rw [e] at q; exact q
theorem zBc{o:AO} (h:isDead o=true):o=.dead:=by cases o<;>first|rfl|cases h
theorem fmod4(n a:Nat):(((n:Int)+1)+(a:Int)).fmod 4=(((n+1+a)%4:Nat):Int):=by
 rw [Int.fmod_eq_emod_of_nonneg _ (by decide)]; lia
theorem zAv{n a c:Nat} (hq:(n+1+a)%4=c) (j:Nat) (b:Bool) (hb:decide (c=j)=b):(Ob.eq ((((n:Int)+1)+(a:Int)).fmod 4) (j:Int) b).Ok:=by
 show decide (_=_)=b;rw [fmod4,hq,<-hb];exact decide_eq_decide.mpr Int.ofNat_inj
theorem zBl.app{ix:List Nat} {a b c d:List V} (h:zBl ix a b) (r:zBl ix c d):zBl ix (a++c) (b++d) :=
 h.ind (m:=λa b=>zBl ix (a++c) (b++d)) r λh _ ih=>.cons h ih
theorem zAs{ix:List Nat} {m a b:List V} (hm:∀ d∈m,okV 12 d=true) (h:zBl ix a b):zBe ix (.list [] m a) (.list [] m b) :=
 ⟨zBl.app (zQ7 (List.all_eq_true.mpr hm)) h,hm⟩
theorem zDw{ix:List Nat} {a b:V} (h:zCx ix a b):zBl ix [sv "dd", .int 1500,.int 2,.int 7,a,.tup []] [sv "dd", .int 1500,.int 2,.int 7,b,.tup []] :=
 .cons (.str _)<|.cons (.ii rfl)<|.cons (.ii rfl)<|.cons (.ii rfl)<|.cons h<|.cons (.tup .nil) .nil
theorem zCq{ix:List Nat} {a b:V} {c d:Int} (h:zCx ix a b) (e:c=d:=by rfl):zCx ix (.tup [.int 1,a,.int c]) (.tup [.int 1,b,.int d]):=.tup (.cons (.ii rfl)<|.cons h<|.cons (.ii e) .nil)
theorem zB3{ix:List Nat} {a b:V} {c d:Int} (h:zCx ix a b) (e:c=d:=by rfl):zCx ix (.tup [.int 0,.int 2,.int 1,a,.int c,.int 1,.int 7]) (.tup [.int 0,.int 2,.int 1,b,.int d,.int 1,.int 7]) :=
 .tup (.cons (.ii rfl)<|.cons (.ii rfl)<|.cons (.ii rfl)<|.cons h<|.cons (.ii e)<|.cons (.ii rfl)<|.cons (.ii rfl) .nil)
theorem zDt{ix:List Nat} {a b:V} {hs hs' pk pk':List V} {c d c' d':Int} (h:zCx ix a b) (h2:zBl ix hs hs') (h3:zBl ix pk pk') (e:c=c':=by rfl) (e':d=d':=by rfl) :
  zBe ix (.attrs zBo [.int 1500,.int 2,.int 1,.bool true,a,.lst hs,.tup pk,.int c,.int d,sv "exstart", .none,.dct [] []]) (.attrs zBo [.int 1500,.int 2,.int 1,.bool true,b,.lst hs',.tup pk',.int c',.int d',sv "exstart", .none,.dct [] []]) :=
 ⟨rfl,.cons (.ii rfl)<|.cons (.ii rfl)<|.cons (.ii rfl)<|.cons (.bool _)<|.cons h<|.cons (.lst h2)<|.cons (.tup h3)<|.cons (.ii e)<|.cons (.ii e')<|.cons (.str _)<|.cons .none<|.cons (.dct .nil) .nil⟩
section
variable (fr:List (List Str × List V)) (orc:List Bool) (m h mh:List V) (x st tk hr:V) (t l0 d1 l1 d0 L0 e0 e1 e2 e3 e4 e5 e6 e7 e8 e9 e10 e11 e12 e13 e14 e15 e16 e17:AO)
noncomputable abbrev zJs:Prop:=Bears "_law_begun" 37 [.ref 1,.int 0] ⟨fr,[t,.dict ["lines", "sides"] [.ref 2,.ref 5],.list [.ref 3,.ref 4] [] [],l0,.list [] m [],.list [.ref 6,.ref 7] [] [],.dict zBf [st,tk,.ref 8,hr],d1,.list [] mh [],e0,e1,e2,e3,e4,e5,e6,e7,e8,e9,e10,e11,e12,e13,e14],orc⟩ ⟨fr,[t,.dict ["lines", "sides"] [.ref 2,.ref 5],.list [.ref 3,.ref 4] [] [],l0,.list [] m [.tup [sv "dd", zC9 0 (mh.length+1)]],.list [.ref 6,.ref 7] [] [],.dict zBf [st,.ref 30,.ref 8,.ref 32],d1,.list [] mh [.lst (zAq 0 (mh.length+1))],e0,e1,e2,e3,e4,e5,e6,e7,e8,e9,e10,e11,e12,e13,e14,.dead,.dead,.dead,.dead,.dead,zDp 0 (mh.length+1),.inst "Exchange" 29,.dead,.list [] [] [],.dead,.dead,.dead],orc⟩ .none
theorem bb_0_24_n(om:∀ d∈m,okV 12 d=true) (o1:m.length<900000):zJs fr orc m [] st tk hr t l0 d1 e0 e1 e2 e3 e4 e5 e6 e7 e8 e9 e10 e11 e12 e13 e14:=by
 have hq:(([]:List V).length+1+0)%4=1:=rfl
 refine Bears.mk (beg_0_24_n fr [] m [] st tk hr t l0 d1 e0 e1 e2 e3 e4 e5 e6 e7 e8 e9 e10 e11 e12 e13 e14) ?_ rfl rfl rfl ?_ ?_
 ·exact zAa (by decide:0<900000)<|zAa (by decide:0<900000)<|zAa (by decide:0<900000)<|zAa (by rw [List.append_nil]; exact o1:(m++[]).length<900000)<|zAc
 ·refine .same<|.same<|.same<|.same<|.ren ?_<|.same<|.same<|.same<|.ren ?_<|.same<|.same<|.same<|.same<|.same<|.same<|.same<|.same<|.same<|.same<|.same<|.same<|.same<|.same<|.same<|.ren ?_<|.same<|.same .nil
  ·exact zAs om (.cons (.tup (.cons (.str _) (.cons (.tup (zDw (.is (by rfl)))) .nil))) .nil)
  ·rw [zBt hq];exact zAs (λ_ e=>nomatch e) (.cons (.lst (.cons (zCq (.is (by rfl))) .nil)) .nil)
  ·unfold zDp;rw [zBd hq];exact zDt (.is (by rfl)) (.cons (zB3 (.is (by rfl))) .nil) (zDw (.is (by rfl)))
 ·intro i o' h1 h2;exact zBc (zCp (N:=36) (by rfl) rfl i o' h1 h2)
theorem bb_0_24_0(om:∀ d∈m,okV 12 d=true) (o1:m.length<900000) (hq:((x::h).length+1+0)%4=0) (hm:∀ d∈x::h,okV 12 d=true) (o2:(x::h).length<900000):zJs fr orc m (x::h) st tk hr t l0 d1 e0 e1 e2 e3 e4 e5 e6 e7 e8 e9 e10 e11 e12 e13 e14:=by
 have hl:((x::h)++[]).length=(x::h).length:=by rw [List.append_nil]
 have hn:1000*((((x::h)++[]).length:Int)+1)+500*0=((1000*((x::h).length+1)+500*0:Nat):Int):=by rw [hl]; lia
 have hj:∀ j:Nat,100*((((x::h)++[]).length:Int)+1)+(j:Int)=((100*((x::h).length+1)+j:Nat):Int):=λj=>by rw [hl]; lia
 refine Bears.mk (beg_0_24_0 fr [] m [] h x st tk hr t l0 d1 e0 e1 e2 e3 e4 e5 e6 e7 e8 e9 e10 e11 e12 e13 e14) ?_ rfl rfl rfl ?_ ?_
 ·exact zAa (by rw [hl]; exact zAv (a:=0) hq 0 true rfl)<|zAa (by rw [hl]; exact o2)<|zAa (by rw [List.append_nil]; exact o1:(m++[]).length<900000)<|zAc
 ·refine .same<|.same<|.same<|.same<|.ren ?_<|.same<|.same<|.same<|.ren ?_<|.same<|.same<|.same<|.same<|.same<|.same<|.same<|.same<|.same<|.same<|.same<|.same<|.same<|.same<|.same<|.ren ?_<|.same<|.same .nil
  ·exact zAs om (.cons (.tup (.cons (.str _) (.cons (.tup (zDw (.ss hn))) .nil))) .nil)
  ·rw [zBt hq];exact zAs hm (.cons (.lst .nil) .nil)
  ·unfold zDp;rw [zBd hq];exact zDt (.ss hn) .nil (zDw (.ss hn))
 ·intro i o' h1 h2;exact zBc (zCp (N:=36) (by rfl) rfl i o' h1 h2)
theorem bb_0_24_1(om:∀ d∈m,okV 12 d=true) (o1:m.length<900000) (hq:((x::h).length+1+0)%4=1) (hm:∀ d∈x::h,okV 12 d=true) (o2:(x::h).length<900000):zJs fr orc m (x::h) st tk hr t l0 d1 e0 e1 e2 e3 e4 e5 e6 e7 e8 e9 e10 e11 e12 e13 e14:=by
 have hl:((x::h)++[]).length=(x::h).length:=by rw [List.append_nil]
 have hn:1000*((((x::h)++[]).length:Int)+1)+500*0=((1000*((x::h).length+1)+500*0:Nat):Int):=by rw [hl]; lia
 have hj:∀ j:Nat,100*((((x::h)++[]).length:Int)+1)+(j:Int)=((100*((x::h).length+1)+j:Nat):Int):=λj=>by rw [hl]; lia
 refine Bears.mk (beg_0_24_1 fr [] m [] h x st tk hr t l0 d1 e0 e1 e2 e3 e4 e5 e6 e7 e8 e9 e10 e11 e12 e13 e14) ?_ rfl rfl rfl ?_ ?_
 ·exact zAa (by rw [hl]; exact zAv (a:=0) hq 0 false rfl)<|zAa (by rw [hl]; exact zAv (a:=0) hq 1 true rfl)<|zAa (by decide:0<900000)<|zAa (by decide:0<900000)<|zAa (by rw [hl]; exact o2)<|zAa (by rw [List.append_nil]; exact o1:(m++[]).length<900000)<|zAc
 ·refine .same<|.same<|.same<|.same<|.ren ?_<|.same<|.same<|.same<|.ren ?_<|.same<|.same<|.same<|.same<|.same<|.same<|.same<|.same<|.same<|.same<|.same<|.same<|.same<|.same<|.same<|.ren ?_<|.same<|.same .nil
  ·exact zAs om (.cons (.tup (.cons (.str _) (.cons (.tup (zDw (.ss hn))) .nil))) .nil)
  ·rw [zBt hq];exact zAs hm (.cons (.lst (.cons (zCq (.ss (hj 0))) .nil)) .nil)
  ·unfold zDp;rw [zBd hq];exact zDt (.ss hn) (.cons (zB3 (.ss (hj 0))) .nil) (zDw (.ss hn))
 ·intro i o' h1 h2;exact zBc (zCp (N:=36) (by rfl) rfl i o' h1 h2)
theorem bb_0_24_2(om:∀ d∈m,okV 12 d=true) (o1:m.length<900000) (hq:((x::h).length+1+0)%4=2) (hm:∀ d∈x::h,okV 12 d=true) (o2:(x::h).length<900000):zJs fr orc m (x::h) st tk hr t l0 d1 e0 e1 e2 e3 e4 e5 e6 e7 e8 e9 e10 e11 e12 e13 e14:=by
 have hl:((x::h)++[]).length=(x::h).length:=by rw [List.append_nil]
 have hn:1000*((((x::h)++[]).length:Int)+1)+500*0=((1000*((x::h).length+1)+500*0:Nat):Int):=by rw [hl]; lia
 have hj:∀ j:Nat,100*((((x::h)++[]).length:Int)+1)+(j:Int)=((100*((x::h).length+1)+j:Nat):Int):=λj=>by rw [hl]; lia
 refine Bears.mk (beg_0_24_2 fr [] m [] h x st tk hr t l0 d1 e0 e1 e2 e3 e4 e5 e6 e7 e8 e9 e10 e11 e12 e13 e14) ?_ rfl rfl rfl ?_ ?_
 ·exact zAa (by rw [hl]; exact zAv (a:=0) hq 0 false rfl)<|zAa (by rw [hl]; exact zAv (a:=0) hq 1 false rfl)<|zAa (by rw [hl]; exact zAv (a:=0) hq 2 true rfl)<|zAa (by decide:0<900000)<|zAa (by decide:1<900000)<|zAa (by decide:0<900000)<|zAa (by decide:1<900000)<|zAa (by rw [hl]; exact o2)<|zAa (by rw [List.append_nil]; exact o1:(m++[]).length<900000)<|zAc
 ·refine .same<|.same<|.same<|.same<|.ren ?_<|.same<|.same<|.same<|.ren ?_<|.same<|.same<|.same<|.same<|.same<|.same<|.same<|.same<|.same<|.same<|.same<|.same<|.same<|.same<|.same<|.ren ?_<|.same<|.same .nil
  ·exact zAs om (.cons (.tup (.cons (.str _) (.cons (.tup (zDw (.ss hn))) .nil))) .nil)
  ·rw [zBt hq];exact zAs hm (.cons (.lst (.cons (zCq (.ss (hj 0))) (.cons (zCq (.ss (hj 1))) .nil))) .nil)
  ·unfold zDp;rw [zBd hq];exact zDt (.ss hn) (.cons (zB3 (.ss (hj 0))) (.cons (zB3 (.ss (hj 1))) .nil)) (zDw (.ss hn))
 ·intro i o' h1 h2;exact zBc (zCp (N:=36) (by rfl) rfl i o' h1 h2)
theorem bb_0_24_3(om:∀ d∈m,okV 12 d=true) (o1:m.length<900000) (hq:((x::h).length+1+0)%4=3) (hm:∀ d∈x::h,okV 12 d=true) (o2:(x::h).length<900000):zJs fr orc m (x::h) st tk hr t l0 d1 e0 e1 e2 e3 e4 e5 e6 e7 e8 e9 e10 e11 e12 e13 e14:=by
 have hl:((x::h)++[]).length=(x::h).length:=by rw [List.append_nil]
 have hn:1000*((((x::h)++[]).length:Int)+1)+500*0=((1000*((x::h).length+1)+500*0:Nat):Int):=by rw [hl]; lia
 have hj:∀ j:Nat,100*((((x::h)++[]).length:Int)+1)+(j:Int)=((100*((x::h).length+1)+j:Nat):Int):=λj=>by rw [hl]; lia
 refine Bears.mk (beg_0_24_3 fr [] m [] h x st tk hr t l0 d1 e0 e1 e2 e3 e4 e5 e6 e7 e8 e9 e10 e11 e12 e13 e14) ?_ rfl rfl rfl ?_ ?_
 ·exact zAa (by rw [hl]; exact zAv (a:=0) hq 0 false rfl)<|zAa (by rw [hl]; exact zAv (a:=0) hq 1 false rfl)<|zAa (by rw [hl]; exact zAv (a:=0) hq 2 false rfl)<|zAa (by rw [hl]; exact zAv (a:=0) hq 3 true rfl)<|zAa (by decide:0<900000)<|zAa (by decide:1<900000)<|zAa (by decide:2<900000)<|zAa (by decide:0<900000)<|zAa (by decide:1<900000)<|zAa (by decide:2<900000)<|zAa (by rw [hl]; exact o2)<|zAa (by rw [List.append_nil]; exact o1:(m++[]).length<900000)<|zAc
 ·refine .same<|.same<|.same<|.same<|.ren ?_<|.same<|.same<|.same<|.ren ?_<|.same<|.same<|.same<|.same<|.same<|.same<|.same<|.same<|.same<|.same<|.same<|.same<|.same<|.same<|.same<|.ren ?_<|.same<|.same .nil
  ·exact zAs om (.cons (.tup (.cons (.str _) (.cons (.tup (zDw (.ss hn))) .nil))) .nil)
  ·rw [zBt hq];exact zAs hm (.cons (.lst (.cons (zCq (.ss (hj 0))) (.cons (zCq (.ss (hj 1))) (.cons (zCq (.ss (hj 2))) .nil)))) .nil)
  ·unfold zDp;rw [zBd hq];exact zDt (.ss hn) (.cons (zB3 (.ss (hj 0))) (.cons (zB3 (.ss (hj 1))) (.cons (zB3 (.ss (hj 2))) .nil))) (zDw (.ss hn))
 ·intro i o' h1 h2;exact zBc (zCp (N:=36) (by rfl) rfl i o' h1 h2)
noncomputable abbrev zJr:Prop:=Bears "_law_begun" 36 [.ref 1,.int 0] ⟨fr,[t,.dict ["lines", "sides"] [.ref 2,.ref 5],.list [.ref 3,.ref 4] [] [],l0,.list [] m [],.list [.ref 6,.ref 7] [] [],.dict zBf [st,tk,.ref 8,hr],d1,.list [] mh [],e0,e1,e2,e3,e4,e5,e6,e7,e8,e9,e10,e11,e12,e13,e14,e15,e16,e17],orc⟩ ⟨fr,[t,.dict ["lines", "sides"] [.ref 2,.ref 5],.list [.ref 3,.ref 4] [] [],l0,.list [] m [.tup [sv "dd", zC9 0 (mh.length+1)]],.list [.ref 6,.ref 7] [] [],.dict zBf [st,.ref 33,.ref 8,.ref 35],d1,.list [] mh [.lst (zAq 0 (mh.length+1))],e0,e1,e2,e3,e4,e5,e6,e7,e8,e9,e10,e11,e12,e13,e14,e15,e16,e17,.dead,.dead,.dead,.dead,.dead,zDp 0 (mh.length+1),.inst "Exchange" 32,.dead,.list [] [] [],.dead,.dead,.dead],orc⟩ .none
theorem bb_0_27_n(om:∀ d∈m,okV 12 d=true) (o1:m.length<900000):zJr fr orc m [] st tk hr t l0 d1 e0 e1 e2 e3 e4 e5 e6 e7 e8 e9 e10 e11 e12 e13 e14 e15 e16 e17:=by
 have hq:(([]:List V).length+1+0)%4=1:=rfl
 refine Bears.mk (beg_0_27_n fr [] m [] st tk hr t l0 d1 e0 e1 e2 e3 e4 e5 e6 e7 e8 e9 e10 e11 e12 e13 e14 e15 e16 e17) ?_ rfl rfl rfl ?_ ?_
 ·exact zAa (by decide:0<900000)<|zAa (by decide:0<900000)<|zAa (by decide:0<900000)<|zAa (by rw [List.append_nil]; exact o1:(m++[]).length<900000)<|zAc
 ·refine .same<|.same<|.same<|.same<|.ren ?_<|.same<|.same<|.same<|.ren ?_<|.same<|.same<|.same<|.same<|.same<|.same<|.same<|.same<|.same<|.same<|.same<|.same<|.same<|.same<|.same<|.same<|.same<|.same<|.ren ?_<|.same<|.same .nil
  ·exact zAs om (.cons (.tup (.cons (.str _) (.cons (.tup (zDw (.is (by rfl)))) .nil))) .nil)
  ·rw [zBt hq];exact zAs (λ_ e=>nomatch e) (.cons (.lst (.cons (zCq (.is (by rfl))) .nil)) .nil)
  ·unfold zDp;rw [zBd hq];exact zDt (.is (by rfl)) (.cons (zB3 (.is (by rfl))) .nil) (zDw (.is (by rfl)))
 ·intro i o' h1 h2;exact zBc (zCp (N:=39) (by rfl) rfl i o' h1 h2)
theorem bb_0_27_0(om:∀ d∈m,okV 12 d=true) (o1:m.length<900000) (hq:((x::h).length+1+0)%4=0) (hm:∀ d∈x::h,okV 12 d=true) (o2:(x::h).length<900000):zJr fr orc m (x::h) st tk hr t l0 d1 e0 e1 e2 e3 e4 e5 e6 e7 e8 e9 e10 e11 e12 e13 e14 e15 e16 e17:=by
 have hl:((x::h)++[]).length=(x::h).length:=by rw [List.append_nil]
 have hn:1000*((((x::h)++[]).length:Int)+1)+500*0=((1000*((x::h).length+1)+500*0:Nat):Int):=by rw [hl]; lia
 have hj:∀ j:Nat,100*((((x::h)++[]).length:Int)+1)+(j:Int)=((100*((x::h).length+1)+j:Nat):Int):=λj=>by rw [hl]; lia
 refine Bears.mk (beg_0_27_0 fr [] m [] h x st tk hr t l0 d1 e0 e1 e2 e3 e4 e5 e6 e7 e8 e9 e10 e11 e12 e13 e14 e15 e16 e17) ?_ rfl rfl rfl ?_ ?_
 ·exact zAa (by rw [hl]; exact zAv (a:=0) hq 0 true rfl)<|zAa (by rw [hl]; exact o2)<|zAa (by rw [List.append_nil]; exact o1:(m++[]).length<900000)<|zAc
 ·refine .same<|.same<|.same<|.same<|.ren ?_<|.same<|.same<|.same<|.ren ?_<|.same<|.same<|.same<|.same<|.same<|.same<|.same<|.same<|.same<|.same<|.same<|.same<|.same<|.same<|.same<|.same<|.same<|.same<|.ren ?_<|.same<|.same .nil
  ·exact zAs om (.cons (.tup (.cons (.str _) (.cons (.tup (zDw (.ss hn))) .nil))) .nil)
  ·rw [zBt hq];exact zAs hm (.cons (.lst .nil) .nil)
  ·unfold zDp;rw [zBd hq];exact zDt (.ss hn) .nil (zDw (.ss hn))
 ·intro i o' h1 h2;exact zBc (zCp (N:=39) (by rfl) rfl i o' h1 h2)
theorem bb_0_27_1(om:∀ d∈m,okV 12 d=true) (o1:m.length<900000) (hq:((x::h).length+1+0)%4=1) (hm:∀ d∈x::h,okV 12 d=true) (o2:(x::h).length<900000):zJr fr orc m (x::h) st tk hr t l0 d1 e0 e1 e2 e3 e4 e5 e6 e7 e8 e9 e10 e11 e12 e13 e14 e15 e16 e17:=by
 have hl:((x::h)++[]).length=(x::h).length:=by rw [List.append_nil]
 have hn:1000*((((x::h)++[]).length:Int)+1)+500*0=((1000*((x::h).length+1)+500*0:Nat):Int):=by rw [hl]; lia
 have hj:∀ j:Nat,100*((((x::h)++[]).length:Int)+1)+(j:Int)=((100*((x::h).length+1)+j:Nat):Int):=λj=>by rw [hl]; lia
 refine Bears.mk (beg_0_27_1 fr [] m [] h x st tk hr t l0 d1 e0 e1 e2 e3 e4 e5 e6 e7 e8 e9 e10 e11 e12 e13 e14 e15 e16 e17) ?_ rfl rfl rfl ?_ ?_
 ·exact zAa (by rw [hl]; exact zAv (a:=0) hq 0 false rfl)<|zAa (by rw [hl]; exact zAv (a:=0) hq 1 true rfl)<|zAa (by decide:0<900000)<|zAa (by decide:0<900000)<|zAa (by rw [hl]; exact o2)<|zAa (by rw [List.append_nil]; exact o1:(m++[]).length<900000)<|zAc
 ·refine .same<|.same<|.same<|.same<|.ren ?_<|.same<|.same<|.same<|.ren ?_<|.same<|.same<|.same<|.same<|.same<|.same<|.same<|.same<|.same<|.same<|.same<|.same<|.same<|.same<|.same<|.same<|.same<|.same<|.ren ?_<|.same<|.same .nil
  ·exact zAs om (.cons (.tup (.cons (.str _) (.cons (.tup (zDw (.ss hn))) .nil))) .nil)
  ·rw [zBt hq];exact zAs hm (.cons (.lst (.cons (zCq (.ss (hj 0))) .nil)) .nil)
  ·unfold zDp;rw [zBd hq];exact zDt (.ss hn) (.cons (zB3 (.ss (hj 0))) .nil) (zDw (.ss hn))
 ·intro i o' h1 h2;exact zBc (zCp (N:=39) (by rfl) rfl i o' h1 h2)
theorem bb_0_27_2(om:∀ d∈m,okV 12 d=true) (o1:m.length<900000) (hq:((x::h).length+1+0)%4=2) (hm:∀ d∈x::h,okV 12 d=true) (o2:(x::h).length<900000):zJr fr orc m (x::h) st tk hr t l0 d1 e0 e1 e2 e3 e4 e5 e6 e7 e8 e9 e10 e11 e12 e13 e14 e15 e16 e17:=by
 have hl:((x::h)++[]).length=(x::h).length:=by rw [List.append_nil]
 have hn:1000*((((x::h)++[]).length:Int)+1)+500*0=((1000*((x::h).length+1)+500*0:Nat):Int):=by rw [hl]; lia
 have hj:∀ j:Nat,100*((((x::h)++[]).length:Int)+1)+(j:Int)=((100*((x::h).length+1)+j:Nat):Int):=λj=>by rw [hl]; lia
 refine Bears.mk (beg_0_27_2 fr [] m [] h x st tk hr t l0 d1 e0 e1 e2 e3 e4 e5 e6 e7 e8 e9 e10 e11 e12 e13 e14 e15 e16 e17) ?_ rfl rfl rfl ?_ ?_
 ·exact zAa (by rw [hl]; exact zAv (a:=0) hq 0 false rfl)<|zAa (by rw [hl]; exact zAv (a:=0) hq 1 false rfl)<|zAa (by rw [hl]; exact zAv (a:=0) hq 2 true rfl)<|zAa (by decide:0<900000)<|zAa (by decide:1<900000)<|zAa (by decide:0<900000)<|zAa (by decide:1<900000)<|zAa (by rw [hl]; exact o2)<|zAa (by rw [List.append_nil]; exact o1:(m++[]).length<900000)<|zAc
 ·refine .same<|.same<|.same<|.same<|.ren ?_<|.same<|.same<|.same<|.ren ?_<|.same<|.same<|.same<|.same<|.same<|.same<|.same<|.same<|.same<|.same<|.same<|.same<|.same<|.same<|.same<|.same<|.same<|.same<|.ren ?_<|.same<|.same .nil
  ·exact zAs om (.cons (.tup (.cons (.str _) (.cons (.tup (zDw (.ss hn))) .nil))) .nil)
  ·rw [zBt hq];exact zAs hm (.cons (.lst (.cons (zCq (.ss (hj 0))) (.cons (zCq (.ss (hj 1))) .nil))) .nil)
  ·unfold zDp;rw [zBd hq];exact zDt (.ss hn) (.cons (zB3 (.ss (hj 0))) (.cons (zB3 (.ss (hj 1))) .nil)) (zDw (.ss hn))
 ·intro i o' h1 h2;exact zBc (zCp (N:=39) (by rfl) rfl i o' h1 h2)
theorem bb_0_27_3(om:∀ d∈m,okV 12 d=true) (o1:m.length<900000) (hq:((x::h).length+1+0)%4=3) (hm:∀ d∈x::h,okV 12 d=true) (o2:(x::h).length<900000):zJr fr orc m (x::h) st tk hr t l0 d1 e0 e1 e2 e3 e4 e5 e6 e7 e8 e9 e10 e11 e12 e13 e14 e15 e16 e17:=by
 have hl:((x::h)++[]).length=(x::h).length:=by rw [List.append_nil]
 have hn:1000*((((x::h)++[]).length:Int)+1)+500*0=((1000*((x::h).length+1)+500*0:Nat):Int):=by rw [hl]; lia
 have hj:∀ j:Nat,100*((((x::h)++[]).length:Int)+1)+(j:Int)=((100*((x::h).length+1)+j:Nat):Int):=λj=>by rw [hl]; lia
 refine Bears.mk (beg_0_27_3 fr [] m [] h x st tk hr t l0 d1 e0 e1 e2 e3 e4 e5 e6 e7 e8 e9 e10 e11 e12 e13 e14 e15 e16 e17) ?_ rfl rfl rfl ?_ ?_
 ·exact zAa (by rw [hl]; exact zAv (a:=0) hq 0 false rfl)<|zAa (by rw [hl]; exact zAv (a:=0) hq 1 false rfl)<|zAa (by rw [hl]; exact zAv (a:=0) hq 2 false rfl)<|zAa (by rw [hl]; exact zAv (a:=0) hq 3 true rfl)<|zAa (by decide:0<900000)<|zAa (by decide:1<900000)<|zAa (by decide:2<900000)<|zAa (by decide:0<900000)<|zAa (by decide:1<900000)<|zAa (by decide:2<900000)<|zAa (by rw [hl]; exact o2)<|zAa (by rw [List.append_nil]; exact o1:(m++[]).length<900000)<|zAc
 ·refine .same<|.same<|.same<|.same<|.ren ?_<|.same<|.same<|.same<|.ren ?_<|.same<|.same<|.same<|.same<|.same<|.same<|.same<|.same<|.same<|.same<|.same<|.same<|.same<|.same<|.same<|.same<|.same<|.same<|.ren ?_<|.same<|.same .nil
  ·exact zAs om (.cons (.tup (.cons (.str _) (.cons (.tup (zDw (.ss hn))) .nil))) .nil)
  ·rw [zBt hq];exact zAs hm (.cons (.lst (.cons (zCq (.ss (hj 0))) (.cons (zCq (.ss (hj 1))) (.cons (zCq (.ss (hj 2))) .nil)))) .nil)
  ·unfold zDp;rw [zBd hq];exact zDt (.ss hn) (.cons (zB3 (.ss (hj 0))) (.cons (zB3 (.ss (hj 1))) (.cons (zB3 (.ss (hj 2))) .nil))) (zDw (.ss hn))
 ·intro i o' h1 h2;exact zBc (zCp (N:=39) (by rfl) rfl i o' h1 h2)
noncomputable abbrev zJq:Prop:=Bears "_law_begun" 37 [.ref 1,.int 1] ⟨fr,[t,.dict ["lines", "sides"] [.ref 2,.ref 5],.list [.ref 3,.ref 4] [] [],.list [] m [],l1,.list [.ref 6,.ref 7] [] [],d0,.dict zBf [st,tk,.ref 9,hr],L0,.list [] mh [],e0,e1,e2,e3,e4,e5,e6,e7,e8,e9,e10,e11,e12,e13],orc⟩ ⟨fr,[t,.dict ["lines", "sides"] [.ref 2,.ref 5],.list [.ref 3,.ref 4] [] [],.list [] m [.tup [sv "dd", zC9 1 (mh.length+1)]],l1,.list [.ref 6,.ref 7] [] [],d0,.dict zBf [st,.ref 30,.ref 9,.ref 32],L0,.list [] mh [.lst (zAq 1 (mh.length+1))],e0,e1,e2,e3,e4,e5,e6,e7,e8,e9,e10,e11,e12,e13,.dead,.dead,.dead,.dead,.dead,zDp 1 (mh.length+1),.inst "Exchange" 29,.dead,.list [] [] [],.dead,.dead,.dead],orc⟩ .none
theorem bb_1_24_n(om:∀ d∈m,okV 12 d=true) (o1:m.length<900000):zJq fr orc m [] st tk hr t l1 d0 L0 e0 e1 e2 e3 e4 e5 e6 e7 e8 e9 e10 e11 e12 e13:=by
 have hq:(([]:List V).length+1+1)%4=2:=rfl
 refine Bears.mk (beg_1_24_n fr [] m [] st tk hr t l1 d0 L0 e0 e1 e2 e3 e4 e5 e6 e7 e8 e9 e10 e11 e12 e13) ?_ rfl rfl rfl ?_ ?_
 ·exact zAa (by decide:0<900000)<|zAa (by decide:1<900000)<|zAa (by decide:0<900000)<|zAa (by decide:1<900000)<|zAa (by decide:0<900000)<|zAa (by rw [List.append_nil]; exact o1:(m++[]).length<900000)<|zAc
 ·refine .same<|.same<|.same<|.ren ?_<|.same<|.same<|.same<|.same<|.same<|.ren ?_<|.same<|.same<|.same<|.same<|.same<|.same<|.same<|.same<|.same<|.same<|.same<|.same<|.same<|.same<|.ren ?_<|.same<|.same .nil
  ·exact zAs om (.cons (.tup (.cons (.str _) (.cons (.tup (zDw (.is (by rfl)))) .nil))) .nil)
  ·rw [zBt hq];exact zAs (λ_ e=>nomatch e) (.cons (.lst (.cons (zCq (.is (by rfl))) (.cons (zCq (.is (by rfl))) .nil))) .nil)
  ·unfold zDp;rw [zBd hq];exact zDt (.is (by rfl)) (.cons (zB3 (.is (by rfl))) (.cons (zB3 (.is (by rfl))) .nil)) (zDw (.is (by rfl)))
 ·intro i o' h1 h2;exact zBc (zCp (N:=36) (by rfl) rfl i o' h1 h2)
theorem bb_1_24_0(om:∀ d∈m,okV 12 d=true) (o1:m.length<900000) (hq:((x::h).length+1+1)%4=0) (hm:∀ d∈x::h,okV 12 d=true) (o2:(x::h).length<900000):zJq fr orc m (x::h) st tk hr t l1 d0 L0 e0 e1 e2 e3 e4 e5 e6 e7 e8 e9 e10 e11 e12 e13:=by
 have hl:((x::h)++[]).length=(x::h).length:=by rw [List.append_nil]
 have hn:1000*((((x::h)++[]).length:Int)+1)+500*1=((1000*((x::h).length+1)+500*1:Nat):Int):=by rw [hl]; lia
 have hj:∀ j:Nat,100*((((x::h)++[]).length:Int)+1)+(j:Int)=((100*((x::h).length+1)+j:Nat):Int):=λj=>by rw [hl]; lia
 refine Bears.mk (beg_1_24_0 fr [] m [] h x st tk hr t l1 d0 L0 e0 e1 e2 e3 e4 e5 e6 e7 e8 e9 e10 e11 e12 e13) ?_ rfl rfl rfl ?_ ?_
 ·exact zAa (by rw [hl]; exact zAv (a:=1) hq 0 true rfl)<|zAa (by rw [hl]; exact o2)<|zAa (by rw [List.append_nil]; exact o1:(m++[]).length<900000)<|zAc
 ·refine .same<|.same<|.same<|.ren ?_<|.same<|.same<|.same<|.same<|.same<|.ren ?_<|.same<|.same<|.same<|.same<|.same<|.same<|.same<|.same<|.same<|.same<|.same<|.same<|.same<|.same<|.ren ?_<|.same<|.same .nil
  ·exact zAs om (.cons (.tup (.cons (.str _) (.cons (.tup (zDw (.ss hn))) .nil))) .nil)
  ·rw [zBt hq];exact zAs hm (.cons (.lst .nil) .nil)
  ·unfold zDp;rw [zBd hq];exact zDt (.ss hn) .nil (zDw (.ss hn))
 ·intro i o' h1 h2;exact zBc (zCp (N:=36) (by rfl) rfl i o' h1 h2)
theorem bb_1_24_1(om:∀ d∈m,okV 12 d=true) (o1:m.length<900000) (hq:((x::h).length+1+1)%4=1) (hm:∀ d∈x::h,okV 12 d=true) (o2:(x::h).length<900000):zJq fr orc m (x::h) st tk hr t l1 d0 L0 e0 e1 e2 e3 e4 e5 e6 e7 e8 e9 e10 e11 e12 e13:=by
 have hl:((x::h)++[]).length=(x::h).length:=by rw [List.append_nil]
 have hn:1000*((((x::h)++[]).length:Int)+1)+500*1=((1000*((x::h).length+1)+500*1:Nat):Int):=by rw [hl]; lia
 have hj:∀ j:Nat,100*((((x::h)++[]).length:Int)+1)+(j:Int)=((100*((x::h).length+1)+j:Nat):Int):=λj=>by rw [hl]; lia
 refine Bears.mk (beg_1_24_1 fr [] m [] h x st tk hr t l1 d0 L0 e0 e1 e2 e3 e4 e5 e6 e7 e8 e9 e10 e11 e12 e13) ?_ rfl rfl rfl ?_ ?_
 ·exact zAa (by rw [hl]; exact zAv (a:=1) hq 0 false rfl)<|zAa (by rw [hl]; exact zAv (a:=1) hq 1 true rfl)<|zAa (by decide:0<900000)<|zAa (by decide:0<900000)<|zAa (by rw [hl]; exact o2)<|zAa (by rw [List.append_nil]; exact o1:(m++[]).length<900000)<|zAc
 ·refine .same<|.same<|.same<|.ren ?_<|.same<|.same<|.same<|.same<|.same<|.ren ?_<|.same<|.same<|.same<|.same<|.same<|.same<|.same<|.same<|.same<|.same<|.same<|.same<|.same<|.same<|.ren ?_<|.same<|.same .nil
  ·exact zAs om (.cons (.tup (.cons (.str _) (.cons (.tup (zDw (.ss hn))) .nil))) .nil)
  ·rw [zBt hq];exact zAs hm (.cons (.lst (.cons (zCq (.ss (hj 0))) .nil)) .nil)
  ·unfold zDp;rw [zBd hq];exact zDt (.ss hn) (.cons (zB3 (.ss (hj 0))) .nil) (zDw (.ss hn))
 ·intro i o' h1 h2;exact zBc (zCp (N:=36) (by rfl) rfl i o' h1 h2)
theorem bb_1_24_2(om:∀ d∈m,okV 12 d=true) (o1:m.length<900000) (hq:((x::h).length+1+1)%4=2) (hm:∀ d∈x::h,okV 12 d=true) (o2:(x::h).length<900000):zJq fr orc m (x::h) st tk hr t l1 d0 L0 e0 e1 e2 e3 e4 e5 e6 e7 e8 e9 e10 e11 e12 e13:=by
 have hl:((x::h)++[]).length=(x::h).length:=by rw [List.append_nil]
 have hn:1000*((((x::h)++[]).length:Int)+1)+500*1=((1000*((x::h).length+1)+500*1:Nat):Int):=by rw [hl]; lia
 have hj:∀ j:Nat,100*((((x::h)++[]).length:Int)+1)+(j:Int)=((100*((x::h).length+1)+j:Nat):Int):=λj=>by rw [hl]; lia
 refine Bears.mk (beg_1_24_2 fr [] m [] h x st tk hr t l1 d0 L0 e0 e1 e2 e3 e4 e5 e6 e7 e8 e9 e10 e11 e12 e13) ?_ rfl rfl rfl ?_ ?_
 ·exact zAa (by rw [hl]; exact zAv (a:=1) hq 0 false rfl)<|zAa (by rw [hl]; exact zAv (a:=1) hq 1 false rfl)<|zAa (by rw [hl]; exact zAv (a:=1) hq 2 true rfl)<|zAa (by decide:0<900000)<|zAa (by decide:1<900000)<|zAa (by decide:0<900000)<|zAa (by decide:1<900000)<|zAa (by rw [hl]; exact o2)<|zAa (by rw [List.append_nil]; exact o1:(m++[]).length<900000)<|zAc
 ·refine .same<|.same<|.same<|.ren ?_<|.same<|.same<|.same<|.same<|.same<|.ren ?_<|.same<|.same<|.same<|.same<|.same<|.same<|.same<|.same<|.same<|.same<|.same<|.same<|.same<|.same<|.ren ?_<|.same<|.same .nil
  ·exact zAs om (.cons (.tup (.cons (.str _) (.cons (.tup (zDw (.ss hn))) .nil))) .nil)
  ·rw [zBt hq];exact zAs hm (.cons (.lst (.cons (zCq (.ss (hj 0))) (.cons (zCq (.ss (hj 1))) .nil))) .nil)
  ·unfold zDp;rw [zBd hq];exact zDt (.ss hn) (.cons (zB3 (.ss (hj 0))) (.cons (zB3 (.ss (hj 1))) .nil)) (zDw (.ss hn))
 ·intro i o' h1 h2;exact zBc (zCp (N:=36) (by rfl) rfl i o' h1 h2)
theorem bb_1_24_3(om:∀ d∈m,okV 12 d=true) (o1:m.length<900000) (hq:((x::h).length+1+1)%4=3) (hm:∀ d∈x::h,okV 12 d=true) (o2:(x::h).length<900000):zJq fr orc m (x::h) st tk hr t l1 d0 L0 e0 e1 e2 e3 e4 e5 e6 e7 e8 e9 e10 e11 e12 e13:=by
 have hl:((x::h)++[]).length=(x::h).length:=by rw [List.append_nil]
 have hn:1000*((((x::h)++[]).length:Int)+1)+500*1=((1000*((x::h).length+1)+500*1:Nat):Int):=by rw [hl]; lia
 have hj:∀ j:Nat,100*((((x::h)++[]).length:Int)+1)+(j:Int)=((100*((x::h).length+1)+j:Nat):Int):=λj=>by rw [hl]; lia
 refine Bears.mk (beg_1_24_3 fr [] m [] h x st tk hr t l1 d0 L0 e0 e1 e2 e3 e4 e5 e6 e7 e8 e9 e10 e11 e12 e13) ?_ rfl rfl rfl ?_ ?_
 ·exact zAa (by rw [hl]; exact zAv (a:=1) hq 0 false rfl)<|zAa (by rw [hl]; exact zAv (a:=1) hq 1 false rfl)<|zAa (by rw [hl]; exact zAv (a:=1) hq 2 false rfl)<|zAa (by rw [hl]; exact zAv (a:=1) hq 3 true rfl)<|zAa (by decide:0<900000)<|zAa (by decide:1<900000)<|zAa (by decide:2<900000)<|zAa (by decide:0<900000)<|zAa (by decide:1<900000)<|zAa (by decide:2<900000)<|zAa (by rw [hl]; exact o2)<|zAa (by rw [List.append_nil]; exact o1:(m++[]).length<900000)<|zAc
 ·refine .same<|.same<|.same<|.ren ?_<|.same<|.same<|.same<|.same<|.same<|.ren ?_<|.same<|.same<|.same<|.same<|.same<|.same<|.same<|.same<|.same<|.same<|.same<|.same<|.same<|.same<|.ren ?_<|.same<|.same .nil
  ·exact zAs om (.cons (.tup (.cons (.str _) (.cons (.tup (zDw (.ss hn))) .nil))) .nil)
  ·rw [zBt hq];exact zAs hm (.cons (.lst (.cons (zCq (.ss (hj 0))) (.cons (zCq (.ss (hj 1))) (.cons (zCq (.ss (hj 2))) .nil)))) .nil)
  ·unfold zDp;rw [zBd hq];exact zDt (.ss hn) (.cons (zB3 (.ss (hj 0))) (.cons (zB3 (.ss (hj 1))) (.cons (zB3 (.ss (hj 2))) .nil))) (zDw (.ss hn))
 ·intro i o' h1 h2;exact zBc (zCp (N:=36) (by rfl) rfl i o' h1 h2)
noncomputable abbrev zJp:Prop:=Bears "_law_begun" 36 [.ref 1,.int 1] ⟨fr,[t,.dict ["lines", "sides"] [.ref 2,.ref 5],.list [.ref 3,.ref 4] [] [],.list [] m [],l1,.list [.ref 6,.ref 7] [] [],d0,.dict zBf [st,tk,.ref 9,hr],L0,.list [] mh [],e0,e1,e2,e3,e4,e5,e6,e7,e8,e9,e10,e11,e12,e13,e14,e15,e16],orc⟩ ⟨fr,[t,.dict ["lines", "sides"] [.ref 2,.ref 5],.list [.ref 3,.ref 4] [] [],.list [] m [.tup [sv "dd", zC9 1 (mh.length+1)]],l1,.list [.ref 6,.ref 7] [] [],d0,.dict zBf [st,.ref 33,.ref 9,.ref 35],L0,.list [] mh [.lst (zAq 1 (mh.length+1))],e0,e1,e2,e3,e4,e5,e6,e7,e8,e9,e10,e11,e12,e13,e14,e15,e16,.dead,.dead,.dead,.dead,.dead,zDp 1 (mh.length+1),.inst "Exchange" 32,.dead,.list [] [] [],.dead,.dead,.dead],orc⟩ .none
theorem bb_1_27_n(om:∀ d∈m,okV 12 d=true) (o1:m.length<900000):zJp fr orc m [] st tk hr t l1 d0 L0 e0 e1 e2 e3 e4 e5 e6 e7 e8 e9 e10 e11 e12 e13 e14 e15 e16:=by
 have hq:(([]:List V).length+1+1)%4=2:=rfl
 refine Bears.mk (beg_1_27_n fr [] m [] st tk hr t l1 d0 L0 e0 e1 e2 e3 e4 e5 e6 e7 e8 e9 e10 e11 e12 e13 e14 e15 e16) ?_ rfl rfl rfl ?_ ?_
 ·exact zAa (by decide:0<900000)<|zAa (by decide:1<900000)<|zAa (by decide:0<900000)<|zAa (by decide:1<900000)<|zAa (by decide:0<900000)<|zAa (by rw [List.append_nil]; exact o1:(m++[]).length<900000)<|zAc
 ·refine .same<|.same<|.same<|.ren ?_<|.same<|.same<|.same<|.same<|.same<|.ren ?_<|.same<|.same<|.same<|.same<|.same<|.same<|.same<|.same<|.same<|.same<|.same<|.same<|.same<|.same<|.same<|.same<|.same<|.ren ?_<|.same<|.same .nil
  ·exact zAs om (.cons (.tup (.cons (.str _) (.cons (.tup (zDw (.is (by rfl)))) .nil))) .nil)
  ·rw [zBt hq];exact zAs (λ_ e=>nomatch e) (.cons (.lst (.cons (zCq (.is (by rfl))) (.cons (zCq (.is (by rfl))) .nil))) .nil)
  ·unfold zDp;rw [zBd hq];exact zDt (.is (by rfl)) (.cons (zB3 (.is (by rfl))) (.cons (zB3 (.is (by rfl))) .nil)) (zDw (.is (by rfl)))
 ·intro i o' h1 h2;exact zBc (zCp (N:=39) (by rfl) rfl i o' h1 h2)
theorem bb_1_27_0(om:∀ d∈m,okV 12 d=true) (o1:m.length<900000) (hq:((x::h).length+1+1)%4=0) (hm:∀ d∈x::h,okV 12 d=true) (o2:(x::h).length<900000):zJp fr orc m (x::h) st tk hr t l1 d0 L0 e0 e1 e2 e3 e4 e5 e6 e7 e8 e9 e10 e11 e12 e13 e14 e15 e16:=by
 have hl:((x::h)++[]).length=(x::h).length:=by rw [List.append_nil]
 have hn:1000*((((x::h)++[]).length:Int)+1)+500*1=((1000*((x::h).length+1)+500*1:Nat):Int):=by rw [hl]; lia
 have hj:∀ j:Nat,100*((((x::h)++[]).length:Int)+1)+(j:Int)=((100*((x::h).length+1)+j:Nat):Int):=λj=>by rw [hl]; lia
 refine Bears.mk (beg_1_27_0 fr [] m [] h x st tk hr t l1 d0 L0 e0 e1 e2 e3 e4 e5 e6 e7 e8 e9 e10 e11 e12 e13 e14 e15 e16) ?_ rfl rfl rfl ?_ ?_
 ·exact zAa (by rw [hl]; exact zAv (a:=1) hq 0 true rfl)<|zAa (by rw [hl]; exact o2)<|zAa (by rw [List.append_nil]; exact o1:(m++[]).length<900000)<|zAc
 ·refine .same<|.same<|.same<|.ren ?_<|.same<|.same<|.same<|.same<|.same<|.ren ?_<|.same<|.same<|.same<|.same<|.same<|.same<|.same<|.same<|.same<|.same<|.same<|.same<|.same<|.same<|.same<|.same<|.same<|.ren ?_<|.same<|.same .nil
  ·exact zAs om (.cons (.tup (.cons (.str _) (.cons (.tup (zDw (.ss hn))) .nil))) .nil)
  ·rw [zBt hq];exact zAs hm (.cons (.lst .nil) .nil)
  ·unfold zDp;rw [zBd hq];exact zDt (.ss hn) .nil (zDw (.ss hn))
 ·intro i o' h1 h2;exact zBc (zCp (N:=39) (by rfl) rfl i o' h1 h2)
theorem bb_1_27_1(om:∀ d∈m,okV 12 d=true) (o1:m.length<900000) (hq:((x::h).length+1+1)%4=1) (hm:∀ d∈x::h,okV 12 d=true) (o2:(x::h).length<900000):zJp fr orc m (x::h) st tk hr t l1 d0 L0 e0 e1 e2 e3 e4 e5 e6 e7 e8 e9 e10 e11 e12 e13 e14 e15 e16:=by
 have hl:((x::h)++[]).length=(x::h).length:=by rw [List.append_nil]
 have hn:1000*((((x::h)++[]).length:Int)+1)+500*1=((1000*((x::h).length+1)+500*1:Nat):Int):=by rw [hl]; lia
 have hj:∀ j:Nat,100*((((x::h)++[]).length:Int)+1)+(j:Int)=((100*((x::h).length+1)+j:Nat):Int):=λj=>by rw [hl]; lia
 refine Bears.mk (beg_1_27_1 fr [] m [] h x st tk hr t l1 d0 L0 e0 e1 e2 e3 e4 e5 e6 e7 e8 e9 e10 e11 e12 e13 e14 e15 e16) ?_ rfl rfl rfl ?_ ?_
 ·exact zAa (by rw [hl]; exact zAv (a:=1) hq 0 false rfl)<|zAa (by rw [hl]; exact zAv (a:=1) hq 1 true rfl)<|zAa (by decide:0<900000)<|zAa (by decide:0<900000)<|zAa (by rw [hl]; exact o2)<|zAa (by rw [List.append_nil]; exact o1:(m++[]).length<900000)<|zAc
 ·refine .same<|.same<|.same<|.ren ?_<|.same<|.same<|.same<|.same<|.same<|.ren ?_<|.same<|.same<|.same<|.same<|.same<|.same<|.same<|.same<|.same<|.same<|.same<|.same<|.same<|.same<|.same<|.same<|.same<|.ren ?_<|.same<|.same .nil
  ·exact zAs om (.cons (.tup (.cons (.str _) (.cons (.tup (zDw (.ss hn))) .nil))) .nil)
  ·rw [zBt hq];exact zAs hm (.cons (.lst (.cons (zCq (.ss (hj 0))) .nil)) .nil)
  ·unfold zDp;rw [zBd hq];exact zDt (.ss hn) (.cons (zB3 (.ss (hj 0))) .nil) (zDw (.ss hn))
 ·intro i o' h1 h2;exact zBc (zCp (N:=39) (by rfl) rfl i o' h1 h2)
theorem bb_1_27_2(om:∀ d∈m,okV 12 d=true) (o1:m.length<900000) (hq:((x::h).length+1+1)%4=2) (hm:∀ d∈x::h,okV 12 d=true) (o2:(x::h).length<900000):zJp fr orc m (x::h) st tk hr t l1 d0 L0 e0 e1 e2 e3 e4 e5 e6 e7 e8 e9 e10 e11 e12 e13 e14 e15 e16:=by
 have hl:((x::h)++[]).length=(x::h).length:=by rw [List.append_nil]
 have hn:1000*((((x::h)++[]).length:Int)+1)+500*1=((1000*((x::h).length+1)+500*1:Nat):Int):=by rw [hl]; lia
 have hj:∀ j:Nat,100*((((x::h)++[]).length:Int)+1)+(j:Int)=((100*((x::h).length+1)+j:Nat):Int):=λj=>by rw [hl]; lia
 refine Bears.mk (beg_1_27_2 fr [] m [] h x st tk hr t l1 d0 L0 e0 e1 e2 e3 e4 e5 e6 e7 e8 e9 e10 e11 e12 e13 e14 e15 e16) ?_ rfl rfl rfl ?_ ?_
 ·exact zAa (by rw [hl]; exact zAv (a:=1) hq 0 false rfl)<|zAa (by rw [hl]; exact zAv (a:=1) hq 1 false rfl)<|zAa (by rw [hl]; exact zAv (a:=1) hq 2 true rfl)<|zAa (by decide:0<900000)<|zAa (by decide:1<900000)<|zAa (by decide:0<900000)<|zAa (by decide:1<900000)<|zAa (by rw [hl]; exact o2)<|zAa (by rw [List.append_nil]; exact o1:(m++[]).length<900000)<|zAc
 ·refine .same<|.same<|.same<|.ren ?_<|.same<|.same<|.same<|.same<|.same<|.ren ?_<|.same<|.same<|.same<|.same<|.same<|.same<|.same<|.same<|.same<|.same<|.same<|.same<|.same<|.same<|.same<|.same<|.same<|.ren ?_<|.same<|.same .nil
  ·exact zAs om (.cons (.tup (.cons (.str _) (.cons (.tup (zDw (.ss hn))) .nil))) .nil)
  ·rw [zBt hq];exact zAs hm (.cons (.lst (.cons (zCq (.ss (hj 0))) (.cons (zCq (.ss (hj 1))) .nil))) .nil)
  ·unfold zDp;rw [zBd hq];exact zDt (.ss hn) (.cons (zB3 (.ss (hj 0))) (.cons (zB3 (.ss (hj 1))) .nil)) (zDw (.ss hn))
 ·intro i o' h1 h2;exact zBc (zCp (N:=39) (by rfl) rfl i o' h1 h2)
theorem bb_1_27_3(om:∀ d∈m,okV 12 d=true) (o1:m.length<900000) (hq:((x::h).length+1+1)%4=3) (hm:∀ d∈x::h,okV 12 d=true) (o2:(x::h).length<900000):zJp fr orc m (x::h) st tk hr t l1 d0 L0 e0 e1 e2 e3 e4 e5 e6 e7 e8 e9 e10 e11 e12 e13 e14 e15 e16:=by
 have hl:((x::h)++[]).length=(x::h).length:=by rw [List.append_nil]
 have hn:1000*((((x::h)++[]).length:Int)+1)+500*1=((1000*((x::h).length+1)+500*1:Nat):Int):=by rw [hl]; lia
 have hj:∀ j:Nat,100*((((x::h)++[]).length:Int)+1)+(j:Int)=((100*((x::h).length+1)+j:Nat):Int):=λj=>by rw [hl]; lia
 refine Bears.mk (beg_1_27_3 fr [] m [] h x st tk hr t l1 d0 L0 e0 e1 e2 e3 e4 e5 e6 e7 e8 e9 e10 e11 e12 e13 e14 e15 e16) ?_ rfl rfl rfl ?_ ?_
 ·exact zAa (by rw [hl]; exact zAv (a:=1) hq 0 false rfl)<|zAa (by rw [hl]; exact zAv (a:=1) hq 1 false rfl)<|zAa (by rw [hl]; exact zAv (a:=1) hq 2 false rfl)<|zAa (by rw [hl]; exact zAv (a:=1) hq 3 true rfl)<|zAa (by decide:0<900000)<|zAa (by decide:1<900000)<|zAa (by decide:2<900000)<|zAa (by decide:0<900000)<|zAa (by decide:1<900000)<|zAa (by decide:2<900000)<|zAa (by rw [hl]; exact o2)<|zAa (by rw [List.append_nil]; exact o1:(m++[]).length<900000)<|zAc
 ·refine .same<|.same<|.same<|.ren ?_<|.same<|.same<|.same<|.same<|.same<|.ren ?_<|.same<|.same<|.same<|.same<|.same<|.same<|.same<|.same<|.same<|.same<|.same<|.same<|.same<|.same<|.same<|.same<|.same<|.ren ?_<|.same<|.same .nil
  ·exact zAs om (.cons (.tup (.cons (.str _) (.cons (.tup (zDw (.ss hn))) .nil))) .nil)
  ·rw [zBt hq];exact zAs hm (.cons (.lst (.cons (zCq (.ss (hj 0))) (.cons (zCq (.ss (hj 1))) (.cons (zCq (.ss (hj 2))) .nil)))) .nil)
  ·unfold zDp;rw [zBd hq];exact zDt (.ss hn) (.cons (zB3 (.ss (hj 0))) (.cons (zB3 (.ss (hj 1))) (.cons (zB3 (.ss (hj 2))) .nil))) (zDw (.ss hn))
 ·intro i o' h1 h2;exact zBc (zCp (N:=39) (by rfl) rfl i o' h1 h2)
end
noncomputable def upC {α:Type} (C:List α->Prop) (a:α) (l:List α):Prop:=C (a::l)
theorem zC8{α:Type} {n:Nat} {C:List α->Prop} {l:List α} (h:l.length=n+1) (H:∀ a l,l.length=n->upC C a l):C l:=by
 cases l with
 |nil=>cases h
 |cons a l=>exact H a l (Nat.succ.inj h)
theorem lenZ{α:Type} {C:List α->Prop} {l:List α} (h:l.length=0) (H:C []):C l:=by
 cases l with
 |nil=>exact H
 |cons=>cases h
theorem len24{α:Type} {C:List α->Prop} {l:List α} (h:l.length=24) (H:∀ a0 a1 a2 a3 a4 a5 a6 a7 a8 a9 a10 a11 a12 a13 a14 a15 a16 a17 a18 a19 a20 a21 a22 a23,C [a0,a1,a2,a3,a4,a5,a6,a7,a8,a9,a10,a11,a12,a13,a14,a15,a16,a17,a18,a19,a20,a21,a22,a23]):C l :=
 zC8 h λ_ _ h=>zC8 h λ_ _ h=>zC8 h λ_ _ h=>zC8 h λ_ _ h=>zC8 h λ_ _ h=>zC8 h λ_ _ h=>zC8 h λ_ _ h=>zC8 h λ_ _ h=>zC8 h λ_ _ h=>zC8 h λ_ _ h=>zC8 h λ_ _ h=>zC8 h λ_ _ h=>zC8 h λ_ _ h=>zC8 h λ_ _ h=>zC8 h λ_ _ h=>zC8 h λ_ _ h=>zC8 h λ_ _ h=>zC8 h λ_ _ h=>zC8 h λ_ _ h=>zC8 h λ_ _ h=>zC8 h λ_ _ h=>zC8 h λ_ _ h=>zC8 h λ_ _ h=>zC8 h λ_ _ h=>lenZ h (H _ _ _ _ _ _ _ _ _ _ _ _ _ _ _ _ _ _ _ _ _ _ _ _)
theorem len27{α:Type} {C:List α->Prop} {l:List α} (h:l.length=27) (H:∀ a0 a1 a2 a3 a4 a5 a6 a7 a8 a9 a10 a11 a12 a13 a14 a15 a16 a17 a18 a19 a20 a21 a22 a23 a24 a25 a26,C [a0,a1,a2,a3,a4,a5,a6,a7,a8,a9,a10,a11,a12,a13,a14,a15,a16,a17,a18,a19,a20,a21,a22,a23,a24,a25,a26]):C l :=
 zC8 h λ_ _ h=>zC8 h λ_ _ h=>zC8 h λ_ _ h=>zC8 h λ_ _ h=>zC8 h λ_ _ h=>zC8 h λ_ _ h=>zC8 h λ_ _ h=>zC8 h λ_ _ h=>zC8 h λ_ _ h=>zC8 h λ_ _ h=>zC8 h λ_ _ h=>zC8 h λ_ _ h=>zC8 h λ_ _ h=>zC8 h λ_ _ h=>zC8 h λ_ _ h=>zC8 h λ_ _ h=>zC8 h λ_ _ h=>zC8 h λ_ _ h=>zC8 h λ_ _ h=>zC8 h λ_ _ h=>zC8 h λ_ _ h=>zC8 h λ_ _ h=>zC8 h λ_ _ h=>zC8 h λ_ _ h=>zC8 h λ_ _ h=>zC8 h λ_ _ h=>zC8 h λ_ _ h=>lenZ h (H _ _ _ _ _ _ _ _ _ _ _ _ _ _ _ _ _ _ _ _ _ _ _ _ _ _ _)
theorem mod4(n:Nat):n%4=0\/n%4=1\/n%4=2\/n%4=3:=by lia
theorem natV_eq{v:V} {n:Nat} (h:natV v=some n):v=.int (n:Nat):=by
 cases v with
 |int k=>cases k<;>cases h; rfl
 |_=>cases h
theorem argB_eq{as:List V} {n:Nat} (h:argB as=some n):as=[.ref 1,.int (n:Nat)]:=by
 rcases as with _|⟨x,_|⟨y,_|_⟩⟩<;>try cases h; done
 change (match isRef 1 x with|true=>natV y|false=>none)=some n at h
 cases q:isRef 1 x with
 |false=>rw [q] at h; cases h
 |true=>rw [q] at h; rw [zRl q,natV_eq h]
section
variable {cn:Cn} {g:G}
theorem zEd{s:S0} {h:Heap} (X:St cn g s h) {i:Nat} {a b c:List V} (e:s.σ[i]?=some (.list a b c)):∀ d∈b,okV 12 d=true:=by
 obtain⟨ad,_,H⟩:=X.objs.get e;obtain⟨vs,n,h1,h2,h3,h4⟩:=H;exact h4
theorem bears_0_24{s:S0} {h:Heap} (X:St cn g s h) {r:List AO × List Ob} (hr:beg0 s.σ=some r) (ok:Oks r.2) (hl:s.σ.length=24) :
  Bears "_law_begun" 37 [.ref 1,.int 0] s ⟨s.fr,r.1,s.orc⟩ .none:=by
 obtain⟨fr,σ,orc⟩:=s;revert X hr
 refine len24 (C:=fun σ=>St cn g ⟨fr,σ,orc⟩ h->beg0 σ=some r->Bears "_law_begun" 37 [.ref 1,.int 0] ⟨fr,σ,orc⟩ ⟨fr,r.1,orc⟩ .none) hl ?_
 clear hl σ;intro t w ls l0 lm sd dd d1 L e0 e1 e2 e3 e4 e5 e6 e7 e8 e9 e10 e11 e12 e13 e14 X hr;obtain⟨⟨st,m,m0⟩,hx,e⟩:=Option.map_eq_some_iff.mp hr;refine begRE hx ?_; clear hx; rintro tk hr_ rfl rfl rfl rfl rfl rfl;subst e;have om:∀ d∈m,okV 12 d=true:=zEd X (i:=4) rfl;have hm:∀ d∈m0,okV 12 d=true:=zEd X (i:=8) rfl;have o1:m.length<900000:=ok _ (.head _);have o2:m0.length<900000:=ok _ (.tail _ (.head _));clear ok X hr
 cases m0 with
 |nil=>exact bb_0_24_n fr orc m st tk hr_ t l0 d1 e0 e1 e2 e3 e4 e5 e6 e7 e8 e9 e10 e11 e12 e13 e14 om o1
 |cons x h =>
  rcases mod4 ((x::h).length+1+0) with q|q|q|q
  ·exact bb_0_24_0 fr orc m h x st tk hr_ t l0 d1 e0 e1 e2 e3 e4 e5 e6 e7 e8 e9 e10 e11 e12 e13 e14 om o1 q hm o2
  ·exact bb_0_24_1 fr orc m h x st tk hr_ t l0 d1 e0 e1 e2 e3 e4 e5 e6 e7 e8 e9 e10 e11 e12 e13 e14 om o1 q hm o2
  ·exact bb_0_24_2 fr orc m h x st tk hr_ t l0 d1 e0 e1 e2 e3 e4 e5 e6 e7 e8 e9 e10 e11 e12 e13 e14 om o1 q hm o2
  ·exact bb_0_24_3 fr orc m h x st tk hr_ t l0 d1 e0 e1 e2 e3 e4 e5 e6 e7 e8 e9 e10 e11 e12 e13 e14 om o1 q hm o2
theorem bears_0_27{s:S0} {h:Heap} (X:St cn g s h) {r:List AO × List Ob} (hr:beg0 s.σ=some r) (ok:Oks r.2) (hl:s.σ.length=27) :
  Bears "_law_begun" 36 [.ref 1,.int 0] s ⟨s.fr,r.1,s.orc⟩ .none:=by
 obtain⟨fr,σ,orc⟩:=s;revert X hr
 refine len27 (C:=fun σ=>St cn g ⟨fr,σ,orc⟩ h->beg0 σ=some r->Bears "_law_begun" 36 [.ref 1,.int 0] ⟨fr,σ,orc⟩ ⟨fr,r.1,orc⟩ .none) hl ?_
 clear hl σ;intro t w ls l0 lm sd dd d1 L e0 e1 e2 e3 e4 e5 e6 e7 e8 e9 e10 e11 e12 e13 e14 e15 e16 e17 X hr;obtain⟨⟨st,m,m0⟩,hx,e⟩:=Option.map_eq_some_iff.mp hr;refine begRE hx ?_; clear hx; rintro tk hr_ rfl rfl rfl rfl rfl rfl;subst e;have om:∀ d∈m,okV 12 d=true:=zEd X (i:=4) rfl;have hm:∀ d∈m0,okV 12 d=true:=zEd X (i:=8) rfl;have o1:m.length<900000:=ok _ (.head _);have o2:m0.length<900000:=ok _ (.tail _ (.head _));clear ok X hr
 cases m0 with
 |nil=>exact bb_0_27_n fr orc m st tk hr_ t l0 d1 e0 e1 e2 e3 e4 e5 e6 e7 e8 e9 e10 e11 e12 e13 e14 e15 e16 e17 om o1
 |cons x h =>
  rcases mod4 ((x::h).length+1+0) with q|q|q|q
  ·exact bb_0_27_0 fr orc m h x st tk hr_ t l0 d1 e0 e1 e2 e3 e4 e5 e6 e7 e8 e9 e10 e11 e12 e13 e14 e15 e16 e17 om o1 q hm o2
  ·exact bb_0_27_1 fr orc m h x st tk hr_ t l0 d1 e0 e1 e2 e3 e4 e5 e6 e7 e8 e9 e10 e11 e12 e13 e14 e15 e16 e17 om o1 q hm o2
  ·exact bb_0_27_2 fr orc m h x st tk hr_ t l0 d1 e0 e1 e2 e3 e4 e5 e6 e7 e8 e9 e10 e11 e12 e13 e14 e15 e16 e17 om o1 q hm o2
  ·exact bb_0_27_3 fr orc m h x st tk hr_ t l0 d1 e0 e1 e2 e3 e4 e5 e6 e7 e8 e9 e10 e11 e12 e13 e14 e15 e16 e17 om o1 q hm o2
theorem bears_1_24{s:S0} {h:Heap} (X:St cn g s h) {r:List AO × List Ob} (hr:beg1 s.σ=some r) (ok:Oks r.2) (hl:s.σ.length=24) :
  Bears "_law_begun" 37 [.ref 1,.int 1] s ⟨s.fr,r.1,s.orc⟩ .none:=by
 obtain⟨fr,σ,orc⟩:=s;revert X hr
 refine len24 (C:=fun σ=>St cn g ⟨fr,σ,orc⟩ h->beg1 σ=some r->Bears "_law_begun" 37 [.ref 1,.int 1] ⟨fr,σ,orc⟩ ⟨fr,r.1,orc⟩ .none) hl ?_
 clear hl σ;intro t w ls lm l1 sd d0 dd L0 L e0 e1 e2 e3 e4 e5 e6 e7 e8 e9 e10 e11 e12 e13 X hr;obtain⟨⟨st,m,m0⟩,hx,e⟩:=Option.map_eq_some_iff.mp hr;refine begRE hx ?_; clear hx; rintro tk hr_ rfl rfl rfl rfl rfl rfl;subst e;have om:∀ d∈m,okV 12 d=true:=zEd X (i:=3) rfl;have hm:∀ d∈m0,okV 12 d=true:=zEd X (i:=9) rfl;have o1:m.length<900000:=ok _ (.head _);have o2:m0.length<900000:=ok _ (.tail _ (.head _));clear ok X hr
 cases m0 with
 |nil=>exact bb_1_24_n fr orc m st tk hr_ t l1 d0 L0 e0 e1 e2 e3 e4 e5 e6 e7 e8 e9 e10 e11 e12 e13 om o1
 |cons x h =>
  rcases mod4 ((x::h).length+1+1) with q|q|q|q
  ·exact bb_1_24_0 fr orc m h x st tk hr_ t l1 d0 L0 e0 e1 e2 e3 e4 e5 e6 e7 e8 e9 e10 e11 e12 e13 om o1 q hm o2
  ·exact bb_1_24_1 fr orc m h x st tk hr_ t l1 d0 L0 e0 e1 e2 e3 e4 e5 e6 e7 e8 e9 e10 e11 e12 e13 om o1 q hm o2
  ·exact bb_1_24_2 fr orc m h x st tk hr_ t l1 d0 L0 e0 e1 e2 e3 e4 e5 e6 e7 e8 e9 e10 e11 e12 e13 om o1 q hm o2
  ·exact bb_1_24_3 fr orc m h x st tk hr_ t l1 d0 L0 e0 e1 e2 e3 e4 e5 e6 e7 e8 e9 e10 e11 e12 e13 om o1 q hm o2
theorem bears_1_27{s:S0} {h:Heap} (X:St cn g s h) {r:List AO × List Ob} (hr:beg1 s.σ=some r) (ok:Oks r.2) (hl:s.σ.length=27) :
  Bears "_law_begun" 36 [.ref 1,.int 1] s ⟨s.fr,r.1,s.orc⟩ .none:=by
 obtain⟨fr,σ,orc⟩:=s;revert X hr
 refine len27 (C:=fun σ=>St cn g ⟨fr,σ,orc⟩ h->beg1 σ=some r->Bears "_law_begun" 36 [.ref 1,.int 1] ⟨fr,σ,orc⟩ ⟨fr,r.1,orc⟩ .none) hl ?_
 clear hl σ;intro t w ls lm l1 sd d0 dd L0 L e0 e1 e2 e3 e4 e5 e6 e7 e8 e9 e10 e11 e12 e13 e14 e15 e16 X hr;obtain⟨⟨st,m,m0⟩,hx,e⟩:=Option.map_eq_some_iff.mp hr;refine begRE hx ?_; clear hx; rintro tk hr_ rfl rfl rfl rfl rfl rfl;subst e;have om:∀ d∈m,okV 12 d=true:=zEd X (i:=3) rfl;have hm:∀ d∈m0,okV 12 d=true:=zEd X (i:=9) rfl;have o1:m.length<900000:=ok _ (.head _);have o2:m0.length<900000:=ok _ (.tail _ (.head _));clear ok X hr
 cases m0 with
 |nil=>exact bb_1_27_n fr orc m st tk hr_ t l1 d0 L0 e0 e1 e2 e3 e4 e5 e6 e7 e8 e9 e10 e11 e12 e13 e14 e15 e16 om o1
 |cons x h =>
  rcases mod4 ((x::h).length+1+1) with q|q|q|q
  ·exact bb_1_27_0 fr orc m h x st tk hr_ t l1 d0 L0 e0 e1 e2 e3 e4 e5 e6 e7 e8 e9 e10 e11 e12 e13 e14 e15 e16 om o1 q hm o2
  ·exact bb_1_27_1 fr orc m h x st tk hr_ t l1 d0 L0 e0 e1 e2 e3 e4 e5 e6 e7 e8 e9 e10 e11 e12 e13 e14 e15 e16 om o1 q hm o2
  ·exact bb_1_27_2 fr orc m h x st tk hr_ t l1 d0 L0 e0 e1 e2 e3 e4 e5 e6 e7 e8 e9 e10 e11 e12 e13 e14 e15 e16 om o1 q hm o2
  ·exact bb_1_27_3 fr orc m h x st tk hr_ t l1 d0 L0 e0 e1 e2 e3 e4 e5 e6 e7 e8 e9 e10 e11 e12 e13 e14 e15 e16 om o1 q hm o2
theorem begM_bears{s s':S0} {h:Heap} {n:Nat} {as:List V} {v:V} {ob:List Ob} (X:St cn g s h) (e:begM n as s=some (v,s',ob)) (ok:Oks ob) :
  Bears "_law_begun" n as s s' v:=by
 unfold begM at e
 cases hN:begN n s.σ.length with
 |false=>rw [hN] at e; cases e
 |true =>
  rw [hN] at e;obtain⟨a,h1,e'⟩:=Option.bind_eq_some_iff.mp e;clear e;obtain⟨r,h2,e⟩:=Option.map_eq_some_iff.mp e';clear e';cases argB_eq h1;clear h1
  have hN':(n=37/\s.σ.length=24)\/(n=36/\s.σ.length=27):=by
   unfold begN at hN;rw [Bool.or_eq_true,Bool.and_eq_true,Bool.and_eq_true] at hN;exact hN.imp (λq=>⟨Nat.eq_of_beq_eq_true q.1,Nat.eq_of_beq_eq_true q.2⟩) (λq=>⟨Nat.eq_of_beq_eq_true q.1,Nat.eq_of_beq_eq_true q.2⟩)
  clear hN;cases e
  match a with
  |0 =>
   rcases hN' with⟨rfl,hl⟩|⟨rfl,hl⟩
   ·exact bears_0_24 X h2 ok hl
   ·exact bears_0_27 X h2 ok hl
  |1 =>
   rcases hN' with⟨rfl,hl⟩|⟨rfl,hl⟩
   ·exact bears_1_24 X h2 ok hl
   ·exact bears_1_27 X h2 ok hl
  |_+2=>cases h2
theorem ovrOk_FB(O:zD0 cn P):OvrOk cn FB:=by
 intro k m hF g A n a as vs hA ha hv;unfold FB at hF
 cases hk:eqS k "_law_begun" with
 |false=>rw [hk] at hF; cases hF
 |true =>
  rw [hk] at hF;cases hF;cases zBa.mp hk;intro s s' v ob S Q e ok X hQ;exact sim_bears O hA ha hv (begM_bears X e ok) X hQ
theorem recOk_RB(O:zD0 cn P):zA2 cn RB:=zFs O (ovrOk_FB O) 300
end
noncomputable def zOi (l0 l1 d0 d1 L0 L1 h0 h1 i0 t0 i1 t1 X0 X1 X2:AO):List AO :=
[.tab,.dict ["lines", "sides"] [.ref 2,.ref 5],.list [.ref 3,.ref 4] [] [],l0,l1,.list [.ref 6,.ref 7] [] [],d0,d1,L0,L1,h0,h1,i0,t0,i1,t1,X0,X1,X2]
noncomputable def dS (st talk heard:V):AO:=.dict zBf [st,talk,.ref 8,heard]
noncomputable def dM (st talk heard:V):AO:=.dict zBf [st,talk,.ref 9,heard]
noncomputable def zAr (l0 l1:AO) (a b:Sd) (X0 X1 X2:AO):List AO :=
zOi l0 l1 (dS a.st a.talk (.ref 10)) (dM b.st b.talk (.ref 11)) a.lists b.lists a.heard b.heard a.inst a.td b.inst b.td X0 X1 X2
noncomputable def pkP (bits:Int) (n:Int) (heads:List V):V:=.tup [sv "dd", .int 1500,.int 2,.int bits,.sym n,.tup heads]
noncomputable def zBu (bits:Int) (n:Int) (heads:V):V:=.tup [sv "dd", .int 1500,.int 2,.sym bits,.sym n,heads]
noncomputable def zDc (bits:Int) (n:Int) (heads:V):V:=.tup [sv "dd", .int 1500,.int 2,.int bits,.sym n,heads]
noncomputable def zAj (m:Bool) (own other:Int) (seq:Int) (left:List V) (sent:V) (stage:String) (met:V):AO :=
 .attrs zBo [.int 1500,.int 2,.int 1,.bool m,.sym seq,.lst left,sent,.int own,.int other,sv stage,met,.dct [] []]
noncomputable def hdV (k:Int) (at_:Int):V:=.tup [.int 0,.int 2,.int 1,.sym k,.int at_,.int 1,.int 7]
noncomputable abbrev yS (z ln d L H I T:AO) (B:Sd) (X0 X1 X2:AO):List AO:=zOi z ln d (dM B.st B.talk (.ref 11)) L B.lists H B.heard I T B.inst B.td X0 X1 X2
noncomputable abbrev yM (ln z d L H I T:AO) (B:Sd) (X0 X1 X2:AO):List AO:=zOi ln z (dS B.st B.talk (.ref 10)) d B.lists L B.heard H B.inst B.td I T X0 X1 X2
noncomputable def dqO (d:Bool):List Bool:=match d with
 |true=>[true,false]
 |false=>[false]
noncomputable def dqB (d:Bool) (b mb n mn:Int):List Ob:=match d with
 |true=>[.eq b mb true,.eq n mn false]
 |false=>[.eq b mb false]
noncomputable abbrev I0:List Nat:=[0,1,2,3,4,5,6,7,8,9,10,11,12,13,14,15,16,17,18]
noncomputable abbrev DE (f a:Int):M V:=RB.call 41 (.fn "_law_deed") [.ref 1,.sym f,.int a]
noncomputable def ownL (b:Bool) (v:V) (q:List V):AO:=match b with
 |true=>.list [v] q []
 |false=>.list [] q []
section
variable (b3 dq:Bool) (fr:List (List Str × List V)) (p q m0 hh heads rest:List V) (x y st sent mh lf:V) (a0 a1 a2 a3 a4 a5 a6 a7 a8 a9 a10:V) (L H I T X0 X1 X2:AO) (fm n sq mb mn bt hk ha sn:Int) (B:Sd)
theorem s_hT_down:zAh [0,1,2,3,4,5,6,7,8,9,32,11,30,29,14,15,16,17,18] (DE fm 0 ⟨fr,zAr (.list [.tup [sv "hello", (.bool true)]] q []) (.list [] p []) ⟨sv "down", .none,.list [] m0 [],H,I,T⟩ B X0 X1 X2,[false,b3]⟩) =
  some (.bool true,fr,yS (ownL b3 (.tup [sv "hello", (.bool true)]) q) (.list [] p [V.tup [sv "dd", zC9 0 (m0.length+1)]]) (dS (sv "exstart") (.ref 30) (.ref 32)) (.list [] m0 [.lst (zAq 0 (m0.length+1))]) (.list [] [] []) (.inst "Exchange" 29) (zDp 0 (m0.length+1)) B X0 X1 X2,36,[],[.le 4 fm false,.eq fm 3 b3,.len p.length,.len m0.length]):=by cases b3<;>kernel_rfl
theorem s_hF_down:zAh I0 (DE fm 0 ⟨fr,zAr (.list [.tup [sv "hello", (.bool false)]] q []) (.list [] p []) ⟨sv "down", .none,L,H,I,T⟩ B X0 X1 X2,[false,b3]⟩) =
  some (.bool true,fr,yS (ownL b3 (.tup [sv "hello", (.bool false)]) q) (.list [] p []) (dS (sv "init") .none (.ref 10)) L H I T B X0 X1 X2,24,[],[.le 4 fm false,.eq fm 3 b3]):=by cases b3<;>kernel_rfl
theorem zN2:zAh I0 (DE fm 0 ⟨fr,zAr (.list [.tup [sv "dd", (pkP 1 n [])]] q []) (.list [] p []) ⟨sv "exstart", .ref 12,L,(.list [] [] []),(.inst "Exchange" 13),(zAj true 5 9 sq rest sent "exstart" .none)⟩ B X0 X1 X2,[false,b3]⟩) =
  some (.bool true,fr,yS (ownL b3 (.tup [sv "dd", (pkP 1 n [])]) q) (.list [] p []) (dS (sv "exstart") (.ref 12) (.ref 10)) L (.list [] [] []) (.inst "Exchange" 13) (zAj true 5 9 sq rest sent "exstart" .none) B X0 X1 X2,24,[],[.le 4 fm false,.eq fm 3 b3,.len (p++[]++[]).length]):=by cases b3<;>kernel_rfl
theorem zN4:zAh [0,1,2,3,4,5,6,7,8,9,35,11,33,32,14,15,16,17,18] (DE fm 0 ⟨fr,zAr (.list [.tup [sv "dd", (pkP 7 n [])]] q []) (.list [] p []) ⟨sv "exchange", .ref 12,.list [] m0 [],(.list [] hh []),(.inst "Exchange" 13),(zAj false 5 9 sq rest sent "exchange" (zBu mb mn mh))⟩ B X0 X1 X2,false::b3::(dqO dq++[])⟩) =
  some (.bool true,fr,yS (ownL b3 (.tup [sv "dd", (pkP 7 n [])]) q) (.list [] p [V.tup [sv "dd", zC9 0 (m0.length+1)]]) (dS (sv "exstart") (.ref 33) (.ref 35)) (.list [] m0 [.lst (zAq 0 (m0.length+1))]) (.list [] [] []) (.inst "Exchange" 32) (zDp 0 (m0.length+1)) B X0 X1 X2,39,[],.le 4 fm false::.eq fm 3 b3::(dqB dq 7 mb n mn++[.len (p++[]++[]).length,.len p.length,.len m0.length])):=by cases b3<;>cases dq<;>kernel_rfl
theorem zLw:zAh I0 (DE fm 0 ⟨fr,zAr (.list [.tup [sv "dd", (pkP 1 n [hdV bt 2])]] q []) (.list [] p []) ⟨sv "exchange", .ref 12,L,(.list [] hh []),(.inst "Exchange" 13),(zAj false 5 9 sq [x] sent "exchange" (zBu mb mn mh))⟩ B X0 X1 X2,false::b3::(dqO dq++[true])⟩) =
  some (.bool true,fr,yS (ownL b3 (.tup [sv "dd", (pkP 1 n [hdV bt 2])]) q) (.list [] p [V.tup [sv "dd", (pkP 0 n [x])]]) (dS (sv "full") (.ref 12) (.ref 10)) L (.list [] hh [.tup [.int 1,.sym bt,.int 2]]) (.inst "Exchange" 13) (zAj false 5 9 n [] (pkP 0 n [x]) "full" (pkP 1 n [hdV bt 2])) B X0 X1 X2,30,[],.le 4 fm false::.eq fm 3 b3::(dqB dq 1 mb n mn++[.eq n ((sq+1).fmod 4294967296) true,.len (hh++[]).length,.len 0,.len (p++[]++[V.tup [sv "dd", (pkP 0 n [x])]]).length])):=by cases b3<;>cases dq<;>kernel_rfl
theorem zOb:zAh [0,1,2,3,4,5,6,7,8,9,10,24,12,13,14,15,16,17,18] (DE fm 1 ⟨fr,zAr (.list [] p []) (.list [.tup [sv "hello", (.bool false)]] q []) B ⟨sv "exstart", .ref 14,L,H,(.inst "Exchange" 15),(.attrs zBo [a0,a1,a2,a3,a4,a5,a6,a7,a8,a9,a10,.dct [] []])⟩ X0 X1 X2,[false,b3]⟩) =
  some (.bool true,fr,yM (.list [] p []) (ownL b3 (.tup [sv "hello", (.bool false)]) q) (dM (sv "init") .none (.ref 24)) L (.list [] [] []) (.inst "Exchange" 15) (.attrs zBo [a0,a1,a2,a3,a4,a5,a6,a7,a8,a9,a10,.dct [] []]) B X0 X1 X2,25,[],[.le 4 fm false,.eq fm 3 b3]):=by cases b3<;>kernel_rfl
theorem zIe:zAh I0 (DE fm 1 ⟨fr,zAr (.list [] p []) (.list [.tup [sv "dd", (zBu bt n (.tup []))]] q []) B ⟨st,.none,L,H,I,T⟩ X0 X1 X2,[false,b3]⟩) =
  some (.bool true,fr,yM (.list [] p []) (ownL b3 (.tup [sv "dd", (zBu bt n (.tup []))]) q) (dM st .none (.ref 11)) L H I T B X0 X1 X2,20,[],[.le 4 fm false,.eq fm 3 b3]):=by cases b3<;>kernel_rfl
theorem zOc:zAh I0 (DE fm 1 ⟨fr,zAr (.list [] p []) (.list [.tup [sv "dd", (zBu bt n (.tup []))]] q []) B ⟨sv "full", .ref 14,L,(.list [] hh []),(.inst "Exchange" 15),(zAj true 9 5 sq rest sent "full" (zBu mb mn mh))⟩ X0 X1 X2,[false,b3,true,true]⟩) =
  some (.bool true,fr,yM (.list [] p []) (ownL b3 (.tup [sv "dd", (zBu bt n (.tup []))]) q) (dM (sv "full") (.ref 14) (.ref 11)) L (.list [] hh []) (.inst "Exchange" 15) (zAj true 9 5 sq rest sent "full" (zBu mb mn mh)) B X0 X1 X2,24,[],[.le 4 fm false,.eq fm 3 b3,.eq bt mb true,.eq n mn true,.len (p++[]++[]).length]):=by cases b3<;>kernel_rfl
theorem zMd:zAh I0 (DE fm 1 ⟨fr,zAr (.list [] p []) (.list [.tup [sv "dd", (pkP 2 n [hdV bt 1])]] q []) B ⟨sv "exchange", .ref 14,L,(.list [] hh []),(.inst "Exchange" 15),(zAj true 9 5 sq [x] (zDc 3 sn lf) "exchange" (zBu mb mn mh))⟩ X0 X1 X2,false::b3::(dqO dq++[true])⟩) =
  some (.bool true,fr,yM (.list [] p [V.tup [sv "dd", (pkP 1 ((sq+1).fmod 4294967296) [x])]]) (ownL b3 (.tup [sv "dd", (pkP 2 n [hdV bt 1])]) q) (dM (sv "exchange") (.ref 14) (.ref 11)) L (.list [] hh [.tup [.int 1,.sym bt,.int 1]]) (.inst "Exchange" 15) (zAj true 9 5 ((sq+1).fmod 4294967296) [] (pkP 1 ((sq+1).fmod 4294967296) [x]) "exchange" (pkP 2 n [hdV bt 1])) B X0 X1 X2,26,[],.le 4 fm false::.eq fm 3 b3::(dqB dq 2 mb n mn++[.eq n sq true,.len (hh++[]).length,.len 0,.len (p++[]++[V.tup [sv "dd", (pkP 1 ((sq+1).fmod 4294967296) [x])]]).length])):=by cases b3<;>cases dq<;>kernel_rfl
theorem zMr:zAh I0 (DE fm 1 ⟨fr,zAr (.list [] p []) (.list [.tup [sv "dd", (pkP 2 n [hdV bt 1])]] q []) B ⟨sv "exstart", .ref 14,L,(.list [] [] []),(.inst "Exchange" 15),(zAj true 9 5 sq (x::y::rest) (zDc 7 sn lf) "exstart" .none)⟩ X0 X1 X2,[false,b3,true]⟩) =
  some (.bool true,fr,yM (.list [] p [V.tup [sv "dd", (pkP 3 ((sq+1).fmod 4294967296) [x])]]) (ownL b3 (.tup [sv "dd", (pkP 2 n [hdV bt 1])]) q) (dM (sv "exchange") (.ref 14) (.ref 11)) L (.list [] [] [.tup [.int 1,.sym bt,.int 1]]) (.inst "Exchange" 15) (zAj true 9 5 ((sq+1).fmod 4294967296) (y::rest) (pkP 3 ((sq+1).fmod 4294967296) [x]) "exchange" (pkP 2 n [hdV bt 1])) B X0 X1 X2,28,[],[.le 4 fm false,.eq fm 3 b3,.eq n sq true,.len 0,.len 0,.len (p++[]++[V.tup [sv "dd", (pkP 3 ((sq+1).fmod 4294967296) [x])]]).length]):=by cases b3<;>kernel_rfl
theorem zMw:zAh I0 (DE fm 1 ⟨fr,zAr (.list [] p []) (.list [.tup [sv "dd", (pkP 0 n [])]] q []) B ⟨sv "exstart", .ref 14,L,(.list [] [] []),(.inst "Exchange" 15),(zAj true 9 5 sq [] (zDc 7 sn lf) "exstart" .none)⟩ X0 X1 X2,[false,b3,true]⟩) =
  some (.bool true,fr,yM (.list [] p [V.tup [sv "dd", (pkP 1 ((sq+1).fmod 4294967296) [])]]) (ownL b3 (.tup [sv "dd", (pkP 0 n [])]) q) (dM (sv "exchange") (.ref 14) (.ref 11)) L (.list [] [] []) (.inst "Exchange" 15) (zAj true 9 5 ((sq+1).fmod 4294967296) [] (pkP 1 ((sq+1).fmod 4294967296) []) "exchange" (pkP 0 n [])) B X0 X1 X2,28,[],[.le 4 fm false,.eq fm 3 b3,.eq n sq true,.len 0,.len (p++[]++[V.tup [sv "dd", (pkP 1 ((sq+1).fmod 4294967296) [])]]).length]):=by cases b3<;>kernel_rfl
theorem s_hT_init:zAh [0,1,2,3,4,5,6,7,8,9,32,11,30,29,14,15,16,17,18] (DE fm 0 ⟨fr,zAr (.list [.tup [sv "hello", (.bool true)]] q []) (.list [] p []) ⟨sv "init", .none,.list [] m0 [],H,I,T⟩ B X0 X1 X2,[false,b3]⟩) =
  some (.bool true,fr,yS (ownL b3 (.tup [sv "hello", (.bool true)]) q) (.list [] p [V.tup [sv "dd", zC9 0 (m0.length+1)]]) (dS (sv "exstart") (.ref 30) (.ref 32)) (.list [] m0 [.lst (zAq 0 (m0.length+1))]) (.list [] [] []) (.inst "Exchange" 29) (zDp 0 (m0.length+1)) B X0 X1 X2,36,[],[.le 4 fm false,.eq fm 3 b3,.len p.length,.len m0.length]):=by cases b3<;>kernel_rfl
theorem s_hF_init:zAh I0 (DE fm 0 ⟨fr,zAr (.list [.tup [sv "hello", (.bool false)]] q []) (.list [] p []) ⟨sv "init", .none,L,H,I,T⟩ B X0 X1 X2,[false,b3]⟩) =
  some (.bool true,fr,yS (ownL b3 (.tup [sv "hello", (.bool false)]) q) (.list [] p []) (dS (sv "init") .none (.ref 10)) L H I T B X0 X1 X2,24,[],[.le 4 fm false,.eq fm 3 b3]):=by cases b3<;>kernel_rfl
theorem zN1:zAh I0 (DE fm 0 ⟨fr,zAr (.list [.tup [sv "dd", (pkP 3 n [hdV hk ha])]] q []) (.list [] p []) ⟨sv "exstart", .ref 12,L,(.list [] [] []),(.inst "Exchange" 13),(zAj true 5 9 sq rest sent "exstart" .none)⟩ B X0 X1 X2,[false,b3]⟩) =
  some (.bool true,fr,yS (ownL b3 (.tup [sv "dd", (pkP 3 n [hdV hk ha])]) q) (.list [] p []) (dS (sv "exstart") (.ref 12) (.ref 10)) L (.list [] [] []) (.inst "Exchange" 13) (zAj true 5 9 sq rest sent "exstart" .none) B X0 X1 X2,24,[],[.le 4 fm false,.eq fm 3 b3,.len (p++[]++[]).length]):=by cases b3<;>kernel_rfl
theorem zPn:zAh [0,1,2,3,4,5,6,7,8,9,35,11,33,32,14,15,16,17,18] (DE fm 0 ⟨fr,zAr (.list [.tup [sv "dd", (pkP 1 n [hdV hk ha])]] q []) (.list [] p []) ⟨sv "exchange", .ref 12,.list [] m0 [],(.list [] hh []),(.inst "Exchange" 13),(zAj false 5 9 sq rest sent "exchange" (zBu mb mn mh))⟩ B X0 X1 X2,false::b3::(dqO dq++[false])⟩) =
  some (.bool true,fr,yS (ownL b3 (.tup [sv "dd", (pkP 1 n [hdV hk ha])]) q) (.list [] p [V.tup [sv "dd", zC9 0 (m0.length+1)]]) (dS (sv "exstart") (.ref 33) (.ref 35)) (.list [] m0 [.lst (zAq 0 (m0.length+1))]) (.list [] [] []) (.inst "Exchange" 32) (zDp 0 (m0.length+1)) B X0 X1 X2,39,[],.le 4 fm false::.eq fm 3 b3::(dqB dq 1 mb n mn++[.eq n ((sq+1).fmod 4294967296) false,.len (p++[]++[]).length,.len p.length,.len m0.length])):=by cases b3<;>cases dq<;>kernel_rfl
theorem zLx:zAh I0 (DE fm 0 ⟨fr,zAr (.list [.tup [sv "dd", (pkP 1 n [hdV bt 2])]] q []) (.list [] p []) ⟨sv "exchange", .ref 12,L,(.list [] hh []),(.inst "Exchange" 13),(zAj false 5 9 sq [] sent "exchange" (zBu mb mn mh))⟩ B X0 X1 X2,false::b3::(dqO dq++[true])⟩) =
  some (.bool true,fr,yS (ownL b3 (.tup [sv "dd", (pkP 1 n [hdV bt 2])]) q) (.list [] p [V.tup [sv "dd", (pkP 0 n [])]]) (dS (sv "full") (.ref 12) (.ref 10)) L (.list [] hh [.tup [.int 1,.sym bt,.int 2]]) (.inst "Exchange" 13) (zAj false 5 9 n [] (pkP 0 n []) "full" (pkP 1 n [hdV bt 2])) B X0 X1 X2,30,[],.le 4 fm false::.eq fm 3 b3::(dqB dq 1 mb n mn++[.eq n ((sq+1).fmod 4294967296) true,.len (hh++[]).length,.len 0,.len (p++[]++[V.tup [sv "dd", (pkP 0 n [])]]).length])):=by cases b3<;>cases dq<;>kernel_rfl
theorem zMp:zAh I0 (DE fm 1 ⟨fr,zAr (.list [] p []) (.list [.tup [sv "hello", (.bool true)]] q []) B ⟨sv "exchange", .ref 14,L,H,(.inst "Exchange" 15),(.attrs zBo [a0,a1,a2,a3,a4,a5,a6,a7,a8,a9,a10,.dct [] []])⟩ X0 X1 X2,[false,b3]⟩) =
  some (.bool true,fr,yM (.list [] p []) (ownL b3 (.tup [sv "hello", (.bool true)]) q) (dM (sv "exchange") (.ref 14) (.ref 11)) L H (.inst "Exchange" 15) (.attrs zBo [a0,a1,a2,a3,a4,a5,a6,a7,a8,a9,a10,.dct [] []]) B X0 X1 X2,24,[],[.le 4 fm false,.eq fm 3 b3]):=by cases b3<;>kernel_rfl
theorem m_i0_exst:zAh I0 (DE fm 1 ⟨fr,zAr (.list [] p []) (.list [.tup [sv "dd", (pkP 7 n [])]] q []) B ⟨sv "exstart", .ref 14,L,(.list [] [] []),(.inst "Exchange" 15),(zAj true 9 5 sq rest sent "exstart" .none)⟩ X0 X1 X2,[false,b3]⟩) =
  some (.bool true,fr,yM (.list [] p []) (ownL b3 (.tup [sv "dd", (pkP 7 n [])]) q) (dM (sv "exstart") (.ref 14) (.ref 11)) L (.list [] [] []) (.inst "Exchange" 15) (zAj true 9 5 sq rest sent "exstart" .none) B X0 X1 X2,24,[],[.le 4 fm false,.eq fm 3 b3,.len (p++[]++[]).length]):=by cases b3<;>kernel_rfl
theorem zKb:zAh [0,1,2,3,4,5,6,7,8,9,10,35,12,13,33,32,16,17,18] (DE fm 1 ⟨fr,zAr (.list [] p []) (.list [.tup [sv "dd", (zBu bt n (.tup [hdV hk ha]))]] q []) B ⟨sv "full", .ref 14,.list [] m0 [],(.list [] hh []),(.inst "Exchange" 15),(zAj true 9 5 sq rest sent "full" (zBu mb mn mh))⟩ X0 X1 X2,false::b3::(dqO dq++[])⟩) =
  some (.bool true,fr,yM (.list [] p [V.tup [sv "dd", zC9 1 (m0.length+1)]]) (ownL b3 (.tup [sv "dd", (zBu bt n (.tup [hdV hk ha]))]) q) (dM (sv "exstart") (.ref 33) (.ref 35)) (.list [] m0 [.lst (zAq 1 (m0.length+1))]) (.list [] [] []) (.inst "Exchange" 32) (zDp 1 (m0.length+1)) B X0 X1 X2,39,[],.le 4 fm false::.eq fm 3 b3::(dqB dq bt mb n mn++[.len (p++[]++[]).length,.len p.length,.len m0.length])):=by cases b3<;>cases dq<;>kernel_rfl
theorem zMe:zAh I0 (DE fm 1 ⟨fr,zAr (.list [] p []) (.list [.tup [sv "dd", (pkP 2 n [hdV bt 1])]] q []) B ⟨sv "exchange", .ref 14,L,(.list [] hh []),(.inst "Exchange" 15),(zAj true 9 5 sq [] (zDc 1 sn lf) "exchange" (zBu mb mn mh))⟩ X0 X1 X2,false::b3::(dqO dq++[true])⟩) =
  some (.bool true,fr,yM (.list [] p [V.tup [sv "dd", (pkP 1 ((sq+1).fmod 4294967296) [])]]) (ownL b3 (.tup [sv "dd", (pkP 2 n [hdV bt 1])]) q) (dM (sv "exchange") (.ref 14) (.ref 11)) L (.list [] hh [.tup [.int 1,.sym bt,.int 1]]) (.inst "Exchange" 15) (zAj true 9 5 ((sq+1).fmod 4294967296) [] (pkP 1 ((sq+1).fmod 4294967296) []) "exchange" (pkP 2 n [hdV bt 1])) B X0 X1 X2,26,[],.le 4 fm false::.eq fm 3 b3::(dqB dq 2 mb n mn++[.eq n sq true,.len (hh++[]).length,.len 0,.len (p++[]++[V.tup [sv "dd", (pkP 1 ((sq+1).fmod 4294967296) [])]]).length])):=by cases b3<;>cases dq<;>kernel_rfl
theorem zMs:zAh I0 (DE fm 1 ⟨fr,zAr (.list [] p []) (.list [.tup [sv "dd", (pkP 2 n [hdV bt 1])]] q []) B ⟨sv "exstart", .ref 14,L,(.list [] [] []),(.inst "Exchange" 15),(zAj true 9 5 sq [x] (zDc 7 sn lf) "exstart" .none)⟩ X0 X1 X2,[false,b3,true]⟩) =
  some (.bool true,fr,yM (.list [] p [V.tup [sv "dd", (pkP 1 ((sq+1).fmod 4294967296) [x])]]) (ownL b3 (.tup [sv "dd", (pkP 2 n [hdV bt 1])]) q) (dM (sv "exchange") (.ref 14) (.ref 11)) L (.list [] [] [.tup [.int 1,.sym bt,.int 1]]) (.inst "Exchange" 15) (zAj true 9 5 ((sq+1).fmod 4294967296) [] (pkP 1 ((sq+1).fmod 4294967296) [x]) "exchange" (pkP 2 n [hdV bt 1])) B X0 X1 X2,28,[],[.le 4 fm false,.eq fm 3 b3,.eq n sq true,.len 0,.len 0,.len (p++[]++[V.tup [sv "dd", (pkP 1 ((sq+1).fmod 4294967296) [x])]]).length]):=by cases b3<;>kernel_rfl
theorem zNx:zAh I0 (DE fm 0 ⟨fr,zAr (.list [.tup [sv "hello", (.bool true)]] q []) (.list [] p []) ⟨sv "exstart", .ref 12,L,H,(.inst "Exchange" 13),(.attrs zBo [a0,a1,a2,a3,a4,a5,a6,a7,a8,a9,a10,.dct [] []])⟩ B X0 X1 X2,[false,b3]⟩) =
  some (.bool true,fr,yS (ownL b3 (.tup [sv "hello", (.bool true)]) q) (.list [] p []) (dS (sv "exstart") (.ref 12) (.ref 10)) L H (.inst "Exchange" 13) (.attrs zBo [a0,a1,a2,a3,a4,a5,a6,a7,a8,a9,a10,.dct [] []]) B X0 X1 X2,24,[],[.le 4 fm false,.eq fm 3 b3]):=by cases b3<;>kernel_rfl
theorem zIa:zAh I0 (DE fm 0 ⟨fr,zAr (.list [.tup [sv "dd", (zBu bt n (.tup [hdV hk ha]))]] q []) (.list [] p []) ⟨st,.none,L,H,I,T⟩ B X0 X1 X2,[false,b3]⟩) =
  some (.bool true,fr,yS (ownL b3 (.tup [sv "dd", (zBu bt n (.tup [hdV hk ha]))]) q) (.list [] p []) (dS st .none (.ref 10)) L H I T B X0 X1 X2,20,[],[.le 4 fm false,.eq fm 3 b3]):=by cases b3<;>kernel_rfl
theorem zD2:zAh I0 (DE fm 0 ⟨fr,zAr (.list [.tup [sv "dd", (zBu bt n (.tup [hdV hk ha]))]] q []) (.list [] p []) ⟨sv "exchange", .ref 12,L,(.list [] hh []),(.inst "Exchange" 13),(zAj false 5 9 sq rest sent "exchange" (zBu mb mn mh))⟩ B X0 X1 X2,[false,b3,true,true]⟩) =
  some (.bool true,fr,yS (ownL b3 (.tup [sv "dd", (zBu bt n (.tup [hdV hk ha]))]) q) (.list [] p [V.tup [sv "dd", sent]]) (dS (sv "exchange") (.ref 12) (.ref 10)) L (.list [] hh []) (.inst "Exchange" 13) (zAj false 5 9 sq rest sent "exchange" (zBu mb mn mh)) B X0 X1 X2,24,[],[.le 4 fm false,.eq fm 3 b3,.eq bt mb true,.eq n mn true,.len 0,.len (p++[]++[V.tup [sv "dd", sent]]).length]):=by cases b3<;>kernel_rfl
theorem zPm:zAh [0,1,2,3,4,5,6,7,8,9,35,11,33,32,14,15,16,17,18] (DE fm 0 ⟨fr,zAr (.list [.tup [sv "dd", (pkP 1 n [])]] q []) (.list [] p []) ⟨sv "exchange", .ref 12,.list [] m0 [],(.list [] hh []),(.inst "Exchange" 13),(zAj false 5 9 sq rest sent "exchange" (zBu mb mn mh))⟩ B X0 X1 X2,false::b3::(dqO dq++[false])⟩) =
  some (.bool true,fr,yS (ownL b3 (.tup [sv "dd", (pkP 1 n [])]) q) (.list [] p [V.tup [sv "dd", zC9 0 (m0.length+1)]]) (dS (sv "exstart") (.ref 33) (.ref 35)) (.list [] m0 [.lst (zAq 0 (m0.length+1))]) (.list [] [] []) (.inst "Exchange" 32) (zDp 0 (m0.length+1)) B X0 X1 X2,39,[],.le 4 fm false::.eq fm 3 b3::(dqB dq 1 mb n mn++[.eq n ((sq+1).fmod 4294967296) false,.len (p++[]++[]).length,.len p.length,.len m0.length])):=by cases b3<;>cases dq<;>kernel_rfl
theorem zLs:zAh I0 (DE fm 0 ⟨fr,zAr (.list [.tup [sv "dd", (pkP 1 n [])]] q []) (.list [] p []) ⟨sv "exchange", .ref 12,L,(.list [] hh []),(.inst "Exchange" 13),(zAj false 5 9 sq (x::y::rest) sent "exchange" (zBu mb mn mh))⟩ B X0 X1 X2,false::b3::(dqO dq++[true])⟩) =
  some (.bool true,fr,yS (ownL b3 (.tup [sv "dd", (pkP 1 n [])]) q) (.list [] p [V.tup [sv "dd", (pkP 2 n [x])]]) (dS (sv "exchange") (.ref 12) (.ref 10)) L (.list [] hh []) (.inst "Exchange" 13) (zAj false 5 9 n (y::rest) (pkP 2 n [x]) "exchange" (pkP 1 n [])) B X0 X1 X2,26,[],.le 4 fm false::.eq fm 3 b3::(dqB dq 1 mb n mn++[.eq n ((sq+1).fmod 4294967296) true,.len 0,.len (p++[]++[V.tup [sv "dd", (pkP 2 n [x])]]).length])):=by cases b3<;>cases dq<;>kernel_rfl
theorem zMq:zAh [0,1,2,3,4,5,6,7,8,9,10,24,12,13,14,15,16,17,18] (DE fm 1 ⟨fr,zAr (.list [] p []) (.list [.tup [sv "hello", (.bool false)]] q []) B ⟨sv "exchange", .ref 14,L,H,(.inst "Exchange" 15),(.attrs zBo [a0,a1,a2,a3,a4,a5,a6,a7,a8,a9,a10,.dct [] []])⟩ X0 X1 X2,[false,b3]⟩) =
  some (.bool true,fr,yM (.list [] p []) (ownL b3 (.tup [sv "hello", (.bool false)]) q) (dM (sv "init") .none (.ref 24)) L (.list [] [] []) (.inst "Exchange" 15) (.attrs zBo [a0,a1,a2,a3,a4,a5,a6,a7,a8,a9,a10,.dct [] []]) B X0 X1 X2,25,[],[.le 4 fm false,.eq fm 3 b3]):=by cases b3<;>kernel_rfl
theorem zMb:zAh I0 (DE fm 1 ⟨fr,zAr (.list [] p []) (.list [.tup [sv "dd", (pkP 0 n [hdV hk ha])]] q []) B ⟨sv "exstart", .ref 14,L,(.list [] [] []),(.inst "Exchange" 15),(zAj true 9 5 sq rest sent "exstart" .none)⟩ X0 X1 X2,[false,b3,false]⟩) =
  some (.bool true,fr,yM (.list [] p []) (ownL b3 (.tup [sv "dd", (pkP 0 n [hdV hk ha])]) q) (dM (sv "exstart") (.ref 14) (.ref 11)) L (.list [] [] []) (.inst "Exchange" 15) (zAj true 9 5 sq rest sent "exstart" .none) B X0 X1 X2,24,[],[.le 4 fm false,.eq fm 3 b3,.eq n sq false,.len (p++[]++[]).length]):=by cases b3<;>kernel_rfl
theorem zEt:zAh [0,1,2,3,4,5,6,7,8,9,10,35,12,13,33,32,16,17,18] (DE fm 1 ⟨fr,zAr (.list [] p []) (.list [.tup [sv "dd", (zBu bt n (.tup []))]] q []) B ⟨sv "full", .ref 14,.list [] m0 [],(.list [] hh []),(.inst "Exchange" 15),(zAj true 9 5 sq rest sent "full" (zBu mb mn mh))⟩ X0 X1 X2,false::b3::(dqO dq++[])⟩) =
  some (.bool true,fr,yM (.list [] p [V.tup [sv "dd", zC9 1 (m0.length+1)]]) (ownL b3 (.tup [sv "dd", (zBu bt n (.tup []))]) q) (dM (sv "exstart") (.ref 33) (.ref 35)) (.list [] m0 [.lst (zAq 1 (m0.length+1))]) (.list [] [] []) (.inst "Exchange" 32) (zDp 1 (m0.length+1)) B X0 X1 X2,39,[],.le 4 fm false::.eq fm 3 b3::(dqB dq bt mb n mn++[.len (p++[]++[]).length,.len p.length,.len m0.length])):=by cases b3<;>cases dq<;>kernel_rfl
theorem zMi:zAh I0 (DE fm 1 ⟨fr,zAr (.list [] p []) (.list [.tup [sv "dd", (pkP 0 n [hdV bt 1])]] q []) B ⟨sv "exchange", .ref 14,L,(.list [] hh []),(.inst "Exchange" 15),(zAj true 9 5 sq (x::y::rest) (zDc 3 sn lf) "exchange" (zBu mb mn mh))⟩ X0 X1 X2,false::b3::(dqO dq++[true])⟩) =
  some (.bool true,fr,yM (.list [] p [V.tup [sv "dd", (pkP 3 ((sq+1).fmod 4294967296) [x])]]) (ownL b3 (.tup [sv "dd", (pkP 0 n [hdV bt 1])]) q) (dM (sv "exchange") (.ref 14) (.ref 11)) L (.list [] hh [.tup [.int 1,.sym bt,.int 1]]) (.inst "Exchange" 15) (zAj true 9 5 ((sq+1).fmod 4294967296) (y::rest) (pkP 3 ((sq+1).fmod 4294967296) [x]) "exchange" (pkP 0 n [hdV bt 1])) B X0 X1 X2,26,[],.le 4 fm false::.eq fm 3 b3::(dqB dq 0 mb n mn++[.eq n sq true,.len (hh++[]).length,.len 0,.len (p++[]++[V.tup [sv "dd", (pkP 3 ((sq+1).fmod 4294967296) [x])]]).length])):=by cases b3<;>cases dq<;>kernel_rfl
theorem zMt:zAh I0 (DE fm 1 ⟨fr,zAr (.list [] p []) (.list [.tup [sv "dd", (pkP 2 n [hdV bt 1])]] q []) B ⟨sv "exstart", .ref 14,L,(.list [] [] []),(.inst "Exchange" 15),(zAj true 9 5 sq [] (zDc 7 sn lf) "exstart" .none)⟩ X0 X1 X2,[false,b3,true]⟩) =
  some (.bool true,fr,yM (.list [] p [V.tup [sv "dd", (pkP 1 ((sq+1).fmod 4294967296) [])]]) (ownL b3 (.tup [sv "dd", (pkP 2 n [hdV bt 1])]) q) (dM (sv "exchange") (.ref 14) (.ref 11)) L (.list [] [] [.tup [.int 1,.sym bt,.int 1]]) (.inst "Exchange" 15) (zAj true 9 5 ((sq+1).fmod 4294967296) [] (pkP 1 ((sq+1).fmod 4294967296) []) "exchange" (pkP 2 n [hdV bt 1])) B X0 X1 X2,28,[],[.le 4 fm false,.eq fm 3 b3,.eq n sq true,.len 0,.len 0,.len (p++[]++[V.tup [sv "dd", (pkP 1 ((sq+1).fmod 4294967296) [])]]).length]):=by cases b3<;>kernel_rfl
theorem zNy:zAh [0,1,2,3,4,5,6,7,8,9,24,11,12,13,14,15,16,17,18] (DE fm 0 ⟨fr,zAr (.list [.tup [sv "hello", (.bool false)]] q []) (.list [] p []) ⟨sv "exstart", .ref 12,L,H,(.inst "Exchange" 13),(.attrs zBo [a0,a1,a2,a3,a4,a5,a6,a7,a8,a9,a10,.dct [] []])⟩ B X0 X1 X2,[false,b3]⟩) =
  some (.bool true,fr,yS (ownL b3 (.tup [sv "hello", (.bool false)]) q) (.list [] p []) (dS (sv "init") .none (.ref 24)) L (.list [] [] []) (.inst "Exchange" 13) (.attrs zBo [a0,a1,a2,a3,a4,a5,a6,a7,a8,a9,a10,.dct [] []]) B X0 X1 X2,25,[],[.le 4 fm false,.eq fm 3 b3]):=by cases b3<;>kernel_rfl
theorem zH9:zAh I0 (DE fm 0 ⟨fr,zAr (.list [.tup [sv "dd", (zBu bt n (.tup []))]] q []) (.list [] p []) ⟨st,.none,L,H,I,T⟩ B X0 X1 X2,[false,b3]⟩) =
  some (.bool true,fr,yS (ownL b3 (.tup [sv "dd", (zBu bt n (.tup []))]) q) (.list [] p []) (dS st .none (.ref 10)) L H I T B X0 X1 X2,20,[],[.le 4 fm false,.eq fm 3 b3]):=by cases b3<;>kernel_rfl
theorem zD1:zAh I0 (DE fm 0 ⟨fr,zAr (.list [.tup [sv "dd", (zBu bt n (.tup []))]] q []) (.list [] p []) ⟨sv "exchange", .ref 12,L,(.list [] hh []),(.inst "Exchange" 13),(zAj false 5 9 sq rest sent "exchange" (zBu mb mn mh))⟩ B X0 X1 X2,[false,b3,true,true]⟩) =
  some (.bool true,fr,yS (ownL b3 (.tup [sv "dd", (zBu bt n (.tup []))]) q) (.list [] p [V.tup [sv "dd", sent]]) (dS (sv "exchange") (.ref 12) (.ref 10)) L (.list [] hh []) (.inst "Exchange" 13) (zAj false 5 9 sq rest sent "exchange" (zBu mb mn mh)) B X0 X1 X2,24,[],[.le 4 fm false,.eq fm 3 b3,.eq bt mb true,.eq n mn true,.len 0,.len (p++[]++[V.tup [sv "dd", sent]]).length]):=by cases b3<;>kernel_rfl
theorem zPl:zAh [0,1,2,3,4,5,6,7,8,9,35,11,33,32,14,15,16,17,18] (DE fm 0 ⟨fr,zAr (.list [.tup [sv "dd", (pkP 3 n [hdV hk ha])]] q []) (.list [] p []) ⟨sv "exchange", .ref 12,.list [] m0 [],(.list [] hh []),(.inst "Exchange" 13),(zAj false 5 9 sq rest sent "exchange" (zBu mb mn mh))⟩ B X0 X1 X2,false::b3::(dqO dq++[false])⟩) =
  some (.bool true,fr,yS (ownL b3 (.tup [sv "dd", (pkP 3 n [hdV hk ha])]) q) (.list [] p [V.tup [sv "dd", zC9 0 (m0.length+1)]]) (dS (sv "exstart") (.ref 33) (.ref 35)) (.list [] m0 [.lst (zAq 0 (m0.length+1))]) (.list [] [] []) (.inst "Exchange" 32) (zDp 0 (m0.length+1)) B X0 X1 X2,39,[],.le 4 fm false::.eq fm 3 b3::(dqB dq 3 mb n mn++[.eq n ((sq+1).fmod 4294967296) false,.len (p++[]++[]).length,.len p.length,.len m0.length])):=by cases b3<;>cases dq<;>kernel_rfl
theorem zLt:zAh I0 (DE fm 0 ⟨fr,zAr (.list [.tup [sv "dd", (pkP 1 n [])]] q []) (.list [] p []) ⟨sv "exchange", .ref 12,L,(.list [] hh []),(.inst "Exchange" 13),(zAj false 5 9 sq [x] sent "exchange" (zBu mb mn mh))⟩ B X0 X1 X2,false::b3::(dqO dq++[true])⟩) =
  some (.bool true,fr,yS (ownL b3 (.tup [sv "dd", (pkP 1 n [])]) q) (.list [] p [V.tup [sv "dd", (pkP 0 n [x])]]) (dS (sv "full") (.ref 12) (.ref 10)) L (.list [] hh []) (.inst "Exchange" 13) (zAj false 5 9 n [] (pkP 0 n [x]) "full" (pkP 1 n [])) B X0 X1 X2,30,[],.le 4 fm false::.eq fm 3 b3::(dqB dq 1 mb n mn++[.eq n ((sq+1).fmod 4294967296) true,.len 0,.len (p++[]++[V.tup [sv "dd", (pkP 0 n [x])]]).length])):=by cases b3<;>cases dq<;>kernel_rfl
theorem m_hT_full:zAh I0 (DE fm 1 ⟨fr,zAr (.list [] p []) (.list [.tup [sv "hello", (.bool true)]] q []) B ⟨sv "full", .ref 14,L,H,(.inst "Exchange" 15),(.attrs zBo [a0,a1,a2,a3,a4,a5,a6,a7,a8,a9,a10,.dct [] []])⟩ X0 X1 X2,[false,b3]⟩) =
  some (.bool true,fr,yM (.list [] p []) (ownL b3 (.tup [sv "hello", (.bool true)]) q) (dM (sv "full") (.ref 14) (.ref 11)) L H (.inst "Exchange" 15) (.attrs zBo [a0,a1,a2,a3,a4,a5,a6,a7,a8,a9,a10,.dct [] []]) B X0 X1 X2,24,[],[.le 4 fm false,.eq fm 3 b3]):=by cases b3<;>kernel_rfl
theorem zMa:zAh I0 (DE fm 1 ⟨fr,zAr (.list [] p []) (.list [.tup [sv "dd", (pkP 0 n [])]] q []) B ⟨sv "exstart", .ref 14,L,(.list [] [] []),(.inst "Exchange" 15),(zAj true 9 5 sq rest sent "exstart" .none)⟩ X0 X1 X2,[false,b3,false]⟩) =
  some (.bool true,fr,yM (.list [] p []) (ownL b3 (.tup [sv "dd", (pkP 0 n [])]) q) (dM (sv "exstart") (.ref 14) (.ref 11)) L (.list [] [] []) (.inst "Exchange" 15) (zAj true 9 5 sq rest sent "exstart" .none) B X0 X1 X2,24,[],[.le 4 fm false,.eq fm 3 b3,.eq n sq false,.len (p++[]++[]).length]):=by cases b3<;>kernel_rfl
theorem zOe:zAh [0,1,2,3,4,5,6,7,8,9,10,35,12,13,33,32,16,17,18] (DE fm 1 ⟨fr,zAr (.list [] p []) (.list [.tup [sv "dd", (pkP 7 n [])]] q []) B ⟨sv "exchange", .ref 14,.list [] m0 [],(.list [] hh []),(.inst "Exchange" 15),(zAj true 9 5 sq rest sent "exchange" (zBu mb mn mh))⟩ X0 X1 X2,false::b3::(dqO dq++[])⟩) =
  some (.bool true,fr,yM (.list [] p [V.tup [sv "dd", zC9 1 (m0.length+1)]]) (ownL b3 (.tup [sv "dd", (pkP 7 n [])]) q) (dM (sv "exstart") (.ref 33) (.ref 35)) (.list [] m0 [.lst (zAq 1 (m0.length+1))]) (.list [] [] []) (.inst "Exchange" 32) (zDp 1 (m0.length+1)) B X0 X1 X2,39,[],.le 4 fm false::.eq fm 3 b3::(dqB dq 7 mb n mn++[.len (p++[]++[]).length,.len p.length,.len m0.length])):=by cases b3<;>cases dq<;>kernel_rfl
theorem zMj:zAh I0 (DE fm 1 ⟨fr,zAr (.list [] p []) (.list [.tup [sv "dd", (pkP 0 n [hdV bt 1])]] q []) B ⟨sv "exchange", .ref 14,L,(.list [] hh []),(.inst "Exchange" 15),(zAj true 9 5 sq [x] (zDc 3 sn lf) "exchange" (zBu mb mn mh))⟩ X0 X1 X2,false::b3::(dqO dq++[true])⟩) =
  some (.bool true,fr,yM (.list [] p [V.tup [sv "dd", (pkP 1 ((sq+1).fmod 4294967296) [x])]]) (ownL b3 (.tup [sv "dd", (pkP 0 n [hdV bt 1])]) q) (dM (sv "exchange") (.ref 14) (.ref 11)) L (.list [] hh [.tup [.int 1,.sym bt,.int 1]]) (.inst "Exchange" 15) (zAj true 9 5 ((sq+1).fmod 4294967296) [] (pkP 1 ((sq+1).fmod 4294967296) [x]) "exchange" (pkP 0 n [hdV bt 1])) B X0 X1 X2,26,[],.le 4 fm false::.eq fm 3 b3::(dqB dq 0 mb n mn++[.eq n sq true,.len (hh++[]).length,.len 0,.len (p++[]++[V.tup [sv "dd", (pkP 1 ((sq+1).fmod 4294967296) [x])]]).length])):=by cases b3<;>cases dq<;>kernel_rfl
theorem zMx:zAh I0 (DE fm 1 ⟨fr,zAr (.list [] p []) (.list [.tup [sv "dd", (pkP 0 n [hdV bt 1])]] q []) B ⟨sv "exstart", .ref 14,L,(.list [] [] []),(.inst "Exchange" 15),(zAj true 9 5 sq (x::y::rest) (zDc 7 sn lf) "exstart" .none)⟩ X0 X1 X2,[false,b3,true]⟩) =
  some (.bool true,fr,yM (.list [] p [V.tup [sv "dd", (pkP 3 ((sq+1).fmod 4294967296) [x])]]) (ownL b3 (.tup [sv "dd", (pkP 0 n [hdV bt 1])]) q) (dM (sv "exchange") (.ref 14) (.ref 11)) L (.list [] [] [.tup [.int 1,.sym bt,.int 1]]) (.inst "Exchange" 15) (zAj true 9 5 ((sq+1).fmod 4294967296) (y::rest) (pkP 3 ((sq+1).fmod 4294967296) [x]) "exchange" (pkP 0 n [hdV bt 1])) B X0 X1 X2,28,[],[.le 4 fm false,.eq fm 3 b3,.eq n sq true,.len 0,.len 0,.len (p++[]++[V.tup [sv "dd", (pkP 3 ((sq+1).fmod 4294967296) [x])]]).length]):=by cases b3<;>kernel_rfl
theorem zL2:zAh I0 (DE fm 0 ⟨fr,zAr (.list [.tup [sv "hello", (.bool true)]] q []) (.list [] p []) ⟨sv "exchange", .ref 12,L,H,(.inst "Exchange" 13),(.attrs zBo [a0,a1,a2,a3,a4,a5,a6,a7,a8,a9,a10,.dct [] []])⟩ B X0 X1 X2,[false,b3]⟩) =
  some (.bool true,fr,yS (ownL b3 (.tup [sv "hello", (.bool true)]) q) (.list [] p []) (dS (sv "exchange") (.ref 12) (.ref 10)) L H (.inst "Exchange" 13) (.attrs zBo [a0,a1,a2,a3,a4,a5,a6,a7,a8,a9,a10,.dct [] []]) B X0 X1 X2,24,[],[.le 4 fm false,.eq fm 3 b3]):=by cases b3<;>kernel_rfl
theorem zPi:zAh I0 (DE fm 0 ⟨fr,zAr (.list [.tup [sv "dd", (pkP 7 n [])]] q []) (.list [] p []) ⟨sv "exstart", .ref 12,L,(.list [] [] []),(.inst "Exchange" 13),(zAj true 5 9 sq (x::y::rest) sent "exstart" .none)⟩ B X0 X1 X2,[false,b3]⟩) =
  some (.bool true,fr,yS (ownL b3 (.tup [sv "dd", (pkP 7 n [])]) q) (.list [] p [V.tup [sv "dd", (pkP 2 n [x])]]) (dS (sv "exchange") (.ref 12) (.ref 10)) L (.list [] [] []) (.inst "Exchange" 13) (zAj false 5 9 n (y::rest) (pkP 2 n [x]) "exchange" (pkP 7 n [])) B X0 X1 X2,28,[],[.le 4 fm false,.eq fm 3 b3,.len 0,.len (p++[]++[V.tup [sv "dd", (pkP 2 n [x])]]).length]):=by cases b3<;>kernel_rfl
theorem zN0:zAh I0 (DE fm 0 ⟨fr,zAr (.list [.tup [sv "dd", (zBu bt n (.tup [hdV hk ha]))]] q []) (.list [] p []) ⟨sv "full", .ref 12,L,(.list [] hh []),(.inst "Exchange" 13),(zAj false 5 9 sq rest sent "full" (zBu mb mn mh))⟩ B X0 X1 X2,[false,b3,true,true]⟩) =
  some (.bool true,fr,yS (ownL b3 (.tup [sv "dd", (zBu bt n (.tup [hdV hk ha]))]) q) (.list [] p [V.tup [sv "dd", sent]]) (dS (sv "full") (.ref 12) (.ref 10)) L (.list [] hh []) (.inst "Exchange" 13) (zAj false 5 9 sq rest sent "full" (zBu mb mn mh)) B X0 X1 X2,24,[],[.le 4 fm false,.eq fm 3 b3,.eq bt mb true,.eq n mn true,.len 0,.len (p++[]++[V.tup [sv "dd", sent]]).length]):=by cases b3<;>kernel_rfl
theorem zLp:zAh I0 (DE fm 0 ⟨fr,zAr (.list [.tup [sv "dd", (pkP 3 n [hdV bt 2])]] q []) (.list [] p []) ⟨sv "exchange", .ref 12,L,(.list [] hh []),(.inst "Exchange" 13),(zAj false 5 9 sq (x::y::rest) sent "exchange" (zBu mb mn mh))⟩ B X0 X1 X2,false::b3::(dqO dq++[true])⟩) =
  some (.bool true,fr,yS (ownL b3 (.tup [sv "dd", (pkP 3 n [hdV bt 2])]) q) (.list [] p [V.tup [sv "dd", (pkP 2 n [x])]]) (dS (sv "exchange") (.ref 12) (.ref 10)) L (.list [] hh [.tup [.int 1,.sym bt,.int 2]]) (.inst "Exchange" 13) (zAj false 5 9 n (y::rest) (pkP 2 n [x]) "exchange" (pkP 3 n [hdV bt 2])) B X0 X1 X2,26,[],.le 4 fm false::.eq fm 3 b3::(dqB dq 3 mb n mn++[.eq n ((sq+1).fmod 4294967296) true,.len (hh++[]).length,.len 0,.len (p++[]++[V.tup [sv "dd", (pkP 2 n [x])]]).length])):=by cases b3<;>cases dq<;>kernel_rfl
theorem zLu:zAh I0 (DE fm 0 ⟨fr,zAr (.list [.tup [sv "dd", (pkP 1 n [])]] q []) (.list [] p []) ⟨sv "exchange", .ref 12,L,(.list [] hh []),(.inst "Exchange" 13),(zAj false 5 9 sq [] sent "exchange" (zBu mb mn mh))⟩ B X0 X1 X2,false::b3::(dqO dq++[true])⟩) =
  some (.bool true,fr,yS (ownL b3 (.tup [sv "dd", (pkP 1 n [])]) q) (.list [] p [V.tup [sv "dd", (pkP 0 n [])]]) (dS (sv "full") (.ref 12) (.ref 10)) L (.list [] hh []) (.inst "Exchange" 13) (zAj false 5 9 n [] (pkP 0 n []) "full" (pkP 1 n [])) B X0 X1 X2,30,[],.le 4 fm false::.eq fm 3 b3::(dqB dq 1 mb n mn++[.eq n ((sq+1).fmod 4294967296) true,.len 0,.len (p++[]++[V.tup [sv "dd", (pkP 0 n [])]]).length])):=by cases b3<;>cases dq<;>kernel_rfl
theorem m_hF_full:zAh [0,1,2,3,4,5,6,7,8,9,10,24,12,13,14,15,16,17,18] (DE fm 1 ⟨fr,zAr (.list [] p []) (.list [.tup [sv "hello", (.bool false)]] q []) B ⟨sv "full", .ref 14,L,H,(.inst "Exchange" 15),(.attrs zBo [a0,a1,a2,a3,a4,a5,a6,a7,a8,a9,a10,.dct [] []])⟩ X0 X1 X2,[false,b3]⟩) =
  some (.bool true,fr,yM (.list [] p []) (ownL b3 (.tup [sv "hello", (.bool false)]) q) (dM (sv "init") .none (.ref 24)) L (.list [] [] []) (.inst "Exchange" 15) (.attrs zBo [a0,a1,a2,a3,a4,a5,a6,a7,a8,a9,a10,.dct [] []]) B X0 X1 X2,25,[],[.le 4 fm false,.eq fm 3 b3]):=by cases b3<;>kernel_rfl
theorem zL9:zAh I0 (DE fm 1 ⟨fr,zAr (.list [] p []) (.list [.tup [sv "dd", (pkP 2 n [hdV hk ha])]] q []) B ⟨sv "exstart", .ref 14,L,(.list [] [] []),(.inst "Exchange" 15),(zAj true 9 5 sq rest sent "exstart" .none)⟩ X0 X1 X2,[false,b3,false]⟩) =
  some (.bool true,fr,yM (.list [] p []) (ownL b3 (.tup [sv "dd", (pkP 2 n [hdV hk ha])]) q) (dM (sv "exstart") (.ref 14) (.ref 11)) L (.list [] [] []) (.inst "Exchange" 15) (zAj true 9 5 sq rest sent "exstart" .none) B X0 X1 X2,24,[],[.le 4 fm false,.eq fm 3 b3,.eq n sq false,.len (p++[]++[]).length]):=by cases b3<;>kernel_rfl
theorem zP3:zAh [0,1,2,3,4,5,6,7,8,9,10,35,12,13,33,32,16,17,18] (DE fm 1 ⟨fr,zAr (.list [] p []) (.list [.tup [sv "dd", (pkP 0 n [hdV hk ha])]] q []) B ⟨sv "exchange", .ref 14,.list [] m0 [],(.list [] hh []),(.inst "Exchange" 15),(zAj true 9 5 sq rest sent "exchange" (zBu mb mn mh))⟩ X0 X1 X2,false::b3::(dqO dq++[false])⟩) =
  some (.bool true,fr,yM (.list [] p [V.tup [sv "dd", zC9 1 (m0.length+1)]]) (ownL b3 (.tup [sv "dd", (pkP 0 n [hdV hk ha])]) q) (dM (sv "exstart") (.ref 33) (.ref 35)) (.list [] m0 [.lst (zAq 1 (m0.length+1))]) (.list [] [] []) (.inst "Exchange" 32) (zDp 1 (m0.length+1)) B X0 X1 X2,39,[],.le 4 fm false::.eq fm 3 b3::(dqB dq 0 mb n mn++[.eq n sq false,.len (p++[]++[]).length,.len p.length,.len m0.length])):=by cases b3<;>cases dq<;>kernel_rfl
theorem zMk:zAh I0 (DE fm 1 ⟨fr,zAr (.list [] p []) (.list [.tup [sv "dd", (pkP 0 n [hdV bt 1])]] q []) B ⟨sv "exchange", .ref 14,L,(.list [] hh []),(.inst "Exchange" 15),(zAj true 9 5 sq [] (zDc 1 sn lf) "exchange" (zBu mb mn mh))⟩ X0 X1 X2,false::b3::(dqO dq++[true])⟩) =
  some (.bool true,fr,yM (.list [] p []) (ownL b3 (.tup [sv "dd", (pkP 0 n [hdV bt 1])]) q) (dM (sv "full") (.ref 14) (.ref 11)) L (.list [] hh [.tup [.int 1,.sym bt,.int 1]]) (.inst "Exchange" 15) (zAj true 9 5 sq [] (zDc 1 sn lf) "full" (pkP 0 n [hdV bt 1])) B X0 X1 X2,30,[],.le 4 fm false::.eq fm 3 b3::(dqB dq 0 mb n mn++[.eq n sq true,.len (hh++[]).length,.len (p++[]++[]).length])):=by cases b3<;>cases dq<;>kernel_rfl
theorem zMy:zAh I0 (DE fm 1 ⟨fr,zAr (.list [] p []) (.list [.tup [sv "dd", (pkP 0 n [hdV bt 1])]] q []) B ⟨sv "exstart", .ref 14,L,(.list [] [] []),(.inst "Exchange" 15),(zAj true 9 5 sq [x] (zDc 7 sn lf) "exstart" .none)⟩ X0 X1 X2,[false,b3,true]⟩) =
  some (.bool true,fr,yM (.list [] p [V.tup [sv "dd", (pkP 1 ((sq+1).fmod 4294967296) [x])]]) (ownL b3 (.tup [sv "dd", (pkP 0 n [hdV bt 1])]) q) (dM (sv "exchange") (.ref 14) (.ref 11)) L (.list [] [] [.tup [.int 1,.sym bt,.int 1]]) (.inst "Exchange" 15) (zAj true 9 5 ((sq+1).fmod 4294967296) [] (pkP 1 ((sq+1).fmod 4294967296) [x]) "exchange" (pkP 0 n [hdV bt 1])) B X0 X1 X2,28,[],[.le 4 fm false,.eq fm 3 b3,.eq n sq true,.len 0,.len 0,.len (p++[]++[V.tup [sv "dd", (pkP 1 ((sq+1).fmod 4294967296) [x])]]).length]):=by cases b3<;>kernel_rfl
theorem zL3:zAh [0,1,2,3,4,5,6,7,8,9,24,11,12,13,14,15,16,17,18] (DE fm 0 ⟨fr,zAr (.list [.tup [sv "hello", (.bool false)]] q []) (.list [] p []) ⟨sv "exchange", .ref 12,L,H,(.inst "Exchange" 13),(.attrs zBo [a0,a1,a2,a3,a4,a5,a6,a7,a8,a9,a10,.dct [] []])⟩ B X0 X1 X2,[false,b3]⟩) =
  some (.bool true,fr,yS (ownL b3 (.tup [sv "hello", (.bool false)]) q) (.list [] p []) (dS (sv "init") .none (.ref 24)) L (.list [] [] []) (.inst "Exchange" 13) (.attrs zBo [a0,a1,a2,a3,a4,a5,a6,a7,a8,a9,a10,.dct [] []]) B X0 X1 X2,25,[],[.le 4 fm false,.eq fm 3 b3]):=by cases b3<;>kernel_rfl
theorem zPj:zAh I0 (DE fm 0 ⟨fr,zAr (.list [.tup [sv "dd", (pkP 7 n [])]] q []) (.list [] p []) ⟨sv "exstart", .ref 12,L,(.list [] [] []),(.inst "Exchange" 13),(zAj true 5 9 sq [x] sent "exstart" .none)⟩ B X0 X1 X2,[false,b3]⟩) =
  some (.bool true,fr,yS (ownL b3 (.tup [sv "dd", (pkP 7 n [])]) q) (.list [] p [V.tup [sv "dd", (pkP 0 n [x])]]) (dS (sv "exchange") (.ref 12) (.ref 10)) L (.list [] [] []) (.inst "Exchange" 13) (zAj false 5 9 n [] (pkP 0 n [x]) "exchange" (pkP 7 n [])) B X0 X1 X2,28,[],[.le 4 fm false,.eq fm 3 b3,.len 0,.len (p++[]++[V.tup [sv "dd", (pkP 0 n [x])]]).length]):=by cases b3<;>kernel_rfl
theorem zNz:zAh I0 (DE fm 0 ⟨fr,zAr (.list [.tup [sv "dd", (zBu bt n (.tup []))]] q []) (.list [] p []) ⟨sv "full", .ref 12,L,(.list [] hh []),(.inst "Exchange" 13),(zAj false 5 9 sq rest sent "full" (zBu mb mn mh))⟩ B X0 X1 X2,[false,b3,true,true]⟩) =
  some (.bool true,fr,yS (ownL b3 (.tup [sv "dd", (zBu bt n (.tup []))]) q) (.list [] p [V.tup [sv "dd", sent]]) (dS (sv "full") (.ref 12) (.ref 10)) L (.list [] hh []) (.inst "Exchange" 13) (zAj false 5 9 sq rest sent "full" (zBu mb mn mh)) B X0 X1 X2,24,[],[.le 4 fm false,.eq fm 3 b3,.eq bt mb true,.eq n mn true,.len 0,.len (p++[]++[V.tup [sv "dd", sent]]).length]):=by cases b3<;>kernel_rfl
theorem zLq:zAh I0 (DE fm 0 ⟨fr,zAr (.list [.tup [sv "dd", (pkP 3 n [hdV bt 2])]] q []) (.list [] p []) ⟨sv "exchange", .ref 12,L,(.list [] hh []),(.inst "Exchange" 13),(zAj false 5 9 sq [x] sent "exchange" (zBu mb mn mh))⟩ B X0 X1 X2,false::b3::(dqO dq++[true])⟩) =
  some (.bool true,fr,yS (ownL b3 (.tup [sv "dd", (pkP 3 n [hdV bt 2])]) q) (.list [] p [V.tup [sv "dd", (pkP 0 n [x])]]) (dS (sv "exchange") (.ref 12) (.ref 10)) L (.list [] hh [.tup [.int 1,.sym bt,.int 2]]) (.inst "Exchange" 13) (zAj false 5 9 n [] (pkP 0 n [x]) "exchange" (pkP 3 n [hdV bt 2])) B X0 X1 X2,26,[],.le 4 fm false::.eq fm 3 b3::(dqB dq 3 mb n mn++[.eq n ((sq+1).fmod 4294967296) true,.len (hh++[]).length,.len 0,.len (p++[]++[V.tup [sv "dd", (pkP 0 n [x])]]).length])):=by cases b3<;>cases dq<;>kernel_rfl
theorem m_hT_down:zAh [0,1,2,3,4,5,6,7,8,9,10,32,12,13,30,29,16,17,18] (DE fm 1 ⟨fr,zAr (.list [] p []) (.list [.tup [sv "hello", (.bool true)]] q []) B ⟨sv "down", .none,.list [] m0 [],H,I,T⟩ X0 X1 X2,[false,b3]⟩) =
  some (.bool true,fr,yM (.list [] p [V.tup [sv "dd", zC9 1 (m0.length+1)]]) (ownL b3 (.tup [sv "hello", (.bool true)]) q) (dM (sv "exstart") (.ref 30) (.ref 32)) (.list [] m0 [.lst (zAq 1 (m0.length+1))]) (.list [] [] []) (.inst "Exchange" 29) (zDp 1 (m0.length+1)) B X0 X1 X2,36,[],[.le 4 fm false,.eq fm 3 b3,.len p.length,.len m0.length]):=by cases b3<;>kernel_rfl
theorem m_hF_down:zAh I0 (DE fm 1 ⟨fr,zAr (.list [] p []) (.list [.tup [sv "hello", (.bool false)]] q []) B ⟨sv "down", .none,L,H,I,T⟩ X0 X1 X2,[false,b3]⟩) =
  some (.bool true,fr,yM (.list [] p []) (ownL b3 (.tup [sv "hello", (.bool false)]) q) (dM (sv "init") .none (.ref 11)) L H I T B X0 X1 X2,24,[],[.le 4 fm false,.eq fm 3 b3]):=by cases b3<;>kernel_rfl
theorem zHb:zAh I0 (DE fm 1 ⟨fr,zAr (.list [] p []) (.list [.tup [sv "dd", (zBu bt n (.tup [hdV hk ha]))]] q []) B ⟨sv "exchange", .ref 14,L,(.list [] hh []),(.inst "Exchange" 15),(zAj true 9 5 sq rest sent "exchange" (zBu mb mn mh))⟩ X0 X1 X2,[false,b3,true,true]⟩) =
  some (.bool true,fr,yM (.list [] p []) (ownL b3 (.tup [sv "dd", (zBu bt n (.tup [hdV hk ha]))]) q) (dM (sv "exchange") (.ref 14) (.ref 11)) L (.list [] hh []) (.inst "Exchange" 15) (zAj true 9 5 sq rest sent "exchange" (zBu mb mn mh)) B X0 X1 X2,24,[],[.le 4 fm false,.eq fm 3 b3,.eq bt mb true,.eq n mn true,.len (p++[]++[]).length]):=by cases b3<;>kernel_rfl
theorem zP2:zAh [0,1,2,3,4,5,6,7,8,9,10,35,12,13,33,32,16,17,18] (DE fm 1 ⟨fr,zAr (.list [] p []) (.list [.tup [sv "dd", (pkP 0 n [])]] q []) B ⟨sv "exchange", .ref 14,.list [] m0 [],(.list [] hh []),(.inst "Exchange" 15),(zAj true 9 5 sq rest sent "exchange" (zBu mb mn mh))⟩ X0 X1 X2,false::b3::(dqO dq++[false])⟩) =
  some (.bool true,fr,yM (.list [] p [V.tup [sv "dd", zC9 1 (m0.length+1)]]) (ownL b3 (.tup [sv "dd", (pkP 0 n [])]) q) (dM (sv "exstart") (.ref 33) (.ref 35)) (.list [] m0 [.lst (zAq 1 (m0.length+1))]) (.list [] [] []) (.inst "Exchange" 32) (zDp 1 (m0.length+1)) B X0 X1 X2,39,[],.le 4 fm false::.eq fm 3 b3::(dqB dq 0 mb n mn++[.eq n sq false,.len (p++[]++[]).length,.len p.length,.len m0.length])):=by cases b3<;>cases dq<;>kernel_rfl
theorem zMf:zAh I0 (DE fm 1 ⟨fr,zAr (.list [] p []) (.list [.tup [sv "dd", (pkP 0 n [])]] q []) B ⟨sv "exchange", .ref 14,L,(.list [] hh []),(.inst "Exchange" 15),(zAj true 9 5 sq (x::y::rest) (zDc 3 sn lf) "exchange" (zBu mb mn mh))⟩ X0 X1 X2,false::b3::(dqO dq++[true])⟩) =
  some (.bool true,fr,yM (.list [] p [V.tup [sv "dd", (pkP 3 ((sq+1).fmod 4294967296) [x])]]) (ownL b3 (.tup [sv "dd", (pkP 0 n [])]) q) (dM (sv "exchange") (.ref 14) (.ref 11)) L (.list [] hh []) (.inst "Exchange" 15) (zAj true 9 5 ((sq+1).fmod 4294967296) (y::rest) (pkP 3 ((sq+1).fmod 4294967296) [x]) "exchange" (pkP 0 n [])) B X0 X1 X2,26,[],.le 4 fm false::.eq fm 3 b3::(dqB dq 0 mb n mn++[.eq n sq true,.len 0,.len (p++[]++[V.tup [sv "dd", (pkP 3 ((sq+1).fmod 4294967296) [x])]]).length])):=by cases b3<;>cases dq<;>kernel_rfl
theorem zMz:zAh I0 (DE fm 1 ⟨fr,zAr (.list [] p []) (.list [.tup [sv "dd", (pkP 0 n [hdV bt 1])]] q []) B ⟨sv "exstart", .ref 14,L,(.list [] [] []),(.inst "Exchange" 15),(zAj true 9 5 sq [] (zDc 7 sn lf) "exstart" .none)⟩ X0 X1 X2,[false,b3,true]⟩) =
  some (.bool true,fr,yM (.list [] p [V.tup [sv "dd", (pkP 1 ((sq+1).fmod 4294967296) [])]]) (ownL b3 (.tup [sv "dd", (pkP 0 n [hdV bt 1])]) q) (dM (sv "exchange") (.ref 14) (.ref 11)) L (.list [] [] [.tup [.int 1,.sym bt,.int 1]]) (.inst "Exchange" 15) (zAj true 9 5 ((sq+1).fmod 4294967296) [] (pkP 1 ((sq+1).fmod 4294967296) []) "exchange" (pkP 0 n [hdV bt 1])) B X0 X1 X2,28,[],[.le 4 fm false,.eq fm 3 b3,.eq n sq true,.len 0,.len 0,.len (p++[]++[V.tup [sv "dd", (pkP 1 ((sq+1).fmod 4294967296) [])]]).length]):=by cases b3<;>kernel_rfl
theorem s_hT_full:zAh I0 (DE fm 0 ⟨fr,zAr (.list [.tup [sv "hello", (.bool true)]] q []) (.list [] p []) ⟨sv "full", .ref 12,L,H,(.inst "Exchange" 13),(.attrs zBo [a0,a1,a2,a3,a4,a5,a6,a7,a8,a9,a10,.dct [] []])⟩ B X0 X1 X2,[false,b3]⟩) =
  some (.bool true,fr,yS (ownL b3 (.tup [sv "hello", (.bool true)]) q) (.list [] p []) (dS (sv "full") (.ref 12) (.ref 10)) L H (.inst "Exchange" 13) (.attrs zBo [a0,a1,a2,a3,a4,a5,a6,a7,a8,a9,a10,.dct [] []]) B X0 X1 X2,24,[],[.le 4 fm false,.eq fm 3 b3]):=by cases b3<;>kernel_rfl
theorem zPk:zAh I0 (DE fm 0 ⟨fr,zAr (.list [.tup [sv "dd", (pkP 7 n [])]] q []) (.list [] p []) ⟨sv "exstart", .ref 12,L,(.list [] [] []),(.inst "Exchange" 13),(zAj true 5 9 sq [] sent "exstart" .none)⟩ B X0 X1 X2,[false,b3]⟩) =
  some (.bool true,fr,yS (ownL b3 (.tup [sv "dd", (pkP 7 n [])]) q) (.list [] p [V.tup [sv "dd", (pkP 0 n [])]]) (dS (sv "exchange") (.ref 12) (.ref 10)) L (.list [] [] []) (.inst "Exchange" 13) (zAj false 5 9 n [] (pkP 0 n []) "exchange" (pkP 7 n [])) B X0 X1 X2,28,[],[.le 4 fm false,.eq fm 3 b3,.len 0,.len (p++[]++[V.tup [sv "dd", (pkP 0 n [])]]).length]):=by cases b3<;>kernel_rfl
theorem zEq:zAh [0,1,2,3,4,5,6,7,8,9,35,11,33,32,14,15,16,17,18] (DE fm 0 ⟨fr,zAr (.list [.tup [sv "dd", (zBu bt n (.tup [hdV hk ha]))]] q []) (.list [] p []) ⟨sv "full", .ref 12,.list [] m0 [],(.list [] hh []),(.inst "Exchange" 13),(zAj false 5 9 sq rest sent "full" (zBu mb mn mh))⟩ B X0 X1 X2,false::b3::(dqO dq++[])⟩) =
  some (.bool true,fr,yS (ownL b3 (.tup [sv "dd", (zBu bt n (.tup [hdV hk ha]))]) q) (.list [] p [V.tup [sv "dd", zC9 0 (m0.length+1)]]) (dS (sv "exstart") (.ref 33) (.ref 35)) (.list [] m0 [.lst (zAq 0 (m0.length+1))]) (.list [] [] []) (.inst "Exchange" 32) (zDp 0 (m0.length+1)) B X0 X1 X2,39,[],.le 4 fm false::.eq fm 3 b3::(dqB dq bt mb n mn++[.len (p++[]++[]).length,.len p.length,.len m0.length])):=by cases b3<;>cases dq<;>kernel_rfl
theorem zLr:zAh I0 (DE fm 0 ⟨fr,zAr (.list [.tup [sv "dd", (pkP 3 n [hdV bt 2])]] q []) (.list [] p []) ⟨sv "exchange", .ref 12,L,(.list [] hh []),(.inst "Exchange" 13),(zAj false 5 9 sq [] sent "exchange" (zBu mb mn mh))⟩ B X0 X1 X2,false::b3::(dqO dq++[true])⟩) =
  some (.bool true,fr,yS (ownL b3 (.tup [sv "dd", (pkP 3 n [hdV bt 2])]) q) (.list [] p [V.tup [sv "dd", (pkP 0 n [])]]) (dS (sv "exchange") (.ref 12) (.ref 10)) L (.list [] hh [.tup [.int 1,.sym bt,.int 2]]) (.inst "Exchange" 13) (zAj false 5 9 n [] (pkP 0 n []) "exchange" (pkP 3 n [hdV bt 2])) B X0 X1 X2,26,[],.le 4 fm false::.eq fm 3 b3::(dqB dq 3 mb n mn++[.eq n ((sq+1).fmod 4294967296) true,.len (hh++[]).length,.len 0,.len (p++[]++[V.tup [sv "dd", (pkP 0 n [])]]).length])):=by cases b3<;>cases dq<;>kernel_rfl
theorem m_hT_init:zAh [0,1,2,3,4,5,6,7,8,9,10,32,12,13,30,29,16,17,18] (DE fm 1 ⟨fr,zAr (.list [] p []) (.list [.tup [sv "hello", (.bool true)]] q []) B ⟨sv "init", .none,.list [] m0 [],H,I,T⟩ X0 X1 X2,[false,b3]⟩) =
  some (.bool true,fr,yM (.list [] p [V.tup [sv "dd", zC9 1 (m0.length+1)]]) (ownL b3 (.tup [sv "hello", (.bool true)]) q) (dM (sv "exstart") (.ref 30) (.ref 32)) (.list [] m0 [.lst (zAq 1 (m0.length+1))]) (.list [] [] []) (.inst "Exchange" 29) (zDp 1 (m0.length+1)) B X0 X1 X2,36,[],[.le 4 fm false,.eq fm 3 b3,.len p.length,.len m0.length]):=by cases b3<;>kernel_rfl
theorem m_hF_init:zAh I0 (DE fm 1 ⟨fr,zAr (.list [] p []) (.list [.tup [sv "hello", (.bool false)]] q []) B ⟨sv "init", .none,L,H,I,T⟩ X0 X1 X2,[false,b3]⟩) =
  some (.bool true,fr,yM (.list [] p []) (ownL b3 (.tup [sv "hello", (.bool false)]) q) (dM (sv "init") .none (.ref 11)) L H I T B X0 X1 X2,24,[],[.le 4 fm false,.eq fm 3 b3]):=by cases b3<;>kernel_rfl
theorem zHa:zAh I0 (DE fm 1 ⟨fr,zAr (.list [] p []) (.list [.tup [sv "dd", (zBu bt n (.tup []))]] q []) B ⟨sv "exchange", .ref 14,L,(.list [] hh []),(.inst "Exchange" 15),(zAj true 9 5 sq rest sent "exchange" (zBu mb mn mh))⟩ X0 X1 X2,[false,b3,true,true]⟩) =
  some (.bool true,fr,yM (.list [] p []) (ownL b3 (.tup [sv "dd", (zBu bt n (.tup []))]) q) (dM (sv "exchange") (.ref 14) (.ref 11)) L (.list [] hh []) (.inst "Exchange" 15) (zAj true 9 5 sq rest sent "exchange" (zBu mb mn mh)) B X0 X1 X2,24,[],[.le 4 fm false,.eq fm 3 b3,.eq bt mb true,.eq n mn true,.len (p++[]++[]).length]):=by cases b3<;>kernel_rfl
theorem zP1:zAh [0,1,2,3,4,5,6,7,8,9,10,35,12,13,33,32,16,17,18] (DE fm 1 ⟨fr,zAr (.list [] p []) (.list [.tup [sv "dd", (pkP 2 n [hdV hk ha])]] q []) B ⟨sv "exchange", .ref 14,.list [] m0 [],(.list [] hh []),(.inst "Exchange" 15),(zAj true 9 5 sq rest sent "exchange" (zBu mb mn mh))⟩ X0 X1 X2,false::b3::(dqO dq++[false])⟩) =
  some (.bool true,fr,yM (.list [] p [V.tup [sv "dd", zC9 1 (m0.length+1)]]) (ownL b3 (.tup [sv "dd", (pkP 2 n [hdV hk ha])]) q) (dM (sv "exstart") (.ref 33) (.ref 35)) (.list [] m0 [.lst (zAq 1 (m0.length+1))]) (.list [] [] []) (.inst "Exchange" 32) (zDp 1 (m0.length+1)) B X0 X1 X2,39,[],.le 4 fm false::.eq fm 3 b3::(dqB dq 2 mb n mn++[.eq n sq false,.len (p++[]++[]).length,.len p.length,.len m0.length])):=by cases b3<;>cases dq<;>kernel_rfl
theorem zMg:zAh I0 (DE fm 1 ⟨fr,zAr (.list [] p []) (.list [.tup [sv "dd", (pkP 0 n [])]] q []) B ⟨sv "exchange", .ref 14,L,(.list [] hh []),(.inst "Exchange" 15),(zAj true 9 5 sq [x] (zDc 3 sn lf) "exchange" (zBu mb mn mh))⟩ X0 X1 X2,false::b3::(dqO dq++[true])⟩) =
  some (.bool true,fr,yM (.list [] p [V.tup [sv "dd", (pkP 1 ((sq+1).fmod 4294967296) [x])]]) (ownL b3 (.tup [sv "dd", (pkP 0 n [])]) q) (dM (sv "exchange") (.ref 14) (.ref 11)) L (.list [] hh []) (.inst "Exchange" 15) (zAj true 9 5 ((sq+1).fmod 4294967296) [] (pkP 1 ((sq+1).fmod 4294967296) [x]) "exchange" (pkP 0 n [])) B X0 X1 X2,26,[],.le 4 fm false::.eq fm 3 b3::(dqB dq 0 mb n mn++[.eq n sq true,.len 0,.len (p++[]++[V.tup [sv "dd", (pkP 1 ((sq+1).fmod 4294967296) [x])]]).length])):=by cases b3<;>cases dq<;>kernel_rfl
theorem zMu:zAh I0 (DE fm 1 ⟨fr,zAr (.list [] p []) (.list [.tup [sv "dd", (pkP 0 n [])]] q []) B ⟨sv "exstart", .ref 14,L,(.list [] [] []),(.inst "Exchange" 15),(zAj true 9 5 sq (x::y::rest) (zDc 7 sn lf) "exstart" .none)⟩ X0 X1 X2,[false,b3,true]⟩) =
  some (.bool true,fr,yM (.list [] p [V.tup [sv "dd", (pkP 3 ((sq+1).fmod 4294967296) [x])]]) (ownL b3 (.tup [sv "dd", (pkP 0 n [])]) q) (dM (sv "exchange") (.ref 14) (.ref 11)) L (.list [] [] []) (.inst "Exchange" 15) (zAj true 9 5 ((sq+1).fmod 4294967296) (y::rest) (pkP 3 ((sq+1).fmod 4294967296) [x]) "exchange" (pkP 0 n [])) B X0 X1 X2,28,[],[.le 4 fm false,.eq fm 3 b3,.eq n sq true,.len 0,.len (p++[]++[V.tup [sv "dd", (pkP 3 ((sq+1).fmod 4294967296) [x])]]).length]):=by cases b3<;>kernel_rfl
theorem s_hF_full:zAh [0,1,2,3,4,5,6,7,8,9,24,11,12,13,14,15,16,17,18] (DE fm 0 ⟨fr,zAr (.list [.tup [sv "hello", (.bool false)]] q []) (.list [] p []) ⟨sv "full", .ref 12,L,H,(.inst "Exchange" 13),(.attrs zBo [a0,a1,a2,a3,a4,a5,a6,a7,a8,a9,a10,.dct [] []])⟩ B X0 X1 X2,[false,b3]⟩) =
  some (.bool true,fr,yS (ownL b3 (.tup [sv "hello", (.bool false)]) q) (.list [] p []) (dS (sv "init") .none (.ref 24)) L (.list [] [] []) (.inst "Exchange" 13) (.attrs zBo [a0,a1,a2,a3,a4,a5,a6,a7,a8,a9,a10,.dct [] []]) B X0 X1 X2,25,[],[.le 4 fm false,.eq fm 3 b3]):=by cases b3<;>kernel_rfl
theorem zN3:zAh I0 (DE fm 0 ⟨fr,zAr (.list [.tup [sv "dd", (pkP 1 n [hdV hk ha])]] q []) (.list [] p []) ⟨sv "exstart", .ref 12,L,(.list [] [] []),(.inst "Exchange" 13),(zAj true 5 9 sq rest sent "exstart" .none)⟩ B X0 X1 X2,[false,b3]⟩) =
  some (.bool true,fr,yS (ownL b3 (.tup [sv "dd", (pkP 1 n [hdV hk ha])]) q) (.list [] p []) (dS (sv "exstart") (.ref 12) (.ref 10)) L (.list [] [] []) (.inst "Exchange" 13) (zAj true 5 9 sq rest sent "exstart" .none) B X0 X1 X2,24,[],[.le 4 fm false,.eq fm 3 b3,.len (p++[]++[]).length]):=by cases b3<;>kernel_rfl
theorem zEp:zAh [0,1,2,3,4,5,6,7,8,9,35,11,33,32,14,15,16,17,18] (DE fm 0 ⟨fr,zAr (.list [.tup [sv "dd", (zBu bt n (.tup []))]] q []) (.list [] p []) ⟨sv "full", .ref 12,.list [] m0 [],(.list [] hh []),(.inst "Exchange" 13),(zAj false 5 9 sq rest sent "full" (zBu mb mn mh))⟩ B X0 X1 X2,false::b3::(dqO dq++[])⟩) =
  some (.bool true,fr,yS (ownL b3 (.tup [sv "dd", (zBu bt n (.tup []))]) q) (.list [] p [V.tup [sv "dd", zC9 0 (m0.length+1)]]) (dS (sv "exstart") (.ref 33) (.ref 35)) (.list [] m0 [.lst (zAq 0 (m0.length+1))]) (.list [] [] []) (.inst "Exchange" 32) (zDp 0 (m0.length+1)) B X0 X1 X2,39,[],.le 4 fm false::.eq fm 3 b3::(dqB dq bt mb n mn++[.len (p++[]++[]).length,.len p.length,.len m0.length])):=by cases b3<;>cases dq<;>kernel_rfl
theorem zLv:zAh I0 (DE fm 0 ⟨fr,zAr (.list [.tup [sv "dd", (pkP 1 n [hdV bt 2])]] q []) (.list [] p []) ⟨sv "exchange", .ref 12,L,(.list [] hh []),(.inst "Exchange" 13),(zAj false 5 9 sq (x::y::rest) sent "exchange" (zBu mb mn mh))⟩ B X0 X1 X2,false::b3::(dqO dq++[true])⟩) =
  some (.bool true,fr,yS (ownL b3 (.tup [sv "dd", (pkP 1 n [hdV bt 2])]) q) (.list [] p [V.tup [sv "dd", (pkP 2 n [x])]]) (dS (sv "exchange") (.ref 12) (.ref 10)) L (.list [] hh [.tup [.int 1,.sym bt,.int 2]]) (.inst "Exchange" 13) (zAj false 5 9 n (y::rest) (pkP 2 n [x]) "exchange" (pkP 1 n [hdV bt 2])) B X0 X1 X2,26,[],.le 4 fm false::.eq fm 3 b3::(dqB dq 1 mb n mn++[.eq n ((sq+1).fmod 4294967296) true,.len (hh++[]).length,.len 0,.len (p++[]++[V.tup [sv "dd", (pkP 2 n [x])]]).length])):=by cases b3<;>cases dq<;>kernel_rfl
theorem zOa:zAh I0 (DE fm 1 ⟨fr,zAr (.list [] p []) (.list [.tup [sv "hello", (.bool true)]] q []) B ⟨sv "exstart", .ref 14,L,H,(.inst "Exchange" 15),(.attrs zBo [a0,a1,a2,a3,a4,a5,a6,a7,a8,a9,a10,.dct [] []])⟩ X0 X1 X2,[false,b3]⟩) =
  some (.bool true,fr,yM (.list [] p []) (ownL b3 (.tup [sv "hello", (.bool true)]) q) (dM (sv "exstart") (.ref 14) (.ref 11)) L H (.inst "Exchange" 15) (.attrs zBo [a0,a1,a2,a3,a4,a5,a6,a7,a8,a9,a10,.dct [] []]) B X0 X1 X2,24,[],[.le 4 fm false,.eq fm 3 b3]):=by cases b3<;>kernel_rfl
theorem zRg:zAh I0 (DE fm 1 ⟨fr,zAr (.list [] p []) (.list [.tup [sv "dd", (zBu bt n (.tup [hdV hk ha]))]] q []) B ⟨st,.none,L,H,I,T⟩ X0 X1 X2,[false,b3]⟩) =
  some (.bool true,fr,yM (.list [] p []) (ownL b3 (.tup [sv "dd", (zBu bt n (.tup [hdV hk ha]))]) q) (dM st .none (.ref 11)) L H I T B X0 X1 X2,20,[],[.le 4 fm false,.eq fm 3 b3]):=by cases b3<;>kernel_rfl
theorem zOd:zAh I0 (DE fm 1 ⟨fr,zAr (.list [] p []) (.list [.tup [sv "dd", (zBu bt n (.tup [hdV hk ha]))]] q []) B ⟨sv "full", .ref 14,L,(.list [] hh []),(.inst "Exchange" 15),(zAj true 9 5 sq rest sent "full" (zBu mb mn mh))⟩ X0 X1 X2,[false,b3,true,true]⟩) =
  some (.bool true,fr,yM (.list [] p []) (ownL b3 (.tup [sv "dd", (zBu bt n (.tup [hdV hk ha]))]) q) (dM (sv "full") (.ref 14) (.ref 11)) L (.list [] hh []) (.inst "Exchange" 15) (zAj true 9 5 sq rest sent "full" (zBu mb mn mh)) B X0 X1 X2,24,[],[.le 4 fm false,.eq fm 3 b3,.eq bt mb true,.eq n mn true,.len (p++[]++[]).length]):=by cases b3<;>kernel_rfl
theorem zMc:zAh I0 (DE fm 1 ⟨fr,zAr (.list [] p []) (.list [.tup [sv "dd", (pkP 2 n [hdV bt 1])]] q []) B ⟨sv "exchange", .ref 14,L,(.list [] hh []),(.inst "Exchange" 15),(zAj true 9 5 sq (x::y::rest) (zDc 3 sn lf) "exchange" (zBu mb mn mh))⟩ X0 X1 X2,false::b3::(dqO dq++[true])⟩) =
  some (.bool true,fr,yM (.list [] p [V.tup [sv "dd", (pkP 3 ((sq+1).fmod 4294967296) [x])]]) (ownL b3 (.tup [sv "dd", (pkP 2 n [hdV bt 1])]) q) (dM (sv "exchange") (.ref 14) (.ref 11)) L (.list [] hh [.tup [.int 1,.sym bt,.int 1]]) (.inst "Exchange" 15) (zAj true 9 5 ((sq+1).fmod 4294967296) (y::rest) (pkP 3 ((sq+1).fmod 4294967296) [x]) "exchange" (pkP 2 n [hdV bt 1])) B X0 X1 X2,26,[],.le 4 fm false::.eq fm 3 b3::(dqB dq 2 mb n mn++[.eq n sq true,.len (hh++[]).length,.len 0,.len (p++[]++[V.tup [sv "dd", (pkP 3 ((sq+1).fmod 4294967296) [x])]]).length])):=by cases b3<;>cases dq<;>kernel_rfl
theorem zMh:zAh I0 (DE fm 1 ⟨fr,zAr (.list [] p []) (.list [.tup [sv "dd", (pkP 0 n [])]] q []) B ⟨sv "exchange", .ref 14,L,(.list [] hh []),(.inst "Exchange" 15),(zAj true 9 5 sq [] (zDc 1 sn lf) "exchange" (zBu mb mn mh))⟩ X0 X1 X2,false::b3::(dqO dq++[true])⟩) =
  some (.bool true,fr,yM (.list [] p []) (ownL b3 (.tup [sv "dd", (pkP 0 n [])]) q) (dM (sv "full") (.ref 14) (.ref 11)) L (.list [] hh []) (.inst "Exchange" 15) (zAj true 9 5 sq [] (zDc 1 sn lf) "full" (pkP 0 n [])) B X0 X1 X2,30,[],.le 4 fm false::.eq fm 3 b3::(dqB dq 0 mb n mn++[.eq n sq true,.len (p++[]++[]).length])):=by cases b3<;>cases dq<;>kernel_rfl
theorem zMv:zAh I0 (DE fm 1 ⟨fr,zAr (.list [] p []) (.list [.tup [sv "dd", (pkP 0 n [])]] q []) B ⟨sv "exstart", .ref 14,L,(.list [] [] []),(.inst "Exchange" 15),(zAj true 9 5 sq [x] (zDc 7 sn lf) "exstart" .none)⟩ X0 X1 X2,[false,b3,true]⟩) =
  some (.bool true,fr,yM (.list [] p [V.tup [sv "dd", (pkP 1 ((sq+1).fmod 4294967296) [x])]]) (ownL b3 (.tup [sv "dd", (pkP 0 n [])]) q) (dM (sv "exchange") (.ref 14) (.ref 11)) L (.list [] [] []) (.inst "Exchange" 15) (zAj true 9 5 ((sq+1).fmod 4294967296) [] (pkP 1 ((sq+1).fmod 4294967296) [x]) "exchange" (pkP 0 n [])) B X0 X1 X2,28,[],[.le 4 fm false,.eq fm 3 b3,.eq n sq true,.len 0,.len (p++[]++[V.tup [sv "dd", (pkP 1 ((sq+1).fmod 4294967296) [x])]]).length]):=by cases b3<;>kernel_rfl
end
section
variable (fr:List (List Str × List V)) (p q rest:List V) (tk sent met st x0 x1 x2 x3 x4 x5:V) (a0 a1 a2 a3 a4 a5 a6 a7 a8 a9 a10:V) (Z L H I T X0 X1 X2:AO) (fm n sq bt hk ha:Int) (B:Sd)
theorem s_h_a_down:zAh I0 (DE fm 0 ⟨fr,zAr (.list [] [] []) (.list [] p []) ⟨sv "down", tk,L,H,I,T⟩ B X0 X1 X2,[false,false,false,false]⟩) =
  some (.bool true,fr,yS (.list [] [] []) (.list [] p [V.tup [sv "hello", .bool false]]) (dS (sv "down") tk (.ref 10)) L H I T B X0 X1 X2,19,[],[.le 4 fm false,.eq fm 4 false,.eq fm 7 false,.eq fm 6 false,.len (p++[]).length]):=by kernel_rfl
theorem s_h_b_down:zAh I0 (DE fm 0 ⟨fr,zAr (.list [] [] []) (.list [] p []) ⟨sv "down", tk,L,H,I,T⟩ B X0 X1 X2,[true,true,false,false]⟩) =
  some (.bool true,fr,yS (.list [] [] []) (.list [] p [V.tup [sv "hello", .bool false]]) (dS (sv "down") tk (.ref 10)) L H I T B X0 X1 X2,19,[],[.le 4 fm true,.eq fm 4 true,.eq fm 7 false,.eq fm 6 false,.len (p++[]).length]):=by kernel_rfl
theorem s_h_c_down:zAh I0 (DE fm 0 ⟨fr,zAr (.list [.tup [sv "hello", .bool false]] q []) (.list [] p []) ⟨sv "down", tk,L,H,I,T⟩ B X0 X1 X2,[true,true,false,false]⟩) =
  some (.bool true,fr,yS (.list [.tup [sv "hello", .bool false]] q []) (.list [] p [V.tup [sv "hello", .bool false]]) (dS (sv "down") tk (.ref 10)) L H I T B X0 X1 X2,19,[],[.le 4 fm true,.eq fm 4 true,.eq fm 7 false,.eq fm 6 false,.len (p++[]).length]):=by kernel_rfl
theorem s_h_e_down:zAh I0 (DE fm 0 ⟨fr,zAr Z (.list [] p []) ⟨sv "down", tk,L,H,I,T⟩ B X0 X1 X2,[true,false,false,false]⟩) =
  some (.bool true,fr,yS Z (.list [] p [V.tup [sv "hello", .bool false]]) (dS (sv "down") tk (.ref 10)) L H I T B X0 X1 X2,19,[],[.le 4 fm true,.eq fm 4 false,.eq fm 7 false,.eq fm 6 false,.len (p++[]).length]):=by kernel_rfl
theorem s_h_a_init:zAh I0 (DE fm 0 ⟨fr,zAr (.list [] [] []) (.list [] p []) ⟨sv "init", tk,L,H,I,T⟩ B X0 X1 X2,[false,false,false,false]⟩) =
  some (.bool true,fr,yS (.list [] [] []) (.list [] p [V.tup [sv "hello", .bool true]]) (dS (sv "init") tk (.ref 10)) L H I T B X0 X1 X2,19,[],[.le 4 fm false,.eq fm 4 false,.eq fm 7 false,.eq fm 6 false,.len (p++[]).length]):=by kernel_rfl
theorem s_h_b_init:zAh I0 (DE fm 0 ⟨fr,zAr (.list [] [] []) (.list [] p []) ⟨sv "init", tk,L,H,I,T⟩ B X0 X1 X2,[true,true,false,false]⟩) =
  some (.bool true,fr,yS (.list [] [] []) (.list [] p [V.tup [sv "hello", .bool true]]) (dS (sv "init") tk (.ref 10)) L H I T B X0 X1 X2,19,[],[.le 4 fm true,.eq fm 4 true,.eq fm 7 false,.eq fm 6 false,.len (p++[]).length]):=by kernel_rfl
theorem s_h_c_init:zAh I0 (DE fm 0 ⟨fr,zAr (.list [.tup [sv "hello", .bool false]] q []) (.list [] p []) ⟨sv "init", tk,L,H,I,T⟩ B X0 X1 X2,[true,true,false,false]⟩) =
  some (.bool true,fr,yS (.list [.tup [sv "hello", .bool false]] q []) (.list [] p [V.tup [sv "hello", .bool true]]) (dS (sv "init") tk (.ref 10)) L H I T B X0 X1 X2,19,[],[.le 4 fm true,.eq fm 4 true,.eq fm 7 false,.eq fm 6 false,.len (p++[]).length]):=by kernel_rfl
theorem s_h_e_init:zAh I0 (DE fm 0 ⟨fr,zAr Z (.list [] p []) ⟨sv "init", tk,L,H,I,T⟩ B X0 X1 X2,[true,false,false,false]⟩) =
  some (.bool true,fr,yS Z (.list [] p [V.tup [sv "hello", .bool true]]) (dS (sv "init") tk (.ref 10)) L H I T B X0 X1 X2,19,[],[.le 4 fm true,.eq fm 4 false,.eq fm 7 false,.eq fm 6 false,.len (p++[]).length]):=by kernel_rfl
theorem zL1:zAh I0 (DE fm 0 ⟨fr,zAr (.list [] [] []) (.list [] p []) ⟨sv "exstart", tk,L,H,I,T⟩ B X0 X1 X2,[false,false,false,false]⟩) =
  some (.bool true,fr,yS (.list [] [] []) (.list [] p [V.tup [sv "hello", .bool true]]) (dS (sv "exstart") tk (.ref 10)) L H I T B X0 X1 X2,19,[],[.le 4 fm false,.eq fm 4 false,.eq fm 7 false,.eq fm 6 false,.len (p++[]).length]):=by kernel_rfl
theorem zL0:zAh I0 (DE fm 0 ⟨fr,zAr (.list [] [] []) (.list [] p []) ⟨sv "exstart", tk,L,H,I,T⟩ B X0 X1 X2,[true,true,false,false]⟩) =
  some (.bool true,fr,yS (.list [] [] []) (.list [] p [V.tup [sv "hello", .bool true]]) (dS (sv "exstart") tk (.ref 10)) L H I T B X0 X1 X2,19,[],[.le 4 fm true,.eq fm 4 true,.eq fm 7 false,.eq fm 6 false,.len (p++[]).length]):=by kernel_rfl
theorem zLz:zAh I0 (DE fm 0 ⟨fr,zAr (.list [.tup [sv "hello", .bool false]] q []) (.list [] p []) ⟨sv "exstart", tk,L,H,I,T⟩ B X0 X1 X2,[true,true,false,false]⟩) =
  some (.bool true,fr,yS (.list [.tup [sv "hello", .bool false]] q []) (.list [] p [V.tup [sv "hello", .bool true]]) (dS (sv "exstart") tk (.ref 10)) L H I T B X0 X1 X2,19,[],[.le 4 fm true,.eq fm 4 true,.eq fm 7 false,.eq fm 6 false,.len (p++[]).length]):=by kernel_rfl
theorem zLy:zAh I0 (DE fm 0 ⟨fr,zAr Z (.list [] p []) ⟨sv "exstart", tk,L,H,I,T⟩ B X0 X1 X2,[true,false,false,false]⟩) =
  some (.bool true,fr,yS Z (.list [] p [V.tup [sv "hello", .bool true]]) (dS (sv "exstart") tk (.ref 10)) L H I T B X0 X1 X2,19,[],[.le 4 fm true,.eq fm 4 false,.eq fm 7 false,.eq fm 6 false,.len (p++[]).length]):=by kernel_rfl
theorem zJ6:zAh I0 (DE fm 0 ⟨fr,zAr (.list [] [] []) (.list [] p []) ⟨sv "exchange", tk,L,H,I,T⟩ B X0 X1 X2,[false,false,false,false]⟩) =
  some (.bool true,fr,yS (.list [] [] []) (.list [] p [V.tup [sv "hello", .bool true]]) (dS (sv "exchange") tk (.ref 10)) L H I T B X0 X1 X2,19,[],[.le 4 fm false,.eq fm 4 false,.eq fm 7 false,.eq fm 6 false,.len (p++[]).length]):=by kernel_rfl
theorem zJ5:zAh I0 (DE fm 0 ⟨fr,zAr (.list [] [] []) (.list [] p []) ⟨sv "exchange", tk,L,H,I,T⟩ B X0 X1 X2,[true,true,false,false]⟩) =
  some (.bool true,fr,yS (.list [] [] []) (.list [] p [V.tup [sv "hello", .bool true]]) (dS (sv "exchange") tk (.ref 10)) L H I T B X0 X1 X2,19,[],[.le 4 fm true,.eq fm 4 true,.eq fm 7 false,.eq fm 6 false,.len (p++[]).length]):=by kernel_rfl
theorem zJ4:zAh I0 (DE fm 0 ⟨fr,zAr (.list [.tup [sv "hello", .bool false]] q []) (.list [] p []) ⟨sv "exchange", tk,L,H,I,T⟩ B X0 X1 X2,[true,true,false,false]⟩) =
  some (.bool true,fr,yS (.list [.tup [sv "hello", .bool false]] q []) (.list [] p [V.tup [sv "hello", .bool true]]) (dS (sv "exchange") tk (.ref 10)) L H I T B X0 X1 X2,19,[],[.le 4 fm true,.eq fm 4 true,.eq fm 7 false,.eq fm 6 false,.len (p++[]).length]):=by kernel_rfl
theorem zJ3:zAh I0 (DE fm 0 ⟨fr,zAr Z (.list [] p []) ⟨sv "exchange", tk,L,H,I,T⟩ B X0 X1 X2,[true,false,false,false]⟩) =
  some (.bool true,fr,yS Z (.list [] p [V.tup [sv "hello", .bool true]]) (dS (sv "exchange") tk (.ref 10)) L H I T B X0 X1 X2,19,[],[.le 4 fm true,.eq fm 4 false,.eq fm 7 false,.eq fm 6 false,.len (p++[]).length]):=by kernel_rfl
theorem s_h_a_full:zAh I0 (DE fm 0 ⟨fr,zAr (.list [] [] []) (.list [] p []) ⟨sv "full", tk,L,H,I,T⟩ B X0 X1 X2,[false,false,false,false]⟩) =
  some (.bool true,fr,yS (.list [] [] []) (.list [] p [V.tup [sv "hello", .bool true]]) (dS (sv "full") tk (.ref 10)) L H I T B X0 X1 X2,19,[],[.le 4 fm false,.eq fm 4 false,.eq fm 7 false,.eq fm 6 false,.len (p++[]).length]):=by kernel_rfl
theorem s_h_b_full:zAh I0 (DE fm 0 ⟨fr,zAr (.list [] [] []) (.list [] p []) ⟨sv "full", tk,L,H,I,T⟩ B X0 X1 X2,[true,true,false,false]⟩) =
  some (.bool true,fr,yS (.list [] [] []) (.list [] p [V.tup [sv "hello", .bool true]]) (dS (sv "full") tk (.ref 10)) L H I T B X0 X1 X2,19,[],[.le 4 fm true,.eq fm 4 true,.eq fm 7 false,.eq fm 6 false,.len (p++[]).length]):=by kernel_rfl
theorem s_h_c_full:zAh I0 (DE fm 0 ⟨fr,zAr (.list [.tup [sv "hello", .bool false]] q []) (.list [] p []) ⟨sv "full", tk,L,H,I,T⟩ B X0 X1 X2,[true,true,false,false]⟩) =
  some (.bool true,fr,yS (.list [.tup [sv "hello", .bool false]] q []) (.list [] p [V.tup [sv "hello", .bool true]]) (dS (sv "full") tk (.ref 10)) L H I T B X0 X1 X2,19,[],[.le 4 fm true,.eq fm 4 true,.eq fm 7 false,.eq fm 6 false,.len (p++[]).length]):=by kernel_rfl
theorem s_h_e_full:zAh I0 (DE fm 0 ⟨fr,zAr Z (.list [] p []) ⟨sv "full", tk,L,H,I,T⟩ B X0 X1 X2,[true,false,false,false]⟩) =
  some (.bool true,fr,yS Z (.list [] p [V.tup [sv "hello", .bool true]]) (dS (sv "full") tk (.ref 10)) L H I T B X0 X1 X2,19,[],[.le 4 fm true,.eq fm 4 false,.eq fm 7 false,.eq fm 6 false,.len (p++[]).length]):=by kernel_rfl
theorem s_loss_t:zAh I0 (DE fm 0 ⟨fr,zAr (.list [.tup [sv "hello", .bool true]] q []) (.list [] p []) ⟨st,tk,L,H,I,T⟩ B X0 X1 X2,[true,true]⟩) =
  some (.bool true,fr,yS (.list [] q []) (.list [] p []) (dS st tk (.ref 10)) L H I T B X0 X1 X2,19,[],[.le 4 fm true,.eq fm 4 true]):=by kernel_rfl
theorem s_loss_dh:zAh I0 (DE fm 0 ⟨fr,zAr (.list [.tup [sv "dd", zBu bt n (.tup [hdV hk ha])]] q []) (.list [] p []) ⟨st,tk,L,H,I,T⟩ B X0 X1 X2,[true,true]⟩) =
  some (.bool true,fr,yS (.list [] q []) (.list [] p []) (dS st tk (.ref 10)) L H I T B X0 X1 X2,19,[],[.le 4 fm true,.eq fm 4 true]):=by kernel_rfl
theorem s_loss_dn:zAh I0 (DE fm 0 ⟨fr,zAr (.list [.tup [sv "dd", zBu bt n (.tup [])]] q []) (.list [] p []) ⟨st,tk,L,H,I,T⟩ B X0 X1 X2,[true,true]⟩) =
  some (.bool true,fr,yS (.list [] q []) (.list [] p []) (dS st tk (.ref 10)) L H I T B X0 X1 X2,19,[],[.le 4 fm true,.eq fm 4 true]):=by kernel_rfl
theorem zG4:zAh I0 (DE fm 0 ⟨fr,zAr Z (.list [] p []) ⟨st,.none,L,H,I,T⟩ B X0 X1 X2,[true,false,false,true]⟩) =
  some (.bool true,fr,yS Z (.list [] p []) (dS st .none (.ref 10)) L H I T B X0 X1 X2,19,[],[.le 4 fm true,.eq fm 4 false,.eq fm 7 false,.eq fm 6 true]):=by kernel_rfl
theorem zIu:zAh I0 (DE fm 0 ⟨fr,zAr Z (.list [] p []) ⟨st,.ref 12,L,H,(.inst "Exchange" 13),(zAj true 5 9 sq rest (pkP 7 n []) "exstart" met)⟩ B X0 X1 X2,[true,false,false,true]⟩) =
  some (.bool true,fr,yS Z (.list [] p [V.tup [sv "dd", (pkP 7 n [])]]) (dS st (.ref 12) (.ref 10)) L H (.inst "Exchange" 13) (zAj true 5 9 sq rest (pkP 7 n []) "exstart" met) B X0 X1 X2,19,[],[.le 4 fm true,.eq fm 4 false,.eq fm 7 false,.eq fm 6 true,.len (p++[]).length]):=by kernel_rfl
theorem zG9:zAh I0 (DE fm 0 ⟨fr,zAr Z (.list [] p []) ⟨st,.ref 12,L,H,(.inst "Exchange" 13),(zAj false 5 9 sq rest sent "exchange" met)⟩ B X0 X1 X2,[true,false,false,true]⟩) =
  some (.bool true,fr,yS Z (.list [] p []) (dS st (.ref 12) (.ref 10)) L H (.inst "Exchange" 13) (zAj false 5 9 sq rest sent "exchange" met) B X0 X1 X2,19,[],[.le 4 fm true,.eq fm 4 false,.eq fm 7 false,.eq fm 6 true]):=by kernel_rfl
theorem zN5:zAh I0 (DE fm 0 ⟨fr,zAr Z (.list [] p []) ⟨st,.ref 12,L,H,(.inst "Exchange" 13),(zAj false 5 9 sq rest sent "full" met)⟩ B X0 X1 X2,[true,false,false,true]⟩) =
  some (.bool true,fr,yS Z (.list [] p []) (dS st (.ref 12) (.ref 10)) L H (.inst "Exchange" 13) (zAj false 5 9 sq rest sent "full" met) B X0 X1 X2,19,[],[.le 4 fm true,.eq fm 4 false,.eq fm 7 false,.eq fm 6 true]):=by kernel_rfl
theorem zIt:zAh [0,1,2,3,4,5,6,7,8,9,21,11,12,13,14,15,16,17,18] (DE fm 0 ⟨fr,zAr Z (.list [] p []) ⟨st,.none,L,H,I,T⟩ B X0 X1 X2,[true,false,true]⟩) =
  some (.bool true,fr,yS Z (.list [] p [V.tup [sv "hello", .bool false]]) (dS (sv "down") .none (.ref 21)) L (.list [] [] []) I T B X0 X1 X2,22,[],[.le 4 fm true,.eq fm 4 false,.eq fm 7 true,.len (p++[]).length]):=by kernel_rfl
theorem zEx:zAh [0,1,2,3,4,5,6,7,8,9,21,11,12,13,14,15,16,17,18] (DE fm 0 ⟨fr,zAr Z (.list [] p []) ⟨st,.ref 12,L,H,(.inst "Exchange" 13),(.attrs zBo [a0,a1,a2,a3,a4,a5,a6,a7,a8,a9,a10,.dct [] []])⟩ B X0 X1 X2,[true,false,true]⟩) =
  some (.bool true,fr,yS Z (.list [] p [V.tup [sv "hello", .bool false]]) (dS (sv "down") .none (.ref 21)) L (.list [] [] []) (.inst "Exchange" 13) (.attrs zBo [a0,a1,a2,a3,a4,a5,a6,a7,a8,a9,a10,.dct [] []]) B X0 X1 X2,22,[],[.le 4 fm true,.eq fm 4 false,.eq fm 7 true,.len (p++[]).length]):=by kernel_rfl
theorem m_h_a_down:zAh I0 (DE fm 1 ⟨fr,zAr (.list [] p []) (.list [] [] []) B ⟨sv "down", tk,L,H,I,T⟩ X0 X1 X2,[false,false,false,false]⟩) =
  some (.bool true,fr,yM (.list [] p [V.tup [sv "hello", .bool false]]) (.list [] [] []) (dM (sv "down") tk (.ref 11)) L H I T B X0 X1 X2,19,[],[.le 4 fm false,.eq fm 4 false,.eq fm 7 false,.eq fm 6 false,.len (p++[]).length]):=by kernel_rfl
theorem m_h_b_down:zAh I0 (DE fm 1 ⟨fr,zAr (.list [] p []) (.list [] [] []) B ⟨sv "down", tk,L,H,I,T⟩ X0 X1 X2,[true,true,false,false]⟩) =
  some (.bool true,fr,yM (.list [] p [V.tup [sv "hello", .bool false]]) (.list [] [] []) (dM (sv "down") tk (.ref 11)) L H I T B X0 X1 X2,19,[],[.le 4 fm true,.eq fm 4 true,.eq fm 7 false,.eq fm 6 false,.len (p++[]).length]):=by kernel_rfl
theorem m_h_c_down:zAh I0 (DE fm 1 ⟨fr,zAr (.list [] p []) (.list [.tup [sv "hello", .bool false]] q []) B ⟨sv "down", tk,L,H,I,T⟩ X0 X1 X2,[true,true,false,false]⟩) =
  some (.bool true,fr,yM (.list [] p [V.tup [sv "hello", .bool false]]) (.list [.tup [sv "hello", .bool false]] q []) (dM (sv "down") tk (.ref 11)) L H I T B X0 X1 X2,19,[],[.le 4 fm true,.eq fm 4 true,.eq fm 7 false,.eq fm 6 false,.len (p++[]).length]):=by kernel_rfl
theorem m_h_e_down:zAh I0 (DE fm 1 ⟨fr,zAr (.list [] p []) Z B ⟨sv "down", tk,L,H,I,T⟩ X0 X1 X2,[true,false,false,false]⟩) =
  some (.bool true,fr,yM (.list [] p [V.tup [sv "hello", .bool false]]) Z (dM (sv "down") tk (.ref 11)) L H I T B X0 X1 X2,19,[],[.le 4 fm true,.eq fm 4 false,.eq fm 7 false,.eq fm 6 false,.len (p++[]).length]):=by kernel_rfl
theorem m_h_a_init:zAh I0 (DE fm 1 ⟨fr,zAr (.list [] p []) (.list [] [] []) B ⟨sv "init", tk,L,H,I,T⟩ X0 X1 X2,[false,false,false,false]⟩) =
  some (.bool true,fr,yM (.list [] p [V.tup [sv "hello", .bool true]]) (.list [] [] []) (dM (sv "init") tk (.ref 11)) L H I T B X0 X1 X2,19,[],[.le 4 fm false,.eq fm 4 false,.eq fm 7 false,.eq fm 6 false,.len (p++[]).length]):=by kernel_rfl
theorem m_h_b_init:zAh I0 (DE fm 1 ⟨fr,zAr (.list [] p []) (.list [] [] []) B ⟨sv "init", tk,L,H,I,T⟩ X0 X1 X2,[true,true,false,false]⟩) =
  some (.bool true,fr,yM (.list [] p [V.tup [sv "hello", .bool true]]) (.list [] [] []) (dM (sv "init") tk (.ref 11)) L H I T B X0 X1 X2,19,[],[.le 4 fm true,.eq fm 4 true,.eq fm 7 false,.eq fm 6 false,.len (p++[]).length]):=by kernel_rfl
theorem m_h_c_init:zAh I0 (DE fm 1 ⟨fr,zAr (.list [] p []) (.list [.tup [sv "hello", .bool false]] q []) B ⟨sv "init", tk,L,H,I,T⟩ X0 X1 X2,[true,true,false,false]⟩) =
  some (.bool true,fr,yM (.list [] p [V.tup [sv "hello", .bool true]]) (.list [.tup [sv "hello", .bool false]] q []) (dM (sv "init") tk (.ref 11)) L H I T B X0 X1 X2,19,[],[.le 4 fm true,.eq fm 4 true,.eq fm 7 false,.eq fm 6 false,.len (p++[]).length]):=by kernel_rfl
theorem m_h_e_init:zAh I0 (DE fm 1 ⟨fr,zAr (.list [] p []) Z B ⟨sv "init", tk,L,H,I,T⟩ X0 X1 X2,[true,false,false,false]⟩) =
  some (.bool true,fr,yM (.list [] p [V.tup [sv "hello", .bool true]]) Z (dM (sv "init") tk (.ref 11)) L H I T B X0 X1 X2,19,[],[.le 4 fm true,.eq fm 4 false,.eq fm 7 false,.eq fm 6 false,.len (p++[]).length]):=by kernel_rfl
theorem zMo:zAh I0 (DE fm 1 ⟨fr,zAr (.list [] p []) (.list [] [] []) B ⟨sv "exstart", tk,L,H,I,T⟩ X0 X1 X2,[false,false,false,false]⟩) =
  some (.bool true,fr,yM (.list [] p [V.tup [sv "hello", .bool true]]) (.list [] [] []) (dM (sv "exstart") tk (.ref 11)) L H I T B X0 X1 X2,19,[],[.le 4 fm false,.eq fm 4 false,.eq fm 7 false,.eq fm 6 false,.len (p++[]).length]):=by kernel_rfl
theorem zMn:zAh I0 (DE fm 1 ⟨fr,zAr (.list [] p []) (.list [] [] []) B ⟨sv "exstart", tk,L,H,I,T⟩ X0 X1 X2,[true,true,false,false]⟩) =
  some (.bool true,fr,yM (.list [] p [V.tup [sv "hello", .bool true]]) (.list [] [] []) (dM (sv "exstart") tk (.ref 11)) L H I T B X0 X1 X2,19,[],[.le 4 fm true,.eq fm 4 true,.eq fm 7 false,.eq fm 6 false,.len (p++[]).length]):=by kernel_rfl
theorem zMm:zAh I0 (DE fm 1 ⟨fr,zAr (.list [] p []) (.list [.tup [sv "hello", .bool false]] q []) B ⟨sv "exstart", tk,L,H,I,T⟩ X0 X1 X2,[true,true,false,false]⟩) =
  some (.bool true,fr,yM (.list [] p [V.tup [sv "hello", .bool true]]) (.list [.tup [sv "hello", .bool false]] q []) (dM (sv "exstart") tk (.ref 11)) L H I T B X0 X1 X2,19,[],[.le 4 fm true,.eq fm 4 true,.eq fm 7 false,.eq fm 6 false,.len (p++[]).length]):=by kernel_rfl
theorem zMl:zAh I0 (DE fm 1 ⟨fr,zAr (.list [] p []) Z B ⟨sv "exstart", tk,L,H,I,T⟩ X0 X1 X2,[true,false,false,false]⟩) =
  some (.bool true,fr,yM (.list [] p [V.tup [sv "hello", .bool true]]) Z (dM (sv "exstart") tk (.ref 11)) L H I T B X0 X1 X2,19,[],[.le 4 fm true,.eq fm 4 false,.eq fm 7 false,.eq fm 6 false,.len (p++[]).length]):=by kernel_rfl
theorem zKa:zAh I0 (DE fm 1 ⟨fr,zAr (.list [] p []) (.list [] [] []) B ⟨sv "exchange", tk,L,H,I,T⟩ X0 X1 X2,[false,false,false,false]⟩) =
  some (.bool true,fr,yM (.list [] p [V.tup [sv "hello", .bool true]]) (.list [] [] []) (dM (sv "exchange") tk (.ref 11)) L H I T B X0 X1 X2,19,[],[.le 4 fm false,.eq fm 4 false,.eq fm 7 false,.eq fm 6 false,.len (p++[]).length]):=by kernel_rfl
theorem zJ9:zAh I0 (DE fm 1 ⟨fr,zAr (.list [] p []) (.list [] [] []) B ⟨sv "exchange", tk,L,H,I,T⟩ X0 X1 X2,[true,true,false,false]⟩) =
  some (.bool true,fr,yM (.list [] p [V.tup [sv "hello", .bool true]]) (.list [] [] []) (dM (sv "exchange") tk (.ref 11)) L H I T B X0 X1 X2,19,[],[.le 4 fm true,.eq fm 4 true,.eq fm 7 false,.eq fm 6 false,.len (p++[]).length]):=by kernel_rfl
theorem zJ8:zAh I0 (DE fm 1 ⟨fr,zAr (.list [] p []) (.list [.tup [sv "hello", .bool false]] q []) B ⟨sv "exchange", tk,L,H,I,T⟩ X0 X1 X2,[true,true,false,false]⟩) =
  some (.bool true,fr,yM (.list [] p [V.tup [sv "hello", .bool true]]) (.list [.tup [sv "hello", .bool false]] q []) (dM (sv "exchange") tk (.ref 11)) L H I T B X0 X1 X2,19,[],[.le 4 fm true,.eq fm 4 true,.eq fm 7 false,.eq fm 6 false,.len (p++[]).length]):=by kernel_rfl
theorem zJ7:zAh I0 (DE fm 1 ⟨fr,zAr (.list [] p []) Z B ⟨sv "exchange", tk,L,H,I,T⟩ X0 X1 X2,[true,false,false,false]⟩) =
  some (.bool true,fr,yM (.list [] p [V.tup [sv "hello", .bool true]]) Z (dM (sv "exchange") tk (.ref 11)) L H I T B X0 X1 X2,19,[],[.le 4 fm true,.eq fm 4 false,.eq fm 7 false,.eq fm 6 false,.len (p++[]).length]):=by kernel_rfl
theorem m_h_a_full:zAh I0 (DE fm 1 ⟨fr,zAr (.list [] p []) (.list [] [] []) B ⟨sv "full", tk,L,H,I,T⟩ X0 X1 X2,[false,false,false,false]⟩) =
  some (.bool true,fr,yM (.list [] p [V.tup [sv "hello", .bool true]]) (.list [] [] []) (dM (sv "full") tk (.ref 11)) L H I T B X0 X1 X2,19,[],[.le 4 fm false,.eq fm 4 false,.eq fm 7 false,.eq fm 6 false,.len (p++[]).length]):=by kernel_rfl
theorem m_h_b_full:zAh I0 (DE fm 1 ⟨fr,zAr (.list [] p []) (.list [] [] []) B ⟨sv "full", tk,L,H,I,T⟩ X0 X1 X2,[true,true,false,false]⟩) =
  some (.bool true,fr,yM (.list [] p [V.tup [sv "hello", .bool true]]) (.list [] [] []) (dM (sv "full") tk (.ref 11)) L H I T B X0 X1 X2,19,[],[.le 4 fm true,.eq fm 4 true,.eq fm 7 false,.eq fm 6 false,.len (p++[]).length]):=by kernel_rfl
theorem m_h_c_full:zAh I0 (DE fm 1 ⟨fr,zAr (.list [] p []) (.list [.tup [sv "hello", .bool false]] q []) B ⟨sv "full", tk,L,H,I,T⟩ X0 X1 X2,[true,true,false,false]⟩) =
  some (.bool true,fr,yM (.list [] p [V.tup [sv "hello", .bool true]]) (.list [.tup [sv "hello", .bool false]] q []) (dM (sv "full") tk (.ref 11)) L H I T B X0 X1 X2,19,[],[.le 4 fm true,.eq fm 4 true,.eq fm 7 false,.eq fm 6 false,.len (p++[]).length]):=by kernel_rfl
theorem m_h_e_full:zAh I0 (DE fm 1 ⟨fr,zAr (.list [] p []) Z B ⟨sv "full", tk,L,H,I,T⟩ X0 X1 X2,[true,false,false,false]⟩) =
  some (.bool true,fr,yM (.list [] p [V.tup [sv "hello", .bool true]]) Z (dM (sv "full") tk (.ref 11)) L H I T B X0 X1 X2,19,[],[.le 4 fm true,.eq fm 4 false,.eq fm 7 false,.eq fm 6 false,.len (p++[]).length]):=by kernel_rfl
theorem m_loss_t:zAh I0 (DE fm 1 ⟨fr,zAr (.list [] p []) (.list [.tup [sv "hello", .bool true]] q []) B ⟨st,tk,L,H,I,T⟩ X0 X1 X2,[true,true]⟩) =
  some (.bool true,fr,yM (.list [] p []) (.list [] q []) (dM st tk (.ref 11)) L H I T B X0 X1 X2,19,[],[.le 4 fm true,.eq fm 4 true]):=by kernel_rfl
theorem m_loss_dh:zAh I0 (DE fm 1 ⟨fr,zAr (.list [] p []) (.list [.tup [sv "dd", zBu bt n (.tup [hdV hk ha])]] q []) B ⟨st,tk,L,H,I,T⟩ X0 X1 X2,[true,true]⟩) =
  some (.bool true,fr,yM (.list [] p []) (.list [] q []) (dM st tk (.ref 11)) L H I T B X0 X1 X2,19,[],[.le 4 fm true,.eq fm 4 true]):=by kernel_rfl
theorem m_loss_dn:zAh I0 (DE fm 1 ⟨fr,zAr (.list [] p []) (.list [.tup [sv "dd", zBu bt n (.tup [])]] q []) B ⟨st,tk,L,H,I,T⟩ X0 X1 X2,[true,true]⟩) =
  some (.bool true,fr,yM (.list [] p []) (.list [] q []) (dM st tk (.ref 11)) L H I T B X0 X1 X2,19,[],[.le 4 fm true,.eq fm 4 true]):=by kernel_rfl
theorem zG6:zAh I0 (DE fm 1 ⟨fr,zAr (.list [] p []) Z B ⟨st,.none,L,H,I,T⟩ X0 X1 X2,[true,false,false,true]⟩) =
  some (.bool true,fr,yM (.list [] p []) Z (dM st .none (.ref 11)) L H I T B X0 X1 X2,19,[],[.le 4 fm true,.eq fm 4 false,.eq fm 7 false,.eq fm 6 true]):=by kernel_rfl
theorem zI5:zAh I0 (DE fm 1 ⟨fr,zAr (.list [] p []) Z B ⟨st,.ref 14,L,H,(.inst "Exchange" 15),(zAj true 9 5 sq rest (pkP 7 n []) "exstart" met)⟩ X0 X1 X2,[true,false,false,true]⟩) =
  some (.bool true,fr,yM (.list [] p [V.tup [sv "dd", (pkP 7 n [])]]) Z (dM st (.ref 14) (.ref 11)) L H (.inst "Exchange" 15) (zAj true 9 5 sq rest (pkP 7 n []) "exstart" met) B X0 X1 X2,19,[],[.le 4 fm true,.eq fm 4 false,.eq fm 7 false,.eq fm 6 true,.len (p++[]).length]):=by kernel_rfl
theorem zHc:zAh I0 (DE fm 1 ⟨fr,zAr (.list [] p []) Z B ⟨st,.ref 14,L,H,(.inst "Exchange" 15),(zAj true 9 5 sq rest (.tup [x0,x1,x2,x3,x4,x5]) "exchange" met)⟩ X0 X1 X2,[true,false,false,true]⟩) =
  some (.bool true,fr,yM (.list [] p [V.tup [sv "dd", (.tup [x0,x1,x2,x3,x4,x5])]]) Z (dM st (.ref 14) (.ref 11)) L H (.inst "Exchange" 15) (zAj true 9 5 sq rest (.tup [x0,x1,x2,x3,x4,x5]) "exchange" met) B X0 X1 X2,19,[],[.le 4 fm true,.eq fm 4 false,.eq fm 7 false,.eq fm 6 true,.len (p++[]).length]):=by kernel_rfl
theorem zOf:zAh I0 (DE fm 1 ⟨fr,zAr (.list [] p []) Z B ⟨st,.ref 14,L,H,(.inst "Exchange" 15),(zAj true 9 5 sq rest sent "full" met)⟩ X0 X1 X2,[true,false,false,true]⟩) =
  some (.bool true,fr,yM (.list [] p []) Z (dM st (.ref 14) (.ref 11)) L H (.inst "Exchange" 15) (zAj true 9 5 sq rest sent "full" met) B X0 X1 X2,19,[],[.le 4 fm true,.eq fm 4 false,.eq fm 7 false,.eq fm 6 true]):=by kernel_rfl
theorem zI4:zAh [0,1,2,3,4,5,6,7,8,9,10,21,12,13,14,15,16,17,18] (DE fm 1 ⟨fr,zAr (.list [] p []) Z B ⟨st,.none,L,H,I,T⟩ X0 X1 X2,[true,false,true]⟩) =
  some (.bool true,fr,yM (.list [] p [V.tup [sv "hello", .bool false]]) Z (dM (sv "down") .none (.ref 21)) L (.list [] [] []) I T B X0 X1 X2,22,[],[.le 4 fm true,.eq fm 4 false,.eq fm 7 true,.len (p++[]).length]):=by kernel_rfl
theorem zE0:zAh [0,1,2,3,4,5,6,7,8,9,10,21,12,13,14,15,16,17,18] (DE fm 1 ⟨fr,zAr (.list [] p []) Z B ⟨st,.ref 14,L,H,(.inst "Exchange" 15),(.attrs zBo [a0,a1,a2,a3,a4,a5,a6,a7,a8,a9,a10,.dct [] []])⟩ X0 X1 X2,[true,false,true]⟩) =
  some (.bool true,fr,yM (.list [] p [V.tup [sv "hello", .bool false]]) Z (dM (sv "down") .none (.ref 21)) L (.list [] [] []) (.inst "Exchange" 15) (.attrs zBo [a0,a1,a2,a3,a4,a5,a6,a7,a8,a9,a10,.dct [] []]) B X0 X1 X2,22,[],[.le 4 fm true,.eq fm 4 false,.eq fm 7 true,.len (p++[]).length]):=by kernel_rfl
end
inductive zFq (ix:List Nat):List AO->List AO->Prop
 |nil:zFq ix [] []
 |cons {o o' l l'}:zBe ix o o'->zFq ix l l'->zFq ix (o::l) (o'::l')
theorem zFq.len{ix:List Nat} {l l':List AO} (h:zFq ix l l'):l.length=l'.length:=h.rec rfl λ_ _ ih=>congrArg Nat.succ ih
theorem zFq.at{ix:List Nat} {l l':List AO} {j:Nat} {o':AO} (h:zFq ix l l') (e:l'[j]?=some o'):∃ o,l[j]?=some o/\zBe ix o o':=by
 induction h generalizing j with
 |nil=>cases e
 |cons h _ ih =>
  cases j with
  |zero=>cases e; exact⟨_,rfl,h⟩
  |succ j=>exact ih e
noncomputable def zAo (at_ turn k:Nat):Int:=((1000*turn+500*at_+k:Nat):Int)
noncomputable def more:List V->Int
 |[]=>0
 |_::_=>2
noncomputable def zCz (s t k:Nat):V:=pkP (more ((zAl 0 s).drop (k+1))) (zAo 1 t k) (((zAl 0 s).drop k).take 1)
noncomputable def zA3 (t:Nat):Nat->Int
 |0=>7
 |k+1=>1+more ((zAl 1 t).drop (k+1))
noncomputable def zB5 (t:Nat):Nat->List V
 |0=>[]
 |k+1=>((zAl 1 t).drop k).take 1
noncomputable def zBg (t k:Nat):V:=pkP (zA3 t k) (zAo 1 t k) (zB5 t k)
noncomputable def i0V (s:Nat):V:=pkP 7 (zAo 0 s 0) []
noncomputable def zD7:Pl.Msg->String
 | .hello _ => "hello"
 |_ => "dd"
noncomputable def zD6:Pl.Msg->V
 | .hello b=>.bool b
 | .i0 s=>i0V s
 | .ans s t k=>zCz s t k
 | .i1 t=>zBg t 0
 | .dat t k=>zBg t k
noncomputable def zRd (m:Pl.Msg):V:=.tup [sv (zD7 m),zD6 m]
noncomputable def zAg (at_ n:Nat):List V:=(List.range n).map λi=>.lst (zAq at_ (i+1))
noncomputable def sdS (n0:Nat):Pl.Ss->Sd
 | .down=>⟨sv "down", .none,.list [] (zAg 0 n0) [],.list [] [] [],.dead,.dead⟩
 | .init=>⟨sv "init", .none,.list [] (zAg 0 n0) [],.list [] [] [],.dead,.dead⟩
 | .exst=>⟨sv "exstart", .ref 12,.list [] (zAg 0 n0) [],.list [] [] [],.inst "Exchange" 13,zAj true 5 9 (zAo 0 n0 0) (zAl 0 n0) (i0V n0) "exstart" .none⟩
 | .exch t k=>⟨sv "exchange", .ref 12,.list [] (zAg 0 n0) [],.list [] ((zAq 1 t).take k) [],.inst "Exchange" 13,
   zAj false 5 9 (zAo 1 t k) ((zAl 0 n0).drop (k+1)) (zCz n0 t k) "exchange" (zBg t k)⟩
 | .full t k=>⟨sv "full", .ref 12,.list [] (zAg 0 n0) [],.list [] ((zAq 1 t).take k) [],.inst "Exchange" 13,
   zAj false 5 9 (zAo 1 t k) ((zAl 0 n0).drop (k+1)) (zCz n0 t k) "full" (zBg t k)⟩
noncomputable def sdM (n1:Nat):Pl.Ms->Sd
 | .down=>⟨sv "down", .none,.list [] (zAg 1 n1) [],.list [] [] [],.dead,.dead⟩
 | .init=>⟨sv "init", .none,.list [] (zAg 1 n1) [],.list [] [] [],.dead,.dead⟩
 | .exst=>⟨sv "exstart", .ref 14,.list [] (zAg 1 n1) [],.list [] [] [],.inst "Exchange" 15,zAj true 9 5 (zAo 1 n1 0) (zAl 1 n1) (zBg n1 0) "exstart" .none⟩
 | .exch k s=>⟨sv "exchange", .ref 14,.list [] (zAg 1 n1) [],.list [] ((zAq 0 s).take k) [],.inst "Exchange" 15,
   zAj true 9 5 (zAo 1 n1 k) ((zAl 1 n1).drop k) (zBg n1 k) "exchange" (zCz s n1 (k-1))⟩
 | .full s=>⟨sv "full", .ref 14,.list [] (zAg 1 n1) [],.list [] ((zAq 0 s).take (Pl.K s n1+1)) [],.inst "Exchange" 15,
   zAj true 9 5 (zAo 1 n1 (Pl.K s n1)) ((zAl 1 n1).drop (Pl.K s n1)) (zBg n1 (Pl.K s n1)) "full" (zCz s n1 (Pl.K s n1))⟩
noncomputable def zAb (l:List Pl.Msg):List V:=l.map zRd
noncomputable def zDa (w:Pl.W) (X0 X1 X2:AO):List AO:=zAr (.list [] (zAb w.l0) []) (.list [] (zAb w.l1) []) (sdS w.n0 w.S) (sdM w.n1 w.M) X0 X1 X2
theorem zPw{n:Nat} {l:List V} (h:∀ v∈l,okV n v=true):okV (n+1) (.tup l)=true:=by
 unfold okV; exact List.all_eq_true.mpr h
theorem zPu{n:Nat} {l:List V} (h:∀ v∈l,okV n v=true):okV (n+1) (.lst l)=true:=by
 unfold okV; exact List.all_eq_true.mpr h
theorem okV_head(n at_ turn j:Nat):okV (n+2) (headV at_ turn j)=true:=rfl
theorem zPv(n at_ turn j:Nat):okV (n+2) (keyV at_ turn j)=true:=rfl
theorem zA0{n at_ turn:Nat}:∀ v∈zAl at_ turn,okV (n+2) v=true:=λv h=>by
 obtain⟨j,_,rfl⟩:=List.mem_map.mp h;exact okV_head n at_ turn j
theorem zCt{n at_ turn:Nat}:∀ v∈zAq at_ turn,okV (n+2) v=true:=λv h=>by
 obtain⟨j,_,rfl⟩:=List.mem_map.mp h;exact zPv n at_ turn j
theorem okV_dd(n:Nat):okV (n+1) (sv "dd")=true:=by show PyData.strOk (Str.ofString "dd")=true; decide +kernel
theorem okV_hello(n:Nat):okV (n+1) (sv "hello")=true:=by show PyData.strOk (Str.ofString "hello")=true; decide +kernel
theorem okV_pk{n:Nat} {b m:Int} {l:List V} (h:∀ v∈l,okV (n+1) v=true):okV (n+3) (pkP b m l)=true:=by
 refine zPw λv hv=>?_
 have e:okV (n+2) (sv "dd")=true:=okV_dd _
 have hl:okV (n+2) (.tup l)=true:=zPw h;simp only [List.mem_cons,List.not_mem_nil,or_false] at hv
 rcases hv with rfl|rfl|rfl|rfl|rfl|rfl<;>first|exact e|exact hl|rfl
theorem zId{α:Type} {l:List α} {k n:Nat} {v:α} (h:v∈(l.drop k).take n):v∈l:=List.mem_of_mem_drop (List.mem_of_mem_take h)
theorem zBm(n s t k:Nat):okV (n+4) (zCz s t k)=true:=okV_pk λv h=>zA0 v (zId h)
theorem zAw(n t k:Nat):okV (n+4) (zBg t k)=true:=okV_pk λv h=>by
 cases k with
 |zero=>cases h
 |succ k=>exact zA0 v (zId h)
theorem zEr(n s:Nat):okV (n+4) (i0V s)=true:=okV_pk λv h=>nomatch h
theorem okV_thing(m:Pl.Msg):okV 11 (zD6 m)=true:=by
 cases m with
 |hello b=>rfl
 |i0 s=>exact zEr 7 s
 |ans s t k=>exact zBm 7 s t k
 |i1 t=>exact zAw 7 t 0
 |dat t k=>exact zAw 7 t k
theorem zCi(m:Pl.Msg):okV 12 (zRd m)=true:=by
 refine zPw λv hv=>?_;simp only [List.mem_cons,List.not_mem_nil,or_false] at hv
 rcases hv with rfl|rfl
 ·cases m with
  |hello b=>exact okV_hello _
  |_=>exact okV_dd _
 ·exact okV_thing m
theorem zAk(l:List Pl.Msg):∀ v∈zAb l,okV 12 v=true:=λv h=>by
 obtain⟨m,_,rfl⟩:=List.mem_map.mp h;exact zCi m
theorem zAi(at_ n:Nat):∀ v∈zAg at_ n,okV 12 v=true:=λv h=>by
 obtain⟨i,_,rfl⟩:=List.mem_map.mp h;exact zPu λv h=>zCt (n:=9) v h
theorem zK6(at_ n:Nat):zAg at_ (n+1)=zAg at_ n++[.lst (zAq at_ (n+1))]:=by
 unfold zAg; rw [List.range_succ,List.map_append]; rfl
theorem zA8(at_ n:Nat):(zAg at_ n).length=n:=by unfold zAg; simp
theorem zFe(l:List Pl.Msg) (m:Pl.Msg):zAb (l++[m])=zAb l++[zRd m]:=by unfold zAb; rw [List.map_append]; rfl
theorem zM2(l:List Pl.Msg):(zAb l).length=l.length:=by unfold zAb; simp
section
variable {ix:List Nat}
theorem self{n:Nat} {v:V} (h:okV n v=true):zCx ix v v:=okV_ren h
theorem zCf{n:Nat} {l:List V} (h:∀ v∈l,okV n v=true):zBl ix l l:=zQ7 (List.all_eq_true.mpr h)
theorem zAe{l:List V} (h:∀ v∈l,okV 12 v=true):zBe ix (.list [] l []) (.list [] l []):=zAs h .nil
theorem zEy{l:List V} {v v':V} (h:∀ v∈l,okV 12 v=true) (r:zCx ix v v') (h':okV 12 v'=true):zBe ix (.list [] l [v]) (.list [] (l++[v']) []):=by
 refine⟨?_,λd hd=>?_⟩
 ·show zBl ix (l++[v]) ((l++[v'])++[]);rw [List.append_nil];exact zBl.app (zCf h) (.cons r .nil)
 ·rcases List.mem_append.mp hd with q|q
  ·exact h d q
  ·rw [List.mem_singleton.mp q]; exact h'
theorem zPo{b:Bool} {v v':V} {l:List V} (h:∀ v∈l,okV 12 v=true) (r:zCx ix v v') (h':okV 12 v'=true):zBe ix (ownL b v l) (.list [] (match b with|true=>v'::l|false=>l) []):=by
 cases b with
 |false=>exact zAe h
 |true =>
  refine⟨?_,λd hd=>?_⟩
  ·show zBl ix (v::(l++[])) ((v'::l)++[]);rw [List.append_nil,List.append_nil];exact .cons r (zCf h)
  ·rcases List.mem_cons.mp hd with q|q
   ·rw [q]; exact h'
   ·exact h d q
theorem zIw{v v':V} {l:List V} (h:∀ v∈l,okV 12 v=true) (r:zCx ix v v'):zBe ix (.list [] (v::l) []) (.list [v'] l []):=by
 refine⟨?_,h⟩;show zBl ix ((v::l)++[]) (v'::(l++[]));rw [List.append_nil,List.append_nil];exact .cons r (zCf h)
theorem zA4{ma:Bool} {ow ot sq sq':Int} {lf lf':List V} {se se' me me':V} {st:String} (h1:sq=sq') (h2:zBl ix lf lf') (h3:zCx ix se se') (h4:zCx ix me me') :
  zBe ix (zAj ma ow ot sq lf se st me) (zAj ma ow ot sq' lf' se' st me') :=
 ⟨rfl,.cons (.ii rfl)<|.cons (.ii rfl)<|.cons (.ii rfl)<|.cons (.bool _)<|.cons (.ss h1)<|.cons (.lst h2)<|.cons h3<|.cons (.ii rfl)<|.cons (.ii rfl)<|.cons (.str _)<|.cons h4<|.cons (.dct .nil) .nil⟩
theorem zPp{b b' n n':Int} {l l':List V} (h1:b=b') (h2:n=n') (h3:zBl ix l l'):zCx ix (pkP b n l) (zBu b' n' (.tup l')) :=
 .tup (.cons (.str _)<|.cons (.ii rfl)<|.cons (.ii rfl)<|.cons (.is h1)<|.cons (.ss h2)<|.cons (.tup h3) .nil)
theorem zIv{b b' n n':Int} {l l':List V} (h1:b=b') (h2:n=n') (h3:zBl ix l l'):zCx ix (zBu b n (.tup l)) (pkP b' n' l') :=
 .tup (.cons (.str _)<|.cons (.ii rfl)<|.cons (.ii rfl)<|.cons (.si h1)<|.cons (.ss h2)<|.cons (.tup h3) .nil)
theorem zBs{st tk tk' hr hr':V} (h8:ix[8]?=some 8) (h1:zCx ix tk tk') (h2:zCx ix hr hr') {x:Str} (hs:st=.str x):zBe ix (dS st tk hr) (dS st tk' hr'):=by
 subst hs;exact⟨rfl,.cons (.str _)<|.cons h1<|.cons (.ref h8)<|.cons h2 .nil⟩
theorem zBh{st tk tk' hr hr':V} (h9:ix[9]?=some 9) (h1:zCx ix tk tk') (h2:zCx ix hr hr') {x:Str} (hs:st=.str x):zBe ix (dM st tk hr) (dM st tk' hr'):=by
 subst hs;exact⟨rfl,.cons (.str _)<|.cons h1<|.cons (.ref h9)<|.cons h2 .nil⟩
theorem zAn{k:Str} {d d':Nat} (h:ix[d']?=some d):zBe ix (.inst k d) (.inst k d'):=⟨rfl,h⟩
end
noncomputable def Xok (X0 X1 X2:AO):Prop:=∀ ix:List Nat,ix[17]?=some 17->zBe ix X0 X0/\zBe ix X1 X1/\zBe ix X2 X2
noncomputable abbrev R19:List Nat:=List.range 19
noncomputable def fixes (l ix:List Nat):Bool:=l.all λi=>decide (ix[i]?=some i)
noncomputable def good (l ix:List Nat) (N:Nat):Bool:=decide ix.Nodup && decide (ix.length=19) && fixes l ix && ix.all λi=>decide (i<N)
noncomputable def keptS:List Nat:=[1,2,3,4,5,6,7,8,9,11,14,15,16,17,18]
noncomputable def keptM:List Nat:=[1,2,3,4,5,6,7,8,9,10,12,13,16,17,18]
theorem zNc{l ix:List Nat} (h:fixes l ix=true) {i:Nat} (hi:i∈l):ix[i]?=some i:=of_decide_eq_true (List.all_eq_true.mp h i hi)
noncomputable def stay (b:Bool) (m:Pl.Msg) (r:List Pl.Msg):List Pl.Msg:=match b with
 |true=>m::r
 |false=>r
structure IxOk (ix:List Nat) (N:Nat):Prop where
 lt:∀ i∈ix,i<N
 nd:ix.Nodup
 len:ix.length=19
 i1:ix[1]?=some 1
 i16:ix[16]?=some 16
 i17:ix[17]?=some 17
 i18:ix[18]?=some 18
noncomputable def zB4 (X0 X1 X2:AO) (w w':Pl.W) (f:Int) (at_:Int):Prop:=∃ (σp:List AO) (ix:List Nat) (N:Nat) (orc:List Bool) (obs:List Ob),
 zFq R19 (zDa w X0 X1 X2) σp/\(Oks obs)/\IxOk ix N /\
 ∀ fr,∃ s1,s1.length=N/\RB.call 41 (.fn "_law_deed") [.ref 1,.sym f,.int at_] ⟨fr,σp,orc⟩=some (.bool true,⟨fr,s1,[]⟩,obs)/\zFq ix (ix.map (pickA s1)) (zDa w' X0 X1 X2)
theorem zBr{ix:List Nat} (n1:Nat) (M:Pl.Ms) (h9:ix[9]?=some 9) (h11:ix[11]?=some 11) (h14:ix[14]?=some 14) (h15:ix[15]?=some 15) :
  zBe ix (dM (sdM n1 M).st (sdM n1 M).talk (.ref 11)) (dM (sdM n1 M).st (sdM n1 M).talk (.ref 11))/\zBe ix (sdM n1 M).lists (sdM n1 M).lists/\zBe ix (sdM n1 M).heard (sdM n1 M).heard /\
  zBe ix (sdM n1 M).inst (sdM n1 M).inst/\zBe ix (sdM n1 M).td (sdM n1 M).td:=by
 have e:zBe ix (.list [] [] []) (.list [] [] []):=zAe λ_ h=>nomatch h;have L:zBe ix (.list [] (zAg 1 n1) []) (.list [] (zAg 1 n1) []):=zAe (zAi 1 n1)
 cases M with
 |down=>exact⟨zBh h9 .none (.ref h11) rfl,L,e,trivial,trivial⟩
 |init=>exact⟨zBh h9 .none (.ref h11) rfl,L,e,trivial,trivial⟩
 |exst=>exact⟨zBh h9 (.ref h14) (.ref h11) rfl,L,e,zAn h15,zA4 rfl (zCf (zA0 (n:=10))) (self (zAw 8 _ _)) .none⟩
 |exch k s=>exact⟨zBh h9 (.ref h14) (.ref h11) rfl,L,zAe λv h=>zCt (n:=10) v (List.mem_of_mem_take h),zAn h15,
   zA4 rfl (zCf λv h=>zA0 (n:=10) v (List.mem_of_mem_drop h)) (self (zAw 8 _ _)) (self (zBm 8 _ _ _))⟩
 |full s=>exact⟨zBh h9 (.ref h14) (.ref h11) rfl,L,zAe λv h=>zCt (n:=10) v (List.mem_of_mem_take h),zAn h15,
   zA4 rfl (zCf λv h=>zA0 (n:=10) v (List.mem_of_mem_drop h)) (self (zAw 8 _ _)) (self (zBm 8 _ _ _))⟩
theorem zBq{ix:List Nat} (n0:Nat) (S:Pl.Ss) (h8:ix[8]?=some 8) (h10:ix[10]?=some 10) (h12:ix[12]?=some 12) (h13:ix[13]?=some 13) :
  zBe ix (dS (sdS n0 S).st (sdS n0 S).talk (.ref 10)) (dS (sdS n0 S).st (sdS n0 S).talk (.ref 10))/\zBe ix (sdS n0 S).lists (sdS n0 S).lists/\zBe ix (sdS n0 S).heard (sdS n0 S).heard /\
  zBe ix (sdS n0 S).inst (sdS n0 S).inst/\zBe ix (sdS n0 S).td (sdS n0 S).td:=by
 have e:zBe ix (.list [] [] []) (.list [] [] []):=zAe λ_ h=>nomatch h;have L:zBe ix (.list [] (zAg 0 n0) []) (.list [] (zAg 0 n0) []):=zAe (zAi 0 n0)
 cases S with
 |down=>exact⟨zBs h8 .none (.ref h10) rfl,L,e,trivial,trivial⟩
 |init=>exact⟨zBs h8 .none (.ref h10) rfl,L,e,trivial,trivial⟩
 |exst=>exact⟨zBs h8 (.ref h12) (.ref h10) rfl,L,e,zAn h13,zA4 rfl (zCf (zA0 (n:=10))) (self (zEr 8 _)) .none⟩
 |exch t k=>exact⟨zBs h8 (.ref h12) (.ref h10) rfl,L,zAe λv h=>zCt (n:=10) v (List.mem_of_mem_take h),zAn h13,
   zA4 rfl (zCf λv h=>zA0 (n:=10) v (List.mem_of_mem_drop h)) (self (zBm 8 _ _ _)) (self (zAw 8 _ _))⟩
 |full t k=>exact⟨zBs h8 (.ref h12) (.ref h10) rfl,L,zAe λv h=>zCt (n:=10) v (List.mem_of_mem_take h),zAn h13,
   zA4 rfl (zCf λv h=>zA0 (n:=10) v (List.mem_of_mem_drop h)) (self (zBm 8 _ _ _)) (self (zAw 8 _ _))⟩
theorem zBv{ix:List Nat} {l0 l1 d0 d1 L0 L1 h0 h1 i0 t0 i1 t1 X0 X1 X2 l0' l1' d0' d1' L0' L1' h0' h1' i0' t0' i1' t1' X0' X1' X2':AO} (e2:ix[2]?=some 2) (e3:ix[3]?=some 3) (e4:ix[4]?=some 4) (e5:ix[5]?=some 5) (e6:ix[6]?=some 6) (e7:ix[7]?=some 7)
  (a1:zBe ix l0 l0') (a2:zBe ix l1 l1') (a3:zBe ix d0 d0') (a4:zBe ix d1 d1') (a5:zBe ix L0 L0') (a6:zBe ix L1 L1') (a7:zBe ix h0 h0') (a8:zBe ix h1 h1') (a9:zBe ix i0 i0') (b1:zBe ix t0 t0') (b2:zBe ix i1 i1') (b3:zBe ix t1 t1')
  (b4:zBe ix X0 X0') (b5:zBe ix X1 X1') (b6:zBe ix X2 X2') :
  zFq ix (zOi l0 l1 d0 d1 L0 L1 h0 h1 i0 t0 i1 t1 X0 X1 X2) (zOi l0' l1' d0' d1' L0' L1' h0' h1' i0' t0' i1' t1' X0' X1' X2'):=by
 have nil:∀ d∈([]:List V),okV 12 d=true:=λ_ h=>nomatch h
 refine .cons trivial<|.cons ⟨rfl,.cons (.ref e2)<|.cons (.ref e5) .nil⟩<|.cons ⟨?_,nil⟩<|.cons a1<|.cons a2<|.cons ⟨?_,nil⟩<|.cons a3<|.cons a4<|.cons a5<|.cons a6<|.cons a7<|.cons a8<|.cons a9<|.cons b1<|.cons b2<|.cons b3<|.cons b4<|.cons b5<|.cons b6 .nil
 ·exact .cons (.ref e3)<|.cons (.ref e4) .nil
 ·exact .cons (.ref e6)<|.cons (.ref e7) .nil
structure PreS (ix:List Nat) (a b:Sd):Prop where
 st:b.st=a.st
 tk:b.talk=a.talk
 d:zBe ix (dS a.st a.talk (.ref 10)) (dS b.st b.talk (.ref 10))
 l:zBe ix a.lists b.lists
 h:zBe ix a.heard b.heard
 i:zBe ix a.inst b.inst
 t:zBe ix a.td b.td
structure PreM (ix:List Nat) (a b:Sd):Prop where
 st:b.st=a.st
 tk:b.talk=a.talk
 d:zBe ix (dM a.st a.talk (.ref 11)) (dM b.st b.talk (.ref 11))
 l:zBe ix a.lists b.lists
 h:zBe ix a.heard b.heard
 i:zBe ix a.inst b.inst
 t:zBe ix a.td b.td
theorem zB1{X0 X1 X2:AO} (hX:Xok X0 X1 X2) {n0 n1 n0':Nat} {S S':Pl.Ss} {M:Pl.Ms} {m:Pl.Msg} {r l1 l1':List Pl.Msg} {b3:Bool} {f:Int} {ix:List Nat} {N:Nat} {obs:List Ob} {orc:List Bool} {a:Sd} {thing:V} {ln d0 L H I T:AO}
  (hk:∀ fr,zAh ix (RB.call 41 (.fn "_law_deed") [.ref 1,.sym f,.int 0] ⟨fr,zAr (.list [.tup [sv (zD7 m),thing]] (zAb r) []) (.list [] (zAb l1) []) a (sdM n1 M) X0 X1 X2,orc⟩) =
   some (.bool true,fr,zOi (ownL b3 (.tup [sv (zD7 m),thing]) (zAb r)) ln d0 (dM (sdM n1 M).st (sdM n1 M).talk (.ref 11)) L (sdM n1 M).lists H (sdM n1 M).heard I T (sdM n1 M).inst (sdM n1 M).td X0 X1 X2,N,[],obs))
  (ok:Oks obs) (hix:good keptS ix N=true) (hm:zCx R19 (zD6 m) thing) (hm':zCx ix thing (zD6 m)) (pre:PreS R19 (sdS n0 S) a)
  (pl:zBe ix ln (.list [] (zAb l1') [])) (pd:zBe ix d0 (dS (sdS n0' S').st (sdS n0' S').talk (.ref 10))) (pL:zBe ix L (sdS n0' S').lists) (pH:zBe ix H (sdS n0' S').heard) (pI:zBe ix I (sdS n0' S').inst) (pT:zBe ix T (sdS n0' S').td) :
  zB4 X0 X1 X2 ⟨n0,n1,S,M,m::r,l1⟩ ⟨n0',n1,S',M,stay b3 m r,l1'⟩ f 0:=by
 unfold good at hix;rw [Bool.and_eq_true,Bool.and_eq_true,Bool.and_eq_true] at hix;obtain⟨⟨⟨nd,hl⟩,hf⟩,hlt⟩:=hix;have hlt:∀ i∈ix,i<N:=λi hi=>of_decide_eq_true (List.all_eq_true.mp hlt i hi);have F:∀ i∈keptS,ix[i]?=some i:=λi hi=>zNc hf hi;obtain⟨x0,x1,x2⟩:=hX R19 (by rfl);obtain⟨y0,y1,y2⟩:=hX ix (F 17 (by decide));have q:=zBr (ix:=R19) n1 M (by rfl) (by rfl) (by rfl) (by rfl);have q':=zBr (ix:=ix) n1 M (F 9 (by decide)) (F 11 (by decide)) (F 14 (by decide)) (F 15 (by decide));refine⟨zAr (.list [.tup [sv (zD7 m),thing]] (zAb r) []) (.list [] (zAb l1) []) a (sdM n1 M) X0 X1 X2,ix,N,orc,obs,?_,ok,⟨hlt,of_decide_eq_true nd,of_decide_eq_true hl,F 1 (by decide),F 16 (by decide),F 17 (by decide),F 18 (by decide)⟩,λfr=>?_⟩
 rotate_left
 ·obtain⟨s1,e,eN,e2⟩:=zEk (hk fr);refine⟨s1,eN,e,?_⟩;rw [e2];refine zBv (F 2 (by decide)) (F 3 (by decide)) (F 4 (by decide)) (F 5 (by decide)) (F 6 (by decide)) (F 7 (by decide)) ?_ pl pd q'.1 pL q'.2.1 pH q'.2.2.1 pI pT q'.2.2.2.1 q'.2.2.2.2 y0 y1 y2
  have:=zPo (b:=b3) (zAk r) (v:=.tup [sv (zD7 m),thing]) (v':=zRd m) (.tup (.cons (.str _) (.cons hm' .nil))) (zCi m)
  cases b3<;>exact this
 ·refine zBv (by rfl) (by rfl) (by rfl) (by rfl) (by rfl) (by rfl) (zIw (zAk r) (.tup (.cons (.str _) (.cons hm .nil)))) (zAe (zAk l1)) pre.d q.1 pre.l q.2.1 pre.h q.2.2.1 pre.i pre.t q.2.2.2.1 q.2.2.2.2 x0 x1 x2
theorem zBx{X0 X1 X2:AO} (hX:Xok X0 X1 X2) {n0 n1 n1':Nat} {S:Pl.Ss} {M M':Pl.Ms} {m:Pl.Msg} {r l0 l0':List Pl.Msg} {b3:Bool} {f:Int} {ix:List Nat} {N:Nat} {obs:List Ob} {orc:List Bool} {a:Sd} {thing:V} {ln d0 L H I T:AO}
  (hk:∀ fr,zAh ix (RB.call 41 (.fn "_law_deed") [.ref 1,.sym f,.int 1] ⟨fr,zAr (.list [] (zAb l0) []) (.list [.tup [sv (zD7 m),thing]] (zAb r) []) (sdS n0 S) a X0 X1 X2,orc⟩) =
   some (.bool true,fr,zOi ln (ownL b3 (.tup [sv (zD7 m),thing]) (zAb r)) (dS (sdS n0 S).st (sdS n0 S).talk (.ref 10)) d0 (sdS n0 S).lists L (sdS n0 S).heard H (sdS n0 S).inst (sdS n0 S).td I T X0 X1 X2,N,[],obs))
  (ok:Oks obs) (hix:good keptM ix N=true) (hm:zCx R19 (zD6 m) thing) (hm':zCx ix thing (zD6 m)) (pre:PreM R19 (sdM n1 M) a)
  (pl:zBe ix ln (.list [] (zAb l0') [])) (pd:zBe ix d0 (dM (sdM n1' M').st (sdM n1' M').talk (.ref 11))) (pL:zBe ix L (sdM n1' M').lists) (pH:zBe ix H (sdM n1' M').heard) (pI:zBe ix I (sdM n1' M').inst) (pT:zBe ix T (sdM n1' M').td) :
  zB4 X0 X1 X2 ⟨n0,n1,S,M,l0,m::r⟩ ⟨n0,n1',S,M',l0',stay b3 m r⟩ f 1:=by
 unfold good at hix;rw [Bool.and_eq_true,Bool.and_eq_true,Bool.and_eq_true] at hix;obtain⟨⟨⟨nd,hl⟩,hf⟩,hlt⟩:=hix;have hlt:∀ i∈ix,i<N:=λi hi=>of_decide_eq_true (List.all_eq_true.mp hlt i hi);have F:∀ i∈keptM,ix[i]?=some i:=λi hi=>zNc hf hi;obtain⟨x0,x1,x2⟩:=hX R19 (by rfl);obtain⟨y0,y1,y2⟩:=hX ix (F 17 (by decide));have q:=zBq (ix:=R19) n0 S (by rfl) (by rfl) (by rfl) (by rfl);have q':=zBq (ix:=ix) n0 S (F 8 (by decide)) (F 10 (by decide)) (F 12 (by decide)) (F 13 (by decide));refine⟨zAr (.list [] (zAb l0) []) (.list [.tup [sv (zD7 m),thing]] (zAb r) []) (sdS n0 S) a X0 X1 X2,ix,N,orc,obs,?_,ok,⟨hlt,of_decide_eq_true nd,of_decide_eq_true hl,F 1 (by decide),F 16 (by decide),F 17 (by decide),F 18 (by decide)⟩,λfr=>?_⟩
 rotate_left
 ·obtain⟨s1,e,eN,e2⟩:=zEk (hk fr);refine⟨s1,eN,e,?_⟩;rw [e2];refine zBv (F 2 (by decide)) (F 3 (by decide)) (F 4 (by decide)) (F 5 (by decide)) (F 6 (by decide)) (F 7 (by decide)) pl ?_ q'.1 pd q'.2.1 pL q'.2.2.1 pH q'.2.2.2.1 q'.2.2.2.2 pI pT y0 y1 y2
  have:=zPo (b:=b3) (zAk r) (v:=.tup [sv (zD7 m),thing]) (v':=zRd m) (.tup (.cons (.str _) (.cons hm' .nil))) (zCi m)
  cases b3<;>exact this
 ·refine zBv (by rfl) (by rfl) (by rfl) (by rfl) (by rfl) (by rfl) (zAe (zAk l0)) (zIw (zAk r) (.tup (.cons (.str _) (.cons hm .nil)))) q.1 pre.d q.2.1 pre.l q.2.2.1 pre.h q.2.2.2.1 q.2.2.2.2 pre.i pre.t x0 x1 x2
noncomputable def zAd {α:Type} (m:M α) (s:S0) (a:α) (s':S0):Prop:=∃ ob,m s=some (a,s',ob)/\Oks ob
section
variable {α β:Type}
theorem zAd.bind{m:M α} {k:α->M β} {s s₁ s':S0} {a:α} {b:β} (h1:zAd m s a s₁) (h2:zAd (k a) s₁ b s'):zAd (M.b m k) s b s':=by
 obtain⟨o1,e1,k1⟩:=h1;obtain⟨o2,e2,k2⟩:=h2
 refine⟨o1++o2,?_,λo h=>?_⟩
 ·unfold M.b; rw [e1]; dsimp only; rw [e2]
 ·rcases List.mem_append.mp h with q|q
  ·exact k1 o q
  ·exact k2 o q
theorem zAd.pure{s:S0} {a:α}:zAd (M.p a) s a s:=⟨[],rfl,zAc⟩
theorem zAd.of{m:M α} {s s':S0} {a:α} {ob:List Ob} (e:m s=some (a,s',ob)) (ok:Oks ob):zAd m s a s':=⟨ob,e,ok⟩
theorem zAd.of0{m:M α} {s s':S0} {a:α} (e:m s=some (a,s',[])):zAd m s a s':=⟨[],e,zAc⟩
end
section
variable {s t k c n m:Nat}
theorem K_t:(t+1)%4<=Pl.K s t:=Nat.le_trans (Nat.le_max_left _ _) (Nat.le_max_right _ _)
theorem K_s:s%4<=Pl.K s t+1:=Nat.le_add_of_sub_le (Nat.le_trans (Nat.le_max_right _ _) (Nat.le_max_right _ _))
theorem K_to(h1:1<=m) (h2:(t+1)%4<=m) (h3:s%4<=m+1):Pl.K s t<=m:=Nat.max_le.2 ⟨h1,Nat.max_le.2 ⟨h2,Nat.sub_le_of_le_add h3⟩⟩
theorem K_ne1(h:k+1<(t+1)%4):¬k+1=Pl.K s t:=λe=>Nat.not_le_of_lt h (e▸K_t)
theorem K_ne0(h:k+1+1<s%4):¬k+1=Pl.K s t:=λe=>Nat.not_le_of_lt h (e▸K_s)
theorem K_ne2(h:k+1+1<(t+1)%4):¬k+1=Pl.K s t:=K_ne1 (Nat.lt_of_succ_lt h)
theorem K_ne3(h:(t+1)%4=k+1+1):¬k+1=Pl.K s t:=K_ne1 (Nat.lt_of_succ_le (Nat.le_of_eq h.symm))
theorem K_is(h:k+1<=Pl.K s t) (h2:(t+1)%4<=k+1) (h3:s%4<=k+1+1):k+1=Pl.K s t:=Nat.le_antisymm h (K_to (Nat.succ_le_succ (Nat.zero_le k)) h2 h3)
theorem b_lt(h:k+1<c):k<c:=Nat.lt_of_succ_lt h
theorem zEg(h:k+1=c):k<c:=h▸Nat.lt_succ_self k
theorem b_le(h:c<=k):c<=k+1:=Nat.le_succ_of_le h
theorem zLe(h:k+1=c):c<=k+1:=Nat.le_of_eq h.symm
theorem b_n(h:n<800000):n<900000:=Nat.lt_of_lt_of_le h (Nat.le_of_ble_eq_true rfl)
theorem b_5(h:k<400):k<500:=Nat.lt_of_lt_of_le h (Nat.le_of_ble_eq_true rfl)
theorem b_51(h:k<400):k+1<500:=Nat.lt_of_lt_of_le (Nat.succ_lt_succ h) (Nat.le_of_ble_eq_true rfl)
theorem b_4(h:k<300):k<400:=Nat.lt_of_lt_of_le h (Nat.le_of_ble_eq_true rfl)
theorem b_31(h:k<300):k+1<400:=Nat.lt_of_lt_of_le (Nat.succ_lt_succ h) (Nat.le_of_ble_eq_true rfl)
theorem b_30(h:k<=3):k<400:=Nat.lt_of_le_of_lt h (Nat.le_of_ble_eq_true rfl)
theorem b_num(h:k<400) (h2:t<1000000):1000*t+500*1+k<4000000000 :=
 Nat.lt_of_lt_of_le (Nat.add_lt_add_of_le_of_lt (Nat.add_le_add_right (Nat.mul_le_mul_left 1000 (Nat.le_of_lt h2)) (500*1)) h) (Nat.le_of_ble_eq_true rfl)
theorem b_8(h:t<800000):t<1000000:=Nat.lt_of_lt_of_le h (Nat.le_of_ble_eq_true rfl)
theorem b_num1(h:k<300) (h2:t<800000):1000*t+500*1+(k+1)<4000000000:=b_num (b_31 h) (b_8 h2)
theorem b_num0(h2:t<800000):1000*t+500*1+0<4000000000:=b_num (Nat.le_of_ble_eq_true rfl) (b_8 h2)
theorem b_ss:¬(t=t/\k+1=k):=λh=>Nat.succ_ne_self k h.2
theorem b_sq(h:k<c) (h2:¬k+1<c):c=k+1:=Nat.le_antisymm (Nat.le_of_not_lt h2) h
end
theorem zEs{a t k:Nat} (h:1000*t+500*a+k<4000000000):(zAo a t k+1).fmod 4294967296=zAo a t (k+1):=by
 unfold zAo
 have e:((1000*t+500*a+k:Nat):Int)+1=((1000*t+500*a+(k+1):Nat):Int):=by lia
 rw [e];exact Int.fmod_eq_of_lt (by lia) (by lia)
theorem zBi{l:List Pl.Msg} {vs:List V} (h:l.length<800000) (hv:vs.length<=3):(Ob.len (zAb l++[]++vs).length).Ok:=by
 show (zAb l++[]++vs).length<900000;rw [List.length_append,List.length_append,zM2]
 have:([]:List V).length=0:=rfl
 lia
theorem zBw{l:List Pl.Msg} (h:l.length<800000):(Ob.len (zAb l).length).Ok:=by
 show (zAb l).length<900000;rw [zM2]; exact b_n ‹_›
theorem zOm(a t:Nat):(zAl a t).length=(t+a)%4:=by unfold zAl; simp
theorem zIf(a t:Nat):(zAq a t).length=(t+a)%4:=by unfold zAq; simp
theorem zCn{a t k:Nat}:(Ob.len ((zAq a t).take k++[]).length).Ok:=by
 show ((zAq a t).take k++[]).length<900000
 have h1:((zAq a t).take k).length<=(zAq a t).length:=by rw [List.length_take]; lia
 have h2:=zIf a t;have h3:(t+a)%4<4:=Nat.mod_lt _ (by decide);rw [List.append_nil]; lia
noncomputable abbrev H4 (f:Int):Prop:=decide ((4:Int)<=f)=false
noncomputable abbrev H3 (f:Int) (b:Bool):Prop:=decide (f=3)=b
theorem zCh{d:Bool} {b mb n mn:Int} {l:List Ob} (hd:decide (b=mb)=d) (hne:d=true->n≠mn) (r:∀ o∈l,o.Ok):∀ o∈dqB d b mb n mn++l,o.Ok:=by
 cases d with
 |true=>exact zAa hd<|zAa (decide_eq_false (hne rfl)) r
 |false=>exact zAa hd r
theorem zAz:(Ob.len 0).Ok:=by show (0:Nat)<900000; exact Nat.le_of_ble_eq_true rfl
theorem zL6{a b:Int} (h:a≠b):(Ob.eq a b false).Ok:=decide_eq_false h
theorem zB0{a b:Int} (h:a=b):(Ob.eq a b true).Ok:=decide_eq_true h
theorem zCe{a t k:Nat} (h:k<(t+a)%4):(zAl a t).drop k=headV a t k::(zAl a t).drop (k+1):=by
 have hl:k<(zAl a t).length:=by rw [zOm]; exact h
 have e:(zAl a t)[k]=headV a t k:=by simp [zAl]
 rw [List.drop_eq_getElem_cons hl,e]
theorem zCb{a t k:Nat} (h:(t+a)%4<=k):(zAl a t).drop k=[]:=List.drop_eq_nil_of_le (by rw [zOm]; exact h)
theorem keys_at{a t k:Nat} (h:k<(t+a)%4):(zAq a t).take (k+1)=(zAq a t).take k++[keyV a t k]:=by
 have hl:k<(zAq a t).length:=by rw [zIf]; exact h
 have e:(zAq a t)[k]=keyV a t k:=by simp [zAq]
 rw [List.take_succ_eq_append_getElem hl,e]
theorem keys_end{a t k:Nat} (h:(t+a)%4<=k):(zAq a t).take (k+1)=(zAq a t).take k:=by
 rw [List.take_of_length_le (by rw [zIf]; exact b_le ‹_›),List.take_of_length_le (by rw [zIf]; exact h)]
theorem shape3{α:Type} (l:List α):(∃ x y r,l=x::y::r)\/(∃ x,l=[x])\/l=[]:=by
 match l with
 |[]=>exact .inr (.inr rfl)
 |[x]=>exact .inr (.inl ⟨x,rfl⟩)
 |x::y::r=>exact .inl ⟨x,y,r,rfl⟩
theorem zKt{t k:Nat} (h:k+1<(t+1)%4):zBg t (k+1)=pkP 3 (zAo 1 t (k+1)) [hdV ((100*t+k:Nat):Int) 2]:=by
 show pkP (1+more ((zAl 1 t).drop (k+1))) _ (((zAl 1 t).drop k).take 1)=_;rw [zCe (Nat.lt_of_succ_lt h),zCe h];rfl
theorem zKu{t k:Nat} (h:k+1=(t+1)%4):zBg t (k+1)=pkP 1 (zAo 1 t (k+1)) [hdV ((100*t+k:Nat):Int) 2]:=by
 show pkP (1+more ((zAl 1 t).drop (k+1))) _ (((zAl 1 t).drop k).take 1)=_;rw [zCe (k:=k) (zEg ‹_›),zCb (k:=k+1) (zLe ‹_›)];rfl
theorem zKs{t k:Nat} (h:(t+1)%4<=k):zBg t (k+1)=pkP 1 (zAo 1 t (k+1)) []:=by
 show pkP (1+more ((zAl 1 t).drop (k+1))) _ (((zAl 1 t).drop k).take 1)=_;rw [zCb (k:=k) h,zCb (k:=k+1) (b_le ‹_›)];rfl
theorem zKf{s t k:Nat} (h:k+1<s%4):zCz s t k=pkP 2 (zAo 1 t k) [hdV ((100*s+k:Nat):Int) 1]:=by
 unfold zCz;rw [zCe (a:=0) (Nat.lt_of_succ_lt h),zCe (a:=0) h];rfl
theorem zKg{s t k:Nat} (h:k+1=s%4):zCz s t k=pkP 0 (zAo 1 t k) [hdV ((100*s+k:Nat):Int) 1]:=by
 unfold zCz;rw [zCe (a:=0) (t:=s) (k:=k) (zEg ‹_›),zCb (a:=0) (t:=s) (k:=k+1) (zLe ‹_›)];rfl
theorem zKe{s t k:Nat} (h:s%4<=k):zCz s t k=pkP 0 (zAo 1 t k) []:=by
 unfold zCz;rw [zCb (a:=0) (t:=s) (k:=k) ‹_›,zCb (a:=0) (t:=s) (k:=k+1) (b_le ‹_›)];rfl
noncomputable def ansP (n:Int) (l:List V):V:=pkP (more (l.drop 1)) n (l.take 1)
theorem zDb{s t k:Nat} {l:List V} (h:(zAl 0 s).drop k=l):zCz s t k=ansP (zAo 1 t k) l:=by
 unfold zCz ansP;rw [<-h,List.drop_drop]
theorem zNf{n0 t k:Nat} {l:List V} (h:(zAl 0 n0).drop k=l):sdS n0 (.exch t k)=⟨sv "exchange", .ref 12,.list [] (zAg 0 n0) [],.list [] ((zAq 1 t).take k) [],.inst "Exchange" 13,
  zAj false 5 9 (zAo 1 t k) (l.drop 1) (ansP (zAo 1 t k) l) "exchange" (zBg t k)⟩:=by
 unfold sdS;dsimp only;rw [zDb h,<-h,List.drop_drop]
theorem full_of{n0 t k:Nat} {l:List V} (h:(zAl 0 n0).drop k=l):sdS n0 (.full t k)=⟨sv "full", .ref 12,.list [] (zAg 0 n0) [],.list [] ((zAq 1 t).take k) [],.inst "Exchange" 13,
  zAj false 5 9 (zAo 1 t k) (l.drop 1) (ansP (zAo 1 t k) l) "full" (zBg t k)⟩:=by
 unfold sdS;dsimp only;rw [zDb h,<-h,List.drop_drop]
section
variable {X0 X1 X2:AO} {n0 n1:Nat} {M:Pl.Ms} {r l1:List Pl.Msg} {b3:Bool} {f:Int}
theorem zA1{n0:Nat} {S:Pl.Ss}:PreS R19 (sdS n0 S) (sdS n0 S):=by
 have q:=zBq (ix:=R19) n0 S (by rfl) (by rfl) (by rfl) (by rfl);exact⟨rfl,rfl,q.1,q.2.1,q.2.2.1,q.2.2.2.1,q.2.2.2.2⟩
theorem zAm{ix:List Nat}:zBe ix (.list [] [] []) (.list [] [] []):=zAe λ_ h=>nomatch h
theorem zC2{ix:List Nat}:zBe ix (.list [] (zAb l1) [.tup [sv "dd", zC9 0 (n0+1)]]) (.list [] (zAb (l1++[.i0 (n0+1)])) []):=by
 rw [zFe];exact zEy (zAk l1) (self (n:=12) (v:=zRd (.i0 (n0+1))) (zCi _)) (zCi _)
theorem zBj{ix:List Nat} {a n:Nat}:zBe ix (.list [] (zAg a n) [.lst (zAq a (n+1))]) (.list [] (zAg a (n+1)) []):=by
 rw [zK6];have h:okV 12 (.lst (zAq a (n+1)))=true:=zPu λv h=>zCt (n:=9) v h;exact zEy (zAi a n) (self h) h
theorem zC1{ix:List Nat}:zBe ix (zDp 0 (n0+1)) (sdS (n0+1) .exst).td :=
 zA4 (sq:=zAo 0 (n0+1) 0) rfl (zCf (zA0 (n:=10))) (self (v:=i0V (n0+1)) (zEr 8 _)) .none
theorem S_hT_down(hX:Xok X0 X1 X2) (h4:H4 f) (h3:H3 f b3) (hn:n0<800000) (hl:l1.length<800000) :
  zB4 X0 X1 X2 ⟨n0,n1,.down,M,.hello true::r,l1⟩ ⟨n0+1,n1,.exst,M,stay b3 (.hello true) r,l1++[.i0 (n0+1)]⟩ f 0:=by
 have hk:=λfr=>s_hT_down b3 fr (zAb l1) (zAb r) (zAg 0 n0) (.list [] [] []) .dead .dead X0 X1 X2 f (sdM n1 M);rw [zA8] at hk;have o2:(Ob.len n0).Ok:=b_n hn
 exact zB1 hX hk (zAa h4<|zAa h3<|zAa (zBw hl)<|zAa o2<|zAc) (by decide) (.bool _) (.bool _) (zA1 (n0:=n0) (S:=.down))
  zC2 (zBs (by rfl) (.ref (by rfl)) (.ref (by rfl)) rfl) zBj zAm (zAn (by rfl)) zC1
theorem S_hT_init(hX:Xok X0 X1 X2) (h4:H4 f) (h3:H3 f b3) (hn:n0<800000) (hl:l1.length<800000) :
  zB4 X0 X1 X2 ⟨n0,n1,.init,M,.hello true::r,l1⟩ ⟨n0+1,n1,.exst,M,stay b3 (.hello true) r,l1++[.i0 (n0+1)]⟩ f 0:=by
 have hk:=λfr=>s_hT_init b3 fr (zAb l1) (zAb r) (zAg 0 n0) (.list [] [] []) .dead .dead X0 X1 X2 f (sdM n1 M);rw [zA8] at hk;have o2:(Ob.len n0).Ok:=b_n hn
 exact zB1 hX hk (zAa h4<|zAa h3<|zAa (zBw hl)<|zAa o2<|zAc) (by decide) (.bool _) (.bool _) (zA1 (n0:=n0) (S:=.init))
  zC2 (zBs (by rfl) (.ref (by rfl)) (.ref (by rfl)) rfl) zBj zAm (zAn (by rfl)) zC1
theorem S_hT_exst(hX:Xok X0 X1 X2) (h4:H4 f) (h3:H3 f b3) :
  zB4 X0 X1 X2 ⟨n0,n1,.exst,M,.hello true::r,l1⟩ ⟨n0,n1,.exst,M,stay b3 (.hello true) r,l1⟩ f 0:=by
 have q:=zBq (ix:=R19) n0 (.exst) (by rfl) (by rfl) (by rfl) (by rfl)
 exact zB1 (a:=sdS n0 (.exst)) hX (λfr=>zNx b3 fr _ _ _ _ _ _ _ _ _ _ _ _ _ _ _ _ _ _ _ _ ) (zAa h4<|zAa h3<|zAc) (by decide) (.bool _) (.bool _) zA1
  (zAe (zAk l1)) q.1 q.2.1 q.2.2.1 q.2.2.2.1 q.2.2.2.2
theorem S_hF_exst(hX:Xok X0 X1 X2) (h4:H4 f) (h3:H3 f b3) :
  zB4 X0 X1 X2 ⟨n0,n1,.exst,M,.hello false::r,l1⟩ ⟨n0,n1,.init,M,stay b3 (.hello false) r,l1⟩ f 0:=by
 exact zB1 (a:=sdS n0 (.exst)) hX (λfr=>zNy b3 fr _ _ _ _ _ _ _ _ _ _ _ _ _ _ _ _ _ _ _ _ ) (zAa h4<|zAa h3<|zAc) (by decide) (.bool _) (.bool _) zA1
  (zAe (zAk l1)) (zBs (by rfl) .none (.ref (by rfl)) rfl) (zAe (zAi 0 n0)) zAm trivial trivial
theorem S_hT_exch(hX:Xok X0 X1 X2) (h4:H4 f) (h3:H3 f b3) {t k:Nat} :
  zB4 X0 X1 X2 ⟨n0,n1,.exch t k,M,.hello true::r,l1⟩ ⟨n0,n1,.exch t k,M,stay b3 (.hello true) r,l1⟩ f 0:=by
 have q:=zBq (ix:=R19) n0 (.exch t k) (by rfl) (by rfl) (by rfl) (by rfl)
 exact zB1 (a:=sdS n0 (.exch t k)) hX (λfr=>zL2 b3 fr _ _ _ _ _ _ _ _ _ _ _ _ _ _ _ _ _ _ _ _ ) (zAa h4<|zAa h3<|zAc) (by decide) (.bool _) (.bool _) zA1
  (zAe (zAk l1)) q.1 q.2.1 q.2.2.1 q.2.2.2.1 q.2.2.2.2
theorem S_hF_exch(hX:Xok X0 X1 X2) (h4:H4 f) (h3:H3 f b3) {t k:Nat} :
  zB4 X0 X1 X2 ⟨n0,n1,.exch t k,M,.hello false::r,l1⟩ ⟨n0,n1,.init,M,stay b3 (.hello false) r,l1⟩ f 0:=by
 exact zB1 (a:=sdS n0 (.exch t k)) hX (λfr=>zL3 b3 fr _ _ _ _ _ _ _ _ _ _ _ _ _ _ _ _ _ _ _ _ ) (zAa h4<|zAa h3<|zAc) (by decide) (.bool _) (.bool _) zA1
  (zAe (zAk l1)) (zBs (by rfl) .none (.ref (by rfl)) rfl) (zAe (zAi 0 n0)) zAm trivial trivial
theorem S_hT_full(hX:Xok X0 X1 X2) (h4:H4 f) (h3:H3 f b3) {t k:Nat} :
  zB4 X0 X1 X2 ⟨n0,n1,.full t k,M,.hello true::r,l1⟩ ⟨n0,n1,.full t k,M,stay b3 (.hello true) r,l1⟩ f 0:=by
 have q:=zBq (ix:=R19) n0 (.full t k) (by rfl) (by rfl) (by rfl) (by rfl)
 exact zB1 (a:=sdS n0 (.full t k)) hX (λfr=>s_hT_full b3 fr _ _ _ _ _ _ _ _ _ _ _ _ _ _ _ _ _ _ _ _ ) (zAa h4<|zAa h3<|zAc) (by decide) (.bool _) (.bool _) zA1
  (zAe (zAk l1)) q.1 q.2.1 q.2.2.1 q.2.2.2.1 q.2.2.2.2
theorem S_hF_full(hX:Xok X0 X1 X2) (h4:H4 f) (h3:H3 f b3) {t k:Nat} :
  zB4 X0 X1 X2 ⟨n0,n1,.full t k,M,.hello false::r,l1⟩ ⟨n0,n1,.init,M,stay b3 (.hello false) r,l1⟩ f 0:=by
 exact zB1 (a:=sdS n0 (.full t k)) hX (λfr=>s_hF_full b3 fr _ _ _ _ _ _ _ _ _ _ _ _ _ _ _ _ _ _ _ _ ) (zAa h4<|zAa h3<|zAc) (by decide) (.bool _) (.bool _) zA1
  (zAe (zAk l1)) (zBs (by rfl) .none (.ref (by rfl)) rfl) (zAe (zAi 0 n0)) zAm trivial trivial
theorem S_hF_down(hX:Xok X0 X1 X2) (h4:H4 f) (h3:H3 f b3) :
  zB4 X0 X1 X2 ⟨n0,n1,.down,M,.hello false::r,l1⟩ ⟨n0,n1,.init,M,stay b3 (.hello false) r,l1⟩ f 0:=by
 exact zB1 (a:=sdS n0 .down) hX (λfr=>s_hF_down b3 fr _ _ _ _ _ _ _ _ _ _ _ ) (zAa h4<|zAa h3<|zAc) (by decide) (.bool _) (.bool _) zA1
  (zAe (zAk l1)) (zBs (by rfl) .none (.ref (by rfl)) rfl) (zAe (zAi 0 n0)) zAm trivial trivial
theorem S_hF_init(hX:Xok X0 X1 X2) (h4:H4 f) (h3:H3 f b3) :
  zB4 X0 X1 X2 ⟨n0,n1,.init,M,.hello false::r,l1⟩ ⟨n0,n1,.init,M,stay b3 (.hello false) r,l1⟩ f 0:=by
 exact zB1 (a:=sdS n0 .init) hX (λfr=>s_hF_init b3 fr _ _ _ _ _ _ _ _ _ _ _ ) (zAa h4<|zAa h3<|zAc) (by decide) (.bool _) (.bool _) zA1
  (zAe (zAk l1)) (zBs (by rfl) .none (.ref (by rfl)) rfl) (zAe (zAi 0 n0)) zAm trivial trivial
theorem zB8(t k:Nat):(∃ z,zB5 t k=[hdV z 2])\/zB5 t k=[]:=by
 cases k with
 |zero=>exact .inr rfl
 |succ k =>
  by_cases h:k<(t+1)%4
  ·exact .inl ⟨((100*t+k:Nat):Int),by show ((zAl 1 t).drop k).take 1=_; rw [zCe h]; rfl⟩
  ·exact .inr (by show ((zAl 1 t).drop k).take 1=_; rw [zCb (Nat.le_of_not_lt ‹_›)]; rfl)
theorem zN7(n t k:Nat):∀ v∈zB5 t k,okV (n+2) v=true:=λv h=>by
 cases k with
 |zero=>cases h
 |succ k=>exact zA0 v (zId h)
theorem zCk{ix:List Nat} {t k:Nat} {w:List V} (e:zB5 t k=w):zCx ix (zBg t k) (zBu (zA3 t k) (zAo 1 t k) (.tup w)):=by
 subst e; exact zPp rfl rfl (zCf (zN7 10 t k))
theorem zBn{ix:List Nat} {t k:Nat} {w:List V} (e:zB5 t k=w):zCx ix (zBu (zA3 t k) (zAo 1 t k) (.tup w)) (zBg t k):=by
 subst e; exact zIv rfl rfl (zCf (zN7 10 t k))
theorem zDq{ix:List Nat} {v w:V} (e:v=w) (h:okV 12 v=true):zCx ix v w/\zCx ix w v:=by
 subst e; exact⟨self h,self h⟩
theorem zB2{ix:List Nat} {s t k:Nat} {v:V} (e:v=zCz s t k):zBe ix (.list [] (zAb l1) [.tup [sv "dd", v]]) (.list [] (zAb (l1++[.ans s t k])) []):=by
 subst e;rw [zFe];exact zEy (zAk l1) (self (n:=12) (v:=zRd (.ans s t k)) (zCi _)) (zCi _)
theorem zDd{a t k t' k':Nat} (h:k<500) (h':k'<500) (ne:¬(t=t'/\k=k')):zAo a t k≠zAo a t' k':=by
 unfold zAo; lia
theorem zB6{n0 t k:Nat} {st:String} {S:Pl.Ss} (e:sdS n0 S=⟨sv st,.ref 12,.list [] (zAg 0 n0) [],.list [] ((zAq 1 t).take k) [],.inst "Exchange" 13,zAj false 5 9 (zAo 1 t k) ((zAl 0 n0).drop (k+1)) (zCz n0 t k) st (zBg t k)⟩) :
  PreS R19 (sdS n0 S) ⟨sv st,.ref 12,.list [] (zAg 0 n0) [],.list [] ((zAq 1 t).take k) [],.inst "Exchange" 13,
   zAj false 5 9 (zAo 1 t k) ((zAl 0 n0).drop (k+1)) (zCz n0 t k) st (zBu (zA3 t k) (zAo 1 t k) (.tup (zB5 t k)))⟩:=by
 rw [e]
 exact⟨rfl,rfl,zBs (by rfl) (.ref (by rfl)) (.ref (by rfl)) rfl,zAe (zAi 0 n0),zAe λv h=>zCt (n:=10) v (List.mem_of_mem_take h),zAn (by rfl),
  zA4 rfl (zCf λv h=>zA0 (n:=10) v (List.mem_of_mem_drop h)) (self (zBm 8 _ _ _)) (zCk rfl)⟩
theorem pT_S{n0 t k:Nat} {l:List V} (e':(zAl 0 n0).drop k=l):zBe R19 (zAj false 5 9 (zAo 1 t k) (l.drop 1) (ansP (zAo 1 t k) l) "exchange" (zBg t k)) (sdS n0 (.exch t k)).td:=by
 have ea:=zDb (t:=t) e';rw [zNf e'];subst e';exact zA4 rfl (zCf λv h=>zA0 (n:=10) v (List.mem_of_mem_drop (List.mem_of_mem_drop (i:=1) h))) (self (ea▸zBm 8 n0 t k)) (self (zAw 8 _ _))
theorem pF_S{n0 t k:Nat} {l:List V} (e':(zAl 0 n0).drop k=l):zBe R19 (zAj false 5 9 (zAo 1 t k) (l.drop 1) (ansP (zAo 1 t k) l) "full" (zBg t k)) (sdS n0 (.full t k)).td:=by
 have ea:=zDb (t:=t) e';rw [full_of e'];subst e';exact zA4 rfl (zCf λv h=>zA0 (n:=10) v (List.mem_of_mem_drop (List.mem_of_mem_drop (i:=1) h))) (self (ea▸zBm 8 n0 t k)) (self (zAw 8 _ _))
theorem zKi(hX:Xok X0 X1 X2) (h4:H4 f) (h3:H3 f b3) {t:Nat} :
  zB4 X0 X1 X2 ⟨n0,n1,.down,M,.i1 t::r,l1⟩ ⟨n0,n1,.down,M,stay b3 (.i1 t) r,l1⟩ f 0:=by
 have q:=zBq (ix:=R19) n0 .down (by rfl) (by rfl) (by rfl) (by rfl)
 rcases zB8 t 0 with⟨z,e⟩|e
 ·exact zB1 (a:=sdS n0 .down) (m:=.i1 t) hX (λfr=>zIa b3 fr (zAb l1) (zAb r) _ _ _ _ _ X0 X1 X2 f (zAo 1 t 0) (zA3 t 0) z 2 (sdM n1 M)) (zAa h4<|zAa h3<|zAc) (by decide) (zCk e) (zBn e) zA1
   (zAe (zAk l1)) q.1 q.2.1 q.2.2.1 q.2.2.2.1 q.2.2.2.2
 ·exact zB1 (a:=sdS n0 .down) (m:=.i1 t) hX (λfr=>zH9 b3 fr (zAb l1) (zAb r) _ _ _ _ _ X0 X1 X2 f (zAo 1 t 0) (zA3 t 0) (sdM n1 M)) (zAa h4<|zAa h3<|zAc) (by decide) (zCk e) (zBn e) zA1
   (zAe (zAk l1)) q.1 q.2.1 q.2.2.1 q.2.2.2.1 q.2.2.2.2
theorem zJy(hX:Xok X0 X1 X2) (h4:H4 f) (h3:H3 f b3) {t k:Nat} :
  zB4 X0 X1 X2 ⟨n0,n1,.down,M,.dat t k::r,l1⟩ ⟨n0,n1,.down,M,stay b3 (.dat t k) r,l1⟩ f 0:=by
 have q:=zBq (ix:=R19) n0 .down (by rfl) (by rfl) (by rfl) (by rfl)
 rcases zB8 t k with⟨z,e⟩|e
 ·exact zB1 (a:=sdS n0 .down) (m:=.dat t k) hX (λfr=>zIa b3 fr (zAb l1) (zAb r) _ _ _ _ _ X0 X1 X2 f (zAo 1 t k) (zA3 t k) z 2 (sdM n1 M)) (zAa h4<|zAa h3<|zAc) (by decide) (zCk e) (zBn e) zA1
   (zAe (zAk l1)) q.1 q.2.1 q.2.2.1 q.2.2.2.1 q.2.2.2.2
 ·exact zB1 (a:=sdS n0 .down) (m:=.dat t k) hX (λfr=>zH9 b3 fr (zAb l1) (zAb r) _ _ _ _ _ X0 X1 X2 f (zAo 1 t k) (zA3 t k) (sdM n1 M)) (zAa h4<|zAa h3<|zAc) (by decide) (zCk e) (zBn e) zA1
   (zAe (zAk l1)) q.1 q.2.1 q.2.2.1 q.2.2.2.1 q.2.2.2.2
theorem zKh(hX:Xok X0 X1 X2) (h4:H4 f) (h3:H3 f b3) {t:Nat} :
  zB4 X0 X1 X2 ⟨n0,n1,.init,M,.i1 t::r,l1⟩ ⟨n0,n1,.init,M,stay b3 (.i1 t) r,l1⟩ f 0:=by
 have q:=zBq (ix:=R19) n0 .init (by rfl) (by rfl) (by rfl) (by rfl)
 rcases zB8 t 0 with⟨z,e⟩|e
 ·exact zB1 (a:=sdS n0 .init) (m:=.i1 t) hX (λfr=>zIa b3 fr (zAb l1) (zAb r) _ _ _ _ _ X0 X1 X2 f (zAo 1 t 0) (zA3 t 0) z 2 (sdM n1 M)) (zAa h4<|zAa h3<|zAc) (by decide) (zCk e) (zBn e) zA1
   (zAe (zAk l1)) q.1 q.2.1 q.2.2.1 q.2.2.2.1 q.2.2.2.2
 ·exact zB1 (a:=sdS n0 .init) (m:=.i1 t) hX (λfr=>zH9 b3 fr (zAb l1) (zAb r) _ _ _ _ _ X0 X1 X2 f (zAo 1 t 0) (zA3 t 0) (sdM n1 M)) (zAa h4<|zAa h3<|zAc) (by decide) (zCk e) (zBn e) zA1
   (zAe (zAk l1)) q.1 q.2.1 q.2.2.1 q.2.2.2.1 q.2.2.2.2
theorem zJx(hX:Xok X0 X1 X2) (h4:H4 f) (h3:H3 f b3) {t k:Nat} :
  zB4 X0 X1 X2 ⟨n0,n1,.init,M,.dat t k::r,l1⟩ ⟨n0,n1,.init,M,stay b3 (.dat t k) r,l1⟩ f 0:=by
 have q:=zBq (ix:=R19) n0 .init (by rfl) (by rfl) (by rfl) (by rfl)
 rcases zB8 t k with⟨z,e⟩|e
 ·exact zB1 (a:=sdS n0 .init) (m:=.dat t k) hX (λfr=>zIa b3 fr (zAb l1) (zAb r) _ _ _ _ _ X0 X1 X2 f (zAo 1 t k) (zA3 t k) z 2 (sdM n1 M)) (zAa h4<|zAa h3<|zAc) (by decide) (zCk e) (zBn e) zA1
   (zAe (zAk l1)) q.1 q.2.1 q.2.2.1 q.2.2.2.1 q.2.2.2.2
 ·exact zB1 (a:=sdS n0 .init) (m:=.dat t k) hX (λfr=>zH9 b3 fr (zAb l1) (zAb r) _ _ _ _ _ X0 X1 X2 f (zAo 1 t k) (zA3 t k) (sdM n1 M)) (zAa h4<|zAa h3<|zAc) (by decide) (zCk e) (zBn e) zA1
   (zAe (zAk l1)) q.1 q.2.1 q.2.2.1 q.2.2.2.1 q.2.2.2.2
theorem S_i1_exst(hX:Xok X0 X1 X2) (h4:H4 f) (h3:H3 f b3) (hl:l1.length<800000) {t:Nat} :
  zB4 X0 X1 X2 ⟨n0,n1,.exst,M,.i1 t::r,l1⟩ ⟨n0,n1,.exch t 0,M,stay b3 (.i1 t) r,l1++[.ans n0 t 0]⟩ f 0:=by
 have a1:=zBi (l:=l1) (vs:=[.tup [sv "dd", zCz n0 t 0]]) hl (Nat.le_of_ble_eq_true rfl)
 rcases shape3 (zAl 0 n0) with⟨x,y,rest,e⟩|⟨x,e⟩|e
 ·have e':(zAl 0 n0).drop 0=(x::y::rest):=e;have ea:=zDb (t:=t) e';rw [ea] at a1
  have oa:okV 12 (ansP (zAo 1 t 0) (x::y::rest))=true:=by rw [<-ea]; exact zBm 8 n0 t 0
  have pre:=zA1 (n0:=n0) (S:=.exst);have hy:∀ v∈zAl 0 n0,okV 12 v=true:=zA0 (n:=10);rw [e] at hy
  refine zB1 (a:=⟨sv "exstart", .ref 12,.list [] (zAg 0 n0) [],.list [] [] [],.inst "Exchange" 13,zAj true 5 9 (zAo 0 n0 0) (x::y::rest) (i0V n0) "exstart" .none⟩) hX (λfr=>zPi b3 fr (zAb l1) (zAb r) rest x y (i0V n0) (.list [] (zAg 0 n0) []) X0 X1 X2 f (zAo 1 t 0) (zAo 0 n0 0) (sdM n1 M)) (zAa h4<|zAa h3<|zAa zAz<|zAa a1<|zAc) (by decide) (self (v:=zBg t 0) (zAw 8 t 0)) (self (v:=zBg t 0) (zAw 8 t 0)) ?_
   (zB2 ea.symm) (zBs (by rfl) (.ref (by rfl)) (.ref (by rfl)) rfl) (zAe (zAi 0 n0)) zAm (zAn (by rfl)) ?_
  ·exact⟨rfl,rfl,pre.d,pre.l,pre.h,pre.i,zA4 rfl (by rw [e]; exact zCf hy) (self (zEr 8 _)) .none⟩
  ·rw [zNf e'];exact zA4 rfl (zCf λv h=>hy v (List.mem_of_mem_drop (i:=1) h)) (self oa) (self (v:=zBg t 0) (zAw 8 t 0))
 ·have e':(zAl 0 n0).drop 0=[x]:=e;have ea:=zDb (t:=t) e';rw [ea] at a1
  have oa:okV 12 (ansP (zAo 1 t 0) [x])=true:=by rw [<-ea]; exact zBm 8 n0 t 0
  have pre:=zA1 (n0:=n0) (S:=.exst);have hy:∀ v∈zAl 0 n0,okV 12 v=true:=zA0 (n:=10);rw [e] at hy
  refine zB1 (a:=⟨sv "exstart", .ref 12,.list [] (zAg 0 n0) [],.list [] [] [],.inst "Exchange" 13,zAj true 5 9 (zAo 0 n0 0) [x] (i0V n0) "exstart" .none⟩) hX (λfr=>zPj b3 fr (zAb l1) (zAb r) x (i0V n0) (.list [] (zAg 0 n0) []) X0 X1 X2 f (zAo 1 t 0) (zAo 0 n0 0) (sdM n1 M)) (zAa h4<|zAa h3<|zAa zAz<|zAa a1<|zAc) (by decide) (self (v:=zBg t 0) (zAw 8 t 0)) (self (v:=zBg t 0) (zAw 8 t 0)) ?_
   (zB2 ea.symm) (zBs (by rfl) (.ref (by rfl)) (.ref (by rfl)) rfl) (zAe (zAi 0 n0)) zAm (zAn (by rfl)) ?_
  ·exact⟨rfl,rfl,pre.d,pre.l,pre.h,pre.i,zA4 rfl (by rw [e]; exact zCf hy) (self (zEr 8 _)) .none⟩
  ·rw [zNf e'];exact zA4 rfl (zCf λv h=>hy v (List.mem_of_mem_drop (i:=1) h)) (self oa) (self (v:=zBg t 0) (zAw 8 t 0))
 ·have e':(zAl 0 n0).drop 0=[]:=e;have ea:=zDb (t:=t) e';rw [ea] at a1
  have oa:okV 12 (ansP (zAo 1 t 0) [])=true:=by rw [<-ea]; exact zBm 8 n0 t 0
  have pre:=zA1 (n0:=n0) (S:=.exst);have hy:∀ v∈zAl 0 n0,okV 12 v=true:=zA0 (n:=10);rw [e] at hy
  refine zB1 (a:=⟨sv "exstart", .ref 12,.list [] (zAg 0 n0) [],.list [] [] [],.inst "Exchange" 13,zAj true 5 9 (zAo 0 n0 0) [] (i0V n0) "exstart" .none⟩) hX (λfr=>zPk b3 fr (zAb l1) (zAb r)  (i0V n0) (.list [] (zAg 0 n0) []) X0 X1 X2 f (zAo 1 t 0) (zAo 0 n0 0) (sdM n1 M)) (zAa h4<|zAa h3<|zAa zAz<|zAa a1<|zAc) (by decide) (self (v:=zBg t 0) (zAw 8 t 0)) (self (v:=zBg t 0) (zAw 8 t 0)) ?_
   (zB2 ea.symm) (zBs (by rfl) (.ref (by rfl)) (.ref (by rfl)) rfl) (zAe (zAi 0 n0)) zAm (zAn (by rfl)) ?_
  ·exact⟨rfl,rfl,pre.d,pre.l,pre.h,pre.i,zA4 rfl (by rw [e]; exact zCf hy) (self (zEr 8 _)) .none⟩
  ·rw [zNf e'];exact zA4 rfl (zCf λv h=>hy v (List.mem_of_mem_drop (i:=1) h)) (self oa) (self (v:=zBg t 0) (zAw 8 t 0))
theorem zO2(c k:Nat):k+1<c\/k+1=c\/c<=k:=by lia
theorem S_d_exst(hX:Xok X0 X1 X2) (h4:H4 f) (h3:H3 f b3) (hl:l1.length<800000) {t k:Nat} :
  zB4 X0 X1 X2 ⟨n0,n1,.exst,M,.dat t (k+1)::r,l1⟩ ⟨n0,n1,.exst,M,stay b3 (.dat t (k+1)) r,l1⟩ f 0:=by
 have q:=zBq (ix:=R19) n0 .exst (by rfl) (by rfl) (by rfl) (by rfl);have a1:=zBi (l:=l1) (vs:=[]) hl (Nat.zero_le _)
 rcases zO2 ((t+1)%4) k with e|e|e
 ·have hs:=zDq (ix:=R19) (zKt e) (zAw 8 _ _)
  exact zB1 (a:=sdS n0 .exst) (m:=.dat t (k+1)) hX (λfr=>zN1 b3 fr (zAb l1) (zAb r) (zAl 0 n0) (i0V n0) (.list [] (zAg 0 n0) []) X0 X1 X2 f (zAo 1 t (k+1)) (zAo 0 n0 0) _ _ (sdM n1 M)) (zAa h4<|zAa h3<|zAa a1<|zAc) (by decide) hs.1 hs.2 zA1
   (zAe (zAk l1)) q.1 q.2.1 q.2.2.1 q.2.2.2.1 q.2.2.2.2
 ·have hs:=zDq (ix:=R19) (zKu e) (zAw 8 _ _)
  exact zB1 (a:=sdS n0 .exst) (m:=.dat t (k+1)) hX (λfr=>zN3 b3 fr (zAb l1) (zAb r) (zAl 0 n0) (i0V n0) (.list [] (zAg 0 n0) []) X0 X1 X2 f (zAo 1 t (k+1)) (zAo 0 n0 0) _ _ (sdM n1 M)) (zAa h4<|zAa h3<|zAa a1<|zAc) (by decide) hs.1 hs.2 zA1
   (zAe (zAk l1)) q.1 q.2.1 q.2.2.1 q.2.2.2.1 q.2.2.2.2
 ·have hs:=zDq (ix:=R19) (zKs e) (zAw 8 _ _)
  exact zB1 (a:=sdS n0 .exst) (m:=.dat t (k+1)) hX (λfr=>zN2 b3 fr (zAb l1) (zAb r) (zAl 0 n0) (i0V n0) (.list [] (zAg 0 n0) []) X0 X1 X2 f (zAo 1 t (k+1)) (zAo 0 n0 0) (sdM n1 M)) (zAa h4<|zAa h3<|zAa a1<|zAc) (by decide) hs.1 hs.2 zA1
   (zAe (zAk l1)) q.1 q.2.1 q.2.2.1 q.2.2.2.1 q.2.2.2.2
theorem zNl(hX:Xok X0 X1 X2) (h4:H4 f) (h3:H3 f b3) (hl:l1.length<800000) {t:Nat} :
  zB4 X0 X1 X2 ⟨n0,n1,.exch t 0,M,.i1 t::r,l1⟩ ⟨n0,n1,.exch t 0,M,stay b3 (.i1 t) r,l1++[.ans n0 t 0]⟩ f 0:=by
 have q:=zBq (ix:=R19) n0 (.exch t 0) (by rfl) (by rfl) (by rfl) (by rfl)
 have a1:=zBi (l:=l1) (vs:=[.tup [sv "dd", zCz n0 t 0]]) hl (Nat.le_of_ble_eq_true rfl)
 have pT:zBe R19 (zAj false 5 9 (zAo 1 t 0) ((zAl 0 n0).drop (0+1)) (zCz n0 t 0) "exchange" (zBu (zA3 t 0) (zAo 1 t 0) (.tup (zB5 t 0)))) (sdS n0 (.exch t 0)).td :=
  zA4 rfl (zCf λv h=>zA0 (n:=10) v (List.mem_of_mem_drop h)) (self (zBm 8 _ _ _)) (zBn rfl)
 rcases zB8 t 0 with⟨z,e⟩|e
 ·exact zB1 (m:=.i1 t) hX (λfr=>zD2 b3 fr (zAb l1) (zAb r) ((zAq 1 t).take 0) ((zAl 0 n0).drop (0+1)) (zCz n0 t 0) (.tup (zB5 t 0)) (.list [] (zAg 0 n0) []) X0 X1 X2 f (zAo 1 t 0) (zAo 1 t 0) (zA3 t 0) (zAo 1 t 0) (zA3 t 0) z 2 (sdM n1 M)) (zAa h4<|zAa h3<|zAa (zB0 rfl)<|zAa (zB0 rfl)<|zAa zAz<|zAa a1<|zAc) (by decide) (zCk e) (zBn e) (zB6 rfl)
   (zB2 rfl) q.1 q.2.1 q.2.2.1 q.2.2.2.1 pT
 ·exact zB1 (m:=.i1 t) hX (λfr=>zD1 b3 fr (zAb l1) (zAb r) ((zAq 1 t).take 0) ((zAl 0 n0).drop (0+1)) (zCz n0 t 0) (.tup (zB5 t 0)) (.list [] (zAg 0 n0) []) X0 X1 X2 f (zAo 1 t 0) (zAo 1 t 0) (zA3 t 0) (zAo 1 t 0) (zA3 t 0) (sdM n1 M)) (zAa h4<|zAa h3<|zAa (zB0 rfl)<|zAa (zB0 rfl)<|zAa zAz<|zAa a1<|zAc) (by decide) (zCk e) (zBn e) (zB6 rfl)
   (zB2 rfl) q.1 q.2.1 q.2.2.1 q.2.2.2.1 pT
theorem zKk(hX:Xok X0 X1 X2) (h4:H4 f) (h3:H3 f b3) (hl:l1.length<800000) {t k:Nat} :
  zB4 X0 X1 X2 ⟨n0,n1,.exch t k,M,.dat t k::r,l1⟩ ⟨n0,n1,.exch t k,M,stay b3 (.dat t k) r,l1++[.ans n0 t k]⟩ f 0:=by
 have q:=zBq (ix:=R19) n0 (.exch t k) (by rfl) (by rfl) (by rfl) (by rfl)
 have a1:=zBi (l:=l1) (vs:=[.tup [sv "dd", zCz n0 t k]]) hl (Nat.le_of_ble_eq_true rfl)
 have pT:zBe R19 (zAj false 5 9 (zAo 1 t k) ((zAl 0 n0).drop (k+1)) (zCz n0 t k) "exchange" (zBu (zA3 t k) (zAo 1 t k) (.tup (zB5 t k)))) (sdS n0 (.exch t k)).td :=
  zA4 rfl (zCf λv h=>zA0 (n:=10) v (List.mem_of_mem_drop h)) (self (zBm 8 _ _ _)) (zBn rfl)
 rcases zB8 t k with⟨z,e⟩|e
 ·exact zB1 (m:=.dat t k) hX (λfr=>zD2 b3 fr (zAb l1) (zAb r) ((zAq 1 t).take k) ((zAl 0 n0).drop (k+1)) (zCz n0 t k) (.tup (zB5 t k)) (.list [] (zAg 0 n0) []) X0 X1 X2 f (zAo 1 t k) (zAo 1 t k) (zA3 t k) (zAo 1 t k) (zA3 t k) z 2 (sdM n1 M)) (zAa h4<|zAa h3<|zAa (zB0 rfl)<|zAa (zB0 rfl)<|zAa zAz<|zAa a1<|zAc) (by decide) (zCk e) (zBn e) (zB6 rfl)
   (zB2 rfl) q.1 q.2.1 q.2.2.1 q.2.2.2.1 pT
 ·exact zB1 (m:=.dat t k) hX (λfr=>zD1 b3 fr (zAb l1) (zAb r) ((zAq 1 t).take k) ((zAl 0 n0).drop (k+1)) (zCz n0 t k) (.tup (zB5 t k)) (.list [] (zAg 0 n0) []) X0 X1 X2 f (zAo 1 t k) (zAo 1 t k) (zA3 t k) (zAo 1 t k) (zA3 t k) (sdM n1 M)) (zAa h4<|zAa h3<|zAa (zB0 rfl)<|zAa (zB0 rfl)<|zAa zAz<|zAa a1<|zAc) (by decide) (zCk e) (zBn e) (zB6 rfl)
   (zB2 rfl) q.1 q.2.1 q.2.2.1 q.2.2.2.1 pT
theorem zKj(hX:Xok X0 X1 X2) (h4:H4 f) (h3:H3 f b3) (hl:l1.length<800000) {t k:Nat} :
  zB4 X0 X1 X2 ⟨n0,n1,.full t k,M,.dat t k::r,l1⟩ ⟨n0,n1,.full t k,M,stay b3 (.dat t k) r,l1++[.ans n0 t k]⟩ f 0:=by
 have q:=zBq (ix:=R19) n0 (.full t k) (by rfl) (by rfl) (by rfl) (by rfl)
 have a1:=zBi (l:=l1) (vs:=[.tup [sv "dd", zCz n0 t k]]) hl (Nat.le_of_ble_eq_true rfl)
 have pT:zBe R19 (zAj false 5 9 (zAo 1 t k) ((zAl 0 n0).drop (k+1)) (zCz n0 t k) "full" (zBu (zA3 t k) (zAo 1 t k) (.tup (zB5 t k)))) (sdS n0 (.full t k)).td :=
  zA4 rfl (zCf λv h=>zA0 (n:=10) v (List.mem_of_mem_drop h)) (self (zBm 8 _ _ _)) (zBn rfl)
 rcases zB8 t k with⟨z,e⟩|e
 ·exact zB1 (m:=.dat t k) hX (λfr=>zN0 b3 fr (zAb l1) (zAb r) ((zAq 1 t).take k) ((zAl 0 n0).drop (k+1)) (zCz n0 t k) (.tup (zB5 t k)) (.list [] (zAg 0 n0) []) X0 X1 X2 f (zAo 1 t k) (zAo 1 t k) (zA3 t k) (zAo 1 t k) (zA3 t k) z 2 (sdM n1 M)) (zAa h4<|zAa h3<|zAa (zB0 rfl)<|zAa (zB0 rfl)<|zAa zAz<|zAa a1<|zAc) (by decide) (zCk e) (zBn e) (zB6 rfl)
   (zB2 rfl) q.1 q.2.1 q.2.2.1 q.2.2.2.1 pT
 ·exact zB1 (m:=.dat t k) hX (λfr=>zNz b3 fr (zAb l1) (zAb r) ((zAq 1 t).take k) ((zAl 0 n0).drop (k+1)) (zCz n0 t k) (.tup (zB5 t k)) (.list [] (zAg 0 n0) []) X0 X1 X2 f (zAo 1 t k) (zAo 1 t k) (zA3 t k) (zAo 1 t k) (zA3 t k) (sdM n1 M)) (zAa h4<|zAa h3<|zAa (zB0 rfl)<|zAa (zB0 rfl)<|zAa zAz<|zAa a1<|zAc) (by decide) (zCk e) (zBn e) (zB6 rfl)
   (zB2 rfl) q.1 q.2.1 q.2.2.1 q.2.2.2.1 pT
theorem zNm(hX:Xok X0 X1 X2) (h4:H4 f) (h3:H3 f b3) (hl:l1.length<800000) (hn:n0<800000) {t k t':Nat} (hk:k<500) (hk':0<500) (ne:¬(t'=t/\0=k)) :
  zB4 X0 X1 X2 ⟨n0,n1,.full t k,M,.i1 t'::r,l1⟩ ⟨n0+1,n1,.exst,M,stay b3 (.i1 t') r,l1++[.i0 (n0+1)]⟩ f 0:=by
 have a1:=zBi (l:=l1) (vs:=[]) hl (Nat.zero_le _);have o2:(Ob.len n0).Ok:=b_n hn;have hne:=zDd (a:=1) hk' hk ne
 rcases zB8 t' 0 with⟨z,e⟩|e
 ·have hk:=λfr=>zEq b3 (decide (zA3 t' 0=zA3 t k)) fr (zAb l1) (zAb r) (zAg 0 n0) ((zAq 1 t).take k) ((zAl 0 n0).drop (k+1)) (zCz n0 t k) (.tup (zB5 t k)) X0 X1 X2 f (zAo 1 t' 0) (zAo 1 t k) (zA3 t k) (zAo 1 t k) (zA3 t' 0) z 2 (sdM n1 M);rw [zA8] at hk
  exact zB1 (m:=.i1 t') hX hk (zAa h4<|zAa h3<|zCh rfl (λ_=>hne)<|zAa a1<|zAa (zBw hl)<|zAa o2<|zAc) (by decide) (zCk e) (zBn e) (zB6 rfl)
   zC2 (zBs (by rfl) (.ref (by rfl)) (.ref (by rfl)) rfl) zBj zAm (zAn (by rfl)) zC1
 ·have hk:=λfr=>zEp b3 (decide (zA3 t' 0=zA3 t k)) fr (zAb l1) (zAb r) (zAg 0 n0) ((zAq 1 t).take k) ((zAl 0 n0).drop (k+1)) (zCz n0 t k) (.tup (zB5 t k)) X0 X1 X2 f (zAo 1 t' 0) (zAo 1 t k) (zA3 t k) (zAo 1 t k) (zA3 t' 0) (sdM n1 M);rw [zA8] at hk
  exact zB1 (m:=.i1 t') hX hk (zAa h4<|zAa h3<|zCh rfl (λ_=>hne)<|zAa a1<|zAa (zBw hl)<|zAa o2<|zAc) (by decide) (zCk e) (zBn e) (zB6 rfl)
   zC2 (zBs (by rfl) (.ref (by rfl)) (.ref (by rfl)) rfl) zBj zAm (zAn (by rfl)) zC1
theorem zKl(hX:Xok X0 X1 X2) (h4:H4 f) (h3:H3 f b3) (hl:l1.length<800000) (hn:n0<800000) {t k t' k':Nat} (hk:k<500) (hk':k'<500) (ne:¬(t'=t/\k'=k)) :
  zB4 X0 X1 X2 ⟨n0,n1,.full t k,M,.dat t' k'::r,l1⟩ ⟨n0+1,n1,.exst,M,stay b3 (.dat t' k') r,l1++[.i0 (n0+1)]⟩ f 0:=by
 have a1:=zBi (l:=l1) (vs:=[]) hl (Nat.zero_le _);have o2:(Ob.len n0).Ok:=b_n hn;have hne:=zDd (a:=1) hk' hk ne
 rcases zB8 t' k' with⟨z,e⟩|e
 ·have hk:=λfr=>zEq b3 (decide (zA3 t' k'=zA3 t k)) fr (zAb l1) (zAb r) (zAg 0 n0) ((zAq 1 t).take k) ((zAl 0 n0).drop (k+1)) (zCz n0 t k) (.tup (zB5 t k)) X0 X1 X2 f (zAo 1 t' k') (zAo 1 t k) (zA3 t k) (zAo 1 t k) (zA3 t' k') z 2 (sdM n1 M);rw [zA8] at hk
  exact zB1 (m:=.dat t' k') hX hk (zAa h4<|zAa h3<|zCh rfl (λ_=>hne)<|zAa a1<|zAa (zBw hl)<|zAa o2<|zAc) (by decide) (zCk e) (zBn e) (zB6 rfl)
   zC2 (zBs (by rfl) (.ref (by rfl)) (.ref (by rfl)) rfl) zBj zAm (zAn (by rfl)) zC1
 ·have hk:=λfr=>zEp b3 (decide (zA3 t' k'=zA3 t k)) fr (zAb l1) (zAb r) (zAg 0 n0) ((zAq 1 t).take k) ((zAl 0 n0).drop (k+1)) (zCz n0 t k) (.tup (zB5 t k)) X0 X1 X2 f (zAo 1 t' k') (zAo 1 t k) (zA3 t k) (zAo 1 t k) (zA3 t' k') (sdM n1 M);rw [zA8] at hk
  exact zB1 (m:=.dat t' k') hX hk (zAa h4<|zAa h3<|zCh rfl (λ_=>hne)<|zAa a1<|zAa (zBw hl)<|zAa o2<|zAc) (by decide) (zCk e) (zBn e) (zB6 rfl)
   zC2 (zBs (by rfl) (.ref (by rfl)) (.ref (by rfl)) rfl) zBj zAm (zAn (by rfl)) zC1
theorem S_bad_i1(hX:Xok X0 X1 X2) (h4:H4 f) (h3:H3 f b3) (hl:l1.length<800000) (hn:n0<800000) {t k t':Nat} (hk:k<500) (ne:¬(t'=t/\0=k)) :
  zB4 X0 X1 X2 ⟨n0,n1,.exch t k,M,.i1 t'::r,l1⟩ ⟨n0+1,n1,.exst,M,stay b3 (.i1 t') r,l1++[.i0 (n0+1)]⟩ f 0:=by
 have a1:=zBi (l:=l1) (vs:=[]) hl (Nat.zero_le _);have o2:(Ob.len n0).Ok:=b_n hn
 have hne:=zDd (a:=1) (by decide) hk ne
 ·have hk:=λfr=>zN4 b3 (decide ((7:Int)=zA3 t k)) fr (zAb l1) (zAb r) (zAg 0 n0) ((zAq 1 t).take k) ((zAl 0 n0).drop (k+1)) (zCz n0 t k) (.tup (zB5 t k)) X0 X1 X2 f (zAo 1 t' 0) (zAo 1 t k) (zA3 t k) (zAo 1 t k) (sdM n1 M);rw [zA8] at hk
  exact zB1 (m:=.i1 t') hX hk (zAa h4<|zAa h3<|zCh rfl (λ_=>hne)<|zAa a1<|zAa (zBw hl)<|zAa o2<|zAc) (by decide) (self (v:=zBg t' 0) (zAw 8 t' 0)) (self (v:=zBg t' 0) (zAw 8 t' 0)) (zB6 rfl)
   zC2 (zBs (by rfl) (.ref (by rfl)) (.ref (by rfl)) rfl) zBj zAm (zAn (by rfl)) zC1
theorem S_bad_dat(hX:Xok X0 X1 X2) (h4:H4 f) (h3:H3 f b3) (hl:l1.length<800000) (hn:n0<800000) {t k t' k':Nat} (hk:k<400) (hk':k'<400) (ht:t<1000000) (ne:¬(t'=t/\k'+1=k)) (ne2:¬(t'=t/\k'+1=k+1)) :
  zB4 X0 X1 X2 ⟨n0,n1,.exch t k,M,.dat t' (k'+1)::r,l1⟩ ⟨n0+1,n1,.exst,M,stay b3 (.dat t' (k'+1)) r,l1++[.i0 (n0+1)]⟩ f 0:=by
 have a1:=zBi (l:=l1) (vs:=[]) hl (Nat.zero_le _);have o2:(Ob.len n0).Ok:=b_n hn;have hne:=zDd (a:=1) (k:=k'+1) (b_51 ‹_›) (b_5 ‹_›) ne;have hne2:=zDd (a:=1) (k:=k'+1) (k':=k+1) (b_51 ‹_›) (b_51 ‹_›) ne2;have hf:=zEs (a:=1) (t:=t) (k:=k) (b_num ‹_› ‹_›);rw [<-hf] at hne2
 rcases zO2 ((t'+1)%4) k' with e|e|e
 ·have hs:=λix=>zDq (ix:=ix) (zKt e) (zAw 8 _ _);have hk:=λfr=>zPl b3 (decide ((3:Int)=zA3 t k)) fr (zAb l1) (zAb r) (zAg 0 n0) ((zAq 1 t).take k) ((zAl 0 n0).drop (k+1)) (zCz n0 t k) (.tup (zB5 t k)) X0 X1 X2 f (zAo 1 t' (k'+1)) (zAo 1 t k) (zA3 t k) (zAo 1 t k) ((100*t'+k':Nat):Int) 2 (sdM n1 M);rw [zA8] at hk
  exact zB1 (m:=.dat t' (k'+1)) hX hk (zAa h4<|zAa h3<|zCh rfl (λ_=>hne)<|zAa (zL6 hne2)<|zAa a1<|zAa (zBw hl)<|zAa o2<|zAc) (by decide) (hs _).1 (hs _).2 (zB6 rfl)
    zC2 (zBs (by rfl) (.ref (by rfl)) (.ref (by rfl)) rfl) zBj zAm (zAn (by rfl)) zC1
 ·have hs:=λix=>zDq (ix:=ix) (zKu e) (zAw 8 _ _);have hk:=λfr=>zPn b3 (decide ((1:Int)=zA3 t k)) fr (zAb l1) (zAb r) (zAg 0 n0) ((zAq 1 t).take k) ((zAl 0 n0).drop (k+1)) (zCz n0 t k) (.tup (zB5 t k)) X0 X1 X2 f (zAo 1 t' (k'+1)) (zAo 1 t k) (zA3 t k) (zAo 1 t k) ((100*t'+k':Nat):Int) 2 (sdM n1 M);rw [zA8] at hk
  exact zB1 (m:=.dat t' (k'+1)) hX hk (zAa h4<|zAa h3<|zCh rfl (λ_=>hne)<|zAa (zL6 hne2)<|zAa a1<|zAa (zBw hl)<|zAa o2<|zAc) (by decide) (hs _).1 (hs _).2 (zB6 rfl)
    zC2 (zBs (by rfl) (.ref (by rfl)) (.ref (by rfl)) rfl) zBj zAm (zAn (by rfl)) zC1
 ·have hs:=λix=>zDq (ix:=ix) (zKs e) (zAw 8 _ _);have hk:=λfr=>zPm b3 (decide ((1:Int)=zA3 t k)) fr (zAb l1) (zAb r) (zAg 0 n0) ((zAq 1 t).take k) ((zAl 0 n0).drop (k+1)) (zCz n0 t k) (.tup (zB5 t k)) X0 X1 X2 f (zAo 1 t' (k'+1)) (zAo 1 t k) (zA3 t k) (zAo 1 t k) (sdM n1 M);rw [zA8] at hk
  exact zB1 (m:=.dat t' (k'+1)) hX hk (zAa h4<|zAa h3<|zCh rfl (λ_=>hne)<|zAa (zL6 hne2)<|zAa a1<|zAa (zBw hl)<|zAa o2<|zAc) (by decide) (hs _).1 (hs _).2 (zB6 rfl)
    zC2 (zBs (by rfl) (.ref (by rfl)) (.ref (by rfl)) rfl) zBj zAm (zAn (by rfl)) zC1
theorem zCd{ix:List Nat} {a t k:Nat} {z b:Int} (h:k<(t+a)%4) (hz:z=((100*t+k:Nat):Int)) (hb:b=((a+1:Nat):Int)) :
  zBe ix (.list [] ((zAq a t).take k) [.tup [.int 1,.sym z,.int b]]) (.list [] ((zAq a t).take (k+1)) []):=by
 subst hz; subst hb;rw [keys_at h];exact zEy (λv h=>zCt (n:=10) v (List.mem_of_mem_take h)) (self (v:=keyV a t k) (zPv 10 a t k)) (zPv 10 a t k)
theorem zCu{ix:List Nat} {a t k:Nat} (h:(t+a)%4<=k):zBe ix (.list [] ((zAq a t).take k) []) (.list [] ((zAq a t).take (k+1)) []):=by
 rw [keys_end h];exact zAe λv h=>zCt (n:=10) v (List.mem_of_mem_take h)
theorem left3(s k:Nat):(∃ x y r,(zAl 0 s).drop k=x::y::r/\k+1<s%4)\/(∃ x,(zAl 0 s).drop k=[x]/\s%4=k+1)\/((zAl 0 s).drop k=[]/\s%4<=k):=by
 by_cases h:k<s%4
 ·by_cases h2:k+1<s%4
  ·exact .inl ⟨_,_,_,(zCe (a:=0) h).trans (congrArg _ (zCe (a:=0) h2)),h2⟩
  ·exact .inr (.inl ⟨_,(zCe (a:=0) h).trans (congrArg _ (zCb (a:=0) (k:=k+1) (Nat.le_of_not_lt ‹_›))),by exact b_sq ‹_› ‹_›⟩)
 ·exact .inr (.inr ⟨zCb (a:=0) (Nat.le_of_not_lt ‹_›),by exact Nat.le_of_not_lt ‹_›⟩)
theorem S_next_mh(hX:Xok X0 X1 X2) (h4:H4 f) (h3:H3 f b3) (hl:l1.length<800000) {t k:Nat} (hk:k<400) (ht:t<1000000) (hK:k<Pl.K n0 t) (e:k+1<(t+1)%4) :
  zB4 X0 X1 X2 ⟨n0,n1,.exch t k,M,.dat t (k+1)::r,l1⟩ ⟨n0,n1,Pl.fullS n0 t (k+1),M,stay b3 (.dat t (k+1)) r,l1++[.ans n0 t (k+1)]⟩ f 0:=by
 have a1:=zBi (l:=l1) (vs:=[.tup [sv "dd", zCz n0 t (k+1)]]) hl (Nat.le_of_ble_eq_true rfl)
 have hne:=zDd (a:=1) (t:=t) (k:=k+1) (t':=t) (k':=k) (b_51 ‹_›) (b_5 ‹_›) b_ss;have hf:=zEs (a:=1) (t:=t) (k:=k) (b_num ‹_› ‹_›);have hs:=zDq (ix:=R19) (zKt e) (zAw 8 _ _)
 have pre:=zB6 (n0:=n0) (t:=t) (k:=k) (st := "exchange") (S:=.exch t k) rfl
 rcases left3 n0 (k+1) with⟨x,y,rest,e',hc⟩|⟨x,e',hc⟩|⟨e',hc⟩
 ·have hS:Pl.fullS n0 t (k+1)=.exch t (k+1):=by
   unfold Pl.fullS;rw [if_neg (K_ne1 ‹_›)]
  rw [hS];have ea:=zDb (t:=t) e';rw [ea] at a1;rw [e'] at pre;have pT:=pT_S (t:=t) e';rw [zKt e] at pT
  exact zB1 (m:=.dat t (k+1)) hX (λfr=>zLp b3 (decide ((3:Int)=zA3 t k)) fr (zAb l1) (zAb r) ((zAq 1 t).take k) rest x y (zCz n0 t k) (.tup (zB5 t k)) (.list [] (zAg 0 n0) []) X0 X1 X2 f (zAo 1 t (k+1)) (zAo 1 t k) (zA3 t k) (zAo 1 t k) ((100*t+k:Nat):Int) (sdM n1 M))
    (zAa h4<|zAa h3<|zCh rfl (λ_=>hne)<|zAa (zB0 hf.symm)<|zAa zCn<|zAa zAz<|zAa a1<|zAc) (by decide) hs.1 hs.2 pre
    (zB2 ea.symm) (zBs (by rfl) (.ref (by rfl)) (.ref (by rfl)) rfl) (zAe (zAi 0 n0)) (zCd (a:=1) (b_lt ‹_›) rfl rfl) (zAn (by rfl)) pT
 ·have hS:Pl.fullS n0 t (k+1)=.exch t (k+1):=by
   unfold Pl.fullS;rw [if_neg (K_ne1 ‹_›)]
  rw [hS];have ea:=zDb (t:=t) e';rw [ea] at a1;rw [e'] at pre;have pT:=pT_S (t:=t) e';rw [zKt e] at pT
  exact zB1 (m:=.dat t (k+1)) hX (λfr=>zLq b3 (decide ((3:Int)=zA3 t k)) fr (zAb l1) (zAb r) ((zAq 1 t).take k) x (zCz n0 t k) (.tup (zB5 t k)) (.list [] (zAg 0 n0) []) X0 X1 X2 f (zAo 1 t (k+1)) (zAo 1 t k) (zA3 t k) (zAo 1 t k) ((100*t+k:Nat):Int) (sdM n1 M))
    (zAa h4<|zAa h3<|zCh rfl (λ_=>hne)<|zAa (zB0 hf.symm)<|zAa zCn<|zAa zAz<|zAa a1<|zAc) (by decide) hs.1 hs.2 pre
    (zB2 ea.symm) (zBs (by rfl) (.ref (by rfl)) (.ref (by rfl)) rfl) (zAe (zAi 0 n0)) (zCd (a:=1) (b_lt ‹_›) rfl rfl) (zAn (by rfl)) pT
 ·have hS:Pl.fullS n0 t (k+1)=.exch t (k+1):=by
   unfold Pl.fullS;rw [if_neg (K_ne1 ‹_›)]
  rw [hS];have ea:=zDb (t:=t) e';rw [ea] at a1;rw [e'] at pre;have pT:=pT_S (t:=t) e';rw [zKt e] at pT
  exact zB1 (m:=.dat t (k+1)) hX (λfr=>zLr b3 (decide ((3:Int)=zA3 t k)) fr (zAb l1) (zAb r) ((zAq 1 t).take k) (zCz n0 t k) (.tup (zB5 t k)) (.list [] (zAg 0 n0) []) X0 X1 X2 f (zAo 1 t (k+1)) (zAo 1 t k) (zA3 t k) (zAo 1 t k) ((100*t+k:Nat):Int) (sdM n1 M))
    (zAa h4<|zAa h3<|zCh rfl (λ_=>hne)<|zAa (zB0 hf.symm)<|zAa zCn<|zAa zAz<|zAa a1<|zAc) (by decide) hs.1 hs.2 pre
    (zB2 ea.symm) (zBs (by rfl) (.ref (by rfl)) (.ref (by rfl)) rfl) (zAe (zAi 0 n0)) (zCd (a:=1) (b_lt ‹_›) rfl rfl) (zAn (by rfl)) pT
theorem S_next_lh(hX:Xok X0 X1 X2) (h4:H4 f) (h3:H3 f b3) (hl:l1.length<800000) {t k:Nat} (hk:k<400) (ht:t<1000000) (hK:k<Pl.K n0 t) (e:k+1=(t+1)%4) :
  zB4 X0 X1 X2 ⟨n0,n1,.exch t k,M,.dat t (k+1)::r,l1⟩ ⟨n0,n1,Pl.fullS n0 t (k+1),M,stay b3 (.dat t (k+1)) r,l1++[.ans n0 t (k+1)]⟩ f 0:=by
 have a1:=zBi (l:=l1) (vs:=[.tup [sv "dd", zCz n0 t (k+1)]]) hl (Nat.le_of_ble_eq_true rfl)
 have hne:=zDd (a:=1) (t:=t) (k:=k+1) (t':=t) (k':=k) (b_51 ‹_›) (b_5 ‹_›) b_ss;have hf:=zEs (a:=1) (t:=t) (k:=k) (b_num ‹_› ‹_›);have hs:=zDq (ix:=R19) (zKu e) (zAw 8 _ _)
 have pre:=zB6 (n0:=n0) (t:=t) (k:=k) (st := "exchange") (S:=.exch t k) rfl
 rcases left3 n0 (k+1) with⟨x,y,rest,e',hc⟩|⟨x,e',hc⟩|⟨e',hc⟩
 ·have hS:Pl.fullS n0 t (k+1)=.exch t (k+1):=by
   unfold Pl.fullS;rw [if_neg (K_ne0 ‹_›)]
  rw [hS];have ea:=zDb (t:=t) e';rw [ea] at a1;rw [e'] at pre;have pT:=pT_S (t:=t) e';rw [zKu e] at pT
  exact zB1 (m:=.dat t (k+1)) hX (λfr=>zLv b3 (decide ((1:Int)=zA3 t k)) fr (zAb l1) (zAb r) ((zAq 1 t).take k) rest x y (zCz n0 t k) (.tup (zB5 t k)) (.list [] (zAg 0 n0) []) X0 X1 X2 f (zAo 1 t (k+1)) (zAo 1 t k) (zA3 t k) (zAo 1 t k) ((100*t+k:Nat):Int) (sdM n1 M))
    (zAa h4<|zAa h3<|zCh rfl (λ_=>hne)<|zAa (zB0 hf.symm)<|zAa zCn<|zAa zAz<|zAa a1<|zAc) (by decide) hs.1 hs.2 pre
    (zB2 ea.symm) (zBs (by rfl) (.ref (by rfl)) (.ref (by rfl)) rfl) (zAe (zAi 0 n0)) (zCd (a:=1) (zEg ‹_›) rfl rfl) (zAn (by rfl)) pT
 ·have hS:Pl.fullS n0 t (k+1)=.full t (k+1):=by
   unfold Pl.fullS;rw [if_pos (K_is ‹_› (zLe ‹_›) (Nat.le_of_eq ‹_›))]
  rw [hS];have ea:=zDb (t:=t) e';rw [ea] at a1;rw [e'] at pre;have pT:=pF_S (t:=t) e';rw [zKu e] at pT
  exact zB1 (m:=.dat t (k+1)) hX (λfr=>zLw b3 (decide ((1:Int)=zA3 t k)) fr (zAb l1) (zAb r) ((zAq 1 t).take k) x (zCz n0 t k) (.tup (zB5 t k)) (.list [] (zAg 0 n0) []) X0 X1 X2 f (zAo 1 t (k+1)) (zAo 1 t k) (zA3 t k) (zAo 1 t k) ((100*t+k:Nat):Int) (sdM n1 M))
    (zAa h4<|zAa h3<|zCh rfl (λ_=>hne)<|zAa (zB0 hf.symm)<|zAa zCn<|zAa zAz<|zAa a1<|zAc) (by decide) hs.1 hs.2 pre
    (zB2 ea.symm) (zBs (by rfl) (.ref (by rfl)) (.ref (by rfl)) rfl) (zAe (zAi 0 n0)) (zCd (a:=1) (zEg ‹_›) rfl rfl) (zAn (by rfl)) pT
 ·have hS:Pl.fullS n0 t (k+1)=.full t (k+1):=by
   unfold Pl.fullS;rw [if_pos (K_is ‹_› (zLe ‹_›) (b_le ‹_›))]
  rw [hS];have ea:=zDb (t:=t) e';rw [ea] at a1;rw [e'] at pre;have pT:=pF_S (t:=t) e';rw [zKu e] at pT
  exact zB1 (m:=.dat t (k+1)) hX (λfr=>zLx b3 (decide ((1:Int)=zA3 t k)) fr (zAb l1) (zAb r) ((zAq 1 t).take k) (zCz n0 t k) (.tup (zB5 t k)) (.list [] (zAg 0 n0) []) X0 X1 X2 f (zAo 1 t (k+1)) (zAo 1 t k) (zA3 t k) (zAo 1 t k) ((100*t+k:Nat):Int) (sdM n1 M))
    (zAa h4<|zAa h3<|zCh rfl (λ_=>hne)<|zAa (zB0 hf.symm)<|zAa zCn<|zAa zAz<|zAa a1<|zAc) (by decide) hs.1 hs.2 pre
    (zB2 ea.symm) (zBs (by rfl) (.ref (by rfl)) (.ref (by rfl)) rfl) (zAe (zAi 0 n0)) (zCd (a:=1) (zEg ‹_›) rfl rfl) (zAn (by rfl)) pT
theorem S_next_ln(hX:Xok X0 X1 X2) (h4:H4 f) (h3:H3 f b3) (hl:l1.length<800000) {t k:Nat} (hk:k<400) (ht:t<1000000) (hK:k<Pl.K n0 t) (e:(t+1)%4<=k) :
  zB4 X0 X1 X2 ⟨n0,n1,.exch t k,M,.dat t (k+1)::r,l1⟩ ⟨n0,n1,Pl.fullS n0 t (k+1),M,stay b3 (.dat t (k+1)) r,l1++[.ans n0 t (k+1)]⟩ f 0:=by
 have a1:=zBi (l:=l1) (vs:=[.tup [sv "dd", zCz n0 t (k+1)]]) hl (Nat.le_of_ble_eq_true rfl)
 have hne:=zDd (a:=1) (t:=t) (k:=k+1) (t':=t) (k':=k) (b_51 ‹_›) (b_5 ‹_›) b_ss;have hf:=zEs (a:=1) (t:=t) (k:=k) (b_num ‹_› ‹_›);have hs:=zDq (ix:=R19) (zKs e) (zAw 8 _ _)
 have pre:=zB6 (n0:=n0) (t:=t) (k:=k) (st := "exchange") (S:=.exch t k) rfl
 rcases left3 n0 (k+1) with⟨x,y,rest,e',hc⟩|⟨x,e',hc⟩|⟨e',hc⟩
 ·have hS:Pl.fullS n0 t (k+1)=.exch t (k+1):=by
   unfold Pl.fullS;rw [if_neg (K_ne0 ‹_›)]
  rw [hS];have ea:=zDb (t:=t) e';rw [ea] at a1;rw [e'] at pre;have pT:=pT_S (t:=t) e';rw [zKs e] at pT
  exact zB1 (m:=.dat t (k+1)) hX (λfr=>zLs b3 (decide ((1:Int)=zA3 t k)) fr (zAb l1) (zAb r) ((zAq 1 t).take k) rest x y (zCz n0 t k) (.tup (zB5 t k)) (.list [] (zAg 0 n0) []) X0 X1 X2 f (zAo 1 t (k+1)) (zAo 1 t k) (zA3 t k) (zAo 1 t k) (sdM n1 M))
    (zAa h4<|zAa h3<|zCh rfl (λ_=>hne)<|zAa (zB0 hf.symm)<|zAa zAz<|zAa a1<|zAc) (by decide) hs.1 hs.2 pre
    (zB2 ea.symm) (zBs (by rfl) (.ref (by rfl)) (.ref (by rfl)) rfl) (zAe (zAi 0 n0)) (zCu (a:=1) ‹_›) (zAn (by rfl)) pT
 ·have hS:Pl.fullS n0 t (k+1)=.full t (k+1):=by
   unfold Pl.fullS;rw [if_pos (K_is ‹_› (b_le ‹_›) (Nat.le_of_eq ‹_›))]
  rw [hS];have ea:=zDb (t:=t) e';rw [ea] at a1;rw [e'] at pre;have pT:=pF_S (t:=t) e';rw [zKs e] at pT
  exact zB1 (m:=.dat t (k+1)) hX (λfr=>zLt b3 (decide ((1:Int)=zA3 t k)) fr (zAb l1) (zAb r) ((zAq 1 t).take k) x (zCz n0 t k) (.tup (zB5 t k)) (.list [] (zAg 0 n0) []) X0 X1 X2 f (zAo 1 t (k+1)) (zAo 1 t k) (zA3 t k) (zAo 1 t k) (sdM n1 M))
    (zAa h4<|zAa h3<|zCh rfl (λ_=>hne)<|zAa (zB0 hf.symm)<|zAa zAz<|zAa a1<|zAc) (by decide) hs.1 hs.2 pre
    (zB2 ea.symm) (zBs (by rfl) (.ref (by rfl)) (.ref (by rfl)) rfl) (zAe (zAi 0 n0)) (zCu (a:=1) ‹_›) (zAn (by rfl)) pT
 ·have hS:Pl.fullS n0 t (k+1)=.full t (k+1):=by
   unfold Pl.fullS;rw [if_pos (K_is ‹_› (b_le ‹_›) (b_le ‹_›))]
  rw [hS];have ea:=zDb (t:=t) e';rw [ea] at a1;rw [e'] at pre;have pT:=pF_S (t:=t) e';rw [zKs e] at pT
  exact zB1 (m:=.dat t (k+1)) hX (λfr=>zLu b3 (decide ((1:Int)=zA3 t k)) fr (zAb l1) (zAb r) ((zAq 1 t).take k) (zCz n0 t k) (.tup (zB5 t k)) (.list [] (zAg 0 n0) []) X0 X1 X2 f (zAo 1 t (k+1)) (zAo 1 t k) (zA3 t k) (zAo 1 t k) (sdM n1 M))
    (zAa h4<|zAa h3<|zCh rfl (λ_=>hne)<|zAa (zB0 hf.symm)<|zAa zAz<|zAa a1<|zAc) (by decide) hs.1 hs.2 pre
    (zB2 ea.symm) (zBs (by rfl) (.ref (by rfl)) (.ref (by rfl)) rfl) (zAe (zAi 0 n0)) (zCu (a:=1) ‹_›) (zAn (by rfl)) pT
end
noncomputable def zC4 (s k:Nat):Int:=more ((zAl 0 s).drop (k+1))
noncomputable def zE7 (s k:Nat):List V:=((zAl 0 s).drop k).take 1
noncomputable def toldP (n:Int) (l:List V):V:=pkP (1+more (l.drop 1)) n (l.take 1)
theorem zCc{t k:Nat} {l:List V} (h:(zAl 1 t).drop k=l):zBg t (k+1)=toldP (zAo 1 t (k+1)) l:=by
 show pkP (1+more ((zAl 1 t).drop (k+1))) _ (((zAl 1 t).drop k).take 1)=_;unfold toldP;rw [<-h,List.drop_drop]
theorem exchM_of{n1 k s:Nat} {l:List V} (h:(zAl 1 n1).drop k=l):sdM n1 (.exch (k+1) s)=⟨sv "exchange", .ref 14,.list [] (zAg 1 n1) [],.list [] ((zAq 0 s).take (k+1)) [],.inst "Exchange" 15,
  zAj true 9 5 (zAo 1 n1 (k+1)) (l.drop 1) (toldP (zAo 1 n1 (k+1)) l) "exchange" (zCz s n1 k)⟩:=by
 unfold sdM;dsimp only;rw [zCc h,<-h,List.drop_drop];rfl
theorem zDv(s k:Nat):(∃ z,zE7 s k=[hdV z 1])\/zE7 s k=[]:=by
 unfold zE7
 by_cases h:k<s%4
 ·exact .inl ⟨((100*s+k:Nat):Int),by rw [zCe (a:=0) h]; rfl⟩
 ·exact .inr (by rw [zCb (a:=0) (Nat.le_of_not_lt ‹_›)]; rfl)
theorem zQ9(n s k:Nat):∀ v∈zE7 s k,okV (n+2) v=true:=λv h=>zA0 v (zId h)
theorem zC7{ix:List Nat} {s t k:Nat} {w:List V} (e:zE7 s k=w):zCx ix (zCz s t k) (zBu (zC4 s k) (zAo 1 t k) (.tup w)):=by
 subst e; exact zPp rfl rfl (zCf (zQ9 10 s k))
theorem zCa{ix:List Nat} {s t k:Nat} {w:List V} (e:zE7 s k=w):zCx ix (zBu (zC4 s k) (zAo 1 t k) (.tup w)) (zCz s t k):=by
 subst e; exact zIv rfl rfl (zCf (zQ9 10 s k))
theorem zRe{ix:List Nat} {s:Nat}:zCx ix (i0V s) (zBu 7 (zAo 0 s 0) (.tup [])):=zPp rfl rfl .nil
theorem zLj{ix:List Nat} {s:Nat}:zCx ix (zBu 7 (zAo 0 s 0) (.tup [])) (i0V s):=zIv rfl rfl .nil
theorem zK7(t k:Nat):(∃ x y r,(zAl 1 t).drop k=x::y::r/\k+1<(t+1)%4)\/(∃ x,(zAl 1 t).drop k=[x]/\(t+1)%4=k+1)\/((zAl 1 t).drop k=[]/\(t+1)%4<=k):=by
 by_cases h:k<(t+1)%4
 ·by_cases h2:k+1<(t+1)%4
  ·exact .inl ⟨_,_,_,(zCe h).trans (congrArg _ (zCe h2)),h2⟩
  ·exact .inr (.inl ⟨_,(zCe h).trans (congrArg _ (zCb (k:=k+1) (Nat.le_of_not_lt ‹_›))),by exact b_sq ‹_› ‹_›⟩)
 ·exact .inr (.inr ⟨zCb (Nat.le_of_not_lt ‹_›),by exact Nat.le_of_not_lt ‹_›⟩)
theorem ansB_ne(s k:Nat):(7:Int)≠zC4 s k:=by
 unfold zC4
 cases (zAl 0 s).drop (k+1) with
 |nil=>show (7:Int)≠0; decide
 |cons _ _=>show (7:Int)≠2; decide
section
variable {X0 X1 X2:AO} {n0 n1:Nat} {S:Pl.Ss} {r l0:List Pl.Msg} {b3:Bool} {f:Int}
theorem zA7{n1:Nat} {M:Pl.Ms}:PreM R19 (sdM n1 M) (sdM n1 M):=by
 have q:=zBr (ix:=R19) n1 M (by rfl) (by rfl) (by rfl) (by rfl);exact⟨rfl,rfl,q.1,q.2.1,q.2.2.1,q.2.2.2.1,q.2.2.2.2⟩
theorem zCw{ix:List Nat}:zBe ix (.list [] (zAb l0) [.tup [sv "dd", zC9 1 (n1+1)]]) (.list [] (zAb (l0++[.i1 (n1+1)])) []):=by
 rw [zFe];exact zEy (zAk l0) (self (n:=12) (v:=zRd (.i1 (n1+1))) (zCi _)) (zCi _)
theorem zCv{ix:List Nat}:zBe ix (zDp 1 (n1+1)) (sdM (n1+1) .exst).td :=
 zA4 (sq:=zAo 1 (n1+1) 0) rfl (zCf (zA0 (n:=10))) (self (v:=zBg (n1+1) 0) (zAw 8 _ _)) .none
theorem zB7{ix:List Nat} {t k:Nat} {v:V} (e:v=zBg t k):zBe ix (.list [] (zAb l0) [.tup [sv "dd", v]]) (.list [] (zAb (l0++[.dat t k])) []):=by
 subst e;rw [zFe];exact zEy (zAk l0) (self (n:=12) (v:=zRd (.dat t k)) (zCi _)) (zCi _)
theorem M_hT_down(hX:Xok X0 X1 X2) (h4:H4 f) (h3:H3 f b3) (hn:n1<800000) (hl:l0.length<800000):zB4 X0 X1 X2 ⟨n0,n1,S,.down,l0,.hello true::r⟩ ⟨n0,n1+1,S,.exst,l0++[.i1 (n1+1)],stay b3 (.hello true) r⟩ f 1:=by
 have hk:=λfr=>m_hT_down b3 fr (zAb l0) (zAb r) (zAg 1 n1) (.list [] [] []) .dead .dead X0 X1 X2 f (sdS n0 S);rw [zA8] at hk;have o2:(Ob.len n1).Ok:=b_n hn
 exact zBx hX hk (zAa h4<|zAa h3<|zAa (zBw hl)<|zAa o2<|zAc) (by decide) (.bool _) (.bool _) (zA7 (n1:=n1) (M:=.down))
  zCw (zBh (by rfl) (.ref (by rfl)) (.ref (by rfl)) rfl) zBj zAm (zAn (by rfl)) zCv
theorem M_hF_down(hX:Xok X0 X1 X2) (h4:H4 f) (h3:H3 f b3):zB4 X0 X1 X2 ⟨n0,n1,S,.down,l0,.hello false::r⟩ ⟨n0,n1,S,.init,l0,stay b3 (.hello false) r⟩ f 1:=by
 exact zBx (a:=sdM n1 .down) hX (λfr=>m_hF_down b3 fr _ _ _ _ _ _ _ _ _ _ _ ) (zAa h4<|zAa h3<|zAc) (by decide) (.bool _) (.bool _) zA7
  (zAe (zAk l0)) (zBh (by rfl) .none (.ref (by rfl)) rfl) (zAe (zAi 1 n1)) zAm trivial trivial
theorem M_hT_init(hX:Xok X0 X1 X2) (h4:H4 f) (h3:H3 f b3) (hn:n1<800000) (hl:l0.length<800000):zB4 X0 X1 X2 ⟨n0,n1,S,.init,l0,.hello true::r⟩ ⟨n0,n1+1,S,.exst,l0++[.i1 (n1+1)],stay b3 (.hello true) r⟩ f 1:=by
 have hk:=λfr=>m_hT_init b3 fr (zAb l0) (zAb r) (zAg 1 n1) (.list [] [] []) .dead .dead X0 X1 X2 f (sdS n0 S);rw [zA8] at hk;have o2:(Ob.len n1).Ok:=b_n hn
 exact zBx hX hk (zAa h4<|zAa h3<|zAa (zBw hl)<|zAa o2<|zAc) (by decide) (.bool _) (.bool _) (zA7 (n1:=n1) (M:=.init))
  zCw (zBh (by rfl) (.ref (by rfl)) (.ref (by rfl)) rfl) zBj zAm (zAn (by rfl)) zCv
theorem M_hF_init(hX:Xok X0 X1 X2) (h4:H4 f) (h3:H3 f b3):zB4 X0 X1 X2 ⟨n0,n1,S,.init,l0,.hello false::r⟩ ⟨n0,n1,S,.init,l0,stay b3 (.hello false) r⟩ f 1:=by
 exact zBx (a:=sdM n1 .init) hX (λfr=>m_hF_init b3 fr _ _ _ _ _ _ _ _ _ _ _ ) (zAa h4<|zAa h3<|zAc) (by decide) (.bool _) (.bool _) zA7
  (zAe (zAk l0)) (zBh (by rfl) .none (.ref (by rfl)) rfl) (zAe (zAi 1 n1)) zAm trivial trivial
theorem M_hT_exst(hX:Xok X0 X1 X2) (h4:H4 f) (h3:H3 f b3):zB4 X0 X1 X2 ⟨n0,n1,S,.exst,l0,.hello true::r⟩ ⟨n0,n1,S,.exst,l0,stay b3 (.hello true) r⟩ f 1:=by
 have q:=zBr (ix:=R19) n1 .exst (by rfl) (by rfl) (by rfl) (by rfl)
 exact zBx (a:=sdM n1 .exst) hX (λfr=>zOa b3 fr _ _ _ _ _ _ _ _ _ _ _ _ _ _ _ _ _ _ _ _ ) (zAa h4<|zAa h3<|zAc) (by decide) (.bool _) (.bool _) zA7
  (zAe (zAk l0)) q.1 q.2.1 q.2.2.1 q.2.2.2.1 q.2.2.2.2
theorem M_hF_exst(hX:Xok X0 X1 X2) (h4:H4 f) (h3:H3 f b3):zB4 X0 X1 X2 ⟨n0,n1,S,.exst,l0,.hello false::r⟩ ⟨n0,n1,S,.init,l0,stay b3 (.hello false) r⟩ f 1:=by
 exact zBx (a:=sdM n1 .exst) hX (λfr=>zOb b3 fr _ _ _ _ _ _ _ _ _ _ _ _ _ _ _ _ _ _ _ _ ) (zAa h4<|zAa h3<|zAc) (by decide) (.bool _) (.bool _) zA7
  (zAe (zAk l0)) (zBh (by rfl) .none (.ref (by rfl)) rfl) (zAe (zAi 1 n1)) zAm trivial trivial
theorem M_hT_exch(hX:Xok X0 X1 X2) (h4:H4 f) (h3:H3 f b3) {k s:Nat}:zB4 X0 X1 X2 ⟨n0,n1,S,(.exch k s),l0,.hello true::r⟩ ⟨n0,n1,S,(.exch k s),l0,stay b3 (.hello true) r⟩ f 1:=by
 have q:=zBr (ix:=R19) n1 (.exch k s) (by rfl) (by rfl) (by rfl) (by rfl)
 exact zBx (a:=sdM n1 (.exch k s)) hX (λfr=>zMp b3 fr _ _ _ _ _ _ _ _ _ _ _ _ _ _ _ _ _ _ _ _ ) (zAa h4<|zAa h3<|zAc) (by decide) (.bool _) (.bool _) zA7
  (zAe (zAk l0)) q.1 q.2.1 q.2.2.1 q.2.2.2.1 q.2.2.2.2
theorem M_hF_exch(hX:Xok X0 X1 X2) (h4:H4 f) (h3:H3 f b3) {k s:Nat}:zB4 X0 X1 X2 ⟨n0,n1,S,(.exch k s),l0,.hello false::r⟩ ⟨n0,n1,S,.init,l0,stay b3 (.hello false) r⟩ f 1:=by
 exact zBx (a:=sdM n1 (.exch k s)) hX (λfr=>zMq b3 fr _ _ _ _ _ _ _ _ _ _ _ _ _ _ _ _ _ _ _ _ ) (zAa h4<|zAa h3<|zAc) (by decide) (.bool _) (.bool _) zA7
  (zAe (zAk l0)) (zBh (by rfl) .none (.ref (by rfl)) rfl) (zAe (zAi 1 n1)) zAm trivial trivial
theorem M_hT_full(hX:Xok X0 X1 X2) (h4:H4 f) (h3:H3 f b3) {s:Nat}:zB4 X0 X1 X2 ⟨n0,n1,S,(.full s),l0,.hello true::r⟩ ⟨n0,n1,S,(.full s),l0,stay b3 (.hello true) r⟩ f 1:=by
 have q:=zBr (ix:=R19) n1 (.full s) (by rfl) (by rfl) (by rfl) (by rfl)
 exact zBx (a:=sdM n1 (.full s)) hX (λfr=>m_hT_full b3 fr _ _ _ _ _ _ _ _ _ _ _ _ _ _ _ _ _ _ _ _ ) (zAa h4<|zAa h3<|zAc) (by decide) (.bool _) (.bool _) zA7
  (zAe (zAk l0)) q.1 q.2.1 q.2.2.1 q.2.2.2.1 q.2.2.2.2
theorem M_hF_full(hX:Xok X0 X1 X2) (h4:H4 f) (h3:H3 f b3) {s:Nat}:zB4 X0 X1 X2 ⟨n0,n1,S,(.full s),l0,.hello false::r⟩ ⟨n0,n1,S,.init,l0,stay b3 (.hello false) r⟩ f 1:=by
 exact zBx (a:=sdM n1 (.full s)) hX (λfr=>m_hF_full b3 fr _ _ _ _ _ _ _ _ _ _ _ _ _ _ _ _ _ _ _ _ ) (zAa h4<|zAa h3<|zAc) (by decide) (.bool _) (.bool _) zA7
  (zAe (zAk l0)) (zBh (by rfl) .none (.ref (by rfl)) rfl) (zAe (zAi 1 n1)) zAm trivial trivial
theorem zJ0(hX:Xok X0 X1 X2) (h4:H4 f) (h3:H3 f b3) {s t k:Nat}:zB4 X0 X1 X2 ⟨n0,n1,S,.down,l0,.ans s t k::r⟩ ⟨n0,n1,S,.down,l0,stay b3 (.ans s t k) r⟩ f 1:=by
 have q:=zBr (ix:=R19) n1 .down (by rfl) (by rfl) (by rfl) (by rfl)
 rcases zDv s k with⟨z,e⟩|e
 ·exact zBx (a:=sdM n1 .down) (m:=.ans s t k) hX (λfr=>zRg b3 fr (zAb l0) (zAb r) _ _ _ _ _ X0 X1 X2 f (zAo 1 t k) (zC4 s k) z 1 (sdS n0 S)) (zAa h4<|zAa h3<|zAc) (by decide) (zC7 e) (zCa e) zA7
   (zAe (zAk l0)) q.1 q.2.1 q.2.2.1 q.2.2.2.1 q.2.2.2.2
 ·exact zBx (a:=sdM n1 .down) (m:=.ans s t k) hX (λfr=>zIe b3 fr (zAb l0) (zAb r) _ _ _ _ _ X0 X1 X2 f (zAo 1 t k) (zC4 s k) (sdS n0 S)) (zAa h4<|zAa h3<|zAc) (by decide) (zC7 e) (zCa e) zA7
   (zAe (zAk l0)) q.1 q.2.1 q.2.2.1 q.2.2.2.1 q.2.2.2.2
theorem zKn(hX:Xok X0 X1 X2) (h4:H4 f) (h3:H3 f b3) {s:Nat}:zB4 X0 X1 X2 ⟨n0,n1,S,.down,l0,.i0 s::r⟩ ⟨n0,n1,S,.down,l0,stay b3 (.i0 s) r⟩ f 1:=by
 have q:=zBr (ix:=R19) n1 .down (by rfl) (by rfl) (by rfl) (by rfl)
 exact zBx (a:=sdM n1 .down) (m:=.i0 s) hX (λfr=>zIe b3 fr (zAb l0) (zAb r) _ _ _ _ _ X0 X1 X2 f (zAo 0 s 0) 7 (sdS n0 S)) (zAa h4<|zAa h3<|zAc) (by decide) zRe zLj zA7
  (zAe (zAk l0)) q.1 q.2.1 q.2.2.1 q.2.2.2.1 q.2.2.2.2
theorem zJz(hX:Xok X0 X1 X2) (h4:H4 f) (h3:H3 f b3) {s t k:Nat}:zB4 X0 X1 X2 ⟨n0,n1,S,.init,l0,.ans s t k::r⟩ ⟨n0,n1,S,.init,l0,stay b3 (.ans s t k) r⟩ f 1:=by
 have q:=zBr (ix:=R19) n1 .init (by rfl) (by rfl) (by rfl) (by rfl)
 rcases zDv s k with⟨z,e⟩|e
 ·exact zBx (a:=sdM n1 .init) (m:=.ans s t k) hX (λfr=>zRg b3 fr (zAb l0) (zAb r) _ _ _ _ _ X0 X1 X2 f (zAo 1 t k) (zC4 s k) z 1 (sdS n0 S)) (zAa h4<|zAa h3<|zAc) (by decide) (zC7 e) (zCa e) zA7
   (zAe (zAk l0)) q.1 q.2.1 q.2.2.1 q.2.2.2.1 q.2.2.2.2
 ·exact zBx (a:=sdM n1 .init) (m:=.ans s t k) hX (λfr=>zIe b3 fr (zAb l0) (zAb r) _ _ _ _ _ X0 X1 X2 f (zAo 1 t k) (zC4 s k) (sdS n0 S)) (zAa h4<|zAa h3<|zAc) (by decide) (zC7 e) (zCa e) zA7
   (zAe (zAk l0)) q.1 q.2.1 q.2.2.1 q.2.2.2.1 q.2.2.2.2
theorem zKm(hX:Xok X0 X1 X2) (h4:H4 f) (h3:H3 f b3) {s:Nat}:zB4 X0 X1 X2 ⟨n0,n1,S,.init,l0,.i0 s::r⟩ ⟨n0,n1,S,.init,l0,stay b3 (.i0 s) r⟩ f 1:=by
 have q:=zBr (ix:=R19) n1 .init (by rfl) (by rfl) (by rfl) (by rfl)
 exact zBx (a:=sdM n1 .init) (m:=.i0 s) hX (λfr=>zIe b3 fr (zAb l0) (zAb r) _ _ _ _ _ X0 X1 X2 f (zAo 0 s 0) 7 (sdS n0 S)) (zAa h4<|zAa h3<|zAc) (by decide) zRe zLj zA7
  (zAe (zAk l0)) q.1 q.2.1 q.2.2.1 q.2.2.2.1 q.2.2.2.2
theorem M_i0_exst(hX:Xok X0 X1 X2) (h4:H4 f) (h3:H3 f b3) (hl:l0.length<800000) {s:Nat}:zB4 X0 X1 X2 ⟨n0,n1,S,.exst,l0,.i0 s::r⟩ ⟨n0,n1,S,.exst,l0,stay b3 (.i0 s) r⟩ f 1:=by
 have q:=zBr (ix:=R19) n1 .exst (by rfl) (by rfl) (by rfl) (by rfl);have a1:=zBi (l:=l0) (vs:=[]) hl (Nat.zero_le _)
 exact zBx (a:=sdM n1 .exst) (m:=.i0 s) hX (λfr=>m_i0_exst b3 fr (zAb l0) (zAb r) (zAl 1 n1) (zBg n1 0) (.list [] (zAg 1 n1) []) X0 X1 X2 f (zAo 0 s 0) (zAo 1 n1 0) (sdS n0 S)) (zAa h4<|zAa h3<|zAa a1<|zAc) (by decide) (self (v:=i0V s) (zEr 8 s)) (self (v:=i0V s) (zEr 8 s)) zA7
  (zAe (zAk l0)) q.1 q.2.1 q.2.2.1 q.2.2.2.1 q.2.2.2.2
theorem M_no_exst(hX:Xok X0 X1 X2) (h4:H4 f) (h3:H3 f b3) (hl:l0.length<800000) {s t k:Nat} (hk:k<400) (ne:¬(t=n1/\k=0)):zB4 X0 X1 X2 ⟨n0,n1,S,.exst,l0,.ans s t k::r⟩ ⟨n0,n1,S,.exst,l0,stay b3 (.ans s t k) r⟩ f 1:=by
 have q:=zBr (ix:=R19) n1 .exst (by rfl) (by rfl) (by rfl) (by rfl);have a1:=zBi (l:=l0) (vs:=[]) hl (Nat.zero_le _);have hne:=zDd (a:=1) (t:=t) (k:=k) (t':=n1) (k':=0) (b_5 ‹_›) (Nat.le_of_ble_eq_true rfl) ne
 rcases zO2 (s%4) k with e|e|e
 ·have hs:=zDq (ix:=R19) (zKf (t:=t) e) (zBm 8 _ _ _)
  exact zBx (a:=sdM n1 .exst) (m:=.ans s t k) hX (λfr=>zL9 b3 fr (zAb l0) (zAb r) (zAl 1 n1) (zBg n1 0) (.list [] (zAg 1 n1) []) X0 X1 X2 f (zAo 1 t k) (zAo 1 n1 0) _ _ (sdS n0 S)) (zAa h4<|zAa h3<|zAa (zL6 hne)<|zAa a1<|zAc) (by decide) hs.1 hs.2 zA7
   (zAe (zAk l0)) q.1 q.2.1 q.2.2.1 q.2.2.2.1 q.2.2.2.2
 ·have hs:=zDq (ix:=R19) (zKg (t:=t) e) (zBm 8 _ _ _)
  exact zBx (a:=sdM n1 .exst) (m:=.ans s t k) hX (λfr=>zMb b3 fr (zAb l0) (zAb r) (zAl 1 n1) (zBg n1 0) (.list [] (zAg 1 n1) []) X0 X1 X2 f (zAo 1 t k) (zAo 1 n1 0) _ _ (sdS n0 S)) (zAa h4<|zAa h3<|zAa (zL6 hne)<|zAa a1<|zAc) (by decide) hs.1 hs.2 zA7
   (zAe (zAk l0)) q.1 q.2.1 q.2.2.1 q.2.2.2.1 q.2.2.2.2
 ·have hs:=zDq (ix:=R19) (zKe (t:=t) e) (zBm 8 _ _ _)
  exact zBx (a:=sdM n1 .exst) (m:=.ans s t k) hX (λfr=>zMa b3 fr (zAb l0) (zAb r) (zAl 1 n1) (zBg n1 0) (.list [] (zAg 1 n1) []) X0 X1 X2 f (zAo 1 t k) (zAo 1 n1 0) (sdS n0 S)) (zAa h4<|zAa h3<|zAa (zL6 hne)<|zAa a1<|zAc) (by decide) hs.1 hs.2 zA7
   (zAe (zAk l0)) q.1 q.2.1 q.2.2.1 q.2.2.2.1 q.2.2.2.2
theorem zCm{n1 s sq km kh j:Nat} {st:String} {M:Pl.Ms} (e:sdM n1 M=⟨sv st,.ref 14,.list [] (zAg 1 n1) [],.list [] ((zAq 0 s).take kh) [],.inst "Exchange" 15,zAj true 9 5 (zAo 1 n1 sq) ((zAl 1 n1).drop j) (zBg n1 j) st (zCz s n1 km)⟩) :
  PreM R19 (sdM n1 M) ⟨sv st,.ref 14,.list [] (zAg 1 n1) [],.list [] ((zAq 0 s).take kh) [],.inst "Exchange" 15,
   zAj true 9 5 (zAo 1 n1 sq) ((zAl 1 n1).drop j) (zBg n1 j) st (zBu (zC4 s km) (zAo 1 n1 km) (.tup (zE7 s km)))⟩:=by
 rw [e]
 exact⟨rfl,rfl,zBh (by rfl) (.ref (by rfl)) (.ref (by rfl)) rfl,zAe (zAi 1 n1),zAe λv h=>zCt (n:=10) v (List.mem_of_mem_take h),zAn (by rfl),
  zA4 rfl (zCf λv h=>zA0 (n:=10) v (List.mem_of_mem_drop h)) (self (zAw 8 _ _)) (zC7 rfl)⟩
theorem zCr{n1 s k:Nat} {l:List V} {b:Int} (e':(zAl 1 n1).drop (k+1)=l) (hb:1+more l=b):PreM R19 (sdM n1 (.exch (k+1) s)) ⟨sv "exchange", .ref 14,.list [] (zAg 1 n1) [],.list [] ((zAq 0 s).take (k+1)) [],.inst "Exchange" 15,zAj true 9 5 (zAo 1 n1 (k+1)) l (zDc b (zAo 1 n1 (k+1)) (.tup (zB5 n1 (k+1)))) "exchange" (zBu (zC4 s k) (zAo 1 n1 k) (.tup (zE7 s k)))⟩:=by
 subst hb e'
 exact zCm (n1:=n1) (s:=s) (sq:=k+1) (km:=k) (kh:=k+1) (j:=k+1) (st := "exchange") (M:=.exch (k+1) s) rfl
theorem zCs{n1:Nat} {l:List V} (e':zAl 1 n1=l):PreM R19 (sdM n1 .exst) ⟨sv "exstart", .ref 14,.list [] (zAg 1 n1) [],.list [] [] [],.inst "Exchange" 15,zAj true 9 5 (zAo 1 n1 0) l (zDc 7 (zAo 1 n1 0) (.tup [])) "exstart" .none⟩:=by
 have pre:=zA7 (n1:=n1) (M:=.exst);subst e';exact⟨rfl,rfl,pre.d,pre.l,pre.h,pre.i,zA4 rfl (zCf (zA0 (n:=10))) (self (v:=zBg n1 0) (zAw 8 _ _)) .none⟩
theorem zO0{n1 s k:Nat} {l:List V} (e':(zAl 1 n1).drop k=l):zBe R19 (zAj true 9 5 (zAo 1 n1 (k+1)) (l.drop 1) (toldP (zAo 1 n1 (k+1)) l) "exchange" (zCz s n1 k)) (sdM n1 (.exch (k+1) s)).td:=by
 have et:=zCc (t:=n1) e';rw [exchM_of e'];subst e';exact zA4 rfl (zCf λv h=>zA0 (n:=10) v (List.mem_of_mem_drop (List.mem_of_mem_drop (i:=1) h))) (self (et▸zAw 8 _ _)) (self (zBm 8 _ _ _))
theorem pT_F{n1 s k:Nat} (hK:k+1=Pl.K s n1) (e':(zAl 1 n1).drop (k+1)=[]):zBe R19 (zAj true 9 5 (zAo 1 n1 (k+1)) [] (zDc 1 (zAo 1 n1 (k+1)) (.tup (zB5 n1 (k+1)))) "full" (zCz s n1 (k+1))) (sdM n1 (.full s)).td:=by
 have he:zBg n1 (k+1)=zDc 1 (zAo 1 n1 (k+1)) (.tup (zB5 n1 (k+1))):=by
  show pkP (1+more ((zAl 1 n1).drop (k+1))) _ _=_;rw [e']; rfl
 unfold sdM;dsimp only;rw [<-hK,e',he];exact zA4 rfl .nil (self (he▸zAw 8 _ _)) (self (zBm 8 _ _ _))
theorem zKo(hX:Xok X0 X1 X2) (h4:H4 f) (h3:H3 f b3) (hl:l0.length<800000) {s k:Nat}:zB4 X0 X1 X2 ⟨n0,n1,S,(.exch (k+1) s),l0,.ans s n1 k::r⟩ ⟨n0,n1,S,(.exch (k+1) s),l0,stay b3 (.ans s n1 k) r⟩ f 1:=by
 have q:=zBr (ix:=R19) n1 (.exch (k+1) s) (by rfl) (by rfl) (by rfl) (by rfl);have a1:=zBi (l:=l0) (vs:=[]) hl (Nat.zero_le _)
 have pT:zBe R19 (zAj true 9 5 (zAo 1 n1 (k+1)) ((zAl 1 n1).drop (k+1)) (zBg n1 (k+1)) "exchange" (zBu (zC4 s k) (zAo 1 n1 k) (.tup (zE7 s k)))) (sdM n1 (.exch (k+1) s)).td :=
  zA4 rfl (zCf λv h=>zA0 (n:=10) v (List.mem_of_mem_drop h)) (self (zAw 8 _ _)) (zCa rfl)
 rcases zDv s k with⟨z,e⟩|e
 ·exact zBx (m:=.ans s n1 k) hX (λfr=>zHb b3 fr (zAb l0) (zAb r) ((zAq 0 s).take (k+1)) ((zAl 1 n1).drop (k+1)) (zBg n1 (k+1)) (.tup (zE7 s k)) (.list [] (zAg 1 n1) []) X0 X1 X2 f (zAo 1 n1 k) (zAo 1 n1 (k+1)) (zC4 s k) (zAo 1 n1 k) (zC4 s k) z 1 (sdS n0 S)) (zAa h4<|zAa h3<|zAa (zB0 rfl)<|zAa (zB0 rfl)<|zAa a1<|zAc) (by decide) (zC7 e) (zCa e) (zCm rfl)
   (zAe (zAk l0)) q.1 q.2.1 q.2.2.1 q.2.2.2.1 pT
 ·exact zBx (m:=.ans s n1 k) hX (λfr=>zHa b3 fr (zAb l0) (zAb r) ((zAq 0 s).take (k+1)) ((zAl 1 n1).drop (k+1)) (zBg n1 (k+1)) (.tup (zE7 s k)) (.list [] (zAg 1 n1) []) X0 X1 X2 f (zAo 1 n1 k) (zAo 1 n1 (k+1)) (zC4 s k) (zAo 1 n1 k) (zC4 s k) (sdS n0 S)) (zAa h4<|zAa h3<|zAa (zB0 rfl)<|zAa (zB0 rfl)<|zAa a1<|zAc) (by decide) (zC7 e) (zCa e) (zCm rfl)
   (zAe (zAk l0)) q.1 q.2.1 q.2.2.1 q.2.2.2.1 pT
theorem M_dbl_full(hX:Xok X0 X1 X2) (h4:H4 f) (h3:H3 f b3) (hl:l0.length<800000) {s:Nat}:zB4 X0 X1 X2 ⟨n0,n1,S,(.full s),l0,.ans s n1 (Pl.K s n1)::r⟩ ⟨n0,n1,S,(.full s),l0,stay b3 (.ans s n1 (Pl.K s n1)) r⟩ f 1:=by
 have q:=zBr (ix:=R19) n1 (.full s) (by rfl) (by rfl) (by rfl) (by rfl);have a1:=zBi (l:=l0) (vs:=[]) hl (Nat.zero_le _)
 have pT:zBe R19 (zAj true 9 5 (zAo 1 n1 (Pl.K s n1)) ((zAl 1 n1).drop (Pl.K s n1)) (zBg n1 (Pl.K s n1)) "full" (zBu (zC4 s (Pl.K s n1)) (zAo 1 n1 (Pl.K s n1)) (.tup (zE7 s (Pl.K s n1))))) (sdM n1 (.full s)).td :=
  zA4 rfl (zCf λv h=>zA0 (n:=10) v (List.mem_of_mem_drop h)) (self (zAw 8 _ _)) (zCa rfl)
 rcases zDv s (Pl.K s n1) with⟨z,e⟩|e
 ·exact zBx (m:=.ans s n1 (Pl.K s n1)) hX (λfr=>zOd b3 fr (zAb l0) (zAb r) ((zAq 0 s).take (Pl.K s n1+1)) ((zAl 1 n1).drop (Pl.K s n1)) (zBg n1 (Pl.K s n1)) (.tup (zE7 s (Pl.K s n1))) (.list [] (zAg 1 n1) []) X0 X1 X2 f (zAo 1 n1 (Pl.K s n1)) (zAo 1 n1 (Pl.K s n1)) (zC4 s (Pl.K s n1)) (zAo 1 n1 (Pl.K s n1)) (zC4 s (Pl.K s n1)) z 1 (sdS n0 S)) (zAa h4<|zAa h3<|zAa (zB0 rfl)<|zAa (zB0 rfl)<|zAa a1<|zAc) (by decide) (zC7 e) (zCa e) (zCm rfl)
   (zAe (zAk l0)) q.1 q.2.1 q.2.2.1 q.2.2.2.1 pT
 ·exact zBx (m:=.ans s n1 (Pl.K s n1)) hX (λfr=>zOc b3 fr (zAb l0) (zAb r) ((zAq 0 s).take (Pl.K s n1+1)) ((zAl 1 n1).drop (Pl.K s n1)) (zBg n1 (Pl.K s n1)) (.tup (zE7 s (Pl.K s n1))) (.list [] (zAg 1 n1) []) X0 X1 X2 f (zAo 1 n1 (Pl.K s n1)) (zAo 1 n1 (Pl.K s n1)) (zC4 s (Pl.K s n1)) (zAo 1 n1 (Pl.K s n1)) (zC4 s (Pl.K s n1)) (sdS n0 S)) (zAa h4<|zAa h3<|zAa (zB0 rfl)<|zAa (zB0 rfl)<|zAa a1<|zAc) (by decide) (zC7 e) (zCa e) (zCm rfl)
   (zAe (zAk l0)) q.1 q.2.1 q.2.2.1 q.2.2.2.1 pT
theorem zKp(hX:Xok X0 X1 X2) (h4:H4 f) (h3:H3 f b3) (hl:l0.length<800000) (hn:n1<800000) {s s' t k:Nat} (hk:k<400) (ne:¬(t=n1/\k=Pl.K s n1)):zB4 X0 X1 X2 ⟨n0,n1,S,(.full s),l0,.ans s' t k::r⟩ ⟨n0,n1+1,S,.exst,l0++[.i1 (n1+1)],stay b3 (.ans s' t k) r⟩ f 1:=by
 have a1:=zBi (l:=l0) (vs:=[]) hl (Nat.zero_le _);have o2:(Ob.len n1).Ok:=b_n hn;have hK3:=Pl.K_le s n1;have hne:=zDd (a:=1) (t:=t) (k:=k) (t':=n1) (k':=Pl.K s n1) (b_5 ‹_›) (b_5 (b_30 ‹_›)) ne
 rcases zDv s' k with⟨z,e⟩|e
 ·have hk:=λfr=>zKb b3 (decide (zC4 s' k=zC4 s (Pl.K s n1))) fr (zAb l0) (zAb r) (zAg 1 n1) ((zAq 0 s).take (Pl.K s n1+1)) ((zAl 1 n1).drop (Pl.K s n1)) (zBg n1 (Pl.K s n1)) (.tup (zE7 s (Pl.K s n1))) X0 X1 X2 f (zAo 1 t k) (zAo 1 n1 (Pl.K s n1)) (zC4 s (Pl.K s n1)) (zAo 1 n1 (Pl.K s n1)) (zC4 s' k) z 1 (sdS n0 S);rw [zA8] at hk
  exact zBx (m:=.ans s' t k) hX hk (zAa h4<|zAa h3<|zCh rfl (λ_=>hne)<|zAa a1<|zAa (zBw hl)<|zAa o2<|zAc) (by decide) (zC7 e) (zCa e) (zCm rfl)
   zCw (zBh (by rfl) (.ref (by rfl)) (.ref (by rfl)) rfl) zBj zAm (zAn (by rfl)) zCv
 ·have hk:=λfr=>zEt b3 (decide (zC4 s' k=zC4 s (Pl.K s n1))) fr (zAb l0) (zAb r) (zAg 1 n1) ((zAq 0 s).take (Pl.K s n1+1)) ((zAl 1 n1).drop (Pl.K s n1)) (zBg n1 (Pl.K s n1)) (.tup (zE7 s (Pl.K s n1))) X0 X1 X2 f (zAo 1 t k) (zAo 1 n1 (Pl.K s n1)) (zC4 s (Pl.K s n1)) (zAo 1 n1 (Pl.K s n1)) (zC4 s' k) (sdS n0 S);rw [zA8] at hk
  exact zBx (m:=.ans s' t k) hX hk (zAa h4<|zAa h3<|zCh rfl (λ_=>hne)<|zAa a1<|zAa (zBw hl)<|zAa o2<|zAc) (by decide) (zC7 e) (zCa e) (zCm rfl)
   zCw (zBh (by rfl) (.ref (by rfl)) (.ref (by rfl)) rfl) zBj zAm (zAn (by rfl)) zCv
theorem zNn(hX:Xok X0 X1 X2) (h4:H4 f) (h3:H3 f b3) (hl:l0.length<800000) (hn:n1<800000) {s s':Nat}:zB4 X0 X1 X2 ⟨n0,n1,S,(.full s),l0,.i0 s'::r⟩ ⟨n0,n1+1,S,.exst,l0++[.i1 (n1+1)],stay b3 (.i0 s') r⟩ f 1:=by
 have a1:=zBi (l:=l0) (vs:=[]) hl (Nat.zero_le _);have o2:(Ob.len n1).Ok:=b_n hn;have hk:=λfr=>zEt b3 false fr (zAb l0) (zAb r) (zAg 1 n1) ((zAq 0 s).take (Pl.K s n1+1)) ((zAl 1 n1).drop (Pl.K s n1)) (zBg n1 (Pl.K s n1)) (.tup (zE7 s (Pl.K s n1))) X0 X1 X2 f (zAo 0 s' 0) (zAo 1 n1 (Pl.K s n1)) (zC4 s (Pl.K s n1)) (zAo 1 n1 (Pl.K s n1)) 7 (sdS n0 S);rw [zA8] at hk
 exact zBx (m:=.i0 s') hX hk (zAa h4<|zAa h3<|zCh (decide_eq_false (ansB_ne _ _)) (λh=>nomatch h)<|zAa a1<|zAa (zBw hl)<|zAa o2<|zAc) (by decide) zRe zLj (zCm rfl)
  zCw (zBh (by rfl) (.ref (by rfl)) (.ref (by rfl)) rfl) zBj zAm (zAn (by rfl)) zCv
theorem M_bad_i0(hX:Xok X0 X1 X2) (h4:H4 f) (h3:H3 f b3) (hl:l0.length<800000) (hn:n1<800000) {s s' k:Nat}:zB4 X0 X1 X2 ⟨n0,n1,S,(.exch (k+1) s),l0,.i0 s'::r⟩ ⟨n0,n1+1,S,.exst,l0++[.i1 (n1+1)],stay b3 (.i0 s') r⟩ f 1:=by
 have a1:=zBi (l:=l0) (vs:=[]) hl (Nat.zero_le _);have o2:(Ob.len n1).Ok:=b_n hn;have hk:=λfr=>zOe b3 false fr (zAb l0) (zAb r) (zAg 1 n1) ((zAq 0 s).take (k+1)) ((zAl 1 n1).drop (k+1)) (zBg n1 (k+1)) (.tup (zE7 s k)) X0 X1 X2 f (zAo 0 s' 0) (zAo 1 n1 (k+1)) (zC4 s k) (zAo 1 n1 k) (sdS n0 S);rw [zA8] at hk
 exact zBx (m:=.i0 s') hX hk (zAa h4<|zAa h3<|zCh (decide_eq_false (ansB_ne _ _)) (λh=>nomatch h)<|zAa a1<|zAa (zBw hl)<|zAa o2<|zAc) (by decide) (self (v:=i0V s') (zEr 8 s')) (self (v:=i0V s') (zEr 8 s')) (zCm rfl)
  zCw (zBh (by rfl) (.ref (by rfl)) (.ref (by rfl)) rfl) zBj zAm (zAn (by rfl)) zCv
theorem M_bad_ans(hX:Xok X0 X1 X2) (h4:H4 f) (h3:H3 f b3) (hl:l0.length<800000) (hn:n1<800000) {s s' t k k':Nat} (hk:k<400) (hk':k'<400) (ne:¬(t=n1/\k'=k)) (ne2:¬(t=n1/\k'=k+1)):zB4 X0 X1 X2 ⟨n0,n1,S,(.exch (k+1) s),l0,.ans s' t k'::r⟩ ⟨n0,n1+1,S,.exst,l0++[.i1 (n1+1)],stay b3 (.ans s' t k') r⟩ f 1:=by
 have a1:=zBi (l:=l0) (vs:=[]) hl (Nat.zero_le _);have o2:(Ob.len n1).Ok:=b_n hn;have hne:=zDd (a:=1) (t:=t) (k:=k') (t':=n1) (k':=k) (b_5 ‹_›) (b_5 ‹_›) ne;have hne2:=zDd (a:=1) (t:=t) (k:=k') (t':=n1) (k':=k+1) (b_5 ‹_›) (b_51 ‹_›) ne2
 rcases zO2 (s'%4) k' with e|e|e
 ·have hs:=λix=>zDq (ix:=ix) (zKf (t:=t) e) (zBm 8 _ _ _);have hk:=λfr=>zP1 b3 (decide ((2:Int)=zC4 s k)) fr (zAb l0) (zAb r) (zAg 1 n1) ((zAq 0 s).take (k+1)) ((zAl 1 n1).drop (k+1)) (zBg n1 (k+1)) (.tup (zE7 s k)) X0 X1 X2 f (zAo 1 t k') (zAo 1 n1 (k+1)) (zC4 s k) (zAo 1 n1 k) ((100*s'+k':Nat):Int) 1 (sdS n0 S);rw [zA8] at hk
  exact zBx (m:=.ans s' t k') hX hk (zAa h4<|zAa h3<|zCh rfl (λ_=>hne)<|zAa (zL6 hne2)<|zAa a1<|zAa (zBw hl)<|zAa o2<|zAc) (by decide) (hs _).1 (hs _).2 (zCm rfl)
    zCw (zBh (by rfl) (.ref (by rfl)) (.ref (by rfl)) rfl) zBj zAm (zAn (by rfl)) zCv
 ·have hs:=λix=>zDq (ix:=ix) (zKg (t:=t) e) (zBm 8 _ _ _);have hk:=λfr=>zP3 b3 (decide ((0:Int)=zC4 s k)) fr (zAb l0) (zAb r) (zAg 1 n1) ((zAq 0 s).take (k+1)) ((zAl 1 n1).drop (k+1)) (zBg n1 (k+1)) (.tup (zE7 s k)) X0 X1 X2 f (zAo 1 t k') (zAo 1 n1 (k+1)) (zC4 s k) (zAo 1 n1 k) ((100*s'+k':Nat):Int) 1 (sdS n0 S);rw [zA8] at hk
  exact zBx (m:=.ans s' t k') hX hk (zAa h4<|zAa h3<|zCh rfl (λ_=>hne)<|zAa (zL6 hne2)<|zAa a1<|zAa (zBw hl)<|zAa o2<|zAc) (by decide) (hs _).1 (hs _).2 (zCm rfl)
    zCw (zBh (by rfl) (.ref (by rfl)) (.ref (by rfl)) rfl) zBj zAm (zAn (by rfl)) zCv
 ·have hs:=λix=>zDq (ix:=ix) (zKe (t:=t) e) (zBm 8 _ _ _);have hk:=λfr=>zP2 b3 (decide ((0:Int)=zC4 s k)) fr (zAb l0) (zAb r) (zAg 1 n1) ((zAq 0 s).take (k+1)) ((zAl 1 n1).drop (k+1)) (zBg n1 (k+1)) (.tup (zE7 s k)) X0 X1 X2 f (zAo 1 t k') (zAo 1 n1 (k+1)) (zC4 s k) (zAo 1 n1 k) (sdS n0 S);rw [zA8] at hk
  exact zBx (m:=.ans s' t k') hX hk (zAa h4<|zAa h3<|zCh rfl (λ_=>hne)<|zAa (zL6 hne2)<|zAa a1<|zAa (zBw hl)<|zAa o2<|zAc) (by decide) (hs _).1 (hs _).2 (zCm rfl)
    zCw (zBh (by rfl) (.ref (by rfl)) (.ref (by rfl)) rfl) zBj zAm (zAn (by rfl)) zCv
theorem M_next_mh(hX:Xok X0 X1 X2) (h4:H4 f) (h3:H3 f b3) (hl:l0.length<800000) (hn:n1<800000) {s k:Nat} (hk:k<300) (hK:k+1<=Pl.K s n1) (e:(k+1)+1<s%4) :
  zB4 X0 X1 X2 ⟨n0,n1,S,.exch (k+1) s,l0,.ans s n1 (k+1)::r⟩ (if k+1=Pl.K s n1 then ⟨n0,n1,S,.full s,l0,stay b3 (.ans s n1 (k+1)) r⟩ else ⟨n0,n1,S,.exch (k+1+1) s,l0++[.dat n1 (k+1+1)],stay b3 (.ans s n1 (k+1)) r⟩) f 1:=by
 have a1:=zBi (l:=l0) (vs:=[]) hl (Nat.zero_le _)
 have a2:=zBi (l:=l0) (vs:=[.tup [sv "dd", zBg n1 (k+1+1)]]) hl (Nat.le_of_ble_eq_true rfl)
 have hne:=zDd (a:=1) (t:=n1) (k:=k+1) (t':=n1) (k':=k) (b_51 (b_4 ‹_›)) (b_5 (b_4 ‹_›)) b_ss;have hf:=zEs (a:=1) (t:=n1) (k:=k+1) (b_num1 ‹_› ‹_›);have hs:=zDq (ix:=R19) (zKf (t:=n1) e) (zBm 8 _ _ _)
 rcases zK7 n1 (k+1) with⟨x,y,rest,e',hc⟩|⟨x,e',hc⟩|⟨e',hc⟩
 ·rw [if_neg (K_ne0 ‹_›)];have pre':=zCr (s:=s) (b:=3) e' rfl;have et:=zCc (t:=n1) e';rw [et] at a2;have pT:=zO0 (s:=s) e';rw [zKf (t:=n1) e] at pT;have hk:=λfr=>zMc b3 (decide ((2:Int)=zC4 s k)) fr (zAb l0) (zAb r) ((zAq 0 s).take (k+1)) rest x y (.tup (zE7 s k)) (.tup (zB5 n1 (k+1))) (.list [] (zAg 1 n1) []) X0 X1 X2 f (zAo 1 n1 (k+1)) (zAo 1 n1 (k+1)) (zC4 s k) (zAo 1 n1 k) ((100*s+(k+1):Nat):Int) (zAo 1 n1 (k+1)) (sdS n0 S);rw [hf] at hk
  exact zBx (m:=.ans s n1 (k+1)) hX hk (zAa h4<|zAa h3<|zCh rfl (λ_=>hne)<|zAa (zB0 rfl)<|zAa zCn<|zAa zAz<|zAa a2<|zAc) (by decide) hs.1 hs.2 pre'
    (zB7 et.symm) (zBh (by rfl) (.ref (by rfl)) (.ref (by rfl)) rfl) (zAe (zAi 1 n1)) (zCd (a:=0) (b_lt ‹_›) rfl rfl) (zAn (by rfl)) pT
 ·rw [if_neg (K_ne0 ‹_›)];have pre':=zCr (s:=s) (b:=3) e' rfl;have et:=zCc (t:=n1) e';rw [et] at a2;have pT:=zO0 (s:=s) e';rw [zKf (t:=n1) e] at pT;have hk:=λfr=>zMd b3 (decide ((2:Int)=zC4 s k)) fr (zAb l0) (zAb r) ((zAq 0 s).take (k+1)) x (.tup (zE7 s k)) (.tup (zB5 n1 (k+1))) (.list [] (zAg 1 n1) []) X0 X1 X2 f (zAo 1 n1 (k+1)) (zAo 1 n1 (k+1)) (zC4 s k) (zAo 1 n1 k) ((100*s+(k+1):Nat):Int) (zAo 1 n1 (k+1)) (sdS n0 S);rw [hf] at hk
  exact zBx (m:=.ans s n1 (k+1)) hX hk (zAa h4<|zAa h3<|zCh rfl (λ_=>hne)<|zAa (zB0 rfl)<|zAa zCn<|zAa zAz<|zAa a2<|zAc) (by decide) hs.1 hs.2 pre'
    (zB7 et.symm) (zBh (by rfl) (.ref (by rfl)) (.ref (by rfl)) rfl) (zAe (zAi 1 n1)) (zCd (a:=0) (b_lt ‹_›) rfl rfl) (zAn (by rfl)) pT
 ·rw [if_neg (K_ne0 ‹_›)];have pre':=zCr (s:=s) (b:=1) e' rfl;have et:=zCc (t:=n1) e';rw [et] at a2;have pT:=zO0 (s:=s) e';rw [zKf (t:=n1) e] at pT;have hk:=λfr=>zMe b3 (decide ((2:Int)=zC4 s k)) fr (zAb l0) (zAb r) ((zAq 0 s).take (k+1)) (.tup (zE7 s k)) (.tup (zB5 n1 (k+1))) (.list [] (zAg 1 n1) []) X0 X1 X2 f (zAo 1 n1 (k+1)) (zAo 1 n1 (k+1)) (zC4 s k) (zAo 1 n1 k) ((100*s+(k+1):Nat):Int) (zAo 1 n1 (k+1)) (sdS n0 S);rw [hf] at hk
  exact zBx (m:=.ans s n1 (k+1)) hX hk (zAa h4<|zAa h3<|zCh rfl (λ_=>hne)<|zAa (zB0 rfl)<|zAa zCn<|zAa zAz<|zAa a2<|zAc) (by decide) hs.1 hs.2 pre'
    (zB7 et.symm) (zBh (by rfl) (.ref (by rfl)) (.ref (by rfl)) rfl) (zAe (zAi 1 n1)) (zCd (a:=0) (b_lt ‹_›) rfl rfl) (zAn (by rfl)) pT
theorem M_next_lh(hX:Xok X0 X1 X2) (h4:H4 f) (h3:H3 f b3) (hl:l0.length<800000) (hn:n1<800000) {s k:Nat} (hk:k<300) (hK:k+1<=Pl.K s n1) (e:(k+1)+1=s%4) :
  zB4 X0 X1 X2 ⟨n0,n1,S,.exch (k+1) s,l0,.ans s n1 (k+1)::r⟩ (if k+1=Pl.K s n1 then ⟨n0,n1,S,.full s,l0,stay b3 (.ans s n1 (k+1)) r⟩ else ⟨n0,n1,S,.exch (k+1+1) s,l0++[.dat n1 (k+1+1)],stay b3 (.ans s n1 (k+1)) r⟩) f 1:=by
 have a1:=zBi (l:=l0) (vs:=[]) hl (Nat.zero_le _)
 have a2:=zBi (l:=l0) (vs:=[.tup [sv "dd", zBg n1 (k+1+1)]]) hl (Nat.le_of_ble_eq_true rfl)
 have hne:=zDd (a:=1) (t:=n1) (k:=k+1) (t':=n1) (k':=k) (b_51 (b_4 ‹_›)) (b_5 (b_4 ‹_›)) b_ss;have hf:=zEs (a:=1) (t:=n1) (k:=k+1) (b_num1 ‹_› ‹_›);have hs:=zDq (ix:=R19) (zKg (t:=n1) e) (zBm 8 _ _ _)
 rcases zK7 n1 (k+1) with⟨x,y,rest,e',hc⟩|⟨x,e',hc⟩|⟨e',hc⟩
 ·rw [if_neg (K_ne2 ‹_›)];have pre':=zCr (s:=s) (b:=3) e' rfl;have et:=zCc (t:=n1) e';rw [et] at a2;have pT:=zO0 (s:=s) e';rw [zKg (t:=n1) e] at pT;have hk:=λfr=>zMi b3 (decide ((0:Int)=zC4 s k)) fr (zAb l0) (zAb r) ((zAq 0 s).take (k+1)) rest x y (.tup (zE7 s k)) (.tup (zB5 n1 (k+1))) (.list [] (zAg 1 n1) []) X0 X1 X2 f (zAo 1 n1 (k+1)) (zAo 1 n1 (k+1)) (zC4 s k) (zAo 1 n1 k) ((100*s+(k+1):Nat):Int) (zAo 1 n1 (k+1)) (sdS n0 S);rw [hf] at hk
  exact zBx (m:=.ans s n1 (k+1)) hX hk (zAa h4<|zAa h3<|zCh rfl (λ_=>hne)<|zAa (zB0 rfl)<|zAa zCn<|zAa zAz<|zAa a2<|zAc) (by decide) hs.1 hs.2 pre'
    (zB7 et.symm) (zBh (by rfl) (.ref (by rfl)) (.ref (by rfl)) rfl) (zAe (zAi 1 n1)) (zCd (a:=0) (zEg ‹_›) rfl rfl) (zAn (by rfl)) pT
 ·rw [if_neg (K_ne3 ‹_›)];have pre':=zCr (s:=s) (b:=3) e' rfl;have et:=zCc (t:=n1) e';rw [et] at a2;have pT:=zO0 (s:=s) e';rw [zKg (t:=n1) e] at pT;have hk:=λfr=>zMj b3 (decide ((0:Int)=zC4 s k)) fr (zAb l0) (zAb r) ((zAq 0 s).take (k+1)) x (.tup (zE7 s k)) (.tup (zB5 n1 (k+1))) (.list [] (zAg 1 n1) []) X0 X1 X2 f (zAo 1 n1 (k+1)) (zAo 1 n1 (k+1)) (zC4 s k) (zAo 1 n1 k) ((100*s+(k+1):Nat):Int) (zAo 1 n1 (k+1)) (sdS n0 S);rw [hf] at hk
  exact zBx (m:=.ans s n1 (k+1)) hX hk (zAa h4<|zAa h3<|zCh rfl (λ_=>hne)<|zAa (zB0 rfl)<|zAa zCn<|zAa zAz<|zAa a2<|zAc) (by decide) hs.1 hs.2 pre'
    (zB7 et.symm) (zBh (by rfl) (.ref (by rfl)) (.ref (by rfl)) rfl) (zAe (zAi 1 n1)) (zCd (a:=0) (zEg ‹_›) rfl rfl) (zAn (by rfl)) pT
 ·rw [if_pos (K_is ‹_› ‹_› (zLe ‹_›))];have pre':=zCr (s:=s) (b:=1) e' rfl
  have hK2:k+1=Pl.K s n1:=by exact K_is ‹_› ‹_› (zLe ‹_›)
  have pT:=pT_F hK2 e';rw [zKg (t:=n1) e] at pT;have hk:=λfr=>zMk b3 (decide ((0:Int)=zC4 s k)) fr (zAb l0) (zAb r) ((zAq 0 s).take (k+1)) (.tup (zE7 s k)) (.tup (zB5 n1 (k+1))) (.list [] (zAg 1 n1) []) X0 X1 X2 f (zAo 1 n1 (k+1)) (zAo 1 n1 (k+1)) (zC4 s k) (zAo 1 n1 k) ((100*s+(k+1):Nat):Int) (zAo 1 n1 (k+1)) (sdS n0 S)
  exact zBx (m:=.ans s n1 (k+1)) hX hk (zAa h4<|zAa h3<|zCh rfl (λ_=>hne)<|zAa (zB0 rfl)<|zAa zCn<|zAa a1<|zAc) (by decide) hs.1 hs.2 pre'
    (zAe (zAk l0)) (zBh (by rfl) (.ref (by rfl)) (.ref (by rfl)) rfl) (zAe (zAi 1 n1)) (by show zBe _ _ (.list [] ((zAq 0 s).take (Pl.K s n1+1)) []); rw [<-hK2]; exact zCd (a:=0) (zEg ‹_›) rfl rfl) (zAn (by rfl)) pT
theorem M_next_ln(hX:Xok X0 X1 X2) (h4:H4 f) (h3:H3 f b3) (hl:l0.length<800000) (hn:n1<800000) {s k:Nat} (hk:k<300) (hK:k+1<=Pl.K s n1) (e:s%4<=(k+1)) :
  zB4 X0 X1 X2 ⟨n0,n1,S,.exch (k+1) s,l0,.ans s n1 (k+1)::r⟩ (if k+1=Pl.K s n1 then ⟨n0,n1,S,.full s,l0,stay b3 (.ans s n1 (k+1)) r⟩ else ⟨n0,n1,S,.exch (k+1+1) s,l0++[.dat n1 (k+1+1)],stay b3 (.ans s n1 (k+1)) r⟩) f 1:=by
 have a1:=zBi (l:=l0) (vs:=[]) hl (Nat.zero_le _)
 have a2:=zBi (l:=l0) (vs:=[.tup [sv "dd", zBg n1 (k+1+1)]]) hl (Nat.le_of_ble_eq_true rfl)
 have hne:=zDd (a:=1) (t:=n1) (k:=k+1) (t':=n1) (k':=k) (b_51 (b_4 ‹_›)) (b_5 (b_4 ‹_›)) b_ss;have hf:=zEs (a:=1) (t:=n1) (k:=k+1) (b_num1 ‹_› ‹_›);have hs:=zDq (ix:=R19) (zKe (t:=n1) e) (zBm 8 _ _ _)
 rcases zK7 n1 (k+1) with⟨x,y,rest,e',hc⟩|⟨x,e',hc⟩|⟨e',hc⟩
 ·rw [if_neg (K_ne2 ‹_›)];have pre':=zCr (s:=s) (b:=3) e' rfl;have et:=zCc (t:=n1) e';rw [et] at a2;have pT:=zO0 (s:=s) e';rw [zKe (t:=n1) e] at pT;have hk:=λfr=>zMf b3 (decide ((0:Int)=zC4 s k)) fr (zAb l0) (zAb r) ((zAq 0 s).take (k+1)) rest x y (.tup (zE7 s k)) (.tup (zB5 n1 (k+1))) (.list [] (zAg 1 n1) []) X0 X1 X2 f (zAo 1 n1 (k+1)) (zAo 1 n1 (k+1)) (zC4 s k) (zAo 1 n1 k) (zAo 1 n1 (k+1)) (sdS n0 S);rw [hf] at hk
  exact zBx (m:=.ans s n1 (k+1)) hX hk (zAa h4<|zAa h3<|zCh rfl (λ_=>hne)<|zAa (zB0 rfl)<|zAa zAz<|zAa a2<|zAc) (by decide) hs.1 hs.2 pre'
    (zB7 et.symm) (zBh (by rfl) (.ref (by rfl)) (.ref (by rfl)) rfl) (zAe (zAi 1 n1)) (zCu (a:=0) ‹_›) (zAn (by rfl)) pT
 ·rw [if_neg (K_ne3 ‹_›)];have pre':=zCr (s:=s) (b:=3) e' rfl;have et:=zCc (t:=n1) e';rw [et] at a2;have pT:=zO0 (s:=s) e';rw [zKe (t:=n1) e] at pT;have hk:=λfr=>zMg b3 (decide ((0:Int)=zC4 s k)) fr (zAb l0) (zAb r) ((zAq 0 s).take (k+1)) x (.tup (zE7 s k)) (.tup (zB5 n1 (k+1))) (.list [] (zAg 1 n1) []) X0 X1 X2 f (zAo 1 n1 (k+1)) (zAo 1 n1 (k+1)) (zC4 s k) (zAo 1 n1 k) (zAo 1 n1 (k+1)) (sdS n0 S);rw [hf] at hk
  exact zBx (m:=.ans s n1 (k+1)) hX hk (zAa h4<|zAa h3<|zCh rfl (λ_=>hne)<|zAa (zB0 rfl)<|zAa zAz<|zAa a2<|zAc) (by decide) hs.1 hs.2 pre'
    (zB7 et.symm) (zBh (by rfl) (.ref (by rfl)) (.ref (by rfl)) rfl) (zAe (zAi 1 n1)) (zCu (a:=0) ‹_›) (zAn (by rfl)) pT
 ·rw [if_pos (K_is ‹_› ‹_› (b_le ‹_›))];have pre':=zCr (s:=s) (b:=1) e' rfl
  have hK2:k+1=Pl.K s n1:=by exact K_is ‹_› ‹_› (b_le ‹_›)
  have pT:=pT_F hK2 e';rw [zKe (t:=n1) e] at pT;have hk:=λfr=>zMh b3 (decide ((0:Int)=zC4 s k)) fr (zAb l0) (zAb r) ((zAq 0 s).take (k+1)) (.tup (zE7 s k)) (.tup (zB5 n1 (k+1))) (.list [] (zAg 1 n1) []) X0 X1 X2 f (zAo 1 n1 (k+1)) (zAo 1 n1 (k+1)) (zC4 s k) (zAo 1 n1 k) (zAo 1 n1 (k+1)) (sdS n0 S)
  exact zBx (m:=.ans s n1 (k+1)) hX hk (zAa h4<|zAa h3<|zCh rfl (λ_=>hne)<|zAa (zB0 rfl)<|zAa a1<|zAc) (by decide) hs.1 hs.2 pre'
    (zAe (zAk l0)) (zBh (by rfl) (.ref (by rfl)) (.ref (by rfl)) rfl) (zAe (zAi 1 n1)) (by show zBe _ _ (.list [] ((zAq 0 s).take (Pl.K s n1+1)) []); rw [<-hK2]; exact zCu (a:=0) ‹_›) (zAn (by rfl)) pT
theorem zQs(hX:Xok X0 X1 X2) (h4:H4 f) (h3:H3 f b3) (hl:l0.length<800000) (hn:n1<800000) {s:Nat} (e:0+1<s%4):zB4 X0 X1 X2 ⟨n0,n1,S,.exst,l0,.ans s n1 0::r⟩ ⟨n0,n1,S,.exch (0+1) s,l0++[.dat n1 (0+1)],stay b3 (.ans s n1 0) r⟩ f 1:=by
 have a2:=zBi (l:=l0) (vs:=[.tup [sv "dd", zBg n1 (0+1)]]) hl (Nat.le_of_ble_eq_true rfl)
 have hf:=zEs (a:=1) (t:=n1) (k:=0) (b_num0 ‹_›);have hs:=zDq (ix:=R19) (zKf (t:=n1) e) (zBm 8 _ _ _)
 rcases zK7 n1 0 with⟨x,y,rest,e',hc⟩|⟨x,e',hc⟩|⟨e',hc⟩
 ·have pre':=zCs e';have et:=zCc (t:=n1) e';rw [et] at a2;have pT:=zO0 (s:=s) e';rw [zKf (t:=n1) e] at pT;have hk:=λfr=>zMr b3 fr (zAb l0) (zAb r) rest x y (.tup []) (.list [] (zAg 1 n1) []) X0 X1 X2 f (zAo 1 n1 0) (zAo 1 n1 0) ((100*s+0:Nat):Int) (zAo 1 n1 0) (sdS n0 S);rw [hf] at hk
  exact zBx (m:=.ans s n1 0) hX hk (zAa h4<|zAa h3<|zAa (zB0 rfl)<|zAa zAz<|zAa zAz<|zAa a2<|zAc) (by decide) hs.1 hs.2 pre'
   (zB7 et.symm) (zBh (by rfl) (.ref (by rfl)) (.ref (by rfl)) rfl) (zAe (zAi 1 n1)) (zCd (a:=0) (k:=0) (t:=s) (b_lt ‹_›) rfl rfl) (zAn (by rfl)) pT
 ·have pre':=zCs e';have et:=zCc (t:=n1) e';rw [et] at a2;have pT:=zO0 (s:=s) e';rw [zKf (t:=n1) e] at pT;have hk:=λfr=>zMs b3 fr (zAb l0) (zAb r) x (.tup []) (.list [] (zAg 1 n1) []) X0 X1 X2 f (zAo 1 n1 0) (zAo 1 n1 0) ((100*s+0:Nat):Int) (zAo 1 n1 0) (sdS n0 S);rw [hf] at hk
  exact zBx (m:=.ans s n1 0) hX hk (zAa h4<|zAa h3<|zAa (zB0 rfl)<|zAa zAz<|zAa zAz<|zAa a2<|zAc) (by decide) hs.1 hs.2 pre'
   (zB7 et.symm) (zBh (by rfl) (.ref (by rfl)) (.ref (by rfl)) rfl) (zAe (zAi 1 n1)) (zCd (a:=0) (k:=0) (t:=s) (b_lt ‹_›) rfl rfl) (zAn (by rfl)) pT
 ·have pre':=zCs e';have et:=zCc (t:=n1) e';rw [et] at a2;have pT:=zO0 (s:=s) e';rw [zKf (t:=n1) e] at pT;have hk:=λfr=>zMt b3 fr (zAb l0) (zAb r) (.tup []) (.list [] (zAg 1 n1) []) X0 X1 X2 f (zAo 1 n1 0) (zAo 1 n1 0) ((100*s+0:Nat):Int) (zAo 1 n1 0) (sdS n0 S);rw [hf] at hk
  exact zBx (m:=.ans s n1 0) hX hk (zAa h4<|zAa h3<|zAa (zB0 rfl)<|zAa zAz<|zAa zAz<|zAa a2<|zAc) (by decide) hs.1 hs.2 pre'
   (zB7 et.symm) (zBh (by rfl) (.ref (by rfl)) (.ref (by rfl)) rfl) (zAe (zAi 1 n1)) (zCd (a:=0) (k:=0) (t:=s) (b_lt ‹_›) rfl rfl) (zAn (by rfl)) pT
theorem zQu(hX:Xok X0 X1 X2) (h4:H4 f) (h3:H3 f b3) (hl:l0.length<800000) (hn:n1<800000) {s:Nat} (e:0+1=s%4):zB4 X0 X1 X2 ⟨n0,n1,S,.exst,l0,.ans s n1 0::r⟩ ⟨n0,n1,S,.exch (0+1) s,l0++[.dat n1 (0+1)],stay b3 (.ans s n1 0) r⟩ f 1:=by
 have a2:=zBi (l:=l0) (vs:=[.tup [sv "dd", zBg n1 (0+1)]]) hl (Nat.le_of_ble_eq_true rfl)
 have hf:=zEs (a:=1) (t:=n1) (k:=0) (b_num0 ‹_›);have hs:=zDq (ix:=R19) (zKg (t:=n1) e) (zBm 8 _ _ _)
 rcases zK7 n1 0 with⟨x,y,rest,e',hc⟩|⟨x,e',hc⟩|⟨e',hc⟩
 ·have pre':=zCs e';have et:=zCc (t:=n1) e';rw [et] at a2;have pT:=zO0 (s:=s) e';rw [zKg (t:=n1) e] at pT;have hk:=λfr=>zMx b3 fr (zAb l0) (zAb r) rest x y (.tup []) (.list [] (zAg 1 n1) []) X0 X1 X2 f (zAo 1 n1 0) (zAo 1 n1 0) ((100*s+0:Nat):Int) (zAo 1 n1 0) (sdS n0 S);rw [hf] at hk
  exact zBx (m:=.ans s n1 0) hX hk (zAa h4<|zAa h3<|zAa (zB0 rfl)<|zAa zAz<|zAa zAz<|zAa a2<|zAc) (by decide) hs.1 hs.2 pre'
   (zB7 et.symm) (zBh (by rfl) (.ref (by rfl)) (.ref (by rfl)) rfl) (zAe (zAi 1 n1)) (zCd (a:=0) (k:=0) (t:=s) (zEg ‹_›) rfl rfl) (zAn (by rfl)) pT
 ·have pre':=zCs e';have et:=zCc (t:=n1) e';rw [et] at a2;have pT:=zO0 (s:=s) e';rw [zKg (t:=n1) e] at pT;have hk:=λfr=>zMy b3 fr (zAb l0) (zAb r) x (.tup []) (.list [] (zAg 1 n1) []) X0 X1 X2 f (zAo 1 n1 0) (zAo 1 n1 0) ((100*s+0:Nat):Int) (zAo 1 n1 0) (sdS n0 S);rw [hf] at hk
  exact zBx (m:=.ans s n1 0) hX hk (zAa h4<|zAa h3<|zAa (zB0 rfl)<|zAa zAz<|zAa zAz<|zAa a2<|zAc) (by decide) hs.1 hs.2 pre'
   (zB7 et.symm) (zBh (by rfl) (.ref (by rfl)) (.ref (by rfl)) rfl) (zAe (zAi 1 n1)) (zCd (a:=0) (k:=0) (t:=s) (zEg ‹_›) rfl rfl) (zAn (by rfl)) pT
 ·have pre':=zCs e';have et:=zCc (t:=n1) e';rw [et] at a2;have pT:=zO0 (s:=s) e';rw [zKg (t:=n1) e] at pT;have hk:=λfr=>zMz b3 fr (zAb l0) (zAb r) (.tup []) (.list [] (zAg 1 n1) []) X0 X1 X2 f (zAo 1 n1 0) (zAo 1 n1 0) ((100*s+0:Nat):Int) (zAo 1 n1 0) (sdS n0 S);rw [hf] at hk
  exact zBx (m:=.ans s n1 0) hX hk (zAa h4<|zAa h3<|zAa (zB0 rfl)<|zAa zAz<|zAa zAz<|zAa a2<|zAc) (by decide) hs.1 hs.2 pre'
   (zB7 et.symm) (zBh (by rfl) (.ref (by rfl)) (.ref (by rfl)) rfl) (zAe (zAi 1 n1)) (zCd (a:=0) (k:=0) (t:=s) (zEg ‹_›) rfl rfl) (zAn (by rfl)) pT
theorem zQt(hX:Xok X0 X1 X2) (h4:H4 f) (h3:H3 f b3) (hl:l0.length<800000) (hn:n1<800000) {s:Nat} (e:s%4<=0):zB4 X0 X1 X2 ⟨n0,n1,S,.exst,l0,.ans s n1 0::r⟩ ⟨n0,n1,S,.exch (0+1) s,l0++[.dat n1 (0+1)],stay b3 (.ans s n1 0) r⟩ f 1:=by
 have a2:=zBi (l:=l0) (vs:=[.tup [sv "dd", zBg n1 (0+1)]]) hl (Nat.le_of_ble_eq_true rfl)
 have hf:=zEs (a:=1) (t:=n1) (k:=0) (b_num0 ‹_›);have hs:=zDq (ix:=R19) (zKe (t:=n1) e) (zBm 8 _ _ _)
 rcases zK7 n1 0 with⟨x,y,rest,e',hc⟩|⟨x,e',hc⟩|⟨e',hc⟩
 ·have pre':=zCs e';have et:=zCc (t:=n1) e';rw [et] at a2;have pT:=zO0 (s:=s) e';rw [zKe (t:=n1) e] at pT;have hk:=λfr=>zMu b3 fr (zAb l0) (zAb r) rest x y (.tup []) (.list [] (zAg 1 n1) []) X0 X1 X2 f (zAo 1 n1 0) (zAo 1 n1 0) (zAo 1 n1 0) (sdS n0 S);rw [hf] at hk
  exact zBx (m:=.ans s n1 0) hX hk (zAa h4<|zAa h3<|zAa (zB0 rfl)<|zAa zAz<|zAa a2<|zAc) (by decide) hs.1 hs.2 pre'
   (zB7 et.symm) (zBh (by rfl) (.ref (by rfl)) (.ref (by rfl)) rfl) (zAe (zAi 1 n1)) (zCu (a:=0) (k:=0) (t:=s) ‹_›) (zAn (by rfl)) pT
 ·have pre':=zCs e';have et:=zCc (t:=n1) e';rw [et] at a2;have pT:=zO0 (s:=s) e';rw [zKe (t:=n1) e] at pT;have hk:=λfr=>zMv b3 fr (zAb l0) (zAb r) x (.tup []) (.list [] (zAg 1 n1) []) X0 X1 X2 f (zAo 1 n1 0) (zAo 1 n1 0) (zAo 1 n1 0) (sdS n0 S);rw [hf] at hk
  exact zBx (m:=.ans s n1 0) hX hk (zAa h4<|zAa h3<|zAa (zB0 rfl)<|zAa zAz<|zAa a2<|zAc) (by decide) hs.1 hs.2 pre'
   (zB7 et.symm) (zBh (by rfl) (.ref (by rfl)) (.ref (by rfl)) rfl) (zAe (zAi 1 n1)) (zCu (a:=0) (k:=0) (t:=s) ‹_›) (zAn (by rfl)) pT
 ·have pre':=zCs e';have et:=zCc (t:=n1) e';rw [et] at a2;have pT:=zO0 (s:=s) e';rw [zKe (t:=n1) e] at pT;have hk:=λfr=>zMw b3 fr (zAb l0) (zAb r) (.tup []) (.list [] (zAg 1 n1) []) X0 X1 X2 f (zAo 1 n1 0) (zAo 1 n1 0) (zAo 1 n1 0) (sdS n0 S);rw [hf] at hk
  exact zBx (m:=.ans s n1 0) hX hk (zAa h4<|zAa h3<|zAa (zB0 rfl)<|zAa zAz<|zAa a2<|zAc) (by decide) hs.1 hs.2 pre'
   (zB7 et.symm) (zBh (by rfl) (.ref (by rfl)) (.ref (by rfl)) rfl) (zAe (zAi 1 n1)) (zCu (a:=0) (k:=0) (t:=s) ‹_›) (zAn (by rfl)) pT
end
theorem zCy:IxOk R19 19:=⟨by decide,by decide,by decide,by rfl,by rfl,by rfl,by rfl⟩
theorem zA6{X0 X1 X2:AO} {w w':Pl.W} {ix:List Nat} {N:Nat} {obs:List Ob} {orc:List Bool} {f a:Int} {σp σr:List AO} (pre:zFq R19 (zDa w X0 X1 X2) σp)
  (hk:∀ fr,zAh ix (RB.call 41 (.fn "_law_deed") [.ref 1,.sym f,.int a] ⟨fr,σp,orc⟩)=some (.bool true,fr,σr,N,[],obs)) (ok:Oks obs) (hix:IxOk ix N) (post:zFq ix σr (zDa w' X0 X1 X2)):zB4 X0 X1 X2 w w' f a:=by
 refine⟨σp,ix,N,orc,obs,pre,ok,hix,λfr=>?_⟩;obtain⟨s1,e,eN,e2⟩:=zEk (hk fr);exact⟨s1,eN,e,by rw [e2]; exact post⟩
section
variable {X0 X1 X2:AO} {n0 n1:Nat} {S:Pl.Ss} {M:Pl.Ms} {r l0 l1:List Pl.Msg} {b3:Bool} {f:Int}
theorem zAy(hX:Xok X0 X1 X2) (n0 n1:Nat) (S:Pl.Ss) (M:Pl.Ms) {l0 l1:List Pl.Msg} {Z l:AO} (hz:zBe R19 Z (.list [] (zAb l0) [])) (hl:zBe R19 l (.list [] (zAb l1) [])) :
  zFq R19 (zAr Z l (sdS n0 S) (sdM n1 M) X0 X1 X2) (zDa ⟨n0,n1,S,M,l0,l1⟩ X0 X1 X2):=by
 obtain⟨x0,x1,x2⟩:=hX R19 (by rfl);have q:=zBq (ix:=R19) n0 S (by rfl) (by rfl) (by rfl) (by rfl);have q':=zBr (ix:=R19) n1 M (by rfl) (by rfl) (by rfl) (by rfl);exact zBv (by rfl) (by rfl) (by rfl) (by rfl) (by rfl) (by rfl) hz hl q.1 q'.1 q.2.1 q'.2.1 q.2.2.1 q'.2.2.1 q.2.2.2.1 q.2.2.2.2 q'.2.2.2.1 q'.2.2.2.2 x0 x1 x2
theorem zA5(hX:Xok X0 X1 X2) (n0 n1:Nat) (S:Pl.Ss) (M:Pl.Ms) {l0 l1:List Pl.Msg} {Z l:AO} (hz:zBe R19 (.list [] (zAb l0) []) Z) (hl:zBe R19 (.list [] (zAb l1) []) l) :
  zFq R19 (zDa ⟨n0,n1,S,M,l0,l1⟩ X0 X1 X2) (zAr Z l (sdS n0 S) (sdM n1 M) X0 X1 X2):=by
 obtain⟨x0,x1,x2⟩:=hX R19 (by rfl);have q:=zBq (ix:=R19) n0 S (by rfl) (by rfl) (by rfl) (by rfl);have q':=zBr (ix:=R19) n1 M (by rfl) (by rfl) (by rfl) (by rfl);exact zBv (by rfl) (by rfl) (by rfl) (by rfl) (by rfl) (by rfl) hz hl q.1 q'.1 q.2.1 q'.2.1 q.2.2.1 q'.2.2.1 q.2.2.2.1 q.2.2.2.2 q'.2.2.2.1 q'.2.2.2.2 x0 x1 x2
theorem zAf{ix:List Nat} (l:List Pl.Msg):zBe ix (.list [] (zAb l) []) (.list [] (zAb l) []):=zAe (zAk l)
theorem popO{ix:List Nat} (m:Pl.Msg) (r:List Pl.Msg):zBe ix (.list [] (zAb (m::r)) []) (.list [zRd m] (zAb r) []):=zIw (zAk r) (self (zCi m))
theorem zEo{ix:List Nat} (m:Pl.Msg) (r:List Pl.Msg):zBe ix (.list [zRd m] (zAb r) []) (.list [] (zAb (m::r)) []):=zPo (b:=true) (zAk r) (self (zCi m)) (zCi m)
theorem zBp{ix:List Nat} (l:List Pl.Msg) (m:Pl.Msg):zBe ix (.list [] (zAb l) [zRd m]) (.list [] (zAb (l++[m])) []):=by
 rw [zFe]; exact zEy (zAk l) (self (zCi m)) (zCi m)
theorem zD3{l:List Pl.Msg} (h:l.length<800000):(Ob.len (zAb l++[]).length).Ok:=by
 show (zAb l++[]).length<900000;rw [List.append_nil,zM2]; lia
theorem zFo(hX:Xok X0 X1 X2) (h1:(Ob.le 4 f false).Ok) (h2:(Ob.eq f 4 false).Ok) (h3:(Ob.eq f 7 false).Ok) (h4:(Ob.eq f 6 false).Ok) (hl:l1.length<800000):zB4 X0 X1 X2 ⟨n0,n1,S,M,[],l1⟩ (Pl.W.helloS ⟨n0,n1,S,M,[],l1⟩) f 0:=by
 have ok:=zAa h1<|zAa h2<|zAa h3<|zAa h4<|zAa (zD3 hl)<|zAc
 cases S with
 |down  => exact zA6 (zA5 hX n0 n1 (.down) M (zAf _) (zAf _)) (λfr=>s_h_a_down fr (zAb l1) _ _ _ _ _ X0 X1 X2 f (sdM n1 M)) ok zCy (zAy hX n0 n1 (.down) M (zAf []) (zBp l1 (.hello false)))
 |init  => exact zA6 (zA5 hX n0 n1 (.init) M (zAf _) (zAf _)) (λfr=>s_h_a_init fr (zAb l1) _ _ _ _ _ X0 X1 X2 f (sdM n1 M)) ok zCy (zAy hX n0 n1 (.init) M (zAf []) (zBp l1 (.hello true)))
 |exst  => exact zA6 (zA5 hX n0 n1 (.exst) M (zAf _) (zAf _)) (λfr=>zL1 fr (zAb l1) _ _ _ _ _ X0 X1 X2 f (sdM n1 M)) ok zCy (zAy hX n0 n1 (.exst) M (zAf []) (zBp l1 (.hello true)))
 |exch t k=>exact zA6 (zA5 hX n0 n1 (.exch t k) M (zAf _) (zAf _)) (λfr=>zJ6 fr (zAb l1) _ _ _ _ _ X0 X1 X2 f (sdM n1 M)) ok zCy (zAy hX n0 n1 (.exch t k) M (zAf []) (zBp l1 (.hello true)))
 |full t k=>exact zA6 (zA5 hX n0 n1 (.full t k) M (zAf _) (zAf _)) (λfr=>s_h_a_full fr (zAb l1) _ _ _ _ _ X0 X1 X2 f (sdM n1 M)) ok zCy (zAy hX n0 n1 (.full t k) M (zAf []) (zBp l1 (.hello true)))
theorem S_hello_b(hX:Xok X0 X1 X2) (h1:(Ob.le 4 f true).Ok) (h2:(Ob.eq f 4 true).Ok) (h3:(Ob.eq f 7 false).Ok) (h4:(Ob.eq f 6 false).Ok) (hl:l1.length<800000):zB4 X0 X1 X2 ⟨n0,n1,S,M,[],l1⟩ (Pl.W.helloS ⟨n0,n1,S,M,[],l1⟩) f 0:=by
 have ok:=zAa h1<|zAa h2<|zAa h3<|zAa h4<|zAa (zD3 hl)<|zAc
 cases S with
 |down  => exact zA6 (zA5 hX n0 n1 (.down) M (zAf _) (zAf _)) (λfr=>s_h_b_down fr (zAb l1) _ _ _ _ _ X0 X1 X2 f (sdM n1 M)) ok zCy (zAy hX n0 n1 (.down) M (zAf []) (zBp l1 (.hello false)))
 |init  => exact zA6 (zA5 hX n0 n1 (.init) M (zAf _) (zAf _)) (λfr=>s_h_b_init fr (zAb l1) _ _ _ _ _ X0 X1 X2 f (sdM n1 M)) ok zCy (zAy hX n0 n1 (.init) M (zAf []) (zBp l1 (.hello true)))
 |exst  => exact zA6 (zA5 hX n0 n1 (.exst) M (zAf _) (zAf _)) (λfr=>zL0 fr (zAb l1) _ _ _ _ _ X0 X1 X2 f (sdM n1 M)) ok zCy (zAy hX n0 n1 (.exst) M (zAf []) (zBp l1 (.hello true)))
 |exch t k=>exact zA6 (zA5 hX n0 n1 (.exch t k) M (zAf _) (zAf _)) (λfr=>zJ5 fr (zAb l1) _ _ _ _ _ X0 X1 X2 f (sdM n1 M)) ok zCy (zAy hX n0 n1 (.exch t k) M (zAf []) (zBp l1 (.hello true)))
 |full t k=>exact zA6 (zA5 hX n0 n1 (.full t k) M (zAf _) (zAf _)) (λfr=>s_h_b_full fr (zAb l1) _ _ _ _ _ X0 X1 X2 f (sdM n1 M)) ok zCy (zAy hX n0 n1 (.full t k) M (zAf []) (zBp l1 (.hello true)))
theorem S_hello_c(hX:Xok X0 X1 X2) (h1:(Ob.le 4 f true).Ok) (h2:(Ob.eq f 4 true).Ok) (h3:(Ob.eq f 7 false).Ok) (h4:(Ob.eq f 6 false).Ok) (hl:l1.length<800000):zB4 X0 X1 X2 ⟨n0,n1,S,M,.hello false::r,l1⟩ (Pl.W.helloS ⟨n0,n1,S,M,.hello false::r,l1⟩) f 0:=by
 have ok:=zAa h1<|zAa h2<|zAa h3<|zAa h4<|zAa (zD3 hl)<|zAc
 cases S with
 |down  => exact zA6 (zA5 hX n0 n1 (.down) M (popO (.hello false) r) (zAf _)) (λfr=>s_h_c_down fr (zAb l1) (zAb r) _ _ _ _ _ X0 X1 X2 f (sdM n1 M)) ok zCy (zAy hX n0 n1 (.down) M (zEo (.hello false) r) (zBp l1 (.hello false)))
 |init  => exact zA6 (zA5 hX n0 n1 (.init) M (popO (.hello false) r) (zAf _)) (λfr=>s_h_c_init fr (zAb l1) (zAb r) _ _ _ _ _ X0 X1 X2 f (sdM n1 M)) ok zCy (zAy hX n0 n1 (.init) M (zEo (.hello false) r) (zBp l1 (.hello true)))
 |exst  => exact zA6 (zA5 hX n0 n1 (.exst) M (popO (.hello false) r) (zAf _)) (λfr=>zLz fr (zAb l1) (zAb r) _ _ _ _ _ X0 X1 X2 f (sdM n1 M)) ok zCy (zAy hX n0 n1 (.exst) M (zEo (.hello false) r) (zBp l1 (.hello true)))
 |exch t k=>exact zA6 (zA5 hX n0 n1 (.exch t k) M (popO (.hello false) r) (zAf _)) (λfr=>zJ4 fr (zAb l1) (zAb r) _ _ _ _ _ X0 X1 X2 f (sdM n1 M)) ok zCy (zAy hX n0 n1 (.exch t k) M (zEo (.hello false) r) (zBp l1 (.hello true)))
 |full t k=>exact zA6 (zA5 hX n0 n1 (.full t k) M (popO (.hello false) r) (zAf _)) (λfr=>s_h_c_full fr (zAb l1) (zAb r) _ _ _ _ _ X0 X1 X2 f (sdM n1 M)) ok zCy (zAy hX n0 n1 (.full t k) M (zEo (.hello false) r) (zBp l1 (.hello true)))
theorem zOy(hX:Xok X0 X1 X2) (h1:(Ob.le 4 f true).Ok) (h2:(Ob.eq f 4 false).Ok) (h3:(Ob.eq f 7 false).Ok) (h4:(Ob.eq f 6 false).Ok) (hl:l1.length<800000):zB4 X0 X1 X2 ⟨n0,n1,S,M,l0,l1⟩ (Pl.W.helloS ⟨n0,n1,S,M,l0,l1⟩) f 0:=by
 have ok:=zAa h1<|zAa h2<|zAa h3<|zAa h4<|zAa (zD3 hl)<|zAc
 cases S with
 |down  => exact zA6 (zA5 hX n0 n1 (.down) M (zAf _) (zAf _)) (λfr=>s_h_e_down fr (zAb l1) _ (.list [] (zAb l0) []) _ _ _ _ X0 X1 X2 f (sdM n1 M)) ok zCy (zAy hX n0 n1 (.down) M (zAf _) (zBp l1 (.hello false)))
 |init  => exact zA6 (zA5 hX n0 n1 (.init) M (zAf _) (zAf _)) (λfr=>s_h_e_init fr (zAb l1) _ (.list [] (zAb l0) []) _ _ _ _ X0 X1 X2 f (sdM n1 M)) ok zCy (zAy hX n0 n1 (.init) M (zAf _) (zBp l1 (.hello true)))
 |exst  => exact zA6 (zA5 hX n0 n1 (.exst) M (zAf _) (zAf _)) (λfr=>zLy fr (zAb l1) _ (.list [] (zAb l0) []) _ _ _ _ X0 X1 X2 f (sdM n1 M)) ok zCy (zAy hX n0 n1 (.exst) M (zAf _) (zBp l1 (.hello true)))
 |exch t k=>exact zA6 (zA5 hX n0 n1 (.exch t k) M (zAf _) (zAf _)) (λfr=>zJ3 fr (zAb l1) _ (.list [] (zAb l0) []) _ _ _ _ X0 X1 X2 f (sdM n1 M)) ok zCy (zAy hX n0 n1 (.exch t k) M (zAf _) (zBp l1 (.hello true)))
 |full t k=>exact zA6 (zA5 hX n0 n1 (.full t k) M (zAf _) (zAf _)) (λfr=>s_h_e_full fr (zAb l1) _ (.list [] (zAb l0) []) _ _ _ _ X0 X1 X2 f (sdM n1 M)) ok zCy (zAy hX n0 n1 (.full t k) M (zAf _) (zBp l1 (.hello true)))
theorem S_loss_t(hX:Xok X0 X1 X2) (h1:(Ob.le 4 f true).Ok) (h2:(Ob.eq f 4 true).Ok):zB4 X0 X1 X2 ⟨n0,n1,S,M,.hello true::r,l1⟩ ⟨n0,n1,S,M,r,l1⟩ f 0 :=
 zA6 (zA5 hX n0 n1 S M (popO _ _) (zAf _)) (λfr=>s_loss_t fr (zAb l1) (zAb r) (sdS n0 S).talk (sdS n0 S).st (sdS n0 S).lists (sdS n0 S).heard (sdS n0 S).inst (sdS n0 S).td X0 X1 X2 f (sdM n1 M)) (zAa h1<|zAa h2<|zAc) zCy (zAy hX n0 n1 S M (zAf _) (zAf _))
theorem zRs(hX:Xok X0 X1 X2) (h1:(Ob.le 4 f true).Ok) (h2:(Ob.eq f 4 true).Ok) {m:Pl.Msg} {b n:Int} {w:List V} (hm:zD7 m = "dd") (ht:zCx R19 (zD6 m) (zBu b n (.tup w))) (hw:(∃ z y,w=[hdV z y])\/w=[]):zB4 X0 X1 X2 ⟨n0,n1,S,M,m::r,l1⟩ ⟨n0,n1,S,M,r,l1⟩ f 0:=by
 have hp:zBe R19 (.list [] (zAb (m::r)) []) (.list [.tup [sv "dd", zBu b n (.tup w)]] (zAb r) []):=zIw (zAk r) (by unfold zRd; rw [hm]; exact .tup (.cons (.str _) (.cons ht .nil)))
 rcases hw with⟨z,y,rfl⟩|rfl
 ·exact zA6 (zA5 hX n0 n1 S M hp (zAf _)) (λfr=>s_loss_dh fr (zAb l1) (zAb r) (sdS n0 S).talk (sdS n0 S).st (sdS n0 S).lists (sdS n0 S).heard (sdS n0 S).inst (sdS n0 S).td X0 X1 X2 f n b z y (sdM n1 M)) (zAa h1<|zAa h2<|zAc) zCy (zAy hX n0 n1 S M (zAf _) (zAf _))
 ·exact zA6 (zA5 hX n0 n1 S M hp (zAf _)) (λfr=>s_loss_dn fr (zAb l1) (zAb r) (sdS n0 S).talk (sdS n0 S).st (sdS n0 S).lists (sdS n0 S).heard (sdS n0 S).inst (sdS n0 S).td X0 X1 X2 f n b (sdM n1 M)) (zAa h1<|zAa h2<|zAc) zCy (zAy hX n0 n1 S M (zAf _) (zAf _))
theorem S_again(hX:Xok X0 X1 X2) (h1:(Ob.le 4 f true).Ok) (h2:(Ob.eq f 4 false).Ok) (h3:(Ob.eq f 7 false).Ok) (h4:(Ob.eq f 6 true).Ok) (hl:l1.length<800000):zB4 X0 X1 X2 ⟨n0,n1,S,M,l0,l1⟩ (Pl.W.againS ⟨n0,n1,S,M,l0,l1⟩) f 0:=by
 have ok:=zAa h1<|zAa h2<|zAa h3<|zAa h4<|zAc
 have ok':=zAa h1<|zAa h2<|zAa h3<|zAa h4<|zAa (zD3 hl)<|zAc
 cases S with
 |down  => exact zA6 (zA5 hX n0 n1 (.down) M (zAf _) (zAf _)) (λfr=>zG4 fr (zAb l1) _ (.list [] (zAb l0) []) _ _ _ _ X0 X1 X2 f (sdM n1 M)) ok zCy (zAy hX n0 n1 (.down) M (zAf _) (zAf _))
 |init  => exact zA6 (zA5 hX n0 n1 (.init) M (zAf _) (zAf _)) (λfr=>zG4 fr (zAb l1) _ (.list [] (zAb l0) []) _ _ _ _ X0 X1 X2 f (sdM n1 M)) ok zCy (zAy hX n0 n1 (.init) M (zAf _) (zAf _))
 |exst  => exact zA6 (zA5 hX n0 n1 (.exst) M (zAf _) (zAf _)) (λfr=>zIu fr (zAb l1) _ _ _ (.list [] (zAb l0) []) _ _ X0 X1 X2 f (zAo 0 n0 0) _ (sdM n1 M)) ok' zCy (zAy hX n0 n1 (.exst) M (zAf _) (zBp l1 (.i0 n0)))
 |exch t k=>exact zA6 (zA5 hX n0 n1 (.exch t k) M (zAf _) (zAf _)) (λfr=>zG9 fr (zAb l1) _ _ _ _ (.list [] (zAb l0) []) _ _ X0 X1 X2 f _ (sdM n1 M)) ok zCy (zAy hX n0 n1 (.exch t k) M (zAf _) (zAf _))
 |full t k=>exact zA6 (zA5 hX n0 n1 (.full t k) M (zAf _) (zAf _)) (λfr=>zN5 fr (zAb l1) _ _ _ _ (.list [] (zAb l0) []) _ _ X0 X1 X2 f _ (sdM n1 M)) ok zCy (zAy hX n0 n1 (.full t k) M (zAf _) (zAf _))
theorem S_gone(hX:Xok X0 X1 X2) (h1:(Ob.le 4 f true).Ok) (h2:(Ob.eq f 4 false).Ok) (h3:(Ob.eq f 7 true).Ok) (hl:l1.length<800000):zB4 X0 X1 X2 ⟨n0,n1,S,M,l0,l1⟩ (Pl.W.goneS ⟨n0,n1,S,M,l0,l1⟩) f 0:=by
 have ok:=zAa h1<|zAa h2<|zAa h3<|zAa (zD3 hl)<|zAc
 have q:=zBr (ix:=[0,1,2,3,4,5,6,7,8,9,21,11,12,13,14,15,16,17,18]) n1 M (by rfl) (by rfl) (by rfl) (by rfl);obtain⟨x0,x1,x2⟩:=hX [0,1,2,3,4,5,6,7,8,9,21,11,12,13,14,15,16,17,18] (by rfl)
 have hix:IxOk [0,1,2,3,4,5,6,7,8,9,21,11,12,13,14,15,16,17,18] 22:=⟨by decide,by decide,by decide,by rfl,by rfl,by rfl,by rfl⟩
 have hd:zBe [0,1,2,3,4,5,6,7,8,9,21,11,12,13,14,15,16,17,18] (dS (sv "down") .none (.ref 21)) (dS (sv "down") .none (.ref 10)):=zBs (by rfl) .none (.ref (by rfl)) rfl
 have hL:zBe [0,1,2,3,4,5,6,7,8,9,21,11,12,13,14,15,16,17,18] (.list [] (zAg 0 n0) []) (.list [] (zAg 0 n0) []):=zAe (zAi _ _)
 cases S with
 |down  => exact zA6 (zA5 hX n0 n1 (.down) M (zAf _) (zAf _)) (λfr=>zIt fr (zAb l1) _ (.list [] (zAb l0) []) _ _ _ _ X0 X1 X2 f (sdM n1 M)) ok hix (zBv (by rfl) (by rfl) (by rfl) (by rfl) (by rfl) (by rfl) (zAf l0) (zBp l1 (.hello false)) hd q.1 hL q.2.1 zAm q.2.2.1 (zBb _) (zBb _) q.2.2.2.1 q.2.2.2.2 x0 x1 x2)
 |init  => exact zA6 (zA5 hX n0 n1 (.init) M (zAf _) (zAf _)) (λfr=>zIt fr (zAb l1) _ (.list [] (zAb l0) []) _ _ _ _ X0 X1 X2 f (sdM n1 M)) ok hix (zBv (by rfl) (by rfl) (by rfl) (by rfl) (by rfl) (by rfl) (zAf l0) (zBp l1 (.hello false)) hd q.1 hL q.2.1 zAm q.2.2.1 (zBb _) (zBb _) q.2.2.2.1 q.2.2.2.2 x0 x1 x2)
 |exst  => exact zA6 (zA5 hX n0 n1 (.exst) M (zAf _) (zAf _)) (λfr=>zEx fr (zAb l1) _ _ _ _ _ _ _ _ _ _ _ _ (.list [] (zAb l0) []) _ _ X0 X1 X2 f (sdM n1 M)) ok hix (zBv (by rfl) (by rfl) (by rfl) (by rfl) (by rfl) (by rfl) (zAf l0) (zBp l1 (.hello false)) hd q.1 hL q.2.1 zAm q.2.2.1 (zBb _) (zBb _) q.2.2.2.1 q.2.2.2.2 x0 x1 x2)
 |exch t k=>exact zA6 (zA5 hX n0 n1 (.exch t k) M (zAf _) (zAf _)) (λfr=>zEx fr (zAb l1) _ _ _ _ _ _ _ _ _ _ _ _ (.list [] (zAb l0) []) _ _ X0 X1 X2 f (sdM n1 M)) ok hix (zBv (by rfl) (by rfl) (by rfl) (by rfl) (by rfl) (by rfl) (zAf l0) (zBp l1 (.hello false)) hd q.1 hL q.2.1 zAm q.2.2.1 (zBb _) (zBb _) q.2.2.2.1 q.2.2.2.2 x0 x1 x2)
 |full t k=>exact zA6 (zA5 hX n0 n1 (.full t k) M (zAf _) (zAf _)) (λfr=>zEx fr (zAb l1) _ _ _ _ _ _ _ _ _ _ _ _ (.list [] (zAb l0) []) _ _ X0 X1 X2 f (sdM n1 M)) ok hix (zBv (by rfl) (by rfl) (by rfl) (by rfl) (by rfl) (by rfl) (zAf l0) (zBp l1 (.hello false)) hd q.1 hL q.2.1 zAm q.2.2.1 (zBb _) (zBb _) q.2.2.2.1 q.2.2.2.2 x0 x1 x2)
theorem zFp(hX:Xok X0 X1 X2) (h1:(Ob.le 4 f false).Ok) (h2:(Ob.eq f 4 false).Ok) (h3:(Ob.eq f 7 false).Ok) (h4:(Ob.eq f 6 false).Ok) (hl:l0.length<800000):zB4 X0 X1 X2 ⟨n0,n1,S,M,l0,[]⟩ (Pl.W.helloM ⟨n0,n1,S,M,l0,[]⟩) f 1:=by
 have ok:=zAa h1<|zAa h2<|zAa h3<|zAa h4<|zAa (zD3 hl)<|zAc
 cases M with
 |down  => exact zA6 (zA5 hX n0 n1 S (.down) (zAf _) (zAf _)) (λfr=>m_h_a_down fr (zAb l0) _ _ _ _ _ X0 X1 X2 f (sdS n0 S)) ok zCy (zAy hX n0 n1 S (.down) (zBp l0 (.hello false)) (zAf []))
 |init  => exact zA6 (zA5 hX n0 n1 S (.init) (zAf _) (zAf _)) (λfr=>m_h_a_init fr (zAb l0) _ _ _ _ _ X0 X1 X2 f (sdS n0 S)) ok zCy (zAy hX n0 n1 S (.init) (zBp l0 (.hello true)) (zAf []))
 |exst  => exact zA6 (zA5 hX n0 n1 S (.exst) (zAf _) (zAf _)) (λfr=>zMo fr (zAb l0) _ _ _ _ _ X0 X1 X2 f (sdS n0 S)) ok zCy (zAy hX n0 n1 S (.exst) (zBp l0 (.hello true)) (zAf []))
 |exch k s=>exact zA6 (zA5 hX n0 n1 S (.exch k s) (zAf _) (zAf _)) (λfr=>zKa fr (zAb l0) _ _ _ _ _ X0 X1 X2 f (sdS n0 S)) ok zCy (zAy hX n0 n1 S (.exch k s) (zBp l0 (.hello true)) (zAf []))
 |full s=>exact zA6 (zA5 hX n0 n1 S (.full s) (zAf _) (zAf _)) (λfr=>m_h_a_full fr (zAb l0) _ _ _ _ _ X0 X1 X2 f (sdS n0 S)) ok zCy (zAy hX n0 n1 S (.full s) (zBp l0 (.hello true)) (zAf []))
theorem M_hello_b(hX:Xok X0 X1 X2) (h1:(Ob.le 4 f true).Ok) (h2:(Ob.eq f 4 true).Ok) (h3:(Ob.eq f 7 false).Ok) (h4:(Ob.eq f 6 false).Ok) (hl:l0.length<800000):zB4 X0 X1 X2 ⟨n0,n1,S,M,l0,[]⟩ (Pl.W.helloM ⟨n0,n1,S,M,l0,[]⟩) f 1:=by
 have ok:=zAa h1<|zAa h2<|zAa h3<|zAa h4<|zAa (zD3 hl)<|zAc
 cases M with
 |down  => exact zA6 (zA5 hX n0 n1 S (.down) (zAf _) (zAf _)) (λfr=>m_h_b_down fr (zAb l0) _ _ _ _ _ X0 X1 X2 f (sdS n0 S)) ok zCy (zAy hX n0 n1 S (.down) (zBp l0 (.hello false)) (zAf []))
 |init  => exact zA6 (zA5 hX n0 n1 S (.init) (zAf _) (zAf _)) (λfr=>m_h_b_init fr (zAb l0) _ _ _ _ _ X0 X1 X2 f (sdS n0 S)) ok zCy (zAy hX n0 n1 S (.init) (zBp l0 (.hello true)) (zAf []))
 |exst  => exact zA6 (zA5 hX n0 n1 S (.exst) (zAf _) (zAf _)) (λfr=>zMn fr (zAb l0) _ _ _ _ _ X0 X1 X2 f (sdS n0 S)) ok zCy (zAy hX n0 n1 S (.exst) (zBp l0 (.hello true)) (zAf []))
 |exch k s=>exact zA6 (zA5 hX n0 n1 S (.exch k s) (zAf _) (zAf _)) (λfr=>zJ9 fr (zAb l0) _ _ _ _ _ X0 X1 X2 f (sdS n0 S)) ok zCy (zAy hX n0 n1 S (.exch k s) (zBp l0 (.hello true)) (zAf []))
 |full s=>exact zA6 (zA5 hX n0 n1 S (.full s) (zAf _) (zAf _)) (λfr=>m_h_b_full fr (zAb l0) _ _ _ _ _ X0 X1 X2 f (sdS n0 S)) ok zCy (zAy hX n0 n1 S (.full s) (zBp l0 (.hello true)) (zAf []))
theorem M_hello_c(hX:Xok X0 X1 X2) (h1:(Ob.le 4 f true).Ok) (h2:(Ob.eq f 4 true).Ok) (h3:(Ob.eq f 7 false).Ok) (h4:(Ob.eq f 6 false).Ok) (hl:l0.length<800000):zB4 X0 X1 X2 ⟨n0,n1,S,M,l0,.hello false::r⟩ (Pl.W.helloM ⟨n0,n1,S,M,l0,.hello false::r⟩) f 1:=by
 have ok:=zAa h1<|zAa h2<|zAa h3<|zAa h4<|zAa (zD3 hl)<|zAc
 cases M with
 |down  => exact zA6 (zA5 hX n0 n1 S (.down) (zAf _) (popO (.hello false) r)) (λfr=>m_h_c_down fr (zAb l0) (zAb r) _ _ _ _ _ X0 X1 X2 f (sdS n0 S)) ok zCy (zAy hX n0 n1 S (.down) (zBp l0 (.hello false)) (zEo (.hello false) r))
 |init  => exact zA6 (zA5 hX n0 n1 S (.init) (zAf _) (popO (.hello false) r)) (λfr=>m_h_c_init fr (zAb l0) (zAb r) _ _ _ _ _ X0 X1 X2 f (sdS n0 S)) ok zCy (zAy hX n0 n1 S (.init) (zBp l0 (.hello true)) (zEo (.hello false) r))
 |exst  => exact zA6 (zA5 hX n0 n1 S (.exst) (zAf _) (popO (.hello false) r)) (λfr=>zMm fr (zAb l0) (zAb r) _ _ _ _ _ X0 X1 X2 f (sdS n0 S)) ok zCy (zAy hX n0 n1 S (.exst) (zBp l0 (.hello true)) (zEo (.hello false) r))
 |exch k s=>exact zA6 (zA5 hX n0 n1 S (.exch k s) (zAf _) (popO (.hello false) r)) (λfr=>zJ8 fr (zAb l0) (zAb r) _ _ _ _ _ X0 X1 X2 f (sdS n0 S)) ok zCy (zAy hX n0 n1 S (.exch k s) (zBp l0 (.hello true)) (zEo (.hello false) r))
 |full s=>exact zA6 (zA5 hX n0 n1 S (.full s) (zAf _) (popO (.hello false) r)) (λfr=>m_h_c_full fr (zAb l0) (zAb r) _ _ _ _ _ X0 X1 X2 f (sdS n0 S)) ok zCy (zAy hX n0 n1 S (.full s) (zBp l0 (.hello true)) (zEo (.hello false) r))
theorem zOz(hX:Xok X0 X1 X2) (h1:(Ob.le 4 f true).Ok) (h2:(Ob.eq f 4 false).Ok) (h3:(Ob.eq f 7 false).Ok) (h4:(Ob.eq f 6 false).Ok) (hl:l0.length<800000):zB4 X0 X1 X2 ⟨n0,n1,S,M,l0,l1⟩ (Pl.W.helloM ⟨n0,n1,S,M,l0,l1⟩) f 1:=by
 have ok:=zAa h1<|zAa h2<|zAa h3<|zAa h4<|zAa (zD3 hl)<|zAc
 cases M with
 |down  => exact zA6 (zA5 hX n0 n1 S (.down) (zAf _) (zAf _)) (λfr=>m_h_e_down fr (zAb l0) _ (.list [] (zAb l1) []) _ _ _ _ X0 X1 X2 f (sdS n0 S)) ok zCy (zAy hX n0 n1 S (.down) (zBp l0 (.hello false)) (zAf _))
 |init  => exact zA6 (zA5 hX n0 n1 S (.init) (zAf _) (zAf _)) (λfr=>m_h_e_init fr (zAb l0) _ (.list [] (zAb l1) []) _ _ _ _ X0 X1 X2 f (sdS n0 S)) ok zCy (zAy hX n0 n1 S (.init) (zBp l0 (.hello true)) (zAf _))
 |exst  => exact zA6 (zA5 hX n0 n1 S (.exst) (zAf _) (zAf _)) (λfr=>zMl fr (zAb l0) _ (.list [] (zAb l1) []) _ _ _ _ X0 X1 X2 f (sdS n0 S)) ok zCy (zAy hX n0 n1 S (.exst) (zBp l0 (.hello true)) (zAf _))
 |exch k s=>exact zA6 (zA5 hX n0 n1 S (.exch k s) (zAf _) (zAf _)) (λfr=>zJ7 fr (zAb l0) _ (.list [] (zAb l1) []) _ _ _ _ X0 X1 X2 f (sdS n0 S)) ok zCy (zAy hX n0 n1 S (.exch k s) (zBp l0 (.hello true)) (zAf _))
 |full s=>exact zA6 (zA5 hX n0 n1 S (.full s) (zAf _) (zAf _)) (λfr=>m_h_e_full fr (zAb l0) _ (.list [] (zAb l1) []) _ _ _ _ X0 X1 X2 f (sdS n0 S)) ok zCy (zAy hX n0 n1 S (.full s) (zBp l0 (.hello true)) (zAf _))
theorem M_loss_t(hX:Xok X0 X1 X2) (h1:(Ob.le 4 f true).Ok) (h2:(Ob.eq f 4 true).Ok):zB4 X0 X1 X2 ⟨n0,n1,S,M,l0,.hello true::r⟩ ⟨n0,n1,S,M,l0,r⟩ f 1 :=
 zA6 (zA5 hX n0 n1 S M (zAf _) (popO _ _)) (λfr=>m_loss_t fr (zAb l0) (zAb r) (sdM n1 M).talk (sdM n1 M).st (sdM n1 M).lists (sdM n1 M).heard (sdM n1 M).inst (sdM n1 M).td X0 X1 X2 f (sdS n0 S)) (zAa h1<|zAa h2<|zAc) zCy (zAy hX n0 n1 S M (zAf _) (zAf _))
theorem zRt(hX:Xok X0 X1 X2) (h1:(Ob.le 4 f true).Ok) (h2:(Ob.eq f 4 true).Ok) {m:Pl.Msg} {b n:Int} {w:List V} (hm:zD7 m = "dd") (ht:zCx R19 (zD6 m) (zBu b n (.tup w))) (hw:(∃ z y,w=[hdV z y])\/w=[]):zB4 X0 X1 X2 ⟨n0,n1,S,M,l0,m::r⟩ ⟨n0,n1,S,M,l0,r⟩ f 1:=by
 have hp:zBe R19 (.list [] (zAb (m::r)) []) (.list [.tup [sv "dd", zBu b n (.tup w)]] (zAb r) []):=zIw (zAk r) (by unfold zRd; rw [hm]; exact .tup (.cons (.str _) (.cons ht .nil)))
 rcases hw with⟨z,y,rfl⟩|rfl
 ·exact zA6 (zA5 hX n0 n1 S M (zAf _) hp) (λfr=>m_loss_dh fr (zAb l0) (zAb r) (sdM n1 M).talk (sdM n1 M).st (sdM n1 M).lists (sdM n1 M).heard (sdM n1 M).inst (sdM n1 M).td X0 X1 X2 f n b z y (sdS n0 S)) (zAa h1<|zAa h2<|zAc) zCy (zAy hX n0 n1 S M (zAf _) (zAf _))
 ·exact zA6 (zA5 hX n0 n1 S M (zAf _) hp) (λfr=>m_loss_dn fr (zAb l0) (zAb r) (sdM n1 M).talk (sdM n1 M).st (sdM n1 M).lists (sdM n1 M).heard (sdM n1 M).inst (sdM n1 M).td X0 X1 X2 f n b (sdS n0 S)) (zAa h1<|zAa h2<|zAc) zCy (zAy hX n0 n1 S M (zAf _) (zAf _))
theorem M_again(hX:Xok X0 X1 X2) (h1:(Ob.le 4 f true).Ok) (h2:(Ob.eq f 4 false).Ok) (h3:(Ob.eq f 7 false).Ok) (h4:(Ob.eq f 6 true).Ok) (hl:l0.length<800000):zB4 X0 X1 X2 ⟨n0,n1,S,M,l0,l1⟩ (Pl.W.againM ⟨n0,n1,S,M,l0,l1⟩) f 1:=by
 have ok:=zAa h1<|zAa h2<|zAa h3<|zAa h4<|zAc
 have ok':=zAa h1<|zAa h2<|zAa h3<|zAa h4<|zAa (zD3 hl)<|zAc
 cases M with
 |down  => exact zA6 (zA5 hX n0 n1 S (.down) (zAf _) (zAf _)) (λfr=>zG6 fr (zAb l0) _ (.list [] (zAb l1) []) _ _ _ _ X0 X1 X2 f (sdS n0 S)) ok zCy (zAy hX n0 n1 S (.down) (zAf _) (zAf _))
 |init  => exact zA6 (zA5 hX n0 n1 S (.init) (zAf _) (zAf _)) (λfr=>zG6 fr (zAb l0) _ (.list [] (zAb l1) []) _ _ _ _ X0 X1 X2 f (sdS n0 S)) ok zCy (zAy hX n0 n1 S (.init) (zAf _) (zAf _))
 |exst  => exact zA6 (zA5 hX n0 n1 S (.exst) (zAf _) (zAf _)) (λfr=>zI5 fr (zAb l0) _ _ _ (.list [] (zAb l1) []) _ _ X0 X1 X2 f (zAo 1 n1 0) _ (sdS n0 S)) ok' zCy (zAy hX n0 n1 S (.exst) (zBp l0 (.i1 n1)) (zAf _))
 |exch k s=>exact zA6 (zA5 hX n0 n1 S (.exch k s) (zAf _) (zAf _)) (λfr=>zHc fr (zAb l0) _ _ _ _ _ _ _ _ _ (.list [] (zAb l1) []) _ _ X0 X1 X2 f _ (sdS n0 S)) ok' zCy (zAy hX n0 n1 S (.exch k s) (zBp l0 (.dat n1 k)) (zAf _))
 |full s=>exact zA6 (zA5 hX n0 n1 S (.full s) (zAf _) (zAf _)) (λfr=>zOf fr (zAb l0) _ _ _ _ (.list [] (zAb l1) []) _ _ X0 X1 X2 f _ (sdS n0 S)) ok zCy (zAy hX n0 n1 S (.full s) (zAf _) (zAf _))
theorem M_gone(hX:Xok X0 X1 X2) (h1:(Ob.le 4 f true).Ok) (h2:(Ob.eq f 4 false).Ok) (h3:(Ob.eq f 7 true).Ok) (hl:l0.length<800000):zB4 X0 X1 X2 ⟨n0,n1,S,M,l0,l1⟩ (Pl.W.goneM ⟨n0,n1,S,M,l0,l1⟩) f 1:=by
 have ok:=zAa h1<|zAa h2<|zAa h3<|zAa (zD3 hl)<|zAc
 have q:=zBq (ix:=[0,1,2,3,4,5,6,7,8,9,10,21,12,13,14,15,16,17,18]) n0 S (by rfl) (by rfl) (by rfl) (by rfl);obtain⟨x0,x1,x2⟩:=hX [0,1,2,3,4,5,6,7,8,9,10,21,12,13,14,15,16,17,18] (by rfl)
 have hix:IxOk [0,1,2,3,4,5,6,7,8,9,10,21,12,13,14,15,16,17,18] 22:=⟨by decide,by decide,by decide,by rfl,by rfl,by rfl,by rfl⟩
 have hd:zBe [0,1,2,3,4,5,6,7,8,9,10,21,12,13,14,15,16,17,18] (dM (sv "down") .none (.ref 21)) (dM (sv "down") .none (.ref 11)):=zBh (by rfl) .none (.ref (by rfl)) rfl
 have hL:zBe [0,1,2,3,4,5,6,7,8,9,10,21,12,13,14,15,16,17,18] (.list [] (zAg 1 n1) []) (.list [] (zAg 1 n1) []):=zAe (zAi _ _)
 cases M with
 |down  => exact zA6 (zA5 hX n0 n1 S (.down) (zAf _) (zAf _)) (λfr=>zI4 fr (zAb l0) _ (.list [] (zAb l1) []) _ _ _ _ X0 X1 X2 f (sdS n0 S)) ok hix (zBv (by rfl) (by rfl) (by rfl) (by rfl) (by rfl) (by rfl) (zBp l0 (.hello false)) (zAf l1) q.1 hd q.2.1 hL q.2.2.1 zAm q.2.2.2.1 q.2.2.2.2 (zBb _) (zBb _) x0 x1 x2)
 |init  => exact zA6 (zA5 hX n0 n1 S (.init) (zAf _) (zAf _)) (λfr=>zI4 fr (zAb l0) _ (.list [] (zAb l1) []) _ _ _ _ X0 X1 X2 f (sdS n0 S)) ok hix (zBv (by rfl) (by rfl) (by rfl) (by rfl) (by rfl) (by rfl) (zBp l0 (.hello false)) (zAf l1) q.1 hd q.2.1 hL q.2.2.1 zAm q.2.2.2.1 q.2.2.2.2 (zBb _) (zBb _) x0 x1 x2)
 |exst  => exact zA6 (zA5 hX n0 n1 S (.exst) (zAf _) (zAf _)) (λfr=>zE0 fr (zAb l0) _ _ _ _ _ _ _ _ _ _ _ _ (.list [] (zAb l1) []) _ _ X0 X1 X2 f (sdS n0 S)) ok hix (zBv (by rfl) (by rfl) (by rfl) (by rfl) (by rfl) (by rfl) (zBp l0 (.hello false)) (zAf l1) q.1 hd q.2.1 hL q.2.2.1 zAm q.2.2.2.1 q.2.2.2.2 (zBb _) (zBb _) x0 x1 x2)
 |exch k s=>exact zA6 (zA5 hX n0 n1 S (.exch k s) (zAf _) (zAf _)) (λfr=>zE0 fr (zAb l0) _ _ _ _ _ _ _ _ _ _ _ _ (.list [] (zAb l1) []) _ _ X0 X1 X2 f (sdS n0 S)) ok hix (zBv (by rfl) (by rfl) (by rfl) (by rfl) (by rfl) (by rfl) (zBp l0 (.hello false)) (zAf l1) q.1 hd q.2.1 hL q.2.2.1 zAm q.2.2.2.1 q.2.2.2.2 (zBb _) (zBb _) x0 x1 x2)
 |full s=>exact zA6 (zA5 hX n0 n1 S (.full s) (zAf _) (zAf _)) (λfr=>zE0 fr (zAb l0) _ _ _ _ _ _ _ _ _ _ _ _ (.list [] (zAb l1) []) _ _ X0 X1 X2 f (sdS n0 S)) ok hix (zBv (by rfl) (by rfl) (by rfl) (by rfl) (by rfl) (by rfl) (zBp l0 (.hello false)) (zAf l1) q.1 hd q.2.1 hL q.2.2.1 zAm q.2.2.2.1 q.2.2.2.2 (zBb _) (zBb _) x0 x1 x2)
end
structure Small (w:Pl.W):Prop where
 n0:w.n0<700000
 n1:w.n1<700000
 l0:w.l0.length<700000
 l1:w.l1.length<700000
section
variable {X0 X1 X2:AO} {n0 n1:Nat} {S:Pl.Ss} {M:Pl.Ms} {m:Pl.Msg} {r l0 l1:List Pl.Msg} {b3:Bool} {f:Int}
theorem zOn{c:Prop} [Decidable c] {w a b:Pl.W} {n:Nat} (p:c->zB4 X0 X1 X2 w a f n) (q:¬c->zB4 X0 X1 X2 w b f n):zB4 X0 X1 X2 w (if c then a else b) f n:=by
 by_cases h:c
 ·rw [if_pos h]; exact p h
 ·rw [if_neg h]; exact q h
theorem lt4{k m:Nat} (h:k<=m) (q:m<=3):k<400:=b_30 (Nat.le_trans h q)
theorem lt5{k m:Nat} (h:k<=m) (q:m<=3):k<500:=b_5 (lt4 h q)
theorem comeS_i1(hX:Xok X0 X1 X2) (h4:decide ((4:Int)<=f)=false) (h3:decide (f=3)=b3) (hn:n0<800000) (hl:l1.length<800000) {t:Nat} (hs:Pl.okS n0 n1 S) :
  zB4 X0 X1 X2 ⟨n0,n1,S,M,.i1 t::r,l1⟩ (Pl.W.comeS ⟨n0,n1,S,M,stay b3 (.i1 t) r,l1⟩ (.i1 t)) f 0:=by
 cases S with
 |down=>exact zKi hX h4 h3
 |init=>exact zKh hX h4 h3
 |exst=>exact S_i1_exst hX h4 h3 hl
 |exch t' k' =>
  refine zOn (c:=t=t'/\k'=0) (λhc=>?_) (λhc=>?_)
  ·obtain⟨rfl,rfl⟩:=hc;exact zNl hX h4 h3 hl
  ·exact S_bad_i1 hX h4 h3 hl hn (lt5 (Nat.le_of_lt hs.2.2.2) (Pl.K_le n0 t')) (λq=>hc ⟨q.1,q.2.symm⟩)
 |full t' k'=>exact zNm hX h4 h3 hl hn (lt5 (Nat.le_of_eq hs.2.2.2) (Pl.K_le n0 t')) (Nat.le_of_ble_eq_true rfl) (λq=>absurd (q.2.trans hs.2.2.2) (Nat.ne_of_lt (Pl.K_pos n0 t')))
theorem comeS_dat(hX:Xok X0 X1 X2) (h4:decide ((4:Int)<=f)=false) (h3:decide (f=3)=b3) (hn:n0<800000) (hn1:n1<700000) (hl:l1.length<800000) {t k:Nat} (ht:t<=n1) (hk3:k+1<=3) (hs:Pl.okS n0 n1 S) :
  zB4 X0 X1 X2 ⟨n0,n1,S,M,.dat t (k+1)::r,l1⟩ (Pl.W.comeS ⟨n0,n1,S,M,stay b3 (.dat t (k+1)) r,l1⟩ (.dat t (k+1))) f 0:=by
 cases S with
 |down=>exact zJy hX h4 h3
 |init=>exact zJx hX h4 h3
 |exst=>exact S_d_exst hX h4 h3 hl
 |exch t' k' =>
  obtain⟨_,_,ht',hk'⟩:=hs;have h4k:=lt4 (Nat.le_of_lt hk') (Pl.K_le n0 t');have h6:t'<1000000:=Nat.lt_of_le_of_lt ht' (Nat.lt_trans hn1 (Nat.le_of_ble_eq_true rfl));clear hn1 ht ht'
  refine zOn (c:=t=t'/\k+1=k') (λhc=>?_) (λhc=>zOn (c:=t=t'/\k+1=k'+1) (λhc2=>?_) (λhc2=>?_))
  ·obtain⟨rfl,rfl⟩:=hc;exact zKk hX h4 h3 hl
  ·obtain⟨rfl,q⟩:=hc2;cases Nat.succ.inj q;clear hc hk3 q
   rcases zO2 ((t+1)%4) k with e|e|e
   ·exact S_next_mh hX h4 h3 hl h4k h6 hk' e
   ·exact S_next_lh hX h4 h3 hl h4k h6 hk' e
   ·exact S_next_ln hX h4 h3 hl h4k h6 hk' e
  ·exact S_bad_dat hX h4 h3 hl hn h4k (lt4 (Nat.le_of_succ_le hk3) (Nat.le_refl 3)) h6 hc hc2
 |full t' k' =>
  refine zOn (c:=t=t'/\k+1=k') (λhc=>?_) (λhc=>?_)
  ·obtain⟨rfl,rfl⟩:=hc;exact zKj hX h4 h3 hl
  ·exact zKl hX h4 h3 hl hn (lt5 (Nat.le_of_eq hs.2.2.2) (Pl.K_le n0 t')) (lt5 hk3 (Nat.le_refl 3)) hc
theorem zEm(hX:Xok X0 X1 X2) (h4:decide ((4:Int)<=f)=false) (h3:decide (f=3)=b3) (I:Pl.Inv ⟨n0,n1,S,M,m::r,l1⟩) (B:Small ⟨n0,n1,S,M,m::r,l1⟩) :
  zB4 X0 X1 X2 ⟨n0,n1,S,M,m::r,l1⟩ (Pl.W.comeS ⟨n0,n1,S,M,stay b3 m r,l1⟩ m) f 0:=by
 have hn:n0<800000:=Nat.lt_trans B.n0 (by decide);have hn1:n1<700000:=B.n1;have hl:l1.length<800000:=Nat.lt_trans B.l1 (by decide);have hm:Pl.ok0 n1 m:=I.a m (.head _);have hs:=I.s;clear I B
 cases m with
 |hello b =>
  clear hs hm
  cases b with
  |true=>cases S with
   |down=>exact S_hT_down hX h4 h3 hn hl
   |init=>exact S_hT_init hX h4 h3 hn hl
   |exst=>exact S_hT_exst hX h4 h3
   |exch t k=>exact S_hT_exch hX h4 h3
   |full t k=>exact S_hT_full hX h4 h3
  |false=>cases S with
   |down=>exact S_hF_down hX h4 h3
   |init=>exact S_hF_init hX h4 h3
   |exst=>exact S_hF_exst hX h4 h3
   |exch t k=>exact S_hF_exch hX h4 h3
   |full t k=>exact S_hF_full hX h4 h3
 |i0 s=>exact hm.elim
 |ans s t k=>exact hm.elim
 |i1 t=>exact comeS_i1 hX h4 h3 hn hl hs
 |dat t k =>
  obtain⟨_,ht,hk1,hk3⟩:=hm
  cases k with
  |zero=>exact absurd hk1 (Nat.not_succ_le_zero 0)
  |succ k=>exact comeS_dat hX h4 h3 hn hn1 hl ht hk3 hs
theorem comeM_ans(hX:Xok X0 X1 X2) (h4:decide ((4:Int)<=f)=false) (h3:decide (f=3)=b3) (hn:n1<800000) (hl:l0.length<800000) {s t k:Nat} (hk3:k<=3) (hM:Pl.okM n0 n1 M)
  (same:∀ s',(∃ k',(s',k')∈Pl.acc n1 M)->Pl.live M->t=n1->s=s') :
  zB4 X0 X1 X2 ⟨n0,n1,S,M,l0,.ans s t k::r⟩ (Pl.W.comeM ⟨n0,n1,S,M,l0,stay b3 (.ans s t k) r⟩ (.ans s t k)) f 1:=by
 have h4k:=lt4 hk3 (Nat.le_refl 3)
 cases M with
 |down=>exact zJ0 hX h4 h3
 |init=>exact zJz hX h4 h3
 |exst =>
  clear same hM;refine zOn (c:=t=n1/\k=0) (λhc=>?_) (λhc=>M_no_exst hX h4 h3 hl h4k hc);obtain⟨rfl,rfl⟩:=hc
  rcases zO2 (s%4) 0 with e|e|e
  ·exact zQs hX h4 h3 hl hn e
  ·exact zQu hX h4 h3 hl hn e
  ·exact zQt hX h4 h3 hl hn e
 |exch k' s' =>
  obtain⟨_,_,_,hk,hkK⟩:=hM;have sm:=same s' ⟨_,.head _⟩ trivial;clear same
  cases k' with
  |zero=>exact absurd hk (Nat.not_succ_le_zero 0)
  |succ k' =>
   have hK3:k'+1<=3:=Nat.le_trans hkK (Pl.K_le s' n1);clear hk
   refine zOn (c:=t=n1/\k+1=k'+1) (λhc=>?_) (λhc=>zOn (c:=t=n1/\k=k'+1) (λhc2=>?_) (λhc2=>?_))
   ·obtain⟨rfl,q⟩:=hc;cases Nat.succ.inj q;cases sm rfl;exact zKo hX h4 h3 hl
   ·obtain⟨rfl,rfl⟩:=hc2;cases sm rfl;have h3k:k'<300:=Nat.lt_of_lt_of_le hK3 (Nat.le_of_ble_eq_true rfl);clear sm hc hk3 hK3 h4k
    rcases zO2 (s%4) (k'+1) with e|e|e
    ·exact M_next_mh hX h4 h3 hl hn h3k hkK e
    ·exact M_next_lh hX h4 h3 hl hn h3k hkK e
    ·exact M_next_ln hX h4 h3 hl hn h3k hkK e
   ·exact M_bad_ans hX h4 h3 hl hn (lt4 (Nat.le_of_succ_le hK3) (Nat.le_refl 3)) h4k (λq=>hc ⟨q.1,congrArg Nat.succ q.2⟩) hc2
 |full s' =>
  have sm:=same s' ⟨_,.head _⟩ trivial;clear same;refine zOn (c:=t=n1/\k=Pl.K s' t) (λhc=>?_) (λhc=>zKp hX h4 h3 hl hn h4k (λq=>hc ⟨q.1,by rw [q.1]; exact q.2⟩));obtain⟨rfl,rfl⟩:=hc;cases sm rfl;exact M_dbl_full hX h4 h3 hl
theorem zEn(hX:Xok X0 X1 X2) (h4:decide ((4:Int)<=f)=false) (h3:decide (f=3)=b3) (I:Pl.Inv ⟨n0,n1,S,M,l0,m::r⟩) (B:Small ⟨n0,n1,S,M,l0,m::r⟩) :
  zB4 X0 X1 X2 ⟨n0,n1,S,M,l0,m::r⟩ (Pl.W.comeM ⟨n0,n1,S,M,l0,stay b3 m r⟩ m) f 1:=by
 have hn:n1<800000:=Nat.lt_trans B.n1 (by decide);have hl:l0.length<800000:=Nat.lt_trans B.l0 (by decide);have hm:Pl.ok1 n0 n1 m:=I.b m (.head _);have hM:=I.m
 cases m with
 |hello b =>
  clear hM hm I B
  cases b with
  |true=>cases M with
   |down=>exact M_hT_down hX h4 h3 hn hl
   |init=>exact M_hT_init hX h4 h3 hn hl
   |exst=>exact M_hT_exst hX h4 h3
   |exch k s=>exact M_hT_exch hX h4 h3
   |full s=>exact M_hT_full hX h4 h3
  |false=>cases M with
   |down=>exact M_hF_down hX h4 h3
   |init=>exact M_hF_init hX h4 h3
   |exst=>exact M_hF_exst hX h4 h3
   |exch k s=>exact M_hF_exch hX h4 h3
   |full s=>exact M_hF_full hX h4 h3
 |i1 t=>exact hm.elim
 |dat t k=>exact hm.elim
 |i0 s =>
  clear hm I B
  cases M with
  |down=>exact zKn hX h4 h3
  |init=>exact zKm hX h4 h3
  |exst=>exact M_i0_exst hX h4 h3 hl
  |exch k s'=>cases k with
   |zero=>exact absurd hM.2.2.2.1 (Nat.not_succ_le_zero 0)
   |succ k=>exact M_bad_i0 hX h4 h3 hl hn
  |full s'=>exact zNn hX h4 h3 hl hn
 |ans s t k =>
  refine comeM_ans hX h4 h3 hn hl hm.2.2.2.2 hM λs' h lv e=>?_;obtain⟨k',h⟩:=h;subst e;refine (I.f1 lv (s',k') (List.mem_append_left _ h) (s,k) (List.mem_append_right _ ?_)).symm;unfold Pl.fresh;rw [if_pos rfl];exact .head _
theorem lossS(hX:Xok X0 X1 X2) (h1:(Ob.le 4 f true).Ok) (h2:(Ob.eq f 4 true).Ok) (hm:Pl.ok0 n1 m) (ne:m≠.hello false):zB4 X0 X1 X2 ⟨n0,n1,S,M,m::r,l1⟩ ⟨n0,n1,S,M,r,l1⟩ f 0:=by
 cases m with
 |hello b=>cases b with
  |true=>exact S_loss_t hX h1 h2
  |false=>exact absurd rfl ne
 |i0 s=>exact hm.elim
 |ans s t k=>exact hm.elim
 |i1 t=>exact zRs hX h1 h2 rfl (zCk (t:=t) (k:=0) rfl) (by rcases zB8 t 0 with⟨z,e⟩|e; exact .inl ⟨z,2,e⟩; exact .inr e)
 |dat t k=>exact zRs hX h1 h2 rfl (zCk (t:=t) (k:=k) rfl) (by rcases zB8 t k with⟨z,e⟩|e; exact .inl ⟨z,2,e⟩; exact .inr e)
theorem lossM(hX:Xok X0 X1 X2) (h1:(Ob.le 4 f true).Ok) (h2:(Ob.eq f 4 true).Ok) (hm:Pl.ok1 n0 n1 m) (ne:m≠.hello false):zB4 X0 X1 X2 ⟨n0,n1,S,M,l0,m::r⟩ ⟨n0,n1,S,M,l0,r⟩ f 1:=by
 cases m with
 |hello b=>cases b with
  |true=>exact M_loss_t hX h1 h2
  |false=>exact absurd rfl ne
 |i1 t=>exact hm.elim
 |dat t k=>exact hm.elim
 |i0 s=>exact zRt hX h1 h2 rfl (zRe (s:=s)) (.inr rfl)
 |ans s t k=>exact zRt hX h1 h2 rfl (zC7 (s:=s) (t:=t) (k:=k) rfl) (by rcases zDv s k with⟨z,e⟩|e; exact .inl ⟨z,1,e⟩; exact .inr e)
theorem ltE{C:Nat->Prop} {n k:Nat} (e:C n) (H:k<n->C k) (h:k<n+1):C k:=(Nat.lt_succ_iff_lt_or_eq.mp h).elim H λq=>q▸e
theorem lt8E{C:Nat->Prop} {k:Nat} (h:k<8) (c0:C 0) (c1:C 1) (c2:C 2) (c3:C 3) (c4:C 4) (c5:C 5) (c6:C 6) (c7:C 7):C k :=
 ltE c7 (ltE c6 (ltE c5 (ltE c4 (ltE c3 (ltE c2 (ltE c1 (ltE c0 λh=>absurd h (Nat.not_lt_zero k)))))))) h
theorem zK9(hX:Xok X0 X1 X2) {w:Pl.W} (I:Pl.Inv w) (B:Small w) {k:Nat} (hk:k<8):zB4 X0 X1 X2 w (w.deed k false) (k:Int) 0:=by
 obtain⟨n0,n1,S,M,l0,l1⟩:=w;have hl:l1.length<800000:=Nat.lt_trans B.l1 (by decide);have hl0:l0.length<800000:=Nat.lt_trans B.l0 (by decide)
 cases l0 with
 |nil =>
  refine lt8E (C:=λk=>zB4 X0 X1 X2 _ (Pl.W.deed _ k false) (k:Int) 0) hk ?_ ?_ ?_ ?_ ?_ ?_ ?_ ?_<;>clear hk
  ·exact zFo hX (by rfl) (by rfl) (by rfl) (by rfl) hl
  ·exact zFo hX (by rfl) (by rfl) (by rfl) (by rfl) hl
  ·exact zFo hX (by rfl) (by rfl) (by rfl) (by rfl) hl
  ·exact zFo hX (by rfl) (by rfl) (by rfl) (by rfl) hl
  ·exact S_hello_b hX (by rfl) (by rfl) (by rfl) (by rfl) hl
  ·exact zOy hX (by rfl) (by rfl) (by rfl) (by rfl) hl
  ·exact S_again hX (by rfl) (by rfl) (by rfl) (by rfl) hl
  ·exact S_gone hX (by rfl) (by rfl) (by rfl) hl
 |cons m r =>
  refine lt8E (C:=λk=>zB4 X0 X1 X2 _ (Pl.W.deed _ k false) (k:Int) 0) hk ?_ ?_ ?_ ?_ ?_ ?_ ?_ ?_<;>clear hk
  ·exact zEm (b3:=false) hX (by rfl) (by rfl) I B
  ·exact zEm (b3:=false) hX (by rfl) (by rfl) I B
  ·exact zEm (b3:=false) hX (by rfl) (by rfl) I B
  ·exact zEm (b3:=true) hX (by rfl) (by rfl) I B
  ·by_cases h:m=.hello false
   ·subst h;exact S_hello_c hX (by rfl) (by rfl) (by rfl) (by rfl) hl
   ·have e:Pl.W.deed ⟨n0,n1,S,M,m::r,l1⟩ 4 false=⟨n0,n1,S,M,r,l1⟩:=by
     unfold Pl.W.deed;simp [h]
    rw [e];exact lossS hX (by rfl) (by rfl) (I.a m (.head _)) h
  ·exact zOy hX (by rfl) (by rfl) (by rfl) (by rfl) hl
  ·exact S_again hX (by rfl) (by rfl) (by rfl) (by rfl) hl
  ·exact S_gone hX (by rfl) (by rfl) (by rfl) hl
theorem zLa(hX:Xok X0 X1 X2) {w:Pl.W} (I:Pl.Inv w) (B:Small w) {k:Nat} (hk:k<8):zB4 X0 X1 X2 w (w.deed k true) (k:Int) 1:=by
 obtain⟨n0,n1,S,M,l0,l1⟩:=w;have hl:l1.length<800000:=Nat.lt_trans B.l1 (by decide);have hl0:l0.length<800000:=Nat.lt_trans B.l0 (by decide)
 cases l1 with
 |nil =>
  refine lt8E (C:=λk=>zB4 X0 X1 X2 _ (Pl.W.deed _ k true) (k:Int) 1) hk ?_ ?_ ?_ ?_ ?_ ?_ ?_ ?_<;>clear hk
  ·exact zFp hX (by rfl) (by rfl) (by rfl) (by rfl) hl0
  ·exact zFp hX (by rfl) (by rfl) (by rfl) (by rfl) hl0
  ·exact zFp hX (by rfl) (by rfl) (by rfl) (by rfl) hl0
  ·exact zFp hX (by rfl) (by rfl) (by rfl) (by rfl) hl0
  ·exact M_hello_b hX (by rfl) (by rfl) (by rfl) (by rfl) hl0
  ·exact zOz hX (by rfl) (by rfl) (by rfl) (by rfl) hl0
  ·exact M_again hX (by rfl) (by rfl) (by rfl) (by rfl) hl0
  ·exact M_gone hX (by rfl) (by rfl) (by rfl) hl0
 |cons m r =>
  refine lt8E (C:=λk=>zB4 X0 X1 X2 _ (Pl.W.deed _ k true) (k:Int) 1) hk ?_ ?_ ?_ ?_ ?_ ?_ ?_ ?_<;>clear hk
  ·exact zEn (b3:=false) hX (by rfl) (by rfl) I B
  ·exact zEn (b3:=false) hX (by rfl) (by rfl) I B
  ·exact zEn (b3:=false) hX (by rfl) (by rfl) I B
  ·exact zEn (b3:=true) hX (by rfl) (by rfl) I B
  ·by_cases h:m=.hello false
   ·subst h;exact M_hello_c hX (by rfl) (by rfl) (by rfl) (by rfl) hl0
   ·have e:Pl.W.deed ⟨n0,n1,S,M,l0,m::r⟩ 4 true=⟨n0,n1,S,M,l0,r⟩:=by
     unfold Pl.W.deed;simp [h]
    rw [e];exact lossM hX (by rfl) (by rfl) (I.b m (.head _)) h
  ·exact zOz hX (by rfl) (by rfl) (by rfl) (by rfl) hl0
  ·exact M_again hX (by rfl) (by rfl) (by rfl) (by rfl) hl0
  ·exact M_gone hX (by rfl) (by rfl) (by rfl) hl0
end
noncomputable def bodyOf (k:Str):List Stmt:=((lookS k P.fns).map (·.body)).getD []
noncomputable def scopeOf (k:Str):Scope:=((lookS k P.fns).map (·.scope)).getD default
noncomputable def stands:List Stmt:=bodyOf "_law_stands"
noncomputable def forBody:List Stmt->List Stmt
 | .For _ _ b _ _::_=>b
 |_=>[]
noncomputable def forIter:List Stmt->Expr
 | .For _ it _ _ _::_=>it
 |_=>default
noncomputable def standsB:List Stmt:=forBody (stands.drop 1)
theorem zNd{r:Rec} {c:Cx} {s:Stmt} {ss:List Stmt}:exs r c (s::ss)=M.b (ex r c s) λf=>match f with
  | .next=>exs r c ss
  | .ret v=>M.p (.ret v):=rfl
theorem zIi{r:Rec} {c:Cx} {a:Stmt} {b:List Stmt} {s s₁ sA:S0} {f:Fl} (h1:zAd (ex r c a) s .next s₁) (h2:zAd (exs r c b) s₁ f sA):zAd (exs r c (a::b)) s f sA:=by
 rw [zNd]; exact h1.bind h2
theorem zNe{r:Rec} {c:Cx} {f:Fl}:∀ {a b:List Stmt} {s s₁ sA:S0},zAd (exs r c a) s .next s₁->zAd (exs r c b) s₁ f sA->zAd (exs r c (a++b)) s f sA
 |[],b,s,s₁,sA,h1,h2=>by
  obtain⟨ob,e,ok⟩:=h1;cases e;exact h2
 |x::a,b,s,s₁,sA,h1,h2=>by
  obtain⟨ob,e,ok⟩:=h1;rw [zNd] at e;refine zAp e ?_; clear e; rintro fl t o1 o2 e1 e2 rfl;have ok1:∀ o∈o1,o.Ok:=ok.l;have ok2:∀ o∈o2,o.Ok:=ok.r
  cases fl with
  |next=>exact zIi ⟨o1,e1,ok1⟩ (zNe ⟨o2,e2,ok2⟩ h2)
  |ret v =>
   have e2:M.p (Fl.ret v) t=some (Fl.next,s₁,o2):=e2;refine zBk e2 ?_; clear e2; rintro q _;cases q
noncomputable def cS:Cx:=⟨scopeOf "_law_stands", [("many", 21),("stage", 20),("side", 19)],40,false⟩
noncomputable def cL:Cx:={ cS with dep:=39 }
noncomputable def toldS:Stmt:=(standsB.drop 5).headD default
noncomputable def compE':Expr:=match toldS with
 | .Assign _ v _=>v
 |_=>default
noncomputable def cElt:Expr:=match compE' with
 | .ListComp e _ _ _=>e
 |_=>default
noncomputable def cGens:List Comprehension:=match compE' with
 | .ListComp _ g _ _=>g
 |_=>[]
noncomputable def cScope:Scope:=match compE' with
 | .ListComp _ _ s _=>s
 |_=>default
noncomputable def cIter:Expr:=match cGens with
 |⟨_,it,_,_⟩::_=>it
 |_=>default
noncomputable def cTest:Expr:=match cGens with
 |⟨_,_,t::_,_⟩::_=>t
 |_=>default
noncomputable def cC:Cx:=match closV cL cScope.names [] with
 |some cs=>compCx cL cScope cs
 |none=>cL
noncomputable abbrev fA (l:List V):List Str × List V:=(["world", "matched", "sides", "at", "other", "talk", "told"],.ref 1::.ref 22::.ref 5::l)
noncomputable abbrev fB (l:List V):List Str × List V:=(["world", "matched", "sides", "at", "other", "talk"],.ref 1::.ref 22::.ref 5::l)
noncomputable abbrev fC (l:List V):List Str × List V:=(["world", "matched", "sides", "at"],.ref 1::.ref 22::.ref 5::l)
noncomputable def stL (l0 l1 d0 d1 L0 L1 h0 h1 i0 t0 i1 t1 X0 X1 X2:AO) (cs ct cm:Option V) (mt:List V) (it:AO) (tl:List AO):List AO :=
[.tab,.dict ["lines", "sides"] [.ref 2,.ref 5],.list [.ref 3,.ref 4] [] [],l0,l1,.list [.ref 6,.ref 7] [] [],d0,d1,L0,L1,h0,h1,i0,t0,i1,t1,X0,X1,X2,
 .cell cs,.cell ct,.cell cm,.list [] [] mt,.range 2,it]++tl
section
variable (i:Nat) (fr:List (List Str × List V)) (o:List Bool) (rr b0 b1:Bool) (l0 l1 d0 d1 L0 L1 h0 h1 i0 t0 i1 t1 X0 X1 X2 it:AO) (cs ct cm:Option V) (hs ds items mt zs ys:List V) (v w st tk hr oth tk0 ot0 sd0 lf sent met q0 q1 q2 st0 st1:V) (sq n y z0 z1 z2:Int) (tl sg:List AO) (f:List Str × List V)
theorem ks_nf:newFrame (scopeOf "_law_stands") [] 40 false ⟨fr,zOi l0 l1 d0 d1 L0 L1 h0 h1 i0 t0 i1 t1 X0 X1 X2,o⟩ =
  some (cS,⟨([],[])::fr,zOi l0 l1 d0 d1 L0 L1 h0 h1 i0 t0 i1 t1 X0 X1 X2++[.cell none,.cell none,.cell none],o⟩,[]):=by kernel_rfl
theorem ks_ba:bindAll cS ["world"] [.ref 1] ⟨([],[])::fr,zOi l0 l1 d0 d1 L0 L1 h0 h1 i0 t0 i1 t1 X0 X1 X2++[.cell none,.cell none,.cell none],o⟩ =
  some ((),⟨(["world"],[.ref 1])::fr,zOi l0 l1 d0 d1 L0 L1 h0 h1 i0 t0 i1 t1 X0 X1 X2++[.cell none,.cell none,.cell none],o⟩,[]):=by kernel_rfl
theorem ks_b0:exs (run P (i+100)) cS (stands.take 1) ⟨(["world"],[.ref 1])::fr,zOi l0 l1 d0 d1 L0 L1 h0 h1 i0 t0 i1 t1 X0 X1 X2++[.cell none,.cell none,.cell none],o⟩ =
  some (.next,⟨(["world", "matched", "sides"],[.ref 1,.ref 22,.ref 5])::fr,zOi l0 l1 d0 d1 L0 L1 h0 h1 i0 t0 i1 t1 X0 X1 X2++[.cell none,.cell none,.cell none,.list [] [] []],o⟩,[]):=by kernel_rfl
theorem ks_evp:evP (run P (i+100)) cS (forIter (stands.drop 1)) ⟨(["world", "matched", "sides"],[.ref 1,.ref 22,.ref 5])::fr,zOi l0 l1 d0 d1 L0 L1 h0 h1 i0 t0 i1 t1 X0 X1 X2++[.cell none,.cell none,.cell none,.list [] [] []],o⟩ =
  some (.ref 23,⟨(["world", "matched", "sides"],[.ref 1,.ref 22,.ref 5])::fr,zOi l0 l1 d0 d1 L0 L1 h0 h1 i0 t0 i1 t1 X0 X1 X2++[.cell none,.cell none,.cell none,.list [] [] [],.range 2],o⟩,[]):=by kernel_rfl
theorem ks_itv:iterV (.ref 23) ⟨(["world", "matched", "sides"],[.ref 1,.ref 22,.ref 5])::fr,zOi l0 l1 d0 d1 L0 L1 h0 h1 i0 t0 i1 t1 X0 X1 X2++[.cell none,.cell none,.cell none,.list [] [] [],.range 2],o⟩ =
  some (24,⟨(["world", "matched", "sides"],[.ref 1,.ref 22,.ref 5])::fr,stL l0 l1 d0 d1 L0 L1 h0 h1 i0 t0 i1 t1 X0 X1 X2 none none none [] (.riter 0 2) [],o⟩,[]):=by kernel_rfl
theorem ks_0_next:nextV 24 ⟨(["world", "matched", "sides"],[.ref 1,.ref 22,.ref 5])::fr,stL l0 l1 d0 d1 L0 L1 h0 h1 i0 t0 i1 t1 X0 X1 X2 none none none [] (.riter 0 2) [],o⟩ =
  some (some (.int 0),⟨(["world", "matched", "sides"],[.ref 1,.ref 22,.ref 5])::fr,stL l0 l1 d0 d1 L0 L1 h0 h1 i0 t0 i1 t1 X0 X1 X2 none none none [] (.riter 1 1) [],o⟩,[]):=by kernel_rfl
theorem ks_0_at:storeV cL "at" (.int 0) ⟨(["world", "matched", "sides"],[.ref 1,.ref 22,.ref 5])::fr,stL l0 l1 d0 d1 L0 L1 h0 h1 i0 t0 i1 t1 X0 X1 X2 none none none [] (.riter 1 1) [],o⟩ =
  some ((),⟨(fC [.int 0])::fr,stL l0 l1 d0 d1 L0 L1 h0 h1 i0 t0 i1 t1 X0 X1 X2 none none none [] (.riter 1 1) [],o⟩,[]):=by kernel_rfl
theorem ks_1_next:nextV 24 ⟨(fA [.int 0,ot0,tk0,v])::fr,stL l0 l1 d0 d1 L0 L1 h0 h1 i0 t0 i1 t1 X0 X1 X2 cs ct cm mt (.riter 1 1) tl,o⟩ =
  some (some (.int 1),⟨(fA [.int 0,ot0,tk0,v])::fr,stL l0 l1 d0 d1 L0 L1 h0 h1 i0 t0 i1 t1 X0 X1 X2 cs ct cm mt (.riter 2 0) tl,o⟩,[]):=by kernel_rfl
theorem ks_1_at:storeV cL "at" (.int 1) ⟨(fA [.int 0,ot0,tk0,v])::fr,stL l0 l1 d0 d1 L0 L1 h0 h1 i0 t0 i1 t1 X0 X1 X2 cs ct cm mt (.riter 2 0) tl,o⟩ =
  some ((),⟨(fA [.int 1,ot0,tk0,v])::fr,stL l0 l1 d0 d1 L0 L1 h0 h1 i0 t0 i1 t1 X0 X1 X2 cs ct cm mt (.riter 2 0) tl,o⟩,[]):=by kernel_rfl
theorem ks_keys:storeV cC "keys" v ⟨f::fr,sg,o⟩ =
  some ((),⟨putA "keys" v f.1 f.2::fr,sg,o⟩,[]):=by kernel_rfl
theorem ks_elt:(run P (i+100)).ev cC cElt ⟨(["keys"],[v])::fr,sg,o⟩ =
  some (v,⟨(["keys"],[v])::fr,sg,o⟩,[]):=by kernel_rfl
theorem ks_end:nextV 24 ⟨fr,stL l0 l1 d0 d1 L0 L1 h0 h1 i0 t0 i1 t1 X0 X1 X2 cs ct cm mt (.riter 2 0) tl,o⟩ =
  some (none,⟨fr,stL l0 l1 d0 d1 L0 L1 h0 h1 i0 t0 i1 t1 X0 X1 X2 cs ct cm mt .dead tl,o⟩,[]):=by kernel_rfl
theorem zM8:exs (run P (i+100)) cL (standsB.take 5) ⟨(fC [.int 0])::fr,stL l0 l1 (dS (sv "down") .none (.ref 10)) d1 L0 L1 (.list [] [] []) h1 i0 t0 i1 t1 X0 X1 X2 none none none [] (.riter 1 1) [],o⟩ =
  some (.next,⟨(fB [.int 0,.ref 7,.none])::fr,stL l0 l1 (dS (sv "down") .none (.ref 10)) d1 L0 L1 (.list [] [] []) h1 i0 t0 i1 t1 X0 X1 X2 (some (.ref 6)) (some (sv "none")) (some (.int 0)) [] (.riter 1 1) [],o⟩,[]):=by kernel_rfl
theorem zM6:exs (run P (i+100)) cL (standsB.take 5) ⟨(fC [.int 0])::fr,stL l0 l1 (dS (sv "init") .none (.ref 10)) d1 L0 L1 (.list [] [] []) h1 i0 t0 i1 t1 X0 X1 X2 none none none [] (.riter 1 1) [],o⟩ =
  some (.next,⟨(fB [.int 0,.ref 7,.none])::fr,stL l0 l1 (dS (sv "init") .none (.ref 10)) d1 L0 L1 (.list [] [] []) h1 i0 t0 i1 t1 X0 X1 X2 (some (.ref 6)) (some (sv "none")) (some (.int 0)) [] (.riter 1 1) [],o⟩,[]):=by kernel_rfl
theorem zH3:exs (run P (i+100)) cL (standsB.take 5) ⟨(fC [.int 0])::fr,stL l0 l1 (dS (sv "exstart") (.ref 12) (.ref 10)) d1 L0 L1 (.list [] [] []) h1 (.inst "Exchange" 13) (zAj true 5 9 sq ds sent "exstart" met) i1 t1 X0 X1 X2 none none none [] (.riter 1 1) [],o⟩ =
  some (.next,⟨(fB [.int 0,.ref 7,.ref 12])::fr,stL l0 l1 (dS (sv "exstart") (.ref 12) (.ref 10)) d1 L0 L1 (.list [] [] []) h1 (.inst "Exchange" 13) (zAj true 5 9 sq ds sent "exstart" met) i1 t1 X0 X1 X2 (some (.ref 6)) (some (sv "exstart")) (some (.int 0)) [] (.riter 1 1) [],o⟩,[]):=by kernel_rfl
theorem zF2:exs (run P (i+100)) cL (standsB.take 5) ⟨(fC [.int 0])::fr,stL l0 l1 (dS (sv "exchange") (.ref 12) (.ref 10)) d1 L0 L1 (.list hs [] []) h1 (.inst "Exchange" 13) (zAj false 5 9 sq ds sent "exchange" met) i1 t1 X0 X1 X2 none none none [] (.riter 1 1) [],o⟩ =
  some (.next,⟨(fB [.int 0,.ref 7,.ref 12])::fr,stL l0 l1 (dS (sv "exchange") (.ref 12) (.ref 10)) d1 L0 L1 (.list hs [] []) h1 (.inst "Exchange" 13) (zAj false 5 9 sq ds sent "exchange" met) i1 t1 X0 X1 X2 (some (.ref 6)) (some (sv "exchange")) (some (.int (hs++[]).length)) [] (.riter 1 1) [],o⟩,[]):=by kernel_rfl
theorem zM7:exs (run P (i+100)) cL (standsB.take 5) ⟨(fC [.int 0])::fr,stL l0 l1 (dS (sv "full") (.ref 12) (.ref 10)) d1 L0 L1 (.list hs [] []) h1 (.inst "Exchange" 13) (zAj false 5 9 sq ds sent "full" met) i1 t1 X0 X1 X2 none none none [] (.riter 1 1) [],o⟩ =
  some (.next,⟨(fB [.int 0,.ref 7,.ref 12])::fr,stL l0 l1 (dS (sv "full") (.ref 12) (.ref 10)) d1 L0 L1 (.list hs [] []) h1 (.inst "Exchange" 13) (zAj false 5 9 sq ds sent "full" met) i1 t1 X0 X1 X2 (some (.ref 6)) (some (sv "full")) (some (.int (hs++[]).length)) [] (.riter 1 1) [],o⟩,[]):=by kernel_rfl
theorem ks_0_evp:evP (run P (i+100)) cL cIter ⟨(fB [.int 0,.ref 7,tk])::fr,stL l0 l1 d0 (dM st tk0 hr) L0 (.list items [] ys) h0 h1 i0 t0 i1 t1 X0 X1 X2 (some (.ref 6)) ct cm [] (.riter 1 1) [],o⟩ =
  some (.ref 9,⟨(fB [.int 0,.ref 7,tk])::fr,stL l0 l1 d0 (dM st tk0 hr) L0 (.list items [] ys) h0 h1 i0 t0 i1 t1 X0 X1 X2 (some (.ref 6)) ct cm [] (.riter 1 1) [],o⟩,[]):=by kernel_rfl
theorem ks_0_itv:iterV (.ref 9) ⟨(fB [.int 0,.ref 7,tk])::fr,stL l0 l1 d0 (dM st tk0 hr) L0 (.list items [] ys) h0 h1 i0 t0 i1 t1 X0 X1 X2 (some (.ref 6)) ct cm [] (.riter 1 1) [],o⟩ =
  some (25,⟨(fB [.int 0,.ref 7,tk])::fr,stL l0 l1 d0 (dM st tk0 hr) L0 (.list items [] ys) h0 h1 i0 t0 i1 t1 X0 X1 X2 (some (.ref 6)) ct cm [] (.riter 1 1) []++[.iter (.ref 9) 0],o⟩,[]):=by kernel_rfl
theorem zI9:(run P (i+100)).tst cC cTest ⟨(["keys"],[.lst ds])::fr,stL l0 l1 (dS st tk0 (.ref 10)) d1 L0 L1 (.list hs [] []) h1 i0 t0 i1 t1 X0 X1 X2 (some (.ref 6)) (some (sv "none")) (some (.int (hs++[]).length)) mt it tl,true::o⟩ =
  some (true,⟨(["keys"],[.lst ds])::fr,stL l0 l1 (dS st tk0 (.ref 10)) d1 L0 L1 (.list hs [] []) h1 i0 t0 i1 t1 X0 X1 X2 (some (.ref 6)) (some (sv "none")) (some (.int (hs++[]).length)) mt it tl,o⟩,[.deep (ds.take (hs++[]).length) (hs++[]++[]) true]):=by kernel_rfl
theorem zJa:(run P (i+100)).tst cC cTest ⟨(["keys"],[.lst ds])::fr,stL l0 l1 (dS st tk0 (.ref 10)) d1 L0 L1 (.list hs [] []) h1 i0 t0 i1 t1 X0 X1 X2 (some (.ref 6)) (some (sv "none")) (some (.int (hs++[]).length)) mt it tl,false::o⟩ =
  some (false,⟨(["keys"],[.lst ds])::fr,stL l0 l1 (dS st tk0 (.ref 10)) d1 L0 L1 (.list hs [] []) h1 i0 t0 i1 t1 X0 X1 X2 (some (.ref 6)) (some (sv "none")) (some (.int (hs++[]).length)) mt it tl,o⟩,[.deep (ds.take (hs++[]).length) (hs++[]++[]) false]):=by kernel_rfl
theorem zFi:(run P (i+100)).tst cC cTest ⟨(["keys"],[.lst ds])::fr,stL l0 l1 (dS st tk0 (.ref 10)) d1 L0 L1 (.list hs [] []) h1 i0 t0 i1 t1 X0 X1 X2 (some (.ref 6)) (some (sv "exstart")) (some (.int (hs++[]).length)) mt it tl,true::o⟩ =
  some (true,⟨(["keys"],[.lst ds])::fr,stL l0 l1 (dS st tk0 (.ref 10)) d1 L0 L1 (.list hs [] []) h1 i0 t0 i1 t1 X0 X1 X2 (some (.ref 6)) (some (sv "exstart")) (some (.int (hs++[]).length)) mt it tl,o⟩,[.deep (ds.take (hs++[]).length) (hs++[]++[]) true]):=by kernel_rfl
theorem zFj:(run P (i+100)).tst cC cTest ⟨(["keys"],[.lst ds])::fr,stL l0 l1 (dS st tk0 (.ref 10)) d1 L0 L1 (.list hs [] []) h1 i0 t0 i1 t1 X0 X1 X2 (some (.ref 6)) (some (sv "exstart")) (some (.int (hs++[]).length)) mt it tl,false::o⟩ =
  some (false,⟨(["keys"],[.lst ds])::fr,stL l0 l1 (dS st tk0 (.ref 10)) d1 L0 L1 (.list hs [] []) h1 i0 t0 i1 t1 X0 X1 X2 (some (.ref 6)) (some (sv "exstart")) (some (.int (hs++[]).length)) mt it tl,o⟩,[.deep (ds.take (hs++[]).length) (hs++[]++[]) false]):=by kernel_rfl
theorem zE3:(run P (i+100)).tst cC cTest ⟨(["keys"],[.lst ds])::fr,stL l0 l1 (dS st tk0 (.ref 10)) d1 L0 L1 (.list hs [] []) h1 i0 t0 i1 t1 X0 X1 X2 (some (.ref 6)) (some (sv "exchange")) (some (.int (hs++[]).length)) mt it tl,true::o⟩ =
  some (true,⟨(["keys"],[.lst ds])::fr,stL l0 l1 (dS st tk0 (.ref 10)) d1 L0 L1 (.list hs [] []) h1 i0 t0 i1 t1 X0 X1 X2 (some (.ref 6)) (some (sv "exchange")) (some (.int (hs++[]).length)) mt it tl,o⟩,[.deep (ds.take (hs++[]).length) (hs++[]++[]) true]):=by kernel_rfl
theorem zE4:(run P (i+100)).tst cC cTest ⟨(["keys"],[.lst ds])::fr,stL l0 l1 (dS st tk0 (.ref 10)) d1 L0 L1 (.list hs [] []) h1 i0 t0 i1 t1 X0 X1 X2 (some (.ref 6)) (some (sv "exchange")) (some (.int (hs++[]).length)) mt it tl,false::o⟩ =
  some (false,⟨(["keys"],[.lst ds])::fr,stL l0 l1 (dS st tk0 (.ref 10)) d1 L0 L1 (.list hs [] []) h1 i0 t0 i1 t1 X0 X1 X2 (some (.ref 6)) (some (sv "exchange")) (some (.int (hs++[]).length)) mt it tl,o⟩,[.deep (ds.take (hs++[]).length) (hs++[]++[]) false]):=by kernel_rfl
theorem zJb:(run P (i+100)).tst cC cTest ⟨(["keys"],[.lst ds])::fr,stL l0 l1 (dS st tk0 (.ref 10)) d1 L0 L1 (.list hs [] []) h1 i0 t0 i1 t1 X0 X1 X2 (some (.ref 6)) (some (sv "full")) (some (.int (hs++[]).length)) mt it tl,false::o⟩ =
  some (false,⟨(["keys"],[.lst ds])::fr,stL l0 l1 (dS st tk0 (.ref 10)) d1 L0 L1 (.list hs [] []) h1 i0 t0 i1 t1 X0 X1 X2 (some (.ref 6)) (some (sv "full")) (some (.int (hs++[]).length)) mt it tl,o⟩,[.deep (ds.take (hs++[]).length) (hs++[]++[]) false]):=by kernel_rfl
theorem zH2:(run P (i+100)).tst cC cTest ⟨(["keys"],[.lst []])::fr,stL l0 l1 (dS st tk0 (.ref 10)) d1 L0 L1 (.list [] [] []) h1 i0 t0 i1 t1 X0 X1 X2 (some (.ref 6)) (some (sv "full")) (some (.int (([]:List V)++[]).length)) mt it tl,true::o⟩ =
  some (true,⟨(["keys"],[.lst []])::fr,stL l0 l1 (dS st tk0 (.ref 10)) d1 L0 L1 (.list [] [] []) h1 i0 t0 i1 t1 X0 X1 X2 (some (.ref 6)) (some (sv "full")) (some (.int (([]:List V)++[]).length)) mt it tl,o⟩,[.deep (([]:List V).take (([]:List V)++[]).length) (([]:List V)++[]++[]) true]):=by kernel_rfl
theorem zH1:(run P (i+100)).tst cC cTest ⟨(["keys"],[.lst [q0]])::fr,stL l0 l1 (dS st tk0 (.ref 10)) d1 L0 L1 (.list [] [] []) h1 i0 t0 i1 t1 X0 X1 X2 (some (.ref 6)) (some (sv "full")) (some (.int (([]:List V)++[]).length)) mt it tl,true::o⟩ =
  some (false,⟨(["keys"],[.lst [q0]])::fr,stL l0 l1 (dS st tk0 (.ref 10)) d1 L0 L1 (.list [] [] []) h1 i0 t0 i1 t1 X0 X1 X2 (some (.ref 6)) (some (sv "full")) (some (.int (([]:List V)++[]).length)) mt it tl,o⟩,[.deep (([q0]:List V).take (([]:List V)++[]).length) (([]:List V)++[]++[]) true]):=by kernel_rfl
theorem zH0:(run P (i+100)).tst cC cTest ⟨(["keys"],[.lst [q0,q1]])::fr,stL l0 l1 (dS st tk0 (.ref 10)) d1 L0 L1 (.list [] [] []) h1 i0 t0 i1 t1 X0 X1 X2 (some (.ref 6)) (some (sv "full")) (some (.int (([]:List V)++[]).length)) mt it tl,true::o⟩ =
  some (false,⟨(["keys"],[.lst [q0,q1]])::fr,stL l0 l1 (dS st tk0 (.ref 10)) d1 L0 L1 (.list [] [] []) h1 i0 t0 i1 t1 X0 X1 X2 (some (.ref 6)) (some (sv "full")) (some (.int (([]:List V)++[]).length)) mt it tl,o⟩,[.deep (([q0,q1]:List V).take (([]:List V)++[]).length) (([]:List V)++[]++[]) true]):=by kernel_rfl
theorem zHz:(run P (i+100)).tst cC cTest ⟨(["keys"],[.lst [q0,q1,q2]])::fr,stL l0 l1 (dS st tk0 (.ref 10)) d1 L0 L1 (.list [] [] []) h1 i0 t0 i1 t1 X0 X1 X2 (some (.ref 6)) (some (sv "full")) (some (.int (([]:List V)++[]).length)) mt it tl,true::o⟩ =
  some (false,⟨(["keys"],[.lst [q0,q1,q2]])::fr,stL l0 l1 (dS st tk0 (.ref 10)) d1 L0 L1 (.list [] [] []) h1 i0 t0 i1 t1 X0 X1 X2 (some (.ref 6)) (some (sv "full")) (some (.int (([]:List V)++[]).length)) mt it tl,o⟩,[.deep (([q0,q1,q2]:List V).take (([]:List V)++[]).length) (([]:List V)++[]++[]) true]):=by kernel_rfl
theorem zHy:(run P (i+100)).tst cC cTest ⟨(["keys"],[.lst [q0]])::fr,stL l0 l1 (dS st tk0 (.ref 10)) d1 L0 L1 (.list [st0] [] []) h1 i0 t0 i1 t1 X0 X1 X2 (some (.ref 6)) (some (sv "full")) (some (.int (([st0]:List V)++[]).length)) mt it tl,true::o⟩ =
  some (true,⟨(["keys"],[.lst [q0]])::fr,stL l0 l1 (dS st tk0 (.ref 10)) d1 L0 L1 (.list [st0] [] []) h1 i0 t0 i1 t1 X0 X1 X2 (some (.ref 6)) (some (sv "full")) (some (.int (([st0]:List V)++[]).length)) mt it tl,o⟩,[.deep (([q0]:List V).take (([st0]:List V)++[]).length) (([st0]:List V)++[]++[]) true]):=by kernel_rfl
theorem zHx:(run P (i+100)).tst cC cTest ⟨(["keys"],[.lst [q0,q1]])::fr,stL l0 l1 (dS st tk0 (.ref 10)) d1 L0 L1 (.list [st0] [] []) h1 i0 t0 i1 t1 X0 X1 X2 (some (.ref 6)) (some (sv "full")) (some (.int (([st0]:List V)++[]).length)) mt it tl,true::o⟩ =
  some (false,⟨(["keys"],[.lst [q0,q1]])::fr,stL l0 l1 (dS st tk0 (.ref 10)) d1 L0 L1 (.list [st0] [] []) h1 i0 t0 i1 t1 X0 X1 X2 (some (.ref 6)) (some (sv "full")) (some (.int (([st0]:List V)++[]).length)) mt it tl,o⟩,[.deep (([q0,q1]:List V).take (([st0]:List V)++[]).length) (([st0]:List V)++[]++[]) true]):=by kernel_rfl
theorem zHw:(run P (i+100)).tst cC cTest ⟨(["keys"],[.lst [q0,q1,q2]])::fr,stL l0 l1 (dS st tk0 (.ref 10)) d1 L0 L1 (.list [st0] [] []) h1 i0 t0 i1 t1 X0 X1 X2 (some (.ref 6)) (some (sv "full")) (some (.int (([st0]:List V)++[]).length)) mt it tl,true::o⟩ =
  some (false,⟨(["keys"],[.lst [q0,q1,q2]])::fr,stL l0 l1 (dS st tk0 (.ref 10)) d1 L0 L1 (.list [st0] [] []) h1 i0 t0 i1 t1 X0 X1 X2 (some (.ref 6)) (some (sv "full")) (some (.int (([st0]:List V)++[]).length)) mt it tl,o⟩,[.deep (([q0,q1,q2]:List V).take (([st0]:List V)++[]).length) (([st0]:List V)++[]++[]) true]):=by kernel_rfl
theorem zHv:(run P (i+100)).tst cC cTest ⟨(["keys"],[.lst [q0,q1]])::fr,stL l0 l1 (dS st tk0 (.ref 10)) d1 L0 L1 (.list [st0,st1] [] []) h1 i0 t0 i1 t1 X0 X1 X2 (some (.ref 6)) (some (sv "full")) (some (.int (([st0,st1]:List V)++[]).length)) mt it tl,true::o⟩ =
  some (true,⟨(["keys"],[.lst [q0,q1]])::fr,stL l0 l1 (dS st tk0 (.ref 10)) d1 L0 L1 (.list [st0,st1] [] []) h1 i0 t0 i1 t1 X0 X1 X2 (some (.ref 6)) (some (sv "full")) (some (.int (([st0,st1]:List V)++[]).length)) mt it tl,o⟩,[.deep (([q0,q1]:List V).take (([st0,st1]:List V)++[]).length) (([st0,st1]:List V)++[]++[]) true]):=by kernel_rfl
theorem zHu:(run P (i+100)).tst cC cTest ⟨(["keys"],[.lst [q0,q1,q2]])::fr,stL l0 l1 (dS st tk0 (.ref 10)) d1 L0 L1 (.list [st0,st1] [] []) h1 i0 t0 i1 t1 X0 X1 X2 (some (.ref 6)) (some (sv "full")) (some (.int (([st0,st1]:List V)++[]).length)) mt it tl,true::o⟩ =
  some (false,⟨(["keys"],[.lst [q0,q1,q2]])::fr,stL l0 l1 (dS st tk0 (.ref 10)) d1 L0 L1 (.list [st0,st1] [] []) h1 i0 t0 i1 t1 X0 X1 X2 (some (.ref 6)) (some (sv "full")) (some (.int (([st0,st1]:List V)++[]).length)) mt it tl,o⟩,[.deep (([q0,q1,q2]:List V).take (([st0,st1]:List V)++[]).length) (([st0,st1]:List V)++[]++[]) true]):=by kernel_rfl
theorem zHt:(run P (i+100)).tst cC cTest ⟨(["keys"],[.lst [q0,q1,q2]])::fr,stL l0 l1 (dS st tk0 (.ref 10)) d1 L0 L1 (.list [st0,st1,sd0] [] []) h1 i0 t0 i1 t1 X0 X1 X2 (some (.ref 6)) (some (sv "full")) (some (.int (([st0,st1,sd0]:List V)++[]).length)) mt it tl,true::o⟩ =
  some (true,⟨(["keys"],[.lst [q0,q1,q2]])::fr,stL l0 l1 (dS st tk0 (.ref 10)) d1 L0 L1 (.list [st0,st1,sd0] [] []) h1 i0 t0 i1 t1 X0 X1 X2 (some (.ref 6)) (some (sv "full")) (some (.int (([st0,st1,sd0]:List V)++[]).length)) mt it tl,o⟩,[.deep (([q0,q1,q2]:List V).take (([st0,st1,sd0]:List V)++[]).length) (([st0,st1,sd0]:List V)++[]++[]) true]):=by kernel_rfl
theorem ks_0_frz:freezeL 26 ⟨(fB [.int 0,.ref 7,tk])::fr,stL l0 l1 d0 d1 L0 L1 h0 h1 i0 t0 i1 t1 X0 X1 X2 cs ct cm [] (.riter 1 1) [.dead,.list [] [] ds],o⟩ =
  some (.lst ds,⟨(fB [.int 0,.ref 7,tk])::fr,stL l0 l1 d0 d1 L0 L1 h0 h1 i0 t0 i1 t1 X0 X1 X2 cs ct cm [] (.riter 1 1) [.dead,.dead],o⟩,[]):=by kernel_rfl
theorem ks_0_sto:storeV cL "told" (.lst ds) ⟨(fB [.int 0,.ref 7,tk])::fr,stL l0 l1 d0 d1 L0 L1 h0 h1 i0 t0 i1 t1 X0 X1 X2 cs ct cm [] (.riter 1 1) tl,o⟩ =
  some ((),⟨(fA [.int 0,.ref 7,tk,.lst ds])::fr,stL l0 l1 d0 d1 L0 L1 h0 h1 i0 t0 i1 t1 X0 X1 X2 cs ct cm [] (.riter 1 1) tl,o⟩,[]):=by kernel_rfl
theorem zEv:exs (run P (i+100)) cL (standsB.drop 6) ⟨(fA [.int 0,.ref 7,tk,.lst ds])::fr,stL l0 l1 d0 d1 L0 L1 h0 h1 i0 t0 i1 t1 X0 X1 X2 (some (.ref 6)) (some (sv "none")) (some (.int 0)) [] (.riter 1 1) tl,o⟩ =
  some (.next,⟨(fA [.int 0,.ref 7,tk,.lst ds])::fr,stL l0 l1 d0 d1 L0 L1 h0 h1 i0 t0 i1 t1 X0 X1 X2 (some (.ref 6)) (some (sv "none")) (some (.int 0)) [.bool false] (.riter 1 1) tl,o⟩,[.len ([]++[]++[]:List V).length]):=by kernel_rfl
theorem zF3:exs (run P (i+100)) cL (standsB.drop 6) ⟨(fA [.int 0,.ref 7,tk,.lst ds])::fr,stL l0 l1 d0 d1 L0 L1 h0 h1 i0 t0 i1 t1 X0 X1 X2 (some (.ref 6)) (some (sv "exstart")) (some (.int 0)) [] (.riter 1 1) tl,o⟩ =
  some (.next,⟨(fA [.int 0,.ref 7,tk,.lst ds])::fr,stL l0 l1 d0 d1 L0 L1 h0 h1 i0 t0 i1 t1 X0 X1 X2 (some (.ref 6)) (some (sv "exstart")) (some (.int 0)) [.bool false] (.riter 1 1) tl,o⟩,[.len ([]++[]++[]:List V).length]):=by kernel_rfl
theorem zFk:exs (run P (i+100)) cL (standsB.drop 6) ⟨(fA [.int 0,.ref 7,tk,.lst ds])::fr,stL l0 l1 d0 d1 L0 L1 h0 h1 i0 t0 i1 t1 X0 X1 X2 (some (.ref 6)) (some (sv "exchange")) (some (.int n)) [] (.riter 1 1) tl,false::o⟩ =
  some (.next,⟨(fA [.int 0,.ref 7,tk,.lst ds])::fr,stL l0 l1 d0 d1 L0 L1 h0 h1 i0 t0 i1 t1 X0 X1 X2 (some (.ref 6)) (some (sv "exchange")) (some (.int n)) [.bool false] (.riter 1 1) tl,o⟩,[.deep ds [] false,.len ([]++[]++[]:List V).length]):=by kernel_rfl
theorem zKd:exs (run P (i+100)) cL (standsB.drop 6) ⟨(fA [.int 0,.ref 7,tk,.lst ds])::fr,stL l0 l1 (dS st tk0 (.ref 10)) (dM st0 st1 hr) L0 (.list items [] [.lst (.tup zs::ys)]) (.list hs [] []) h1 i0 t0 i1 t1 X0 X1 X2 (some (.ref 6)) (some (sv "full")) (some (.int n)) [] (.riter 1 1) tl,false::rr::o⟩ =
  some (.next,⟨(fA [.int 0,.ref 7,tk,.lst ds])::fr,stL l0 l1 (dS st tk0 (.ref 10)) (dM st0 st1 hr) L0 (.list items [] [.lst (.tup zs::ys)]) (.list hs [] []) h1 i0 t0 i1 t1 X0 X1 X2 (some (.ref 6)) (some (sv "full")) (some (.int n)) [.bool rr] (.riter 1 1) tl,o⟩,[.deep ds [] false,.deep (hs++[]++[]) (.tup zs::ys) rr,.len ([]++[]++[]:List V).length]):=by kernel_rfl
theorem zH7:exs (run P (i+100)) cL (standsB.drop 6) ⟨(fA [.int 0,.ref 7,tk,.lst ds])::fr,stL l0 l1 (dS st tk0 (.ref 10)) (dM st0 st1 hr) L0 (.list items [] [.lst []]) (.list [] [] []) h1 i0 t0 i1 t1 X0 X1 X2 (some (.ref 6)) (some (sv "full")) (some (.int n)) [] (.riter 1 1) tl,false::o⟩ =
  some (.next,⟨(fA [.int 0,.ref 7,tk,.lst ds])::fr,stL l0 l1 (dS st tk0 (.ref 10)) (dM st0 st1 hr) L0 (.list items [] [.lst []]) (.list [] [] []) h1 i0 t0 i1 t1 X0 X1 X2 (some (.ref 6)) (some (sv "full")) (some (.int n)) [.bool true] (.riter 1 1) tl,o⟩,[.deep ds [] false,.len ([]++[]++[]:List V).length]):=by kernel_rfl
theorem zH6:exs (run P (i+100)) cL (standsB.drop 6) ⟨(fA [.int 0,.ref 7,tk,.lst ds])::fr,stL l0 l1 (dS st tk0 (.ref 10)) (dM st0 st1 hr) L0 (.list items [] [.lst []]) (.list [.tup [.int 1,.sym z0,.int 2]] [] []) h1 i0 t0 i1 t1 X0 X1 X2 (some (.ref 6)) (some (sv "full")) (some (.int n)) [] (.riter 1 1) tl,false::o⟩ =
  some (.next,⟨(fA [.int 0,.ref 7,tk,.lst ds])::fr,stL l0 l1 (dS st tk0 (.ref 10)) (dM st0 st1 hr) L0 (.list items [] [.lst []]) (.list [.tup [.int 1,.sym z0,.int 2]] [] []) h1 i0 t0 i1 t1 X0 X1 X2 (some (.ref 6)) (some (sv "full")) (some (.int n)) [.bool false] (.riter 1 1) tl,o⟩,[.deep ds [] false,.len ([]++[]++[]:List V).length]):=by kernel_rfl
theorem zH5:exs (run P (i+100)) cL (standsB.drop 6) ⟨(fA [.int 0,.ref 7,tk,.lst ds])::fr,stL l0 l1 (dS st tk0 (.ref 10)) (dM st0 st1 hr) L0 (.list items [] [.lst []]) (.list [.tup [.int 1,.sym z0,.int 2],.tup [.int 1,.sym z1,.int 2]] [] []) h1 i0 t0 i1 t1 X0 X1 X2 (some (.ref 6)) (some (sv "full")) (some (.int n)) [] (.riter 1 1) tl,false::o⟩ =
  some (.next,⟨(fA [.int 0,.ref 7,tk,.lst ds])::fr,stL l0 l1 (dS st tk0 (.ref 10)) (dM st0 st1 hr) L0 (.list items [] [.lst []]) (.list [.tup [.int 1,.sym z0,.int 2],.tup [.int 1,.sym z1,.int 2]] [] []) h1 i0 t0 i1 t1 X0 X1 X2 (some (.ref 6)) (some (sv "full")) (some (.int n)) [.bool false] (.riter 1 1) tl,o⟩,[.deep ds [] false,.len ([]++[]++[]:List V).length]):=by kernel_rfl
theorem zH4:exs (run P (i+100)) cL (standsB.drop 6) ⟨(fA [.int 0,.ref 7,tk,.lst ds])::fr,stL l0 l1 (dS st tk0 (.ref 10)) (dM st0 st1 hr) L0 (.list items [] [.lst []]) (.list [.tup [.int 1,.sym z0,.int 2],.tup [.int 1,.sym z1,.int 2],.tup [.int 1,.sym z2,.int 2]] [] []) h1 i0 t0 i1 t1 X0 X1 X2 (some (.ref 6)) (some (sv "full")) (some (.int n)) [] (.riter 1 1) tl,false::o⟩ =
  some (.next,⟨(fA [.int 0,.ref 7,tk,.lst ds])::fr,stL l0 l1 (dS st tk0 (.ref 10)) (dM st0 st1 hr) L0 (.list items [] [.lst []]) (.list [.tup [.int 1,.sym z0,.int 2],.tup [.int 1,.sym z1,.int 2],.tup [.int 1,.sym z2,.int 2]] [] []) h1 i0 t0 i1 t1 X0 X1 X2 (some (.ref 6)) (some (sv "full")) (some (.int n)) [.bool false] (.riter 1 1) tl,o⟩,[.deep ds [] false,.len ([]++[]++[]:List V).length]):=by kernel_rfl
theorem zM5:exs (run P (i+100)) cL (standsB.take 5) ⟨(fA [.int 1,ot0,tk0,v])::fr,stL l0 l1 d0 (dM (sv "down") .none (.ref 11)) L0 L1 h0 (.list [] [] []) i0 t0 i1 t1 X0 X1 X2 cs ct cm mt (.riter 2 0) tl,o⟩ =
  some (.next,⟨(fA [.int 1,.ref 6,.none,v])::fr,stL l0 l1 d0 (dM (sv "down") .none (.ref 11)) L0 L1 h0 (.list [] [] []) i0 t0 i1 t1 X0 X1 X2 (some (.ref 7)) (some (sv "none")) (some (.int 0)) mt (.riter 2 0) tl,o⟩,[]):=by kernel_rfl
theorem zM3:exs (run P (i+100)) cL (standsB.take 5) ⟨(fA [.int 1,ot0,tk0,v])::fr,stL l0 l1 d0 (dM (sv "init") .none (.ref 11)) L0 L1 h0 (.list [] [] []) i0 t0 i1 t1 X0 X1 X2 cs ct cm mt (.riter 2 0) tl,o⟩ =
  some (.next,⟨(fA [.int 1,.ref 6,.none,v])::fr,stL l0 l1 d0 (dM (sv "init") .none (.ref 11)) L0 L1 h0 (.list [] [] []) i0 t0 i1 t1 X0 X1 X2 (some (.ref 7)) (some (sv "none")) (some (.int 0)) mt (.riter 2 0) tl,o⟩,[]):=by kernel_rfl
theorem zHo:exs (run P (i+100)) cL (standsB.take 5) ⟨(fA [.int 1,ot0,tk0,v])::fr,stL l0 l1 d0 (dM (sv "exstart") (.ref 14) (.ref 11)) L0 L1 h0 (.list [] [] []) i0 t0 (.inst "Exchange" 15) (zAj true 9 5 sq ds sent "exstart" met) X0 X1 X2 cs ct cm mt (.riter 2 0) tl,o⟩ =
  some (.next,⟨(fA [.int 1,.ref 6,.ref 14,v])::fr,stL l0 l1 d0 (dM (sv "exstart") (.ref 14) (.ref 11)) L0 L1 h0 (.list [] [] []) i0 t0 (.inst "Exchange" 15) (zAj true 9 5 sq ds sent "exstart" met) X0 X1 X2 (some (.ref 7)) (some (sv "exstart")) (some (.int 0)) mt (.riter 2 0) tl,o⟩,[]):=by kernel_rfl
theorem zF0:exs (run P (i+100)) cL (standsB.take 5) ⟨(fA [.int 1,ot0,tk0,v])::fr,stL l0 l1 d0 (dM (sv "exchange") (.ref 14) (.ref 11)) L0 L1 h0 (.list hs [] []) i0 t0 (.inst "Exchange" 15) (zAj true 9 5 sq ds sent "exchange" met) X0 X1 X2 cs ct cm mt (.riter 2 0) tl,o⟩ =
  some (.next,⟨(fA [.int 1,.ref 6,.ref 14,v])::fr,stL l0 l1 d0 (dM (sv "exchange") (.ref 14) (.ref 11)) L0 L1 h0 (.list hs [] []) i0 t0 (.inst "Exchange" 15) (zAj true 9 5 sq ds sent "exchange" met) X0 X1 X2 (some (.ref 7)) (some (sv "exchange")) (some (.int (hs++[]).length)) mt (.riter 2 0) tl,o⟩,[]):=by kernel_rfl
theorem zM4:exs (run P (i+100)) cL (standsB.take 5) ⟨(fA [.int 1,ot0,tk0,v])::fr,stL l0 l1 d0 (dM (sv "full") (.ref 14) (.ref 11)) L0 L1 h0 (.list hs [] []) i0 t0 (.inst "Exchange" 15) (zAj true 9 5 sq ds sent "full" met) X0 X1 X2 cs ct cm mt (.riter 2 0) tl,o⟩ =
  some (.next,⟨(fA [.int 1,.ref 6,.ref 14,v])::fr,stL l0 l1 d0 (dM (sv "full") (.ref 14) (.ref 11)) L0 L1 h0 (.list hs [] []) i0 t0 (.inst "Exchange" 15) (zAj true 9 5 sq ds sent "full" met) X0 X1 X2 (some (.ref 7)) (some (sv "full")) (some (.int (hs++[]).length)) mt (.riter 2 0) tl,o⟩,[]):=by kernel_rfl
theorem ks_1_evp:evP (run P (i+100)) cL cIter ⟨(fA [.int 1,.ref 6,tk,v])::fr,stL l0 l1 (dS st tk0 hr) d1 (.list items [] ys) L1 h0 h1 i0 t0 i1 t1 X0 X1 X2 (some (.ref 7)) ct cm mt (.riter 2 0) [.dead,.dead],o⟩ =
  some (.ref 8,⟨(fA [.int 1,.ref 6,tk,v])::fr,stL l0 l1 (dS st tk0 hr) d1 (.list items [] ys) L1 h0 h1 i0 t0 i1 t1 X0 X1 X2 (some (.ref 7)) ct cm mt (.riter 2 0) [.dead,.dead],o⟩,[]):=by kernel_rfl
theorem ks_1_itv:iterV (.ref 8) ⟨(fA [.int 1,.ref 6,tk,v])::fr,stL l0 l1 (dS st tk0 hr) d1 (.list items [] ys) L1 h0 h1 i0 t0 i1 t1 X0 X1 X2 (some (.ref 7)) ct cm mt (.riter 2 0) [.dead,.dead],o⟩ =
  some (27,⟨(fA [.int 1,.ref 6,tk,v])::fr,stL l0 l1 (dS st tk0 hr) d1 (.list items [] ys) L1 h0 h1 i0 t0 i1 t1 X0 X1 X2 (some (.ref 7)) ct cm mt (.riter 2 0) [.dead,.dead]++[.iter (.ref 8) 0],o⟩,[]):=by kernel_rfl
theorem zI6:(run P (i+100)).tst cC cTest ⟨(["keys"],[.lst ds])::fr,stL l0 l1 d0 (dM st tk0 (.ref 11)) L0 L1 h0 (.list hs [] []) i0 t0 i1 t1 X0 X1 X2 (some (.ref 7)) (some (sv "none")) (some (.int (hs++[]).length)) mt it tl,true::o⟩ =
  some (true,⟨(["keys"],[.lst ds])::fr,stL l0 l1 d0 (dM st tk0 (.ref 11)) L0 L1 h0 (.list hs [] []) i0 t0 i1 t1 X0 X1 X2 (some (.ref 7)) (some (sv "none")) (some (.int (hs++[]).length)) mt it tl,o⟩,[.deep (ds.take (hs++[]).length) (hs++[]++[]) true]):=by kernel_rfl
theorem zI7:(run P (i+100)).tst cC cTest ⟨(["keys"],[.lst ds])::fr,stL l0 l1 d0 (dM st tk0 (.ref 11)) L0 L1 h0 (.list hs [] []) i0 t0 i1 t1 X0 X1 X2 (some (.ref 7)) (some (sv "none")) (some (.int (hs++[]).length)) mt it tl,false::o⟩ =
  some (false,⟨(["keys"],[.lst ds])::fr,stL l0 l1 d0 (dM st tk0 (.ref 11)) L0 L1 h0 (.list hs [] []) i0 t0 i1 t1 X0 X1 X2 (some (.ref 7)) (some (sv "none")) (some (.int (hs++[]).length)) mt it tl,o⟩,[.deep (ds.take (hs++[]).length) (hs++[]++[]) false]):=by kernel_rfl
theorem zFf:(run P (i+100)).tst cC cTest ⟨(["keys"],[.lst ds])::fr,stL l0 l1 d0 (dM st tk0 (.ref 11)) L0 L1 h0 (.list hs [] []) i0 t0 i1 t1 X0 X1 X2 (some (.ref 7)) (some (sv "exstart")) (some (.int (hs++[]).length)) mt it tl,true::o⟩ =
  some (true,⟨(["keys"],[.lst ds])::fr,stL l0 l1 d0 (dM st tk0 (.ref 11)) L0 L1 h0 (.list hs [] []) i0 t0 i1 t1 X0 X1 X2 (some (.ref 7)) (some (sv "exstart")) (some (.int (hs++[]).length)) mt it tl,o⟩,[.deep (ds.take (hs++[]).length) (hs++[]++[]) true]):=by kernel_rfl
theorem zFg:(run P (i+100)).tst cC cTest ⟨(["keys"],[.lst ds])::fr,stL l0 l1 d0 (dM st tk0 (.ref 11)) L0 L1 h0 (.list hs [] []) i0 t0 i1 t1 X0 X1 X2 (some (.ref 7)) (some (sv "exstart")) (some (.int (hs++[]).length)) mt it tl,false::o⟩ =
  some (false,⟨(["keys"],[.lst ds])::fr,stL l0 l1 d0 (dM st tk0 (.ref 11)) L0 L1 h0 (.list hs [] []) i0 t0 i1 t1 X0 X1 X2 (some (.ref 7)) (some (sv "exstart")) (some (.int (hs++[]).length)) mt it tl,o⟩,[.deep (ds.take (hs++[]).length) (hs++[]++[]) false]):=by kernel_rfl
theorem zE1:(run P (i+100)).tst cC cTest ⟨(["keys"],[.lst ds])::fr,stL l0 l1 d0 (dM st tk0 (.ref 11)) L0 L1 h0 (.list hs [] []) i0 t0 i1 t1 X0 X1 X2 (some (.ref 7)) (some (sv "exchange")) (some (.int (hs++[]).length)) mt it tl,true::o⟩ =
  some (true,⟨(["keys"],[.lst ds])::fr,stL l0 l1 d0 (dM st tk0 (.ref 11)) L0 L1 h0 (.list hs [] []) i0 t0 i1 t1 X0 X1 X2 (some (.ref 7)) (some (sv "exchange")) (some (.int (hs++[]).length)) mt it tl,o⟩,[.deep (ds.take (hs++[]).length) (hs++[]++[]) true]):=by kernel_rfl
theorem zE2:(run P (i+100)).tst cC cTest ⟨(["keys"],[.lst ds])::fr,stL l0 l1 d0 (dM st tk0 (.ref 11)) L0 L1 h0 (.list hs [] []) i0 t0 i1 t1 X0 X1 X2 (some (.ref 7)) (some (sv "exchange")) (some (.int (hs++[]).length)) mt it tl,false::o⟩ =
  some (false,⟨(["keys"],[.lst ds])::fr,stL l0 l1 d0 (dM st tk0 (.ref 11)) L0 L1 h0 (.list hs [] []) i0 t0 i1 t1 X0 X1 X2 (some (.ref 7)) (some (sv "exchange")) (some (.int (hs++[]).length)) mt it tl,o⟩,[.deep (ds.take (hs++[]).length) (hs++[]++[]) false]):=by kernel_rfl
theorem zI8:(run P (i+100)).tst cC cTest ⟨(["keys"],[.lst ds])::fr,stL l0 l1 d0 (dM st tk0 (.ref 11)) L0 L1 h0 (.list hs [] []) i0 t0 i1 t1 X0 X1 X2 (some (.ref 7)) (some (sv "full")) (some (.int (hs++[]).length)) mt it tl,false::o⟩ =
  some (false,⟨(["keys"],[.lst ds])::fr,stL l0 l1 d0 (dM st tk0 (.ref 11)) L0 L1 h0 (.list hs [] []) i0 t0 i1 t1 X0 X1 X2 (some (.ref 7)) (some (sv "full")) (some (.int (hs++[]).length)) mt it tl,o⟩,[.deep (ds.take (hs++[]).length) (hs++[]++[]) false]):=by kernel_rfl
theorem zHn:(run P (i+100)).tst cC cTest ⟨(["keys"],[.lst []])::fr,stL l0 l1 d0 (dM st tk0 (.ref 11)) L0 L1 h0 (.list [] [] []) i0 t0 i1 t1 X0 X1 X2 (some (.ref 7)) (some (sv "full")) (some (.int (([]:List V)++[]).length)) mt it tl,true::o⟩ =
  some (true,⟨(["keys"],[.lst []])::fr,stL l0 l1 d0 (dM st tk0 (.ref 11)) L0 L1 h0 (.list [] [] []) i0 t0 i1 t1 X0 X1 X2 (some (.ref 7)) (some (sv "full")) (some (.int (([]:List V)++[]).length)) mt it tl,o⟩,[.deep (([]:List V).take (([]:List V)++[]).length) (([]:List V)++[]++[]) true]):=by kernel_rfl
theorem zHm:(run P (i+100)).tst cC cTest ⟨(["keys"],[.lst [q0]])::fr,stL l0 l1 d0 (dM st tk0 (.ref 11)) L0 L1 h0 (.list [] [] []) i0 t0 i1 t1 X0 X1 X2 (some (.ref 7)) (some (sv "full")) (some (.int (([]:List V)++[]).length)) mt it tl,true::o⟩ =
  some (false,⟨(["keys"],[.lst [q0]])::fr,stL l0 l1 d0 (dM st tk0 (.ref 11)) L0 L1 h0 (.list [] [] []) i0 t0 i1 t1 X0 X1 X2 (some (.ref 7)) (some (sv "full")) (some (.int (([]:List V)++[]).length)) mt it tl,o⟩,[.deep (([q0]:List V).take (([]:List V)++[]).length) (([]:List V)++[]++[]) true]):=by kernel_rfl
theorem zHl:(run P (i+100)).tst cC cTest ⟨(["keys"],[.lst [q0,q1]])::fr,stL l0 l1 d0 (dM st tk0 (.ref 11)) L0 L1 h0 (.list [] [] []) i0 t0 i1 t1 X0 X1 X2 (some (.ref 7)) (some (sv "full")) (some (.int (([]:List V)++[]).length)) mt it tl,true::o⟩ =
  some (false,⟨(["keys"],[.lst [q0,q1]])::fr,stL l0 l1 d0 (dM st tk0 (.ref 11)) L0 L1 h0 (.list [] [] []) i0 t0 i1 t1 X0 X1 X2 (some (.ref 7)) (some (sv "full")) (some (.int (([]:List V)++[]).length)) mt it tl,o⟩,[.deep (([q0,q1]:List V).take (([]:List V)++[]).length) (([]:List V)++[]++[]) true]):=by kernel_rfl
theorem zHk:(run P (i+100)).tst cC cTest ⟨(["keys"],[.lst [q0,q1,q2]])::fr,stL l0 l1 d0 (dM st tk0 (.ref 11)) L0 L1 h0 (.list [] [] []) i0 t0 i1 t1 X0 X1 X2 (some (.ref 7)) (some (sv "full")) (some (.int (([]:List V)++[]).length)) mt it tl,true::o⟩ =
  some (false,⟨(["keys"],[.lst [q0,q1,q2]])::fr,stL l0 l1 d0 (dM st tk0 (.ref 11)) L0 L1 h0 (.list [] [] []) i0 t0 i1 t1 X0 X1 X2 (some (.ref 7)) (some (sv "full")) (some (.int (([]:List V)++[]).length)) mt it tl,o⟩,[.deep (([q0,q1,q2]:List V).take (([]:List V)++[]).length) (([]:List V)++[]++[]) true]):=by kernel_rfl
theorem zHj:(run P (i+100)).tst cC cTest ⟨(["keys"],[.lst [q0]])::fr,stL l0 l1 d0 (dM st tk0 (.ref 11)) L0 L1 h0 (.list [st0] [] []) i0 t0 i1 t1 X0 X1 X2 (some (.ref 7)) (some (sv "full")) (some (.int (([st0]:List V)++[]).length)) mt it tl,true::o⟩ =
  some (true,⟨(["keys"],[.lst [q0]])::fr,stL l0 l1 d0 (dM st tk0 (.ref 11)) L0 L1 h0 (.list [st0] [] []) i0 t0 i1 t1 X0 X1 X2 (some (.ref 7)) (some (sv "full")) (some (.int (([st0]:List V)++[]).length)) mt it tl,o⟩,[.deep (([q0]:List V).take (([st0]:List V)++[]).length) (([st0]:List V)++[]++[]) true]):=by kernel_rfl
theorem zHi:(run P (i+100)).tst cC cTest ⟨(["keys"],[.lst [q0,q1]])::fr,stL l0 l1 d0 (dM st tk0 (.ref 11)) L0 L1 h0 (.list [st0] [] []) i0 t0 i1 t1 X0 X1 X2 (some (.ref 7)) (some (sv "full")) (some (.int (([st0]:List V)++[]).length)) mt it tl,true::o⟩ =
  some (false,⟨(["keys"],[.lst [q0,q1]])::fr,stL l0 l1 d0 (dM st tk0 (.ref 11)) L0 L1 h0 (.list [st0] [] []) i0 t0 i1 t1 X0 X1 X2 (some (.ref 7)) (some (sv "full")) (some (.int (([st0]:List V)++[]).length)) mt it tl,o⟩,[.deep (([q0,q1]:List V).take (([st0]:List V)++[]).length) (([st0]:List V)++[]++[]) true]):=by kernel_rfl
theorem zHh:(run P (i+100)).tst cC cTest ⟨(["keys"],[.lst [q0,q1,q2]])::fr,stL l0 l1 d0 (dM st tk0 (.ref 11)) L0 L1 h0 (.list [st0] [] []) i0 t0 i1 t1 X0 X1 X2 (some (.ref 7)) (some (sv "full")) (some (.int (([st0]:List V)++[]).length)) mt it tl,true::o⟩ =
  some (false,⟨(["keys"],[.lst [q0,q1,q2]])::fr,stL l0 l1 d0 (dM st tk0 (.ref 11)) L0 L1 h0 (.list [st0] [] []) i0 t0 i1 t1 X0 X1 X2 (some (.ref 7)) (some (sv "full")) (some (.int (([st0]:List V)++[]).length)) mt it tl,o⟩,[.deep (([q0,q1,q2]:List V).take (([st0]:List V)++[]).length) (([st0]:List V)++[]++[]) true]):=by kernel_rfl
theorem zHg:(run P (i+100)).tst cC cTest ⟨(["keys"],[.lst [q0,q1]])::fr,stL l0 l1 d0 (dM st tk0 (.ref 11)) L0 L1 h0 (.list [st0,st1] [] []) i0 t0 i1 t1 X0 X1 X2 (some (.ref 7)) (some (sv "full")) (some (.int (([st0,st1]:List V)++[]).length)) mt it tl,true::o⟩ =
  some (true,⟨(["keys"],[.lst [q0,q1]])::fr,stL l0 l1 d0 (dM st tk0 (.ref 11)) L0 L1 h0 (.list [st0,st1] [] []) i0 t0 i1 t1 X0 X1 X2 (some (.ref 7)) (some (sv "full")) (some (.int (([st0,st1]:List V)++[]).length)) mt it tl,o⟩,[.deep (([q0,q1]:List V).take (([st0,st1]:List V)++[]).length) (([st0,st1]:List V)++[]++[]) true]):=by kernel_rfl
theorem zHf:(run P (i+100)).tst cC cTest ⟨(["keys"],[.lst [q0,q1,q2]])::fr,stL l0 l1 d0 (dM st tk0 (.ref 11)) L0 L1 h0 (.list [st0,st1] [] []) i0 t0 i1 t1 X0 X1 X2 (some (.ref 7)) (some (sv "full")) (some (.int (([st0,st1]:List V)++[]).length)) mt it tl,true::o⟩ =
  some (false,⟨(["keys"],[.lst [q0,q1,q2]])::fr,stL l0 l1 d0 (dM st tk0 (.ref 11)) L0 L1 h0 (.list [st0,st1] [] []) i0 t0 i1 t1 X0 X1 X2 (some (.ref 7)) (some (sv "full")) (some (.int (([st0,st1]:List V)++[]).length)) mt it tl,o⟩,[.deep (([q0,q1,q2]:List V).take (([st0,st1]:List V)++[]).length) (([st0,st1]:List V)++[]++[]) true]):=by kernel_rfl
theorem zHe:(run P (i+100)).tst cC cTest ⟨(["keys"],[.lst [q0,q1,q2]])::fr,stL l0 l1 d0 (dM st tk0 (.ref 11)) L0 L1 h0 (.list [st0,st1,sd0] [] []) i0 t0 i1 t1 X0 X1 X2 (some (.ref 7)) (some (sv "full")) (some (.int (([st0,st1,sd0]:List V)++[]).length)) mt it tl,true::o⟩ =
  some (true,⟨(["keys"],[.lst [q0,q1,q2]])::fr,stL l0 l1 d0 (dM st tk0 (.ref 11)) L0 L1 h0 (.list [st0,st1,sd0] [] []) i0 t0 i1 t1 X0 X1 X2 (some (.ref 7)) (some (sv "full")) (some (.int (([st0,st1,sd0]:List V)++[]).length)) mt it tl,o⟩,[.deep (([q0,q1,q2]:List V).take (([st0,st1,sd0]:List V)++[]).length) (([st0,st1,sd0]:List V)++[]++[]) true]):=by kernel_rfl
theorem ks_1_frz:freezeL 28 ⟨(fA [.int 1,.ref 6,tk,v])::fr,stL l0 l1 d0 d1 L0 L1 h0 h1 i0 t0 i1 t1 X0 X1 X2 cs ct cm mt (.riter 2 0) [.dead,.dead,.dead,.list [] [] ds],o⟩ =
  some (.lst ds,⟨(fA [.int 1,.ref 6,tk,v])::fr,stL l0 l1 d0 d1 L0 L1 h0 h1 i0 t0 i1 t1 X0 X1 X2 cs ct cm mt (.riter 2 0) [.dead,.dead,.dead,.dead],o⟩,[]):=by kernel_rfl
theorem ks_1_sto:storeV cL "told" (.lst ds) ⟨(fA [.int 1,.ref 6,tk,v])::fr,stL l0 l1 d0 d1 L0 L1 h0 h1 i0 t0 i1 t1 X0 X1 X2 cs ct cm mt (.riter 2 0) tl,o⟩ =
  some ((),⟨(fA [.int 1,.ref 6,tk,.lst ds])::fr,stL l0 l1 d0 d1 L0 L1 h0 h1 i0 t0 i1 t1 X0 X1 X2 cs ct cm mt (.riter 2 0) tl,o⟩,[]):=by kernel_rfl
theorem zEu:exs (run P (i+100)) cL (standsB.drop 6) ⟨(fA [.int 1,.ref 6,tk,.lst ds])::fr,stL l0 l1 d0 d1 L0 L1 h0 h1 i0 t0 i1 t1 X0 X1 X2 (some (.ref 7)) (some (sv "none")) (some (.int 0)) [.bool b0] (.riter 2 0) tl,o⟩ =
  some (.next,⟨(fA [.int 1,.ref 6,tk,.lst ds])::fr,stL l0 l1 d0 d1 L0 L1 h0 h1 i0 t0 i1 t1 X0 X1 X2 (some (.ref 7)) (some (sv "none")) (some (.int 0)) [.bool b0,.bool false] (.riter 2 0) tl,o⟩,[.len ([]++[]++[.bool b0]:List V).length]):=by kernel_rfl
theorem zF1:exs (run P (i+100)) cL (standsB.drop 6) ⟨(fA [.int 1,.ref 6,tk,.lst ds])::fr,stL l0 l1 d0 d1 L0 L1 h0 h1 i0 t0 i1 t1 X0 X1 X2 (some (.ref 7)) (some (sv "exstart")) (some (.int 0)) [.bool b0] (.riter 2 0) tl,o⟩ =
  some (.next,⟨(fA [.int 1,.ref 6,tk,.lst ds])::fr,stL l0 l1 d0 d1 L0 L1 h0 h1 i0 t0 i1 t1 X0 X1 X2 (some (.ref 7)) (some (sv "exstart")) (some (.int 0)) [.bool b0,.bool false] (.riter 2 0) tl,o⟩,[.len ([]++[]++[.bool b0]:List V).length]):=by kernel_rfl
theorem zFh:exs (run P (i+100)) cL (standsB.drop 6) ⟨(fA [.int 1,.ref 6,tk,.lst ds])::fr,stL l0 l1 d0 d1 L0 L1 h0 h1 i0 t0 i1 t1 X0 X1 X2 (some (.ref 7)) (some (sv "exchange")) (some (.int n)) [.bool b0] (.riter 2 0) tl,false::o⟩ =
  some (.next,⟨(fA [.int 1,.ref 6,tk,.lst ds])::fr,stL l0 l1 d0 d1 L0 L1 h0 h1 i0 t0 i1 t1 X0 X1 X2 (some (.ref 7)) (some (sv "exchange")) (some (.int n)) [.bool b0,.bool false] (.riter 2 0) tl,o⟩,[.deep ds [] false,.len ([]++[]++[.bool b0]:List V).length]):=by kernel_rfl
theorem zKc:exs (run P (i+100)) cL (standsB.drop 6) ⟨(fA [.int 1,.ref 6,tk,.lst ds])::fr,stL l0 l1 (dS st0 st1 hr) (dM st tk0 (.ref 11)) (.list items [] [.lst (.tup zs::ys)]) L1 h0 (.list hs [] []) i0 t0 i1 t1 X0 X1 X2 (some (.ref 7)) (some (sv "full")) (some (.int n)) [.bool b0] (.riter 2 0) tl,false::rr::o⟩ =
  some (.next,⟨(fA [.int 1,.ref 6,tk,.lst ds])::fr,stL l0 l1 (dS st0 st1 hr) (dM st tk0 (.ref 11)) (.list items [] [.lst (.tup zs::ys)]) L1 h0 (.list hs [] []) i0 t0 i1 t1 X0 X1 X2 (some (.ref 7)) (some (sv "full")) (some (.int n)) [.bool b0,.bool rr] (.riter 2 0) tl,o⟩,[.deep ds [] false,.deep (hs++[]++[]) (.tup zs::ys) rr,.len ([]++[]++[.bool b0]:List V).length]):=by kernel_rfl
theorem zHs:exs (run P (i+100)) cL (standsB.drop 6) ⟨(fA [.int 1,.ref 6,tk,.lst ds])::fr,stL l0 l1 (dS st0 st1 hr) (dM st tk0 (.ref 11)) (.list items [] [.lst []]) L1 h0 (.list [] [] []) i0 t0 i1 t1 X0 X1 X2 (some (.ref 7)) (some (sv "full")) (some (.int n)) [.bool b0] (.riter 2 0) tl,false::o⟩ =
  some (.next,⟨(fA [.int 1,.ref 6,tk,.lst ds])::fr,stL l0 l1 (dS st0 st1 hr) (dM st tk0 (.ref 11)) (.list items [] [.lst []]) L1 h0 (.list [] [] []) i0 t0 i1 t1 X0 X1 X2 (some (.ref 7)) (some (sv "full")) (some (.int n)) [.bool b0,.bool true] (.riter 2 0) tl,o⟩,[.deep ds [] false,.len ([]++[]++[.bool b0]:List V).length]):=by kernel_rfl
theorem zHr:exs (run P (i+100)) cL (standsB.drop 6) ⟨(fA [.int 1,.ref 6,tk,.lst ds])::fr,stL l0 l1 (dS st0 st1 hr) (dM st tk0 (.ref 11)) (.list items [] [.lst []]) L1 h0 (.list [.tup [.int 1,.sym z0,.int 1]] [] []) i0 t0 i1 t1 X0 X1 X2 (some (.ref 7)) (some (sv "full")) (some (.int n)) [.bool b0] (.riter 2 0) tl,false::o⟩ =
  some (.next,⟨(fA [.int 1,.ref 6,tk,.lst ds])::fr,stL l0 l1 (dS st0 st1 hr) (dM st tk0 (.ref 11)) (.list items [] [.lst []]) L1 h0 (.list [.tup [.int 1,.sym z0,.int 1]] [] []) i0 t0 i1 t1 X0 X1 X2 (some (.ref 7)) (some (sv "full")) (some (.int n)) [.bool b0,.bool false] (.riter 2 0) tl,o⟩,[.deep ds [] false,.len ([]++[]++[.bool b0]:List V).length]):=by kernel_rfl
theorem zHq:exs (run P (i+100)) cL (standsB.drop 6) ⟨(fA [.int 1,.ref 6,tk,.lst ds])::fr,stL l0 l1 (dS st0 st1 hr) (dM st tk0 (.ref 11)) (.list items [] [.lst []]) L1 h0 (.list [.tup [.int 1,.sym z0,.int 1],.tup [.int 1,.sym z1,.int 1]] [] []) i0 t0 i1 t1 X0 X1 X2 (some (.ref 7)) (some (sv "full")) (some (.int n)) [.bool b0] (.riter 2 0) tl,false::o⟩ =
  some (.next,⟨(fA [.int 1,.ref 6,tk,.lst ds])::fr,stL l0 l1 (dS st0 st1 hr) (dM st tk0 (.ref 11)) (.list items [] [.lst []]) L1 h0 (.list [.tup [.int 1,.sym z0,.int 1],.tup [.int 1,.sym z1,.int 1]] [] []) i0 t0 i1 t1 X0 X1 X2 (some (.ref 7)) (some (sv "full")) (some (.int n)) [.bool b0,.bool false] (.riter 2 0) tl,o⟩,[.deep ds [] false,.len ([]++[]++[.bool b0]:List V).length]):=by kernel_rfl
theorem zHp:exs (run P (i+100)) cL (standsB.drop 6) ⟨(fA [.int 1,.ref 6,tk,.lst ds])::fr,stL l0 l1 (dS st0 st1 hr) (dM st tk0 (.ref 11)) (.list items [] [.lst []]) L1 h0 (.list [.tup [.int 1,.sym z0,.int 1],.tup [.int 1,.sym z1,.int 1],.tup [.int 1,.sym z2,.int 1]] [] []) i0 t0 i1 t1 X0 X1 X2 (some (.ref 7)) (some (sv "full")) (some (.int n)) [.bool b0] (.riter 2 0) tl,false::o⟩ =
  some (.next,⟨(fA [.int 1,.ref 6,tk,.lst ds])::fr,stL l0 l1 (dS st0 st1 hr) (dM st tk0 (.ref 11)) (.list items [] [.lst []]) L1 h0 (.list [.tup [.int 1,.sym z0,.int 1],.tup [.int 1,.sym z1,.int 1],.tup [.int 1,.sym z2,.int 1]] [] []) i0 t0 i1 t1 X0 X1 X2 (some (.ref 7)) (some (sv "full")) (some (.int n)) [.bool b0,.bool false] (.riter 2 0) tl,o⟩,[.deep ds [] false,.len ([]++[]++[.bool b0]:List V).length]):=by kernel_rfl
theorem ks_ret_tt:exs (run P (i+100)) cS (stands.drop 2) ⟨(fA [.int 1,.ref 6,tk,.lst ds])::fr,stL l0 l1 (dS st0 oth hr) (dM st1 tk0 sd0) L0 L1 h0 h1 i0 t0 i1 t1 X0 X1 X2 cs ct cm [.bool true,.bool true] .dead [.dead,.dead,.dead,.dead],o⟩ =
  some (.ret (.bool true),⟨(fA [.int 1,.ref 6,tk,.lst ds])::fr,stL l0 l1 (dS st0 oth hr) (dM st1 tk0 sd0) L0 L1 h0 h1 i0 t0 i1 t1 X0 X1 X2 cs ct cm [.bool true,.bool true] .dead [.dead,.dead,.dead,.dead],o⟩,[]):=by kernel_rfl
theorem ks_ret_tf:exs (run P (i+100)) cS (stands.drop 2) ⟨(fA [.int 1,.ref 6,tk,.lst ds])::fr,stL l0 l1 (dS st0 oth hr) (dM st1 tk0 sd0) L0 L1 h0 h1 i0 t0 i1 t1 X0 X1 X2 cs ct cm [.bool true,.bool false] .dead [.dead,.dead,.dead,.dead],false::o⟩ =
  some (.ret (.bool true),⟨(fA [.int 1,.ref 6,tk,.lst ds])::fr,stL l0 l1 (dS st0 oth hr) (dM st1 tk0 sd0) L0 L1 h0 h1 i0 t0 i1 t1 X0 X1 X2 cs ct cm [.bool true,.bool false] .dead [.dead,.dead,.dead,.dead,.dead,.dead],o⟩,[.len 0,.len 1,.deep [st0,st1] [sv "full", sv "full"] false]):=by kernel_rfl
theorem ks_ret_ft:exs (run P (i+100)) cS (stands.drop 2) ⟨(fA [.int 1,.ref 6,tk,.lst ds])::fr,stL l0 l1 (dS st0 oth hr) (dM st1 tk0 sd0) L0 L1 h0 h1 i0 t0 i1 t1 X0 X1 X2 cs ct cm [.bool false,.bool true] .dead [.dead,.dead,.dead,.dead],false::o⟩ =
  some (.ret (.bool true),⟨(fA [.int 1,.ref 6,tk,.lst ds])::fr,stL l0 l1 (dS st0 oth hr) (dM st1 tk0 sd0) L0 L1 h0 h1 i0 t0 i1 t1 X0 X1 X2 cs ct cm [.bool false,.bool true] .dead [.dead,.dead,.dead,.dead,.dead,.dead],o⟩,[.len 0,.len 1,.deep [st0,st1] [sv "full", sv "full"] false]):=by kernel_rfl
theorem ks_ret_ff:exs (run P (i+100)) cS (stands.drop 2) ⟨(fA [.int 1,.ref 6,tk,.lst ds])::fr,stL l0 l1 (dS st0 oth hr) (dM st1 tk0 sd0) L0 L1 h0 h1 i0 t0 i1 t1 X0 X1 X2 cs ct cm [.bool false,.bool false] .dead [.dead,.dead,.dead,.dead],false::o⟩ =
  some (.ret (.bool true),⟨(fA [.int 1,.ref 6,tk,.lst ds])::fr,stL l0 l1 (dS st0 oth hr) (dM st1 tk0 sd0) L0 L1 h0 h1 i0 t0 i1 t1 X0 X1 X2 cs ct cm [.bool false,.bool false] .dead [.dead,.dead,.dead,.dead,.dead,.dead],o⟩,[.len 0,.len 1,.deep [st0,st1] [sv "full", sv "full"] false]):=by kernel_rfl
end
noncomputable def Gives0 {α:Type} (m:M α) (s:S0) (a:α) (s':S0):Prop:=∃ ob,m s=some (a,s',ob)/\∀ o∈ob,o.Ok0
theorem ok0_nil:∀ o'∈([]:List Ob),o'.Ok0:=λ_ e=>nomatch e
theorem Gives0.bind{α β:Type} {m:M α} {k:α->M β} {s s₁ s':S0} {a:α} {b:β} (h1:Gives0 m s a s₁) (h2:Gives0 (k a) s₁ b s'):Gives0 (M.b m k) s b s':=by
 obtain⟨o1,e1,k1⟩:=h1;obtain⟨o2,e2,k2⟩:=h2
 refine⟨o1++o2,?_,λo h=>?_⟩
 ·unfold M.b; rw [e1]; dsimp only; rw [e2]
 ·rcases List.mem_append.mp h with q|q
  ·exact k1 o q
  ·exact k2 o q
theorem Gives0.of0{α:Type} {m:M α} {s s':S0} {a:α} (e:m s=some (a,s',[])):Gives0 m s a s':=⟨[],e,ok0_nil⟩
noncomputable def kv (b a:Int):V:=.tup [.int 1,.sym a,.int b]
noncomputable def zA9 (at_ t:Nat):List Int:=(List.range ((t+at_)%4)).map λj=>((100*t+j:Nat):Int)
theorem zE5(at_ t:Nat):zAq at_ t=(zA9 at_ t).map (kv ((at_+1:Nat):Int)):=by
 unfold zAq zA9;rw [List.map_map];rfl
theorem eqV_kv(m:Nat) (b a a':Int) (fr σ o):Gives0 (eqV (m+5) (kv b a) (kv b a')) ⟨fr,σ,decide (a=a')::o⟩ (decide (a=a')) ⟨fr,σ,o⟩:=by
 show Gives0 (M.b (eqV (m+3) (.int 1) (.int 1)) λt=>match t with|true=>eqVs (m+3) [.sym a,.int b] [.sym a',.int b]|false=>M.p false) _ _ _;refine Gives0.bind (Gives0.of0 (a:=true) rfl) ?_;show Gives0 (M.b (askEq a a') λt=>match t with|true=>eqVs (m+2) [.int b] [.int b]|false=>M.p false) _ _ _
 refine Gives0.bind (a:=decide (a=a')) (s₁:=⟨fr,σ,o⟩) ⟨[.eq a a' (decide (a=a'))],rfl,λx h=>?_⟩ ?_
 ·rw [List.mem_singleton.mp h]; exact rfl
 ·cases h:decide (a=a') with
  |false=>exact Gives0.of0 rfl
  |true =>
   show Gives0 (M.b (M.p (decide (b=b))) λt=>match t with|true=>eqVs (m+1) [] []|false=>M.p false) _ _ _;refine Gives0.bind (a:=true) (Gives0.of0 (by unfold M.p; rw [decide_eq_true (rfl:b=b)])) (Gives0.of0 rfl)
theorem zRp(b:Int):∀ (as bs:List Int) (n:Nat),as.length+6<=n->∀ fr σ,∃ orc,∀ o,Gives0 (eqVs n (as.map (kv b)) (bs.map (kv b))) ⟨fr,σ,orc++o⟩ (decide (as=bs)) ⟨fr,σ,o⟩
 |[],[],n+1,_,fr,σ=>⟨[],λo=>Gives0.of0 rfl⟩
 |[],_::_,n+1,_,fr,σ=>⟨[],λo=>Gives0.of0 rfl⟩
 |_::_,[],n+1,_,fr,σ=>⟨[],λo=>Gives0.of0 rfl⟩
 |a::as,a'::bs,n+1,h,fr,σ=>by
  obtain⟨m,rfl⟩:∃ m,n=m+5:=⟨n-5,by simp at h; grind⟩
  obtain⟨orc,ih⟩:=zRp b as bs (m+5) (by simp at h; lia) fr σ
  cases hd:decide (a=a') with
  |true =>
   refine⟨true::orc,λo=>?_⟩
   have e:decide (a::as=a'::bs)=decide (as=bs):=by
    have:=of_decide_eq_true hd
    subst this
    simp
   rw [e];show Gives0 (M.b (eqV (m+5) (kv b a) (kv b a')) λt=>match t with|true=>eqVs (m+5) (as.map (kv b)) (bs.map (kv b))|false=>M.p false) _ _ _;have q:=eqV_kv m b a a' fr σ (orc++o);rw [hd] at q;exact Gives0.bind q (ih o)
  |false =>
   refine⟨[false],λo=>?_⟩
   have e:decide (a::as=a'::bs)=false:=by
    have:=of_decide_eq_false hd
    simp [this]
   rw [e];show Gives0 (M.b (eqV (m+5) (kv b a) (kv b a')) λt=>match t with|true=>eqVs (m+5) (as.map (kv b)) (bs.map (kv b))|false=>M.p false) _ _ _;have q:=eqV_kv m b a a' fr σ o;rw [hd] at q;exact Gives0.bind q (Gives0.of0 rfl)
theorem zJn(b:Int) (as bs:List Int) (h:as.length<=3):(Ob.deep (as.map (kv b)) (bs.map (kv b)) (decide (as=bs))).Ok:=by
 refine⟨λd hd=>?_,λd hd=>?_,λfr σ=>?_⟩
 ·obtain⟨a,_,rfl⟩:=List.mem_map.mp hd; rfl
 ·obtain⟨a,_,rfl⟩:=List.mem_map.mp hd; rfl
 ·obtain⟨orc,h⟩:=zRp b as bs 11 (by lia) fr σ;obtain⟨ob,e,k⟩:=h [];exact⟨orc++[],_,ob,e,k⟩
theorem deep_nil{v:V} {ds:List V} (h:∀ d∈v::ds,okV 11 d=true):(Ob.deep (v::ds) [] false).Ok:=⟨h,(λ_ e=>nomatch e),λfr σ=>⟨[],_,_,rfl,ok0_nil⟩⟩
theorem zIj{a b c d:Str} (h:¬(a=c/\b=d)) (k:∀ x:Str,x=a\/x=b\/x=c\/x=d->PyData.strOk x=true):(Ob.deep [.str a,.str b] [.str c,.str d] false).Ok:=by
 refine⟨λx hx=>?_,λx hx=>?_,λfr σ=>?_⟩
 ·simp only [List.mem_cons,List.not_mem_nil,or_false] at hx
  rcases hx with rfl|rfl
  ·exact k _ (.inl rfl)
  ·exact k _ (.inr (.inl rfl))
 ·simp only [List.mem_cons,List.not_mem_nil,or_false] at hx
  rcases hx with rfl|rfl
  ·exact k _ (.inr (.inr (.inl rfl)))
  ·exact k _ (.inr (.inr (.inr rfl)))
 ·suffices q:Gives0 (eqVs 11 [.str a,.str b] [.str c,.str d]) ⟨fr,σ,[]⟩ false ⟨fr,σ,[]⟩ by
   obtain⟨ob,e,k⟩:=q;exact⟨[],_,ob,e,k⟩
  show Gives0 (M.b (M.p (eqS a c)) λt=>match t with|true=>eqVs 10 [.str b] [.str d]|false=>M.p false) _ _ _
  cases h1:eqS a c with
  |false=>exact Gives0.bind (a:=false) (Gives0.of0 rfl) (Gives0.of0 rfl)
  |true =>
   refine Gives0.bind (a:=true) (Gives0.of0 rfl) ?_;show Gives0 (M.b (M.p (eqS b d)) λt=>match t with|true=>eqVs 9 [] []|false=>M.p false) _ _ _
   cases h2:eqS b d with
   |false=>exact Gives0.bind (a:=false) (Gives0.of0 rfl) (Gives0.of0 rfl)
   |true=>exact absurd ⟨zBa.mp h1,zBa.mp h2⟩ h
section
variable {base:List AO} {x y z:AO} {o:List Bool} {F:List (List Str × List V)}
theorem get_b:(base++[x,y])[base.length]?=some x:=by simp
theorem get_b1:(base++[x,y])[base.length+1]?=some y:=by simp
theorem set_b:(base++[x,y]).set base.length z=base++[z,y]:=by simp
theorem set_b1:(base++[x,y]).set (base.length+1) z=base++[x,z]:=by
 rw [List.set_append_right _ _ (by grind)]
 have:base.length+1-base.length=1:=by grind
 rw [this]; rfl
theorem get_l{l:Nat} {ob:AO} (h:base[l]?=some ob):(base++[x,y])[l]?=some ob:=by
 rw [List.getElem?_append_left (List.getElem?_eq_some_iff.mp h).1]; exact h
theorem zJj{n:Nat} {ob:AO} {σ:List AO} (h:σ[n]?=some ob):zAd (obj n) ⟨F,σ,o⟩ ob ⟨F,σ,o⟩:=zAd.of0 (by unfold obj; dsimp only; rw [h])
theorem zJi{n:Nat} {ob:AO} {σ σ':List AO} (h:σ.set n ob=σ'):zAd (putO n ob) ⟨F,σ,o⟩ () ⟨F,σ',o⟩:=zAd.of0 (by unfold putO; rw [h])
variable {l:Nat} {pre post:List V} {k:Nat} {v:V}
theorem zRb(hl:base[l]?=some (.list pre [] post)) {d:Option V} {s':S0} (h:zAd (nextI base.length (.ref l) k (pre++post)) ⟨F,base++[.iter (.ref l) k,y],o⟩ d s'):zAd (nextV base.length) ⟨F,base++[.iter (.ref l) k,y],o⟩ d s':=by
 refine zAd.bind (zJj get_b) ?_;show zAd (M.b (obj l) λo=>match itemsOf o with|some ds=>nextI base.length (.ref l) k ds|none=>fail) _ _ _;exact zAd.bind (zJj (get_l hl)) h
theorem zN8(hl:base[l]?=some (.list pre [] post)) (h:(pre++post)[k]?=some v):zAd (nextV base.length) ⟨F,base++[.iter (.ref l) k,y],o⟩ (some v) ⟨F,base++[.iter (.ref l) (k+1),y],o⟩:=by
 refine zRb hl ?_;unfold nextI;rw [h];exact zAd.bind (zJi set_b) zAd.pure
theorem zN9(hl:base[l]?=some (.list pre [] post)) (h:(pre++post)[k]?=none):zAd (nextV base.length) ⟨F,base++[.iter (.ref l) k,y],o⟩ none ⟨F,base++[.dead,y],o⟩:=by
 refine zRb hl ?_;unfold nextI;rw [h];exact zAd.bind (zJi set_b) zAd.pure
theorem gives_add{acc:List V} (h:acc.length<900000):zAd (addL (base.length+1) v) ⟨F,base++[x,.list [] [] acc],o⟩ () ⟨F,base++[x,.list [] [] (acc++[v])],o⟩:=by
 refine zAd.bind (zJj get_b1) ?_;refine zAd.bind (a:=()) (s₁:=⟨F,base++[x,.list [] [] acc],o⟩) ⟨[.len ([]++[]++acc).length],rfl,λq hq=>?_⟩ (zJi set_b1);rw [List.mem_singleton.mp hq];show ([]++[]++acc).length<900000;simpa using h
theorem zIk(hl:base[l]?=some (.list pre [] post)) {fr:List (List Str × List V)} {Good:V->Prop}
  (htst:∀ v∈pre++post,∃ r:Bool,(Good v->r=true)/\∀ (j k:Nat) (acc:List V) (o:List Bool),∃ orc,zAd ((run P (j+100)).tst cC cTest) ⟨(["keys"],[v])::fr,base++[.iter (.ref l) k,.list [] [] acc],orc++o⟩ r ⟨(["keys"],[v])::fr,base++[.iter (.ref l) k,.list [] [] acc],o⟩)
  (hlen:(pre++post).length<800000) :
  ∀ (j k:Nat) (acc:List V) (f:List Str × List V),(f=([],[])\/∃ w,f=(([("keys" : Str)],[w]):List Str × List V))->k<=(pre++post).length->(pre++post).length<=k+j->acc.length<=k->∃ ds,(∀ v∈ds,v∈pre++post)/\(∀ v∈(pre++post).drop k,Good v->v∈ds)/\∀ o,∃ orc f',
   zAd ((run P (j+101)).comp cC cElt "keys" (some cTest) base.length (base.length+1)) ⟨f::fr,base++[.iter (.ref l) k,.list [] [] acc],orc++o⟩ () ⟨f'::fr,base++[.dead,.list [] [] (acc++ds)],o⟩
 |0,k,acc,f,hf,h1,h2,h3=>by
  have hk:(pre++post)[k]?=none:=List.getElem?_eq_none (by omega)
  refine⟨[],(λ_ h=>nomatch h),λv hv=>?_,λo=>⟨[],f,?_⟩⟩
  ·rw [List.drop_eq_nil_of_le (by omega)] at hv; cases hv
  ·rw [List.append_nil];exact zAd.bind (zN9 hl hk) zAd.pure
 |j+1,k,acc,f,hf,h1,h2,h3=>by
  cases hk:(pre++post)[k]? with
  |none =>
   have hk':=List.getElem?_eq_none_iff.mp hk
   refine⟨[],(λ_ h=>nomatch h),λv hv=>?_,λo=>⟨[],f,?_⟩⟩
   ·rw [List.drop_eq_nil_of_le hk'] at hv; cases hv
   ·rw [List.append_nil];exact zAd.bind (zN9 hl hk) zAd.pure
  |some v =>
   obtain⟨hlt,hv⟩:=List.getElem?_eq_some_iff.mp hk;have hm:v∈pre++post:=hv▸List.getElem_mem hlt
   have hd:(pre++post).drop k=v::(pre++post).drop (k+1):=by rw [List.drop_eq_getElem_cons hlt,hv]
   obtain⟨r,hr,ht⟩:=htst v hm
   have hput:putA "keys" v f.1 f.2=(([("keys" : Str)],[v]):List Str × List V):=by
    rcases hf with rfl|⟨w,rfl⟩<;>kernel_rfl
   have hj:(run P (j+1+101)).comp cC cElt "keys" (some cTest) base.length (base.length+1)=comp (run P (j+1+100)) cC cElt "keys" (some cTest) base.length (base.length+1):=rfl
   cases r with
   |true =>
    obtain⟨ds,i1,i2,ih'⟩:=zIk hl htst hlen j (k+1) (acc++[v]) (["keys"],[v]) (.inr ⟨v,rfl⟩) (by grind) (by lia) (by simp; omega)
    refine⟨v::ds,λu hu=>?_,λu hu hg=>?_,λo=>?_⟩
    rotate_left 2
    ·obtain⟨orc2,f',ih⟩:=ih' o;obtain⟨orc1,t1⟩:=ht (j+1) (k+1) acc (orc2++o);refine⟨orc1++orc2,f',?_⟩;rw [hj,List.append_assoc];refine zAd.bind (zN8 hl hk) ?_;have k1:=ks_keys fr (orc1++(orc2++o)) v (base++[.iter (.ref l) (k+1),.list [] [] acc]) f;rw [hput] at k1;refine zAd.bind (zAd.of0 k1) ?_;refine zAd.bind t1 ?_
     show zAd (M.b ((run P (j+1+100)).ev cC cElt) λw=>M.b (addL (base.length+1) w) λ_=>(run P (j+1+100)).comp cC cElt "keys" (some cTest) base.length (base.length+1)) _ _ _
     refine zAd.bind (zAd.of0 (ks_elt (j+1) fr _ v _)) ?_;refine zAd.bind (gives_add (by lia)) ?_
     have e:acc++v::ds=acc++[v]++ds:=by simp
     rw [e]
     have q:j+1+100=j+101:=by grind
     rw [q];exact ih
    ·rcases List.mem_cons.mp hu with q|q
     ·rw [q]; exact hm
     ·exact i1 u q
    ·rw [hd] at hu
     rcases List.mem_cons.mp hu with q|q
     ·rw [q]; exact .head _
     ·exact .tail _ (i2 u q hg)
   |false =>
    obtain⟨ds,i1,i2,ih'⟩:=zIk hl htst hlen j (k+1) acc (["keys"],[v]) (.inr ⟨v,rfl⟩) (by grind) (by grind) (by lia)
    refine⟨ds,i1,λu hu hg=>?_,λo=>?_⟩
    rotate_left 1
    ·obtain⟨orc2,f',ih⟩:=ih' o;obtain⟨orc1,t1⟩:=ht (j+1) (k+1) acc (orc2++o);refine⟨orc1++orc2,f',?_⟩;rw [hj,List.append_assoc];refine zAd.bind (zN8 hl hk) ?_;have k1:=ks_keys fr (orc1++(orc2++o)) v (base++[.iter (.ref l) (k+1),.list [] [] acc]) f;rw [hput] at k1;refine zAd.bind (zAd.of0 k1) ?_;refine zAd.bind t1 ?_
     have q:j+1+100=j+101:=by grind
     show zAd ((run P (j+1+100)).comp cC cElt "keys" (some cTest) base.length (base.length+1)) _ _ _
     rw [q];exact ih
    ·rw [hd] at hu
     rcases List.mem_cons.mp hu with q|q
     ·rw [q] at hg; exact absurd (hr hg) (by decide)
     ·exact i2 u q hg
end
theorem take_kv{b:Int} (d h:List Int):(d.map (kv b)).take (h.map (kv b)++[]).length=(d.take h.length).map (kv b):=by
 rw [List.append_nil,List.length_map,List.map_take]
theorem zAt{b:Int} {d h:List Int} (hd:d.length<=3) {r:Bool} (hr:decide (d.take h.length=h)=r):(Ob.deep ((d.map (kv b)).take (h.map (kv b)++[]).length) (h.map (kv b)++[]++[]) r).Ok:=by
 rw [take_kv,List.append_nil,List.append_nil,<-hr];exact zJn b _ _ (by rw [List.length_take]; lia)
theorem le3E{C:List Int->List Int->Prop} {h d:List Int} (hd:d.length<=3) (hc:h.length<=d.length) (c00:C [] []) (c01:∀ x,C [] [x]) (c02:∀ x y,C [] [x,y]) (c03:∀ x y z,C [] [x,y,z]) (c11:∀ a x,C [a] [x])
  (c12:∀ a x y,C [a] [x,y]) (c13:∀ a x y z,C [a] [x,y,z]) (c22:∀ a b x y,C [a,b] [x,y]) (c23:∀ a b x y z,C [a,b] [x,y,z]) (c33:∀ a b c x y z,C [a,b,c] [x,y,z]):C h d:=by
 rcases d with _|⟨x,_|⟨y,_|⟨z,_|⟨_,_⟩⟩⟩⟩<;>rcases h with _|⟨a,_|⟨b,_|⟨c,_|⟨_,_⟩⟩⟩⟩<;>first|exact c00|exact c01 _|exact c02 _ _|exact c03 _ _ _|exact c11 _ _|exact c12 _ _ _|exact c13 _ _ _ _|exact c22 _ _ _ _|exact c23 _ _ _ _ _|exact c33 _ _ _ _ _ _|exact absurd hd (Nat.not_le_of_lt (Nat.le_add_left 4 _))|exact absurd hc (Nat.not_le_of_lt (Nat.succ_le_succ (Nat.le_add_left _ _)))
noncomputable def cCs:List (Str × Nat):=match closV cL cScope.names [] with
 |some cs=>cs
 |none=>[]
theorem zOv:closV cL cScope.names []=some cCs:=by kernel_rfl
theorem cx_told:compCx cL cScope cCs=cC:=by kernel_rfl
theorem told_ex(r:Rec):ex r cL toldS=M.b (M.b (evComp1 r cL cElt "keys" cIter [cTest] cScope) λn=>M.b popF λ_=>freezeL n) λv=>M.b (storeV cL "told" v) λ_=>M.p .next:=by kernel_rfl
theorem zLb(r:Rec):evComp1 r cL cElt "keys" cIter [cTest] cScope=M.b (evP r cL cIter) λv=>M.b (iterV v) λi=>M.b (allocO (.list [] [] [])) λn=>M.b (ofOpt (closV cL cScope.names [])) λcs =>
  M.b (pushF ([],[])) λ_=>M.b (r.comp (compCx cL cScope cs) cElt "keys" (some cTest) i n) λ_=>M.p n:=by kernel_rfl
theorem zKv:standsB=standsB.take 5++(toldS::standsB.drop 6):=by kernel_rfl
section
variable {fr:List (List Str × List V)} {l0 l1 d0 d1 L0 L1 h0 h1 i0 t0 i1 t1 X0 X1 X2:AO} {st tk0:V}
theorem tst_0{stage:String} (hst:stage = "none" \/ stage = "exstart" \/ stage = "exchange" \/ stage = "full") (hn dn:List Int) (hd:dn.length<=3) :
  ∃ r:Bool,((dn.take hn.length=hn/\(stage = "full" -> hn.length=dn.length))->r=true)/\∀ (j:Nat) (mt:List V) (it:AO) (tl:List AO) (o:List Bool),∃ orc,
   zAd ((run P (j+100)).tst cC cTest) ⟨(["keys"],[.lst (dn.map (kv 2))])::fr,stL l0 l1 (dS st tk0 (.ref 10)) d1 L0 L1 (.list (hn.map (kv 2)) [] []) h1 i0 t0 i1 t1 X0 X1 X2 (some (.ref 6)) (some (sv stage)) (some (.int (hn.map (kv 2)++[]).length)) mt it tl,orc++o⟩ r ⟨(["keys"],[.lst (dn.map (kv 2))])::fr,stL l0 l1 (dS st tk0 (.ref 10)) d1 L0 L1 (.list (hn.map (kv 2)) [] []) h1 i0 t0 i1 t1 X0 X1 X2 (some (.ref 6)) (some (sv stage)) (some (.int (hn.map (kv 2)++[]).length)) mt it tl,o⟩:=by
 rcases hst with rfl|hst
 ·cases hr:decide (dn.take hn.length=hn) with
  |true=>exact⟨true,λ_=>rfl,λj mt it tl o=>⟨[true],zAd.of (zI9 j fr o ..) (zAa (zAt (b:=2) hd hr) zAc)⟩⟩
  |false=>exact⟨false,λq=>absurd q.1 (of_decide_eq_false hr),λj mt it tl o=>⟨[false],zAd.of (zJa j fr o ..) (zAa (zAt (b:=2) hd hr) zAc)⟩⟩
 rcases hst with rfl|hst
 ·cases hr:decide (dn.take hn.length=hn) with
  |true=>exact⟨true,λ_=>rfl,λj mt it tl o=>⟨[true],zAd.of (zFi j fr o ..) (zAa (zAt (b:=2) hd hr) zAc)⟩⟩
  |false=>exact⟨false,λq=>absurd q.1 (of_decide_eq_false hr),λj mt it tl o=>⟨[false],zAd.of (zFj j fr o ..) (zAa (zAt (b:=2) hd hr) zAc)⟩⟩
 rcases hst with rfl|hst
 ·cases hr:decide (dn.take hn.length=hn) with
  |true=>exact⟨true,λ_=>rfl,λj mt it tl o=>⟨[true],zAd.of (zE3 j fr o ..) (zAa (zAt (b:=2) hd hr) zAc)⟩⟩
  |false=>exact⟨false,λq=>absurd q.1 (of_decide_eq_false hr),λj mt it tl o=>⟨[false],zAd.of (zE4 j fr o ..) (zAa (zAt (b:=2) hd hr) zAc)⟩⟩
 subst hst
 cases hr:decide (dn.take hn.length=hn) with
 |false=>exact⟨false,λq=>absurd q.1 (of_decide_eq_false hr),λj mt it tl o=>⟨[false],zAd.of (zJb j fr o ..) (zAa (zAt (b:=2) hd hr) zAc)⟩⟩
 |true =>
  have e:=of_decide_eq_true hr
  have hc:hn.length<=dn.length:=by
   have:=congrArg List.length e
   rw [List.length_take] at this; lia
  clear e
  refine le3E (h:=hn) (d:=dn) (C:=λhn dn=>∀ hd:dn.length<=3,decide (dn.take hn.length=hn)=true->∃ r:Bool,((dn.take hn.length=hn/\("full" = "full" -> hn.length=dn.length))->r=true)/\∀ (j:Nat) (mt:List V) (it:AO) (tl:List AO) (o:List Bool),∃ orc,zAd ((run P (j+100)).tst cC cTest) ⟨(["keys"],[.lst (dn.map (kv 2))])::fr,stL l0 l1 (dS st tk0 (.ref 10)) d1 L0 L1 (.list (hn.map (kv 2)) [] []) h1 i0 t0 i1 t1 X0 X1 X2 (some (.ref 6)) (some (sv "full")) (some (.int (hn.map (kv 2)++[]).length)) mt it tl,orc++o⟩ r ⟨(["keys"],[.lst (dn.map (kv 2))])::fr,stL l0 l1 (dS st tk0 (.ref 10)) d1 L0 L1 (.list (hn.map (kv 2)) [] []) h1 i0 t0 i1 t1 X0 X1 X2 (some (.ref 6)) (some (sv "full")) (some (.int (hn.map (kv 2)++[]).length)) mt it tl,o⟩) hd hc ?_ ?_ ?_ ?_ ?_ ?_ ?_ ?_ ?_ ?_ hd hr
  ·intro hd hr; exact⟨true,λ_=>rfl,λj mt it tl o=>⟨[true],zAd.of (zH2 j fr o ..) (zAa (zAt (b:=2) hd hr) zAc)⟩⟩
  ·intro c0 hd hr; exact⟨false,λq=>absurd (q.2 rfl) (by intro q; cases q),λj mt it tl o=>⟨[true],zAd.of (zH1 j fr o ..) (zAa (zAt (b:=2) hd hr) zAc)⟩⟩
  ·intro c0 c1 hd hr; exact⟨false,λq=>absurd (q.2 rfl) (by intro q; cases q),λj mt it tl o=>⟨[true],zAd.of (zH0 j fr o ..) (zAa (zAt (b:=2) hd hr) zAc)⟩⟩
  ·intro c0 c1 c2 hd hr; exact⟨false,λq=>absurd (q.2 rfl) (by intro q; cases q),λj mt it tl o=>⟨[true],zAd.of (zHz j fr o ..) (zAa (zAt (b:=2) hd hr) zAc)⟩⟩
  ·intro a0 c0 hd hr; exact⟨true,λ_=>rfl,λj mt it tl o=>⟨[true],zAd.of (zHy j fr o ..) (zAa (zAt (b:=2) hd hr) zAc)⟩⟩
  ·intro a0 c0 c1 hd hr; exact⟨false,λq=>absurd (q.2 rfl) (by intro q; cases q),λj mt it tl o=>⟨[true],zAd.of (zHx j fr o ..) (zAa (zAt (b:=2) hd hr) zAc)⟩⟩
  ·intro a0 c0 c1 c2 hd hr; exact⟨false,λq=>absurd (q.2 rfl) (by intro q; cases q),λj mt it tl o=>⟨[true],zAd.of (zHw j fr o ..) (zAa (zAt (b:=2) hd hr) zAc)⟩⟩
  ·intro a0 a1 c0 c1 hd hr; exact⟨true,λ_=>rfl,λj mt it tl o=>⟨[true],zAd.of (zHv j fr o ..) (zAa (zAt (b:=2) hd hr) zAc)⟩⟩
  ·intro a0 a1 c0 c1 c2 hd hr; exact⟨false,λq=>absurd (q.2 rfl) (by intro q; cases q),λj mt it tl o=>⟨[true],zAd.of (zHu j fr o ..) (zAa (zAt (b:=2) hd hr) zAc)⟩⟩
  ·intro a0 a1 a2 c0 c1 c2 hd hr; exact⟨true,λ_=>rfl,λj mt it tl o=>⟨[true],zAd.of (zHt j fr o ..) (zAa (zAt (b:=2) hd hr) zAc)⟩⟩
theorem body_0{stage:String} (hst:stage = "none" \/ stage = "exstart" \/ stage = "exchange" \/ stage = "full") {hn:List Int} {items ys:List V} {tk st1 tk1 hr:V} {b:Bool} {Good:V->Prop}
  (hi:∀ v∈items++ys,∃ dn:List Int,v=.lst (dn.map (kv 2))/\dn.length<=3/\(Good v->dn.take hn.length=hn/\(stage = "full" -> hn.length=dn.length))) (hlen:(items++ys).length<800000)
  (hpre:∀ i o,zAd (exs (run P (i+100)) cL (standsB.take 5)) ⟨(fC [.int 0])::fr,stL l0 l1 (dS st tk0 (.ref 10)) (dM st1 tk1 hr) L0 (.list items [] ys) (.list (hn.map (kv 2)) [] []) h1 i0 t0 i1 t1 X0 X1 X2 none none none [] (.riter 1 1) [],o⟩ .next ⟨(fB [.int 0,.ref 7,tk])::fr,stL l0 l1 (dS st tk0 (.ref 10)) (dM st1 tk1 hr) L0 (.list items [] ys) (.list (hn.map (kv 2)) [] []) h1 i0 t0 i1 t1 X0 X1 X2 (some (.ref 6)) (some (sv stage)) (some (.int (hn.map (kv 2)++[]).length)) [] (.riter 1 1) [],o⟩)
  (hpost:∀ i ds o,(∀ v∈ds,v∈items++ys)->(∀ v∈items++ys,Good v->v∈ds)->∃ orc,zAd (exs (run P (i+100)) cL (standsB.drop 6)) ⟨(fA [.int 0,.ref 7,tk,.lst ds])::fr,stL l0 l1 (dS st tk0 (.ref 10)) (dM st1 tk1 hr) L0 (.list items [] ys) (.list (hn.map (kv 2)) [] []) h1 i0 t0 i1 t1 X0 X1 X2 (some (.ref 6)) (some (sv stage)) (some (.int (hn.map (kv 2)++[]).length)) [] (.riter 1 1) [.dead,.dead],orc++o⟩ .next ⟨(fA [.int 0,.ref 7,tk,.lst ds])::fr,stL l0 l1 (dS st tk0 (.ref 10)) (dM st1 tk1 hr) L0 (.list items [] ys) (.list (hn.map (kv 2)) [] []) h1 i0 t0 i1 t1 X0 X1 X2 (some (.ref 6)) (some (sv stage)) (some (.int (hn.map (kv 2)++[]).length)) [.bool b] (.riter 1 1) [.dead,.dead],o⟩)
  (j:Nat) (hj:(items++ys).length<=j):∃ ds,∀ o,∃ orc,zAd (exs (run P (j+101)) cL standsB) ⟨(fC [.int 0])::fr,stL l0 l1 (dS st tk0 (.ref 10)) (dM st1 tk1 hr) L0 (.list items [] ys) (.list (hn.map (kv 2)) [] []) h1 i0 t0 i1 t1 X0 X1 X2 none none none [] (.riter 1 1) [],orc++o⟩ .next ⟨(fA [.int 0,.ref 7,tk,.lst ds])::fr,stL l0 l1 (dS st tk0 (.ref 10)) (dM st1 tk1 hr) L0 (.list items [] ys) (.list (hn.map (kv 2)) [] []) h1 i0 t0 i1 t1 X0 X1 X2 (some (.ref 6)) (some (sv stage)) (some (.int (hn.map (kv 2)++[]).length)) [.bool b] (.riter 1 1) [.dead,.dead],o⟩:=by
 obtain⟨ds,hd1,hd2,hcomp⟩:=zIk (base:=stL l0 l1 (dS st tk0 (.ref 10)) (dM st1 tk1 hr) L0 (.list items [] ys) (.list (hn.map (kv 2)) [] []) h1 i0 t0 i1 t1 X0 X1 X2 (some (.ref 6)) (some (sv stage)) (some (.int (hn.map (kv 2)++[]).length)) [] (.riter 1 1) []) (l:=9) (pre:=items) (post:=ys) (by rfl) (fr:=(fB [.int 0,.ref 7,tk])::fr) (Good:=Good) (λv hv=>by
  obtain⟨dn,rfl,hd,hg⟩:=hi v hv;obtain⟨r,hr,ht⟩:=tst_0 (fr:=(fB [.int 0,.ref 7,tk])::fr) (l0:=l0) (l1:=l1) (d1:=dM st1 tk1 hr) (L1:=.list items [] ys) (L0:=L0) (h1:=h1) (i0:=i0) (t0:=t0) (i1:=i1) (t1:=t1) (X0:=X0) (X1:=X1) (X2:=X2) (st:=st) (tk0:=tk0) hst hn dn hd
  exact⟨r,λq=>hr (hg q),λj k acc o=>ht j [] (.riter 1 1) _ o⟩) hlen j 0 [] ([],[]) (.inl rfl) (Nat.zero_le _) (by lia) (Nat.le_refl _)
 refine⟨ds,λo=>?_⟩;obtain⟨orc3,hp⟩:=hpost (j+1) ds o hd1 hd2;obtain⟨orc2,f',hcr⟩:=hcomp (orc3++o);refine⟨orc2++orc3,?_⟩;rw [zKv,List.append_assoc];refine zNe (hpre (j+1) _) (zIi ?_ hp);rw [told_ex,zLb]
 refine zAd.bind (zAd.bind (zAd.bind (zAd.of0 (ks_0_evp (j+1) fr ..))<|zAd.bind (zAd.of0 (ks_0_itv fr ..))<|zAd.bind (zAd.of0 (a:=26) rfl)<|zAd.bind (zAd.of0 (a:=cCs) (by rw [zOv]; rfl)) <|
  zAd.bind (zAd.of0 (a:=()) rfl)<|zAd.bind (a:=()) (by rw [cx_told]; exact hcr) zAd.pure) (zAd.bind (zAd.of0 (a:=()) rfl) (zAd.of0 (ks_0_frz fr _ _ _ _ _ _ _ _ _ _ _ _ _ _ _ _ _ _ _ ds _)))) (zAd.bind (zAd.of0 (ks_0_sto fr _ _ _ _ _ _ _ _ _ _ _ _ _ _ _ _ _ _ _ ds ..)) zAd.pure)
theorem tst_1{stage:String} (hst:stage = "none" \/ stage = "exstart" \/ stage = "exchange" \/ stage = "full") (hn dn:List Int) (hd:dn.length<=3) :
  ∃ r:Bool,((dn.take hn.length=hn/\(stage = "full" -> hn.length=dn.length))->r=true)/\∀ (j:Nat) (mt:List V) (it:AO) (tl:List AO) (o:List Bool),∃ orc,
   zAd ((run P (j+100)).tst cC cTest) ⟨(["keys"],[.lst (dn.map (kv 1))])::fr,stL l0 l1 d0 (dM st tk0 (.ref 11)) L0 L1 h0 (.list (hn.map (kv 1)) [] []) i0 t0 i1 t1 X0 X1 X2 (some (.ref 7)) (some (sv stage)) (some (.int (hn.map (kv 1)++[]).length)) mt it tl,orc++o⟩ r ⟨(["keys"],[.lst (dn.map (kv 1))])::fr,stL l0 l1 d0 (dM st tk0 (.ref 11)) L0 L1 h0 (.list (hn.map (kv 1)) [] []) i0 t0 i1 t1 X0 X1 X2 (some (.ref 7)) (some (sv stage)) (some (.int (hn.map (kv 1)++[]).length)) mt it tl,o⟩:=by
 rcases hst with rfl|hst
 ·cases hr:decide (dn.take hn.length=hn) with
  |true=>exact⟨true,λ_=>rfl,λj mt it tl o=>⟨[true],zAd.of (zI6 j fr o ..) (zAa (zAt (b:=1) hd hr) zAc)⟩⟩
  |false=>exact⟨false,λq=>absurd q.1 (of_decide_eq_false hr),λj mt it tl o=>⟨[false],zAd.of (zI7 j fr o ..) (zAa (zAt (b:=1) hd hr) zAc)⟩⟩
 rcases hst with rfl|hst
 ·cases hr:decide (dn.take hn.length=hn) with
  |true=>exact⟨true,λ_=>rfl,λj mt it tl o=>⟨[true],zAd.of (zFf j fr o ..) (zAa (zAt (b:=1) hd hr) zAc)⟩⟩
  |false=>exact⟨false,λq=>absurd q.1 (of_decide_eq_false hr),λj mt it tl o=>⟨[false],zAd.of (zFg j fr o ..) (zAa (zAt (b:=1) hd hr) zAc)⟩⟩
 rcases hst with rfl|hst
 ·cases hr:decide (dn.take hn.length=hn) with
  |true=>exact⟨true,λ_=>rfl,λj mt it tl o=>⟨[true],zAd.of (zE1 j fr o ..) (zAa (zAt (b:=1) hd hr) zAc)⟩⟩
  |false=>exact⟨false,λq=>absurd q.1 (of_decide_eq_false hr),λj mt it tl o=>⟨[false],zAd.of (zE2 j fr o ..) (zAa (zAt (b:=1) hd hr) zAc)⟩⟩
 subst hst
 cases hr:decide (dn.take hn.length=hn) with
 |false=>exact⟨false,λq=>absurd q.1 (of_decide_eq_false hr),λj mt it tl o=>⟨[false],zAd.of (zI8 j fr o ..) (zAa (zAt (b:=1) hd hr) zAc)⟩⟩
 |true =>
  have e:=of_decide_eq_true hr
  have hc:hn.length<=dn.length:=by
   have:=congrArg List.length e
   rw [List.length_take] at this; lia
  clear e
  refine le3E (h:=hn) (d:=dn) (C:=λhn dn=>∀ hd:dn.length<=3,decide (dn.take hn.length=hn)=true->∃ r:Bool,((dn.take hn.length=hn/\("full" = "full" -> hn.length=dn.length))->r=true)/\∀ (j:Nat) (mt:List V) (it:AO) (tl:List AO) (o:List Bool),∃ orc,zAd ((run P (j+100)).tst cC cTest) ⟨(["keys"],[.lst (dn.map (kv 1))])::fr,stL l0 l1 d0 (dM st tk0 (.ref 11)) L0 L1 h0 (.list (hn.map (kv 1)) [] []) i0 t0 i1 t1 X0 X1 X2 (some (.ref 7)) (some (sv "full")) (some (.int (hn.map (kv 1)++[]).length)) mt it tl,orc++o⟩ r ⟨(["keys"],[.lst (dn.map (kv 1))])::fr,stL l0 l1 d0 (dM st tk0 (.ref 11)) L0 L1 h0 (.list (hn.map (kv 1)) [] []) i0 t0 i1 t1 X0 X1 X2 (some (.ref 7)) (some (sv "full")) (some (.int (hn.map (kv 1)++[]).length)) mt it tl,o⟩) hd hc ?_ ?_ ?_ ?_ ?_ ?_ ?_ ?_ ?_ ?_ hd hr
  ·intro hd hr; exact⟨true,λ_=>rfl,λj mt it tl o=>⟨[true],zAd.of (zHn j fr o ..) (zAa (zAt (b:=1) hd hr) zAc)⟩⟩
  ·intro c0 hd hr; exact⟨false,λq=>absurd (q.2 rfl) (by intro q; cases q),λj mt it tl o=>⟨[true],zAd.of (zHm j fr o ..) (zAa (zAt (b:=1) hd hr) zAc)⟩⟩
  ·intro c0 c1 hd hr; exact⟨false,λq=>absurd (q.2 rfl) (by intro q; cases q),λj mt it tl o=>⟨[true],zAd.of (zHl j fr o ..) (zAa (zAt (b:=1) hd hr) zAc)⟩⟩
  ·intro c0 c1 c2 hd hr; exact⟨false,λq=>absurd (q.2 rfl) (by intro q; cases q),λj mt it tl o=>⟨[true],zAd.of (zHk j fr o ..) (zAa (zAt (b:=1) hd hr) zAc)⟩⟩
  ·intro a0 c0 hd hr; exact⟨true,λ_=>rfl,λj mt it tl o=>⟨[true],zAd.of (zHj j fr o ..) (zAa (zAt (b:=1) hd hr) zAc)⟩⟩
  ·intro a0 c0 c1 hd hr; exact⟨false,λq=>absurd (q.2 rfl) (by intro q; cases q),λj mt it tl o=>⟨[true],zAd.of (zHi j fr o ..) (zAa (zAt (b:=1) hd hr) zAc)⟩⟩
  ·intro a0 c0 c1 c2 hd hr; exact⟨false,λq=>absurd (q.2 rfl) (by intro q; cases q),λj mt it tl o=>⟨[true],zAd.of (zHh j fr o ..) (zAa (zAt (b:=1) hd hr) zAc)⟩⟩
  ·intro a0 a1 c0 c1 hd hr; exact⟨true,λ_=>rfl,λj mt it tl o=>⟨[true],zAd.of (zHg j fr o ..) (zAa (zAt (b:=1) hd hr) zAc)⟩⟩
  ·intro a0 a1 c0 c1 c2 hd hr; exact⟨false,λq=>absurd (q.2 rfl) (by intro q; cases q),λj mt it tl o=>⟨[true],zAd.of (zHf j fr o ..) (zAa (zAt (b:=1) hd hr) zAc)⟩⟩
  ·intro a0 a1 a2 c0 c1 c2 hd hr; exact⟨true,λ_=>rfl,λj mt it tl o=>⟨[true],zAd.of (zHe j fr o ..) (zAa (zAt (b:=1) hd hr) zAc)⟩⟩
theorem body_1{cs ct cm:Option V} {b0:Bool} {ot0 tk9 v:V} {stage:String} (hst:stage = "none" \/ stage = "exstart" \/ stage = "exchange" \/ stage = "full") {hn:List Int} {items ys:List V} {tk st1 tk1 hr:V} {b:Bool} {Good:V->Prop}
  (hi:∀ v∈items++ys,∃ dn:List Int,v=.lst (dn.map (kv 1))/\dn.length<=3/\(Good v->dn.take hn.length=hn/\(stage = "full" -> hn.length=dn.length))) (hlen:(items++ys).length<800000)
  (hpre:∀ i o,zAd (exs (run P (i+100)) cL (standsB.take 5)) ⟨(fA [.int 1,ot0,tk9,v])::fr,stL l0 l1 (dS st1 tk1 hr) (dM st tk0 (.ref 11)) (.list items [] ys) L1 h0 (.list (hn.map (kv 1)) [] []) i0 t0 i1 t1 X0 X1 X2 cs ct cm [.bool b0] (.riter 2 0) [.dead,.dead],o⟩ .next ⟨(fA [.int 1,.ref 6,tk,v])::fr,stL l0 l1 (dS st1 tk1 hr) (dM st tk0 (.ref 11)) (.list items [] ys) L1 h0 (.list (hn.map (kv 1)) [] []) i0 t0 i1 t1 X0 X1 X2 (some (.ref 7)) (some (sv stage)) (some (.int (hn.map (kv 1)++[]).length)) [.bool b0] (.riter 2 0) [.dead,.dead],o⟩)
  (hpost:∀ i ds o,(∀ v∈ds,v∈items++ys)->(∀ v∈items++ys,Good v->v∈ds)->∃ orc,zAd (exs (run P (i+100)) cL (standsB.drop 6)) ⟨(fA [.int 1,.ref 6,tk,.lst ds])::fr,stL l0 l1 (dS st1 tk1 hr) (dM st tk0 (.ref 11)) (.list items [] ys) L1 h0 (.list (hn.map (kv 1)) [] []) i0 t0 i1 t1 X0 X1 X2 (some (.ref 7)) (some (sv stage)) (some (.int (hn.map (kv 1)++[]).length)) [.bool b0] (.riter 2 0) [.dead,.dead,.dead,.dead],orc++o⟩ .next ⟨(fA [.int 1,.ref 6,tk,.lst ds])::fr,stL l0 l1 (dS st1 tk1 hr) (dM st tk0 (.ref 11)) (.list items [] ys) L1 h0 (.list (hn.map (kv 1)) [] []) i0 t0 i1 t1 X0 X1 X2 (some (.ref 7)) (some (sv stage)) (some (.int (hn.map (kv 1)++[]).length)) [.bool b0,.bool b] (.riter 2 0) [.dead,.dead,.dead,.dead],o⟩)
  (j:Nat) (hj:(items++ys).length<=j):∃ ds,∀ o,∃ orc,zAd (exs (run P (j+101)) cL standsB) ⟨(fA [.int 1,ot0,tk9,v])::fr,stL l0 l1 (dS st1 tk1 hr) (dM st tk0 (.ref 11)) (.list items [] ys) L1 h0 (.list (hn.map (kv 1)) [] []) i0 t0 i1 t1 X0 X1 X2 cs ct cm [.bool b0] (.riter 2 0) [.dead,.dead],orc++o⟩ .next ⟨(fA [.int 1,.ref 6,tk,.lst ds])::fr,stL l0 l1 (dS st1 tk1 hr) (dM st tk0 (.ref 11)) (.list items [] ys) L1 h0 (.list (hn.map (kv 1)) [] []) i0 t0 i1 t1 X0 X1 X2 (some (.ref 7)) (some (sv stage)) (some (.int (hn.map (kv 1)++[]).length)) [.bool b0,.bool b] (.riter 2 0) [.dead,.dead,.dead,.dead],o⟩:=by
 obtain⟨ds,hd1,hd2,hcomp⟩:=zIk (base:=stL l0 l1 (dS st1 tk1 hr) (dM st tk0 (.ref 11)) (.list items [] ys) L1 h0 (.list (hn.map (kv 1)) [] []) i0 t0 i1 t1 X0 X1 X2 (some (.ref 7)) (some (sv stage)) (some (.int (hn.map (kv 1)++[]).length)) [.bool b0] (.riter 2 0) [.dead,.dead]) (l:=8) (pre:=items) (post:=ys) (by rfl) (fr:=(fA [.int 1,.ref 6,tk,v])::fr) (Good:=Good) (λv hv=>by
  obtain⟨dn,rfl,hd,hg⟩:=hi v hv;obtain⟨r,hr,ht⟩:=tst_1 (fr:=(fA [.int 1,.ref 6,tk,v])::fr) (l0:=l0) (l1:=l1) (d0:=dS st1 tk1 hr) (L0:=.list items [] ys) (L1:=L1) (h0:=h0) (i0:=i0) (t0:=t0) (i1:=i1) (t1:=t1) (X0:=X0) (X1:=X1) (X2:=X2) (st:=st) (tk0:=tk0) hst hn dn hd
  exact⟨r,λq=>hr (hg q),λj k acc o=>ht j [.bool b0] (.riter 2 0) _ o⟩) hlen j 0 [] ([],[]) (.inl rfl) (Nat.zero_le _) (by lia) (Nat.le_refl _)
 refine⟨ds,λo=>?_⟩;obtain⟨orc3,hp⟩:=hpost (j+1) ds o hd1 hd2;obtain⟨orc2,f',hcr⟩:=hcomp (orc3++o);refine⟨orc2++orc3,?_⟩;rw [zKv,List.append_assoc];refine zNe (hpre (j+1) _) (zIi ?_ hp);rw [told_ex,zLb]
 refine zAd.bind (zAd.bind (zAd.bind (zAd.of0 (ks_1_evp (j+1) fr ..))<|zAd.bind (zAd.of0 (ks_1_itv fr ..))<|zAd.bind (zAd.of0 (a:=28) rfl)<|zAd.bind (zAd.of0 (a:=cCs) (by rw [zOv]; rfl)) <|
  zAd.bind (zAd.of0 (a:=()) rfl)<|zAd.bind (a:=()) (by rw [cx_told]; exact hcr) zAd.pure) (zAd.bind (zAd.of0 (a:=()) rfl) (zAd.of0 (ks_1_frz fr _ _ _ _ _ _ _ _ _ _ _ _ _ _ _ _ _ _ _ ds ..)))) (zAd.bind (zAd.of0 (ks_1_sto fr _ _ _ _ _ _ _ _ _ _ _ _ _ _ _ _ _ _ _ ds ..)) zAd.pure)
end
noncomputable def lsPre (a:Nat):Nat->List V
 |0=>[]
 |m+1=>zAg a m
noncomputable def lsPost (a:Nat):Nat->List V
 |0=>[]
 |m+1=>[.lst ((zA9 a (m+1)).map (kv ((a+1:Nat):Int)))]
theorem zHd(a n:Nat):lsPre a n++lsPost a n=zAg a n:=by
 cases n with
 |zero=>rfl
 |succ m=>rw [zK6,zE5]; rfl
noncomputable def stageS:Pl.Ss->String
 | .exst => "exstart"
 | .exch _ _ => "exchange"
 | .full _ _ => "full"
 |_ => "none"
noncomputable def stageM:Pl.Ms->String
 | .exst => "exstart"
 | .exch _ _ => "exchange"
 | .full _ => "full"
 |_ => "none"
noncomputable def hnS:Pl.Ss->List Int
 | .exch t k=>(zA9 1 t).take k
 | .full t k=>(zA9 1 t).take k
 |_=>[]
noncomputable def hnM (n1:Nat):Pl.Ms->List Int
 | .exch k s=>(zA9 0 s).take k
 | .full s=>(zA9 0 s).take (Pl.K s n1+1)
 |_=>[]
noncomputable def goodS:Pl.Ss->V->Prop
 | .exch t _,v=>v=.lst (zAq 1 t)
 | .full t _,v=>v=.lst (zAq 1 t)
 |_,_=>False
noncomputable def goodM:Pl.Ms->V->Prop
 | .exch _ s,v=>v=.lst (zAq 0 s)
 | .full s,v=>v=.lst (zAq 0 s)
 |_,_=>False
noncomputable def bS (n1:Nat):Pl.Ss->Bool
 | .full t k=>decide ((zA9 1 t).take k=zA9 1 n1)
 |_=>false
noncomputable def bM (n0 n1:Nat):Pl.Ms->Bool
 | .full s=>decide ((zA9 0 s).take (Pl.K s n1+1)=zA9 0 n0)
 |_=>false
theorem zFc(a t:Nat):(zA9 a t).length=(t+a)%4:=by unfold zA9; simp
theorem zK4(a t:Nat):(zA9 a t).length<=3:=by rw [zFc]; have:=Nat.mod_lt (t+a) (by decide:0<4); omega
theorem heardS(n0:Nat) (S:Pl.Ss):(sdS n0 S).heard=.list [] ((hnS S).map (kv 2)) []:=by
 cases S<;>first|rfl|(unfold sdS hnS; dsimp only; rw [zE5,List.map_take]; rfl)
theorem heardM(n1:Nat) (M:Pl.Ms):(sdM n1 M).heard=.list [] ((hnM n1 M).map (kv 1)) []:=by
 cases M<;>first|rfl|(unfold sdM hnM; dsimp only; rw [zE5,List.map_take]; rfl)
theorem listsS(n0:Nat) (S:Pl.Ss):(sdS n0 S).lists=.list [] (zAg 0 n0) []:=by cases S<;>rfl
theorem listsM(n1:Nat) (M:Pl.Ms):(sdM n1 M).lists=.list [] (zAg 1 n1) []:=by cases M<;>rfl
noncomputable def layP (w:Pl.W) (X0 X1 X2:AO):List AO:=zOi (.list [] (zAb w.l0) []) (.list [] (zAb w.l1) []) (dS (sdS w.n0 w.S).st (sdS w.n0 w.S).talk (.ref 10)) (dM (sdM w.n1 w.M).st (sdM w.n1 w.M).talk (.ref 11))
 (.list (lsPre 0 w.n0) [] (lsPost 0 w.n0)) (.list (lsPre 1 w.n1) [] (lsPost 1 w.n1)) (.list ((hnS w.S).map (kv 2)) [] []) (.list ((hnM w.n1 w.M).map (kv 1)) [] []) (sdS w.n0 w.S).inst (sdS w.n0 w.S).td (sdM w.n1 w.M).inst (sdM w.n1 w.M).td X0 X1 X2
section
variable {ix:List Nat}
theorem zQ6{l a b:List V} (h:∀ v∈l,okV 12 v=true) (e:a++b=l):zBe ix (.list [] l []) (.list a [] b):=by
 refine⟨?_,λ_ h=>nomatch h⟩;show zBl ix (l++[]) (a++[]++b);rw [List.append_nil,List.append_nil,e];exact zCf h
theorem zIb{l a b:List V} (h:∀ v∈l,okV 12 v=true) (e:a++b=l):zBe ix (.list a [] b) (.list [] l []):=by
 refine⟨?_,h⟩;show zBl ix (a++[]++b) (l++[]);rw [List.append_nil,List.append_nil,e];exact zCf h
theorem zL7{b:Int} (l:List Int):∀ v∈l.map (kv b),okV 12 v=true:=λv h=>by
 obtain⟨a,_,rfl⟩:=List.mem_map.mp h; rfl
end
theorem ren_layP{X0 X1 X2:AO} (hX:Xok X0 X1 X2) (w:Pl.W):zFq R19 (zDa w X0 X1 X2) (layP w X0 X1 X2):=by
 obtain⟨x0,x1,x2⟩:=hX R19 (by rfl);have q:=zBq (ix:=R19) w.n0 w.S (by rfl) (by rfl) (by rfl) (by rfl);have q':=zBr (ix:=R19) w.n1 w.M (by rfl) (by rfl) (by rfl) (by rfl)
 refine zBv (by rfl) (by rfl) (by rfl) (by rfl) (by rfl) (by rfl) (zAf _) (zAf _) q.1 q'.1 ?_ ?_ ?_ ?_ q.2.2.2.1 q.2.2.2.2 q'.2.2.2.1 q'.2.2.2.2 x0 x1 x2
 ·rw [listsS]; exact zQ6 (zAi _ _) (zHd _ _)
 ·rw [listsM]; exact zQ6 (zAi _ _) (zHd _ _)
 ·rw [heardS]; exact zQ6 (zL7 _) (List.append_nil _)
 ·rw [heardM]; exact zQ6 (zL7 _) (List.append_nil _)
theorem ren_layP'{X0 X1 X2:AO} (hX:Xok X0 X1 X2) (w:Pl.W):zFq R19 (layP w X0 X1 X2) (zDa w X0 X1 X2):=by
 obtain⟨x0,x1,x2⟩:=hX R19 (by rfl);have q:=zBq (ix:=R19) w.n0 w.S (by rfl) (by rfl) (by rfl) (by rfl);have q':=zBr (ix:=R19) w.n1 w.M (by rfl) (by rfl) (by rfl) (by rfl)
 refine zBv (by rfl) (by rfl) (by rfl) (by rfl) (by rfl) (by rfl) (zAf _) (zAf _) q.1 q'.1 ?_ ?_ ?_ ?_ q.2.2.2.1 q.2.2.2.2 q'.2.2.2.1 q'.2.2.2.2 x0 x1 x2
 ·rw [listsS]; exact zIb (zAi _ _) (zHd _ _)
 ·rw [listsM]; exact zIb (zAi _ _) (zHd _ _)
 ·rw [heardS]; exact zIb (zL7 _) (List.append_nil _)
 ·rw [heardM]; exact zIb (zL7 _) (List.append_nil _)
theorem zQj{a n:Nat} {v:V} (h:v∈zAg a n):∃ t,1<=t/\t<=n/\v=.lst (zAq a t):=by
 obtain⟨i,hi,rfl⟩:=List.mem_map.mp h;exact⟨i+1,by grind,by have:=List.mem_range.mp hi; omega,rfl⟩
theorem item_in{a n t:Nat} (h1:1<=t) (h2:t<=n):V.lst (zAq a t)∈zAg a n:=by
 refine List.mem_map.mpr ⟨t-1,List.mem_range.mpr (by omega),?_⟩;rw [show t-1+1=t by omega]
theorem okV_item{a n:Nat} {v:V} (h:v∈zAg a n):okV 11 v=true:=by
 obtain⟨t,_,_,rfl⟩:=zQj h;exact zPu λv h=>zCt (n:=8) v h
theorem zE8{a n t:Nat} {ds:List V} (h1:1<=t) (h2:t<=n) (hd:∀ v∈ds,v∈zAg a n) (hg:∀ v∈zAg a n,v=.lst (zAq a t)->v∈ds):(Ob.deep ds [] false).Ok:=by
 have:=hg _ (item_in h1 h2) rfl
 cases ds with
 |nil=>cases this
 |cons y ds=>exact deep_nil λd h=>okV_item (hd d h)
theorem zE9{l:List Int} {k:Nat}:l.take (l.take k).length=l.take k:=by
 rw [List.length_take]
 by_cases h:k<=l.length
 ·rw [Nat.min_eq_left h]
 ·rw [Nat.min_eq_right (by omega),List.take_length,List.take_of_length_le (by omega)]
section
variable {fr:List (List Str × List V)} {l0 l1 d0 d1 L0 L1 h0 h1 i0 t0 i1 t1 X0 X1 X2:AO}
theorem pre_0(n0:Nat) (S:Pl.Ss) (i:Nat) (o:List Bool):zAd (exs (run P (i+100)) cL (standsB.take 5)) ⟨(fC [.int 0])::fr,stL l0 l1 (dS (sdS n0 S).st (sdS n0 S).talk (.ref 10)) d1 L0 L1 (.list ((hnS S).map (kv 2)) [] []) h1 (sdS n0 S).inst (sdS n0 S).td i1 t1 X0 X1 X2 none none none [] (.riter 1 1) [],o⟩ .next ⟨(fB [.int 0,.ref 7,(sdS n0 S).talk])::fr,stL l0 l1 (dS (sdS n0 S).st (sdS n0 S).talk (.ref 10)) d1 L0 L1 (.list ((hnS S).map (kv 2)) [] []) h1 (sdS n0 S).inst (sdS n0 S).td i1 t1 X0 X1 X2 (some (.ref 6)) (some (sv (stageS S))) (some (.int ((hnS S).map (kv 2)++[]).length)) [] (.riter 1 1) [],o⟩:=by
 cases S with
 |down  => exact zAd.of0 (zM8 i fr o ..)
 |init  => exact zAd.of0 (zM6 i fr o ..)
 |exst  => exact zAd.of0 (zH3 i fr o ..)
 |exch t k=>exact zAd.of0 (zF2 i fr o ..)
 |full t k=>exact zAd.of0 (zM7 i fr o ..)
theorem post_0{n0 n1:Nat} (S:Pl.Ss) {st tk0 st1 tk1 hr tkx:V} (hI:Pl.okS n0 n1 S) (i:Nat) (ds:List V) (o:List Bool) (hd:∀ v∈ds,v∈zAg 1 n1) (hg:∀ v∈zAg 1 n1,goodS S v->v∈ds) :
  ∃ orc,zAd (exs (run P (i+100)) cL (standsB.drop 6)) ⟨(fA [.int 0,.ref 7,tkx,.lst ds])::fr,stL l0 l1 (dS st tk0 (.ref 10)) (dM st1 tk1 hr) L0 (.list (lsPre 1 n1) [] (lsPost 1 n1)) (.list ((hnS S).map (kv 2)) [] []) h1 i0 t0 i1 t1 X0 X1 X2 (some (.ref 6)) (some (sv (stageS S))) (some (.int ((hnS S).map (kv 2)++[]).length)) [] (.riter 1 1) [.dead,.dead],orc++o⟩ .next ⟨(fA [.int 0,.ref 7,tkx,.lst ds])::fr,stL l0 l1 (dS st tk0 (.ref 10)) (dM st1 tk1 hr) L0 (.list (lsPre 1 n1) [] (lsPost 1 n1)) (.list ((hnS S).map (kv 2)) [] []) h1 i0 t0 i1 t1 X0 X1 X2 (some (.ref 6)) (some (sv (stageS S))) (some (.int ((hnS S).map (kv 2)++[]).length)) [.bool (bS n1 S)] (.riter 1 1) [.dead,.dead],o⟩:=by
 have ok1:(Ob.len 0).Ok:=by show (_:Nat)<900000; decide
 cases S with
 |down=>exact⟨[],zAd.of (zEv i fr o _ _ _ _ _ _ _ _ _ _ _ _ _ _ _ ds ..) (zAa ok1 zAc)⟩
 |init=>exact⟨[],zAd.of (zEv i fr o _ _ _ _ _ _ _ _ _ _ _ _ _ _ _ ds ..) (zAa ok1 zAc)⟩
 |exst=>exact⟨[],zAd.of (zF3 i fr o _ _ _ _ _ _ _ _ _ _ _ _ _ _ _ ds ..) (zAa ok1 zAc)⟩
 |exch t k=>exact⟨[false],zAd.of (zFk i fr o _ _ _ _ _ _ _ _ _ _ _ _ _ _ _ ds ..) (zAa (zE8 hI.2.1 hI.2.2.1 hd hg)<|zAa ok1 zAc)⟩
 |full t k =>
  have hk:=zE8 hI.2.1 hI.2.2.1 hd hg;have hb:(bS n1 (.full t k))=decide (((zA9 1 t).take k)=zA9 1 n1):=rfl
  have h3:((zA9 1 t).take k).length<=3:=by rw [List.length_take]; have:=zK4 1 t; omega
  obtain⟨m,rfl⟩:∃ m,n1=m+1:=⟨n1-1,by have:=hI.2.1; have:=hI.2.2.1; omega⟩
  rw [hb];unfold hnS lsPre lsPost;dsimp only;clear hb hg hI hd;generalize ((zA9 1 t).take k)=hh at h3 ⊢
  cases hkn:zA9 1 (m+1) with
  |cons a as =>
   have hdeep:=zJn 2 hh (a::as) h3;exact⟨[false,decide (hh=a::as)],zAd.of (zKd i fr o (decide (hh=a::as)) _ _ _ _ _ _ _ _ _ _ _ _ ds ..) (zAa hk<|zAa (by rw [List.append_nil,List.append_nil]; exact hdeep)<|zAa ok1 zAc)⟩
  |nil =>
   match hh,h3 with
   |[],_=>exact⟨[false],zAd.of (zH7 i fr o _ _ _ _ _ _ _ _ _ _ _ ds ..) (zAa hk<|zAa ok1 zAc)⟩
   |[a0],_=>exact⟨[false],zAd.of (zH6 i fr o _ _ _ _ _ _ _ _ _ _ _ ds ..) (zAa hk<|zAa ok1 zAc)⟩
   |[a0,a1],_=>exact⟨[false],zAd.of (zH5 i fr o _ _ _ _ _ _ _ _ _ _ _ ds ..) (zAa hk<|zAa ok1 zAc)⟩
   |[a0,a1,a2],_=>exact⟨[false],zAd.of (zH4 i fr o _ _ _ _ _ _ _ _ _ _ _ ds ..) (zAa hk<|zAa ok1 zAc)⟩
   |_::_::_::_::_,h3=>simp at h3
theorem items_0{n0 n1:Nat} (S:Pl.Ss) (hI:Pl.okS n0 n1 S):∀ v∈lsPre 1 n1++lsPost 1 n1,∃ dn:List Int,v=.lst (dn.map (kv 2))/\dn.length<=3/\(goodS S v->dn.take (hnS S).length=(hnS S)/\((stageS S) = "full" -> (hnS S).length=dn.length)):=by
 intro v hv;rw [zHd] at hv;obtain⟨t',_,_,rfl⟩:=zQj hv
 have key:∀ t,V.lst (zAq 1 t')=.lst (zAq 1 t)->∃ dn:List Int,V.lst (zAq 1 t')=.lst (dn.map (kv 2))/\dn.length<=3/\dn=zA9 1 t:=λt e=>⟨zA9 1 t,by rw [e,zE5]; rfl,zK4 _ _,rfl⟩
 by_cases hG:goodS S (.lst (zAq 1 t'))
 ·cases S with
  |down=>exact hG.elim
  |init=>exact hG.elim
  |exst=>exact hG.elim
  |exch t k =>
   obtain⟨dn,e1,e2,rfl⟩:=key t hG
   exact⟨_,e1,e2,λ_=>⟨zE9,λq=>absurd (show "exchange" = "full" from q) (by decide)⟩⟩
  |full t k =>
   obtain⟨dn,e1,e2,rfl⟩:=key t hG;obtain⟨_,_,_,hk⟩:=hI;refine⟨_,e1,e2,λ_=>⟨zE9,λq=>?_⟩⟩;show ((zA9 1 t).take k).length=_;rw [List.length_take,zFc]; exact Nat.min_eq_right (hk▸K_t)
 ·exact⟨zA9 1 t',by rw [zE5]; rfl,zK4 _ _,λq=>absurd q hG⟩
theorem pre_1(n1:Nat) (M:Pl.Ms) {cs ct cm:Option V} {b0:Bool} {ot0 tk9 v:V} (i:Nat) (o:List Bool):zAd (exs (run P (i+100)) cL (standsB.take 5)) ⟨(fA [.int 1,ot0,tk9,v])::fr,stL l0 l1 d0 (dM (sdM n1 M).st (sdM n1 M).talk (.ref 11)) L0 L1 h0 (.list ((hnM n1 M).map (kv 1)) [] []) i0 t0 (sdM n1 M).inst (sdM n1 M).td X0 X1 X2 cs ct cm [.bool b0] (.riter 2 0) [.dead,.dead],o⟩ .next ⟨(fA [.int 1,.ref 6,(sdM n1 M).talk,v])::fr,stL l0 l1 d0 (dM (sdM n1 M).st (sdM n1 M).talk (.ref 11)) L0 L1 h0 (.list ((hnM n1 M).map (kv 1)) [] []) i0 t0 (sdM n1 M).inst (sdM n1 M).td X0 X1 X2 (some (.ref 7)) (some (sv (stageM M))) (some (.int ((hnM n1 M).map (kv 1)++[]).length)) [.bool b0] (.riter 2 0) [.dead,.dead],o⟩:=by
 cases M with
 |down  => exact zAd.of0 (zM5 i fr o ..)
 |init  => exact zAd.of0 (zM3 i fr o ..)
 |exst  => exact zAd.of0 (zHo i fr o ..)
 |exch k s=>exact zAd.of0 (zF0 i fr o ..)
 |full s=>exact zAd.of0 (zM4 i fr o ..)
theorem post_1{n0 n1:Nat} (M:Pl.Ms) {b0:Bool} {st tk0 st1 tk1 hr tkx:V} (hI:Pl.okM n0 n1 M) (i:Nat) (ds:List V) (o:List Bool) (hd:∀ v∈ds,v∈zAg 0 n0) (hg:∀ v∈zAg 0 n0,goodM M v->v∈ds) :
  ∃ orc,zAd (exs (run P (i+100)) cL (standsB.drop 6)) ⟨(fA [.int 1,.ref 6,tkx,.lst ds])::fr,stL l0 l1 (dS st1 tk1 hr) (dM st tk0 (.ref 11)) (.list (lsPre 0 n0) [] (lsPost 0 n0)) L1 h0 (.list ((hnM n1 M).map (kv 1)) [] []) i0 t0 i1 t1 X0 X1 X2 (some (.ref 7)) (some (sv (stageM M))) (some (.int ((hnM n1 M).map (kv 1)++[]).length)) [.bool b0] (.riter 2 0) [.dead,.dead,.dead,.dead],orc++o⟩ .next ⟨(fA [.int 1,.ref 6,tkx,.lst ds])::fr,stL l0 l1 (dS st1 tk1 hr) (dM st tk0 (.ref 11)) (.list (lsPre 0 n0) [] (lsPost 0 n0)) L1 h0 (.list ((hnM n1 M).map (kv 1)) [] []) i0 t0 i1 t1 X0 X1 X2 (some (.ref 7)) (some (sv (stageM M))) (some (.int ((hnM n1 M).map (kv 1)++[]).length)) [.bool b0,.bool (bM n0 n1 M)] (.riter 2 0) [.dead,.dead,.dead,.dead],o⟩:=by
 have ok1:(Ob.len 1).Ok:=by show (_:Nat)<900000; decide
 cases M with
 |down=>exact⟨[],zAd.of (zEu i fr o _ _ _ _ _ _ _ _ _ _ _ _ _ _ _ _ ds ..) (zAa ok1 zAc)⟩
 |init=>exact⟨[],zAd.of (zEu i fr o _ _ _ _ _ _ _ _ _ _ _ _ _ _ _ _ ds ..) (zAa ok1 zAc)⟩
 |exst=>exact⟨[],zAd.of (zF1 i fr o _ _ _ _ _ _ _ _ _ _ _ _ _ _ _ _ ds ..) (zAa ok1 zAc)⟩
 |exch k s=>exact⟨[false],zAd.of (zFh i fr o _ _ _ _ _ _ _ _ _ _ _ _ _ _ _ _ ds ..) (zAa (zE8 hI.2.1 hI.2.2.1 hd hg)<|zAa ok1 zAc)⟩
 |full s =>
  have hk:=zE8 hI.2.1 hI.2.2 hd hg;have hb:(bM n0 n1 (.full s))=decide (((zA9 0 s).take (Pl.K s n1+1))=zA9 0 n0):=rfl
  have h3:((zA9 0 s).take (Pl.K s n1+1)).length<=3:=by rw [List.length_take]; have:=zK4 0 s; omega
  obtain⟨m,rfl⟩:∃ m,n0=m+1:=⟨n0-1,by have:=hI.2.1; have:=hI.2.2; omega⟩
  rw [hb];unfold hnM lsPre lsPost;dsimp only;clear hb hg hI hd;generalize ((zA9 0 s).take (Pl.K s n1+1))=hh at h3 ⊢
  cases hkn:zA9 0 (m+1) with
  |cons a as =>
   have hdeep:=zJn 1 hh (a::as) h3;exact⟨[false,decide (hh=a::as)],zAd.of (zKc i fr o (decide (hh=a::as)) _ _ _ _ _ _ _ _ _ _ _ _ _ ds ..) (zAa hk<|zAa (by rw [List.append_nil,List.append_nil]; exact hdeep)<|zAa ok1 zAc)⟩
  |nil =>
   match hh,h3 with
   |[],_=>exact⟨[false],zAd.of (zHs i fr o _ _ _ _ _ _ _ _ _ _ _ _ ds ..) (zAa hk<|zAa ok1 zAc)⟩
   |[a0],_=>exact⟨[false],zAd.of (zHr i fr o _ _ _ _ _ _ _ _ _ _ _ _ ds ..) (zAa hk<|zAa ok1 zAc)⟩
   |[a0,a1],_=>exact⟨[false],zAd.of (zHq i fr o _ _ _ _ _ _ _ _ _ _ _ _ ds ..) (zAa hk<|zAa ok1 zAc)⟩
   |[a0,a1,a2],_=>exact⟨[false],zAd.of (zHp i fr o _ _ _ _ _ _ _ _ _ _ _ _ ds ..) (zAa hk<|zAa ok1 zAc)⟩
   |_::_::_::_::_,h3=>simp at h3
theorem items_1{n0 n1:Nat} (M:Pl.Ms) (hI:Pl.okM n0 n1 M):∀ v∈lsPre 0 n0++lsPost 0 n0,∃ dn:List Int,v=.lst (dn.map (kv 1))/\dn.length<=3/\(goodM M v->dn.take (hnM n1 M).length=(hnM n1 M)/\((stageM M) = "full" -> (hnM n1 M).length=dn.length)):=by
 intro v hv;rw [zHd] at hv;obtain⟨t',_,_,rfl⟩:=zQj hv
 have key:∀ t,V.lst (zAq 0 t')=.lst (zAq 0 t)->∃ dn:List Int,V.lst (zAq 0 t')=.lst (dn.map (kv 1))/\dn.length<=3/\dn=zA9 0 t:=λt e=>⟨zA9 0 t,by rw [e,zE5]; rfl,zK4 _ _,rfl⟩
 by_cases hG:goodM M (.lst (zAq 0 t'))
 ·cases M with
  |down=>exact hG.elim
  |init=>exact hG.elim
  |exst=>exact hG.elim
  |exch k s =>
   obtain⟨dn,e1,e2,rfl⟩:=key s hG
   exact⟨_,e1,e2,λ_=>⟨zE9,λq=>absurd (show "exchange" = "full" from q) (by decide)⟩⟩
  |full s =>
   obtain⟨dn,e1,e2,rfl⟩:=key s hG;refine⟨_,e1,e2,λ_=>⟨zE9,λq=>?_⟩⟩;show ((zA9 0 s).take (Pl.K s n1+1)).length=_;rw [List.length_take,zFc]; exact Nat.min_eq_right K_s
 ·exact⟨zA9 0 t',by rw [zE5]; rfl,zK4 _ _,λq=>absurd q hG⟩
end
noncomputable def fnS:Fn:=(lookS "_law_stands" P.fns).getD ⟨[],[],[],default,false⟩
theorem fn_stands:lookS "_law_stands" P.fns=some fnS:=by kernel_rfl
noncomputable def forS:Stmt:=(stands.drop 1).headD default
theorem stands_eq:stands=stands.take 1++(forS::stands.drop 2):=by kernel_rfl
theorem for_ex(r:Rec):ex r cS forS=M.b (evP r cS (forIter (stands.drop 1))) λv=>M.b (iterV v) λi=>r.loop cL "at" i standsB:=by kernel_rfl
theorem call_ex(r:Rec):call P r 41 (.fn "_law_stands") [.ref 1]=M.b (ofOpt (lookS "_law_stands" P.fns)) λfn=>M.b (tabOk fn.lam) λ_=>M.b (newFrame fn.scope [] 40 fn.lam) λc =>
 M.b (bindAll c fn.ps ([.ref 1]++fn.dflt)) λ_=>M.b (r.exs c fn.body) leaveV:=by kernel_rfl
theorem fn_parts:fnS.lam=false/\fnS.scope=scopeOf "_law_stands" /\ fnS.ps=[("world" : Str)]/\fnS.dflt=[]/\fnS.body=stands:=⟨by kernel_rfl,by kernel_rfl,by kernel_rfl,by kernel_rfl,by kernel_rfl⟩
theorem zRh{r:Rec} {c:Cx} {x:Str} {i:Nat} {body:List Stmt} {s s1 s2 s3 s4:S0} {v:V} {f:Fl} (h1:zAd (nextV i) s (some v) s1) (h2:zAd (storeV c x v) s1 () s2) (h3:zAd (r.exs c body) s2 .next s3) (h4:zAd (r.loop c x i body) s3 f s4) :
  zAd (loop r c x i body) s f s4:=zAd.bind h1 (zAd.bind (k:=λ_=>M.b (r.exs c body) (loopF r c x i body)) h2 (zAd.bind h3 h4))
theorem leave_ret(f fr σ o v):zAd (leaveV (.ret v)) ⟨f::fr,σ,o⟩ v ⟨fr,σ,o⟩:=zAd.of0 rfl
theorem loop_end{r:Rec} {c:Cx} {x:Str} {i:Nat} {body:List Stmt} {s s1:S0} (h1:zAd (nextV i) s none s1):zAd (loop r c x i body) s .next s1:=zAd.bind h1 zAd.pure
noncomputable def Stands (X0 X1 X2:AO) (w:Pl.W):Prop:=∃ (N:Nat) (σp:List AO),100<=N/\zFq R19 (zDa w X0 X1 X2) σp /\
 ∀ fr,∃ orc s1,zAd ((run P N).call 41 (.fn "_law_stands") [.ref 1]) ⟨fr,σp,orc⟩ (.bool true) ⟨fr,s1,[]⟩/\(∀ i∈R19,i<s1.length)/\zFq R19 (R19.map (pickA s1)) (zDa w X0 X1 X2)
theorem st_S(n0:Nat) (S:Pl.Ss):∃ x:String,(sdS n0 S).st=sv x/\PyData.strOk (Str.ofString x)=true/\(Str.ofString x=Str.ofString "full" -> ∃ t k,S=.full t k):=by
 cases S with
 |down=>exact⟨"down", rfl,by decide +kernel,λh=>absurd h (by decide)⟩
 |init=>exact⟨"init", rfl,by decide +kernel,λh=>absurd h (by decide)⟩
 |exst=>exact⟨"exstart", rfl,by decide +kernel,λh=>absurd h (by decide)⟩
 |exch t k=>exact⟨"exchange", rfl,by decide +kernel,λh=>absurd h (by decide)⟩
 |full t k=>exact⟨"full", rfl,by decide +kernel,λ_=>⟨t,k,rfl⟩⟩
theorem st_M(n1:Nat) (M:Pl.Ms):∃ x:String,(sdM n1 M).st=sv x/\PyData.strOk (Str.ofString x)=true/\(Str.ofString x=Str.ofString "full" -> ∃ s,M=.full s):=by
 cases M with
 |down=>exact⟨"down", rfl,by decide +kernel,λh=>absurd h (by decide)⟩
 |init=>exact⟨"init", rfl,by decide +kernel,λh=>absurd h (by decide)⟩
 |exst=>exact⟨"exstart", rfl,by decide +kernel,λh=>absurd h (by decide)⟩
 |exch k s=>exact⟨"exchange", rfl,by decide +kernel,λh=>absurd h (by decide)⟩
 |full s=>exact⟨"full", rfl,by decide +kernel,λ_=>⟨s,rfl⟩⟩
theorem both{w:Pl.W} (I:Pl.Inv w) {t k s:Nat} (hS:w.S=.full t k) (hM:w.M=.full s):bS w.n1 w.S=true/\bM w.n0 w.n1 w.M=true:=by
 obtain⟨h1,h2⟩:=I.match_ hS hM;have hs:=I.s;rw [hS] at hs ⊢;rw [hM];obtain⟨_,_,_,hk⟩:=hs;subst h1 h2
 refine⟨decide_eq_true ?_,decide_eq_true ?_⟩
 ·rw [List.take_of_length_le (by rw [zFc]; exact hk▸K_t)]
 ·rw [List.take_of_length_le (by rw [zFc]; exact K_s)]
theorem zDs:PyData.strOk (Str.ofString "full")=true:=by decide +kernel
theorem zO3(S:Pl.Ss):stageS S = "none" \/ stageS S = "exstart" \/ stageS S = "exchange" \/ stageS S = "full" := by
 cases S<;>first|exact .inl rfl|exact .inr (.inl rfl)|exact .inr (.inr (.inl rfl))|exact .inr (.inr (.inr rfl))
theorem zO4(M:Pl.Ms):stageM M = "none" \/ stageM M = "exstart" \/ stageM M = "exchange" \/ stageM M = "full" := by
 cases M<;>first|exact .inl rfl|exact .inr (.inl rfl)|exact .inr (.inr (.inl rfl))|exact .inr (.inr (.inr rfl))
theorem zNp{X0 X1 X2:AO} (hX:Xok X0 X1 X2) {w:Pl.W} (I:Pl.Inv w) (B0:w.n0<700000) (B1:w.n1<700000):Stands X0 X1 X2 w:=by
 refine⟨w.n0+w.n1+106,layP w X0 X1 X2,by grind,ren_layP hX w,λfr=>?_⟩;have hs:=I.s;have hm:=I.m;have hboth:∀ t k s,w.S=.full t k->w.M=.full s->bS w.n1 w.S=true/\bM w.n0 w.n1 w.M=true:=λt k s h h'=>both I h h';have hl:=ren_layP' hX w;obtain⟨n0,n1,S,M,l0,l1⟩:=w;unfold layP at hl ⊢;dsimp only at *;obtain⟨x,ex1,ex2,ex3⟩:=st_S n0 S;obtain⟨y,ey1,ey2,ey3⟩:=st_M n1 M
 have hret:∃ orc,∀ (cs ct cm:Option V) (ds:List V),∃ tl,zAd (exs (run P (n0+n1+104)) cS (stands.drop 2)) ⟨(fA [.int 1,.ref 6,(sdM n1 M).talk,.lst ds])::fr,stL (.list [] (zAb l0) []) (.list [] (zAb l1) []) (dS (sdS n0 S).st (sdS n0 S).talk (.ref 10)) (dM (sdM n1 M).st (sdM n1 M).talk (.ref 11)) (.list (lsPre 0 n0) [] (lsPost 0 n0)) (.list (lsPre 1 n1) [] (lsPost 1 n1)) (.list ((hnS S).map (kv 2)) [] []) (.list ((hnM n1 M).map (kv 1)) [] []) (sdS n0 S).inst (sdS n0 S).td (sdM n1 M).inst (sdM n1 M).td X0 X1 X2 cs ct cm [.bool (bS n1 S),.bool (bM n0 n1 M)] .dead [.dead,.dead,.dead,.dead],orc⟩ (.ret (.bool true))
   ⟨(fA [.int 1,.ref 6,(sdM n1 M).talk,.lst ds])::fr,stL (.list [] (zAb l0) []) (.list [] (zAb l1) []) (dS (sdS n0 S).st (sdS n0 S).talk (.ref 10)) (dM (sdM n1 M).st (sdM n1 M).talk (.ref 11)) (.list (lsPre 0 n0) [] (lsPost 0 n0)) (.list (lsPre 1 n1) [] (lsPost 1 n1)) (.list ((hnS S).map (kv 2)) [] []) (.list ((hnM n1 M).map (kv 1)) [] []) (sdS n0 S).inst (sdS n0 S).td (sdM n1 M).inst (sdM n1 M).td X0 X1 X2 cs ct cm [.bool (bS n1 S),.bool (bM n0 n1 M)] .dead tl,[]⟩:=by
  rw [ex1,ey1]
  have hne:¬(bS n1 S=true/\bM n0 n1 M=true)->¬(Str.ofString x=Str.ofString "full" /\ Str.ofString y=Str.ofString "full"):=λh q=>by
   obtain⟨t,k,h1⟩:=ex3 q.1;obtain⟨s,h2⟩:=ey3 q.2;exact h (hboth t k s h1 h2)
  have hok:∀ z:Str,z=Str.ofString x\/z=Str.ofString y\/z=Str.ofString "full" \/ z=Str.ofString "full" -> PyData.strOk z=true:=λz h=>by
   rcases h with rfl|rfl|rfl|rfl
   ·exact ex2
   ·exact ey2
   ·exact zDs
   ·exact zDs
  have o0:(Ob.len 0).Ok:=by show (0:Nat)<900000; decide
  have o1:(Ob.len 1).Ok:=by show (1:Nat)<900000; decide
  cases h1:bS n1 S with
  |true =>
   cases h2:bM n0 n1 M with
   |true=>exact⟨[],λcs ct cm ds=>⟨_,zAd.of (ks_ret_tt (n0+n1+4) _ [] ..) zAc⟩⟩
   |false=>exact⟨[false],λcs ct cm ds=>⟨_,zAd.of (ks_ret_tf (n0+n1+4) _ [] ..) (zAa o0<|zAa o1<|zAa (zIj (hne (by rw [h2]; exact λq=>nomatch q.2)) hok) zAc)⟩⟩
  |false =>
   cases h2:bM n0 n1 M with
   |true=>exact⟨[false],λcs ct cm ds=>⟨_,zAd.of (ks_ret_ft (n0+n1+4) _ [] ..) (zAa o0<|zAa o1<|zAa (zIj (hne (by rw [h1]; exact λq=>nomatch q.1)) hok) zAc)⟩⟩
   |false=>exact⟨[false],λcs ct cm ds=>⟨_,zAd.of (ks_ret_ff (n0+n1+4) _ [] ..) (zAa o0<|zAa o1<|zAa (zIj (hne (by rw [h1]; exact λq=>nomatch q.1)) hok) zAc)⟩⟩
 obtain⟨orcR,hR⟩:=hret
 have hlen1:(lsPre 1 n1++lsPost 1 n1).length=n1:=by rw [zHd,zA8]
 have hlen0:(lsPre 0 n0++lsPost 0 n0).length=n0:=by rw [zHd,zA8]
 have h2:=λ(ds0:List V)=>body_1 (fr:=fr) (l0:=.list [] (zAb l0) []) (l1:=.list [] (zAb l1) []) (L1:=.list (lsPre 1 n1) [] (lsPost 1 n1)) (h0:=.list ((hnS S).map (kv 2)) [] []) (i0:=(sdS n0 S).inst) (t0:=(sdS n0 S).td) (i1:=(sdM n1 M).inst) (t1:=(sdM n1 M).td) (X0:=X0) (X1:=X1) (X2:=X2)
  (st:=(sdM n1 M).st) (tk0:=(sdM n1 M).talk) (cs:=some (.ref 6)) (ct:=some (sv (stageS S))) (cm:=some (.int ((hnS S).map (kv 2)++[]).length)) (b0:=bS n1 S) (ot0:=.ref 7) (tk9:=(sdS n0 S).talk) (v:=.lst ds0)
  (zO4 M) (items_1 M hm) (by rw [hlen0]; omega) (hr:=.ref 10) (tk:=(sdM n1 M).talk) (st1:=(sdS n0 S).st) (tk1:=(sdS n0 S).talk) (b:=bM n0 n1 M)
  (λi o=>pre_1 n1 M i o) (λi ds o hd hg=>post_1 M hm i ds o (λv h=>zHd 0 n0▸hd v h) (λv h=>hg v (zHd 0 n0▸h))) (n0+n1) (by rw [hlen0]; omega)
 obtain⟨ds0,h1⟩:=body_0 (fr:=fr) (l0:=.list [] (zAb l0) []) (l1:=.list [] (zAb l1) []) (L0:=.list (lsPre 0 n0) [] (lsPost 0 n0)) (h1:=.list ((hnM n1 M).map (kv 1)) [] []) (i0:=(sdS n0 S).inst) (t0:=(sdS n0 S).td) (i1:=(sdM n1 M).inst) (t1:=(sdM n1 M).td) (X0:=X0) (X1:=X1) (X2:=X2)
  (st:=(sdS n0 S).st) (tk0:=(sdS n0 S).talk) (zO3 S) (items_0 S hs) (by rw [hlen1]; omega) (hr:=.ref 11) (tk:=(sdS n0 S).talk) (st1:=(sdM n1 M).st) (tk1:=(sdM n1 M).talk) (b:=bS n1 S)
  (λi o=>pre_0 n0 S i o) (λi ds o hd hg=>post_0 S hs i ds o (λv h=>zHd 1 n1▸hd v h) (λv h=>hg v (zHd 1 n1▸h))) (n0+n1+1) (by rw [hlen1]; grind)
 obtain⟨ds1,h2⟩:=h2 ds0;obtain⟨orc2,h2⟩:=h2 orcR;obtain⟨orc1,h1⟩:=h1 (orc2++orcR);obtain⟨tl,hR⟩:=hR _ _ _ ds1;obtain⟨f1,f2,f3,f4,f5⟩:=fn_parts;refine⟨orc1++(orc2++orcR),stL (.list [] (zAb l0) []) (.list [] (zAb l1) []) (dS (sdS n0 S).st (sdS n0 S).talk (.ref 10)) (dM (sdM n1 M).st (sdM n1 M).talk (.ref 11)) (.list (lsPre 0 n0) [] (lsPost 0 n0)) (.list (lsPre 1 n1) [] (lsPost 1 n1)) (.list ((hnS S).map (kv 2)) [] []) (.list ((hnM n1 M).map (kv 1)) [] []) (sdS n0 S).inst (sdS n0 S).td (sdM n1 M).inst (sdM n1 M).td X0 X1 X2 (some (.ref 7)) (some (sv (stageM M))) (some (.int ((hnM n1 M).map (kv 1)++[]).length)) [.bool (bS n1 S),.bool (bM n0 n1 M)] .dead tl,?_,λi hi=>Nat.lt_of_lt_of_le (List.mem_range.mp hi) (by unfold stL; simp),hl⟩
 show zAd (call P (run P (n0+n1+105)) 41 (.fn "_law_stands") [.ref 1]) _ _ _
 rw [call_ex];refine zAd.bind (a:=fnS) (zAd.of0 (by rw [fn_stands]; rfl)) ?_;rw [f1,f2,f3,f4,f5]
 refine zAd.bind (a:=()) (zAd.of0 rfl)<|zAd.bind (zAd.of0 (ks_nf ..))<|zAd.bind (zAd.of0 (ks_ba ..))<|zAd.bind (a:=.ret (.bool true)) ?_ (leave_ret (fA [.int 1,.ref 6,(sdM n1 M).talk,.lst ds1]) ..)
 show zAd (exs (run P (n0+n1+104)) cS stands) _ _ _;rw [stands_eq];refine zNe (zAd.of0 (ks_b0 (n0+n1+4) ..)) (zIi ?_ hR);rw [for_ex]
 refine zAd.bind (zAd.of0 (ks_evp (n0+n1+4) ..))<|zAd.bind (zAd.of0 (ks_itv ..)) ?_
 refine zRh (r:=run P (n0+n1+103)) (zAd.of0 (ks_0_next ..)) (zAd.of0 (ks_0_at ..)) h1 ?_;refine zRh (r:=run P (n0+n1+102)) (zAd.of0 (ks_1_next ..)) (zAd.of0 (ks_1_at ..)) h2 ?_;exact loop_end (r:=run P (n0+n1+101)) (zAd.of0 (ks_end ..))
section
variable {cn:Cn} {A:Around} {L it:Addr} {r:Rec} {c:Cx} {env:Env}
noncomputable def Mem0 (cn:Cn) (L:Addr) (f:List Str × List V) (σ:List AO) (h:Heap):Prop:=∃ g,g.φ=[L]/\St cn g ⟨[f],σ,[]⟩ h
noncomputable def Mem (cn:Cn) (L it:Addr) (f:List Str × List V) (σ:List AO) (h:Heap):Prop:=∃ g,g.φ=[L]/\g.ρ[18]?=some it/\St cn g ⟨[f],σ,[]⟩ h
theorem zI0{ix:List Nat} {g:G} {f f':List Str × List V} {σ σ':List AO} {h:Heap} (X:St cn g ⟨[f],σ,[]⟩ h) (nd:ix.Nodup) (hlt:∀ i∈ix,i<σ.length) (hk:f.1=f'.1) (hf:zBl ix f.2 f'.2)
  (hr:zFq ix (ix.map (pickA σ)) σ'):St cn (g.pick ix) ⟨[f'],σ',[]⟩ h:=by
 obtain⟨ks,ds⟩:=f;obtain⟨ks',es⟩:=f';dsimp only at hk hf;subst hk;refine X.pick [] nd (by rw [<-hr.len,List.length_map]) (.cons hf .nil) λj i o' h1 h2=>?_;obtain⟨o,e,q⟩:=hr.at h2;rw [List.getElem?_map,h1,Option.map_some] at e;have hi:i<σ.length:=hlt i (List.mem_of_getElem? h1)
 have e':pickA σ i=σ[i]:=by unfold pickA; rw [List.getElem?_eq_getElem hi]
 rw [e'] at e;cases e;exact⟨_,List.getElem?_eq_getElem hi,q⟩
theorem Mem.pick{ix:List Nat} {f f':List Str × List V} {σ σ':List AO} {h:Heap} (m:Mem cn L it f σ h) (nd:ix.Nodup) (hlt:∀ i∈ix,i<σ.length) (h18:ix[18]?=some 18) (hk:f.1=f'.1) (hf:zBl ix f.2 f'.2)
  (hr:zFq ix (ix.map (pickA σ)) σ'):Mem cn L it f' σ' h:=by
 obtain⟨g,h1,h2,X⟩:=m;exact⟨g.pick ix,h1,zL4 h18 h2,zI0 X nd hlt hk hf hr⟩
theorem St.forget{g:G} {f f':List Str × List V} {σ:List AO} {h:Heap} (X:St cn g ⟨[f],σ,[]⟩ h) (hf:∀ x d,assoc x f'.1 f'.2=some d->assoc x f.1 f.2=some d):St cn g ⟨[f'],σ,[]⟩ h:=by
 refine { X with frs:=?_ };have Y:=X.frs
 cases hφ:g.φ with
 |nil=>rw [hφ] at Y; cases Y
 |cons a as =>
  rw [hφ] at Y
  cases Y with
  |cons h1 h2 =>
   obtain⟨m,q1,q2⟩:=h1;exact .cons ⟨m,q1,λx d e=>q2 x d (hf x d e)⟩ h2
theorem Mem.forget{f f':List Str × List V} {σ:List AO} {h:Heap} (m:Mem cn L it f σ h) (hf:∀ x d,assoc x f'.1 f'.2=some d->assoc x f.1 f.2=some d):Mem cn L it f' σ h:=by
 obtain⟨g,h1,h2,X⟩:=m;exact⟨g,h1,h2,X.forget hf⟩
theorem Mem.base{f:List Str × List V} {σ:List AO} {h:Heap} (m:Mem cn L it f σ h):Mem0 cn L f σ h:=by
 obtain⟨g,h1,_,X⟩:=m;exact⟨g,h1,X⟩
theorem Mem.tst(R:zA2 cn r) (H:∀ g:G,g.φ=[L]->zAu cn g c env) (hA:AOk A c.dep) {e:PySem.Expr} {f f1:List Str × List V} {σ σ1:List AO} {b:Bool} {S:Shared} (m:Mem cn L it f σ S.heap)
  (run:∃ orc,zAd (r.tst c e) ⟨[f],σ,orc⟩ b ⟨[f1],σ1,[]⟩) {Q:Bool->Shared->Prop} {E:Value->Shared->Prop} (K:∀ h' tk,Mem cn L it f1 σ1 h'->Q b { S with heap:=h',toks:=tk }) :
  wpAny (model cn.prog cn.w) A (isTrue e env (eval e env)) Q E S:=by
 obtain⟨g,h1,h2,X⟩:=m;obtain⟨orc,ob,e1,ok⟩:=run
 exact R.tst e (H g h1) hA _ _ _ ob S Q E e1 ok (X.orc orc) λg' h' tk w hg Y hw=>by subst hw; exact K h' tk ⟨g',hg.2.2.trans h1,hg.lw.at h2,Y⟩
theorem Mem.ex(R:zA2 cn r) (H:∀ g:G,g.φ=[L]->zAu cn g c env) (hA:AOk A c.dep) {s:Stmt} {f f1:List Str × List V} {σ σ1:List AO} {S:Shared} (m:Mem cn L it f σ S.heap)
  (run:∃ orc,zAd (Mine.ex r c s) ⟨[f],σ,orc⟩ .next ⟨[f1],σ1,[]⟩) {Q:Flow->Shared->Prop} {E:Value->Shared->Prop} (K:∀ h' tk,Mem cn L it f1 σ1 h'->Q .next { S with heap:=h',toks:=tk }) :
  wpAny (model cn.prog cn.w) A (exec s env) Q E S:=by
 obtain⟨g,h1,h2,X⟩:=m;obtain⟨orc,ob,e1,ok⟩:=run
 exact zQ0 R (H g h1) hA s _ _ _ ob S Q E e1 ok (X.orc orc) λg' h' tk w hg Y hw=>by cases hw; exact K h' tk ⟨g',hg.2.2.trans h1,hg.lw.at h2,Y⟩
theorem Mem0.exs(R:zA2 cn r) (H:∀ g:G,g.φ=[L]->zAu cn g c env) (hA:AOk A c.dep) {ss:List Stmt} {f f1:List Str × List V} {σ σ1:List AO} {S:Shared} (m:Mem0 cn L f σ S.heap)
  (run:∃ orc,zAd (r.exs c ss) ⟨[f],σ,orc⟩ .next ⟨[f1],σ1,[]⟩) {Q:Flow->Shared->Prop} {E:Value->Shared->Prop} (K:∀ h' tk,Mem0 cn L f1 σ1 h'->Q .next { S with heap:=h',toks:=tk }) :
  wpAny (model cn.prog cn.w) A (execs ss env) Q E S:=by
 obtain⟨g,h1,X⟩:=m;obtain⟨orc,ob,e1,ok⟩:=run
 exact R.exs ss (H g h1) hA _ _ _ ob S Q E e1 ok (X.orc orc) λg' h' tk w hg Y hw=>by cases hw; exact K h' tk ⟨g',hg.2.2.trans h1,Y⟩
theorem Mem.exRet(R:zA2 cn r) (H:∀ g:G,g.φ=[L]->zAu cn g c env) (hA:AOk A c.dep) {s:Stmt} {f f1:List Str × List V} {σ σ1:List AO} {b:Bool} {S:Shared} (m:Mem cn L it f σ S.heap)
  (run:∃ orc,zAd (Mine.ex r c s) ⟨[f],σ,orc⟩ (.ret (.bool b)) ⟨[f1],σ1,[]⟩) {Q:Flow->Shared->Prop} {E:Value->Shared->Prop} (K:∀ h' tk,Mem cn L it f1 σ1 h'->Q (.ret (.bool b)) { S with heap:=h',toks:=tk }) :
  wpAny (model cn.prog cn.w) A (exec s env) Q E S:=by
 obtain⟨g,h1,h2,X⟩:=m;obtain⟨orc,ob,e1,ok⟩:=run
 exact zQ0 R (H g h1) hA s _ _ _ ob S Q E e1 ok (X.orc orc) λg' h' tk w hg Y hw=>by
  cases hw with
  |ret hv=>cases hv; exact K h' tk ⟨g',hg.2.2.trans h1,hg.lw.at h2,Y⟩
noncomputable def Fin (cn:Cn) (h:Heap):Prop:=(∀ b o,cn.h₀.get? b=some o->h.get? b=some o)/\∃ ps,h.get? cn.P=some (tabObj ps)
theorem Mem.fin{f:List Str × List V} {σ:List AO} {h:Heap} (m:Mem cn L it f σ h) (h0:σ[0]?=some .tab):Fin cn h:=by
 obtain⟨g,_,_,X⟩:=m;refine⟨X.keep,?_⟩;obtain⟨a,_,H⟩:=X.obj h0;obtain⟨rfl,ps,e,_⟩:=H;exact⟨ps,e⟩
theorem Mem.turn(H:∀ g:G,g.φ=[L]->zAu cn g c env) (hA:AOk A c.dep) {x:Str} {p:Pos} {body:List Stmt} {f f1:List Str × List V} {σ σ' σ1:List AO} {v:V} {S:Shared} {Q:Result->Shared->Prop} (m:Mem cn L it f σ S.heap)
  (hn:zAd (nextV 18) ⟨[f],σ,[]⟩ (some v) ⟨[f],σ',[]⟩) (hs:zAd (storeV c x v) ⟨[f],σ',[]⟩ () ⟨[f1],σ1,[]⟩)
  (K:∀ h' tk (Q':Flow->Shared->Prop) (E':Value->Shared->Prop),Mem cn L it f1 σ1 h'->(∀ S',codeAny (model cn.prog cn.w) A (.forLoop (.Name x p) (.ref it) body [] env) Q S'->Q' .next S')->(∀ u S',Q (.ok (.ret u)) S'->Q' (.ret u) S') ->
   wpAny (model cn.prog cn.w) A (execs body env) Q' E' { S with heap:=h',toks:=tk }) :
  codeAny (model cn.prog cn.w) A (.forLoop (.Name x p) (.ref it) body [] env) Q S:=by
 obtain⟨g,hφ,hi,X⟩:=m;obtain⟨o₁,e1,ok1⟩:=hn;obtain⟨oB,e3,ok3⟩:=hs;refine codeAny_of_tree ?_;rw [Around.under_of_weight rfl];show wpAny _ A ((forTurn (.Name x p) (.ref it) body [] env).onRaise (λx=>do noteFrame x env; theTreesLotGoes x)) _ _ _;refine wpAny_onRaise ?_;simp only [forTurn];refine wpAny_bind (wpAny_standAt (wpAny_bind (wpAny_onRaise (zFa hA.hd hi _ _ _ o₁ S _ _ e1 ok1 X λg1 h1 tk1 b hg1 Y hb=>?_))))
 cases b with
 |none=>exact hb.elim
 |some y =>
  have H1:=H g1 (hg1.2.2.trans hφ);refine wpAny_bind (wpAny_of_eq (a:=()) rfl ?_);refine wpAny_bind (wpAny_bind (wpAny_standAt (zEj H1 hb _ _ () oB _ _ _ e3 ok3 Y λg2 h2 tk2 _ hg2 Z _=>?_)))
  refine wpAny_bind (K h2 tk2 _ _ ⟨g2,hg2.2.2.trans (hg1.2.2.trans hφ),hg2.lw.at (hg1.lw.at hi),Z⟩ (λS' hS'=>?_) (λu S' hS'=>?_))
  ·exact wpAny_pure ⟨rfl,hS'⟩
  ·exact wpAny_pure hS'
theorem Mem.done(hA:AOk A c.dep) {x:Str} {p:Pos} {body:List Stmt} {f:List Str × List V} {σ σ':List AO} {S:Shared} {Q:Result->Shared->Prop} (m:Mem cn L it f σ S.heap)
  (hn:zAd (nextV 18) ⟨[f],σ,[]⟩ none ⟨[f],σ',[]⟩) (K:∀ h' tk,Mem cn L it f σ' h'->Q (.ok .next) { S with heap:=h',toks:=tk }) :
  codeAny (model cn.prog cn.w) A (.forLoop (.Name x p) (.ref it) body [] env) Q S:=by
 obtain⟨g,hφ,hi,X⟩:=m;obtain⟨o₁,e1,ok1⟩:=hn;refine codeAny_of_tree ?_;rw [Around.under_of_weight rfl];show wpAny _ A ((forTurn (.Name x p) (.ref it) body [] env).onRaise (λx=>do noteFrame x env; theTreesLotGoes x)) _ _ _;refine wpAny_onRaise ?_;simp only [forTurn];refine wpAny_bind (wpAny_standAt (wpAny_bind (wpAny_onRaise (zFa hA.hd hi _ _ _ o₁ S _ _ e1 ok1 X λg1 h1 tk1 b hg1 Y hb=>?_))))
 cases b with
 |some=>exact hb.elim
 |none=>exact wpAny_pure ⟨rfl,codeAny_block (wpAny_pure (K h1 tk1 ⟨g1,hg1.2.2.trans hφ,hg1.lw.at hi,Y⟩))⟩
theorem Mem0.for(R:zA2 cn r) (H:∀ g:G,g.φ=[L]->zAu cn g c env) (hA:AOk A c.dep) {x:Str} {p pos:Pos} {iter:PySem.Expr} {body:List Stmt} {f:List Str × List V} {σ σ1 σ2:List AO} {w:V} {i:Nat} {S:Shared} (m:Mem0 cn L f σ S.heap)
  (run1:∀ orc,zAd (evP r c iter) ⟨[f],σ,orc⟩ w ⟨[f],σ1,orc⟩) (run2:∀ orc,zAd (iterV w) ⟨[f],σ1,orc⟩ i ⟨[f],σ2,orc⟩) {Q:Flow->Shared->Prop} {E:Value->Shared->Prop}
  (K:∀ g' h' tk it (Q':Result->Shared->Prop),g'.φ=[L]->g'.ρ[i]?=some it->St cn g' ⟨[f],σ2,[]⟩ h'->(∀ w S',Q w S'->Q' (.ok w) S')->codeAny (model cn.prog cn.w) (A.mark none) (.forLoop (.Name x p) (.ref it) body [] env) Q' { S with heap:=h',toks:=tk }) :
  wpAny (model cn.prog cn.w) A (exec (.For (.Name x p) iter body [] pos) env) Q E S:=by
 obtain⟨g,h1,X⟩:=m;obtain⟨o1,e1,ok1⟩:=run1 [];obtain⟨o2,e2,ok2⟩:=run2 [];have hp:plainE iter=true:=zDu e1;rw [exec_For];refine wpAny_bind (wpAny_standAt (wpAny_bind (zDx R (H g h1) hA _ _ _ o1 S _ E e1 ok1 X λg1 h1' tk1 y hg1 Y hy=>?_)));rw [zEc hp];refine wpAny_bind (wpAny_pure (wpAny_bind (wpAny_standAt (wpAny_bind (wpAny_holding (zIo hy _ _ _ o2 _ _ _ e2 ok2 Y λg2 h2 tk2 u hg2 Z hu=>?_))))));obtain⟨a,rfl,ha⟩:=hu;refine wpAny_runOwn ?_;exact K g2 h2 tk2 a _ (hg2.2.2.trans (hg1.2.2.trans h1)) ha Z λw S' h=>h
end
noncomputable def lawB:List Stmt:=bodyOf "law"
noncomputable def cW:Cx:=⟨scopeOf "law", [],41,false⟩
noncomputable def stmtA:Stmt:=(forBody (lawB.drop 4)).headD default
noncomputable def if1:Stmt:=((forBody (lawB.drop 4)).drop 1).headD default
noncomputable def kick:Stmt:=(forBody (lawB.drop 5)).headD default
noncomputable def if2:Stmt:=((forBody (lawB.drop 5)).drop 1).headD default
noncomputable abbrev kN (st:String) (L H I T:AO):Sd:=⟨sv st,.none,L,H,I,T⟩
noncomputable abbrev kS (st:String) (ma:Bool) (L H:AO) (sq:Int) (lf ps:List V) (m:V):Sd:=⟨sv st,.ref 12,L,H,.inst "Exchange" 13,zAj ma 5 9 sq lf (.tup ps) st m⟩
noncomputable abbrev kM (st:String) (L H:AO) (sq:Int) (lf ps:List V) (m:V):Sd:=⟨sv st,.ref 14,L,H,.inst "Exchange" 15,zAj true 9 5 sq lf (.tup ps) st m⟩
noncomputable def F2:List Str × List V:=(["box", "world"],[.ref 16,.ref 1])
noncomputable def F3 (tv:V):List Str × List V:=(["box", "world", "turn"],[.ref 16,.ref 1,tv])
noncomputable def F4 (tv:V):List Str × List V:=(["box", "world", "turn", "at"],[.ref 16,.ref 1,tv,.int 1])
noncomputable def F5 (tv a f:V):List Str × List V:=(["box", "world", "turn", "at", "form"],[.ref 16,.ref 1,tv,a,f])
noncomputable def Fs0:List Str × List V:=(["box"],[.ref 1])
noncomputable def Fs1:List Str × List V:=(["box", "world", "at"],[.ref 1,.ref 3,.int 1])
noncomputable def projF (ix:List Nat) (r:Option (Fl × S0 × List Ob)):Option (Fl × List (List Str × List V) × List AO × Nat × List Bool × List Ob):=match r with
 |some (v,s,ob)=>some (v,s.fr,ix.map (pickA s.σ),s.σ.length,s.orc,ob)
 |none=>none
noncomputable def ifTest:Stmt->Expr
 | .If t _ _ _=>t
 |_=>default
noncomputable def orL:Expr->List Expr
 | .BoolOp _ es _=>es
 |_=>[]
noncomputable def notE:Expr->Expr
 | .UnaryOp _ e _=>e
 |_=>default
noncomputable def callF:Expr->Expr
 | .Call f _ _ _=>f
 |_=>default
noncomputable def callA:Expr->List Expr
 | .Call _ as _ _=>as
 |_=>[]
noncomputable def nA (s:Stmt):Expr:=(orL (ifTest s)).headD default
noncomputable def nB (s:Stmt):Expr:=((orL (ifTest s)).drop 1).headD default
noncomputable def symArg:List V->List V
 |[a,.int i,b]=>[a,.sym i,b]
 |l=>l
open Classical in
noncomputable def FDv (σ0 σp:List AO):Ovr:=λk=>match eqS k "_law_deed" with
 |true=>some λn as s=>if s.σ=σ0 then RB.call n (.fn k) (symArg as) { s with σ:=σp } else none
 |false=>none
noncomputable def pkPi (bits n:Int) (heads:List V):V:=.tup [sv "dd", .int 1500,.int 2,.int bits,.int n,.tup heads]
noncomputable def pre18 (l0 l1:AO) (a b:Sd) (X0 X1:AO):List AO:=[.tab,.dict ["lines", "sides"] [.ref 2,.ref 5],.list [.ref 3,.ref 4] [] [],l0,l1,.list [.ref 6,.ref 7] [] [],dS a.st a.talk (.ref 10),dM b.st b.talk (.ref 11),
 a.lists,b.lists,a.heard,b.heard,a.inst,a.td,b.inst,b.td,X0,X1]
section
variable (i:Nat) (fr:List (List Str × List V)) (o:List Bool) (ps ps2 scr lf1 lf2 q:List V) (x y st sent mh lf tk v tv a f m1 m2:V) (L0 L1 o10 o11 o12 o13 o14 o15 l0 l1 H0 H1 I T I2 T2 X0 X1 X2:AO) (c fm sq sq2:Int) (n:Nat) (A B:Sd) (sg:List AO) (FV:Ovr)
theorem zP5:ex (run P 300) cW stmtA ⟨[F3 tv],zAr l0 l1 A B (.list [.ref 17,.sym c] [] []) (.list scr [] []) X2,[true,true]⟩ =
  some (.next,⟨[F5 tv (.sym (((symAt (scr++[]++[]) ((c+1+1)-1)).natAbs:Int).fmod 2)) (.sym (((symAt (scr++[]++[]) ((c+1)-1)).natAbs:Int).fmod 8))],zAr l0 l1 A B (.list [.ref 17,.sym (c+1+1)] [] []) (.list scr [] []) X2,[]⟩,[.le (c+1) ((scr++[]).length:Int) true,.item (scr++[]++[]) ((c+1)-1),.le (c+1+1) ((scr++[]).length:Int) true,.item (scr++[]++[]) ((c+1+1)-1)]):=by kernel_rfl
theorem zP6:ex (run P 300) cW stmtA ⟨[F3 tv],zAr l0 l1 A B (.list [.ref 17,.sym c] [] []) (.list scr [] []) X2,[true,false]⟩ =
  some (.next,⟨[F5 tv (.sym ((7*(c+1+1)+(c+1+1).fdiv 4).fmod 2)) (.sym (((symAt (scr++[]++[]) ((c+1)-1)).natAbs:Int).fmod 8))],zAr l0 l1 A B (.list [.ref 17,.sym (c+1+1)] [] []) (.list scr [] []) X2,[]⟩,[.le (c+1) ((scr++[]).length:Int) true,.item (scr++[]++[]) ((c+1)-1),.le (c+1+1) ((scr++[]).length:Int) false]):=by kernel_rfl
theorem zP7:ex (run P 300) cW stmtA ⟨[F3 tv],zAr l0 l1 A B (.list [.ref 17,.sym c] [] []) (.list scr [] []) X2,[false,false]⟩ =
  some (.next,⟨[F5 tv (.sym ((7*(c+1+1)+(c+1+1).fdiv 4).fmod 2)) (.sym ((7*(c+1)+(c+1).fdiv 4).fmod 8))],zAr l0 l1 A B (.list [.ref 17,.sym (c+1+1)] [] []) (.list scr [] []) X2,[]⟩,[.le (c+1) ((scr++[]).length:Int) false,.le (c+1+1) ((scr++[]).length:Int) false]):=by kernel_rfl
theorem kd_if1_f:(runX P FV (i+100)).ev cW (callF (notE (nA if1))) ⟨[F5 tv a f],sg,o⟩ =
  some (.fn "_law_deed", ⟨[F5 tv a f],sg,o⟩,[]):=by kernel_rfl
theorem kd_if1_as:evs (runX P FV (i+100)) cW (callA (notE (nA if1))) ⟨[F5 tv a f],sg,o⟩ =
  some ([.ref 1,f,a],⟨[F5 tv a f],sg,o⟩,[]):=by kernel_rfl
theorem kd_if2_f:(runX P FV (i+100)).ev cW (callF (notE (nA if2))) ⟨[F3 tv],sg,o⟩ =
  some (.fn "_law_deed", ⟨[F3 tv],sg,o⟩,[]):=by kernel_rfl
theorem kd_if2_as1:evs (runX P FV (i+100)) cW (callA (notE (nA if2))) ⟨[F3 tv],zAr (.list [] [] []) l1 A B X0 X1 X2,o⟩ =
  some ([.ref 1,.int 0,.int 1],⟨[F3 tv],zAr (.list [] [] []) l1 A B X0 X1 X2,o⟩,[]):=by kernel_rfl
theorem kd_if2_as0:evs (runX P FV (i+100)) cW (callA (notE (nA if2))) ⟨[F3 tv],zAr (.list [] (x::q) []) l1 A B X0 X1 X2,o⟩ =
  some ([.ref 1,.int 0,.int 0],⟨[F3 tv],zAr (.list [] (x::q) []) l1 A B X0 X1 X2,o⟩,[]):=by kernel_rfl
theorem kd_if1_g:(run P (i+100)).ev cW (callF (notE (nB if1))) ⟨[F5 tv a f],sg,o⟩ =
  some (.fn "_law_stands", ⟨[F5 tv a f],sg,o⟩,[]):=by kernel_rfl
theorem kd_if1_bs:evs (run P (i+100)) cW (callA (notE (nB if1))) ⟨[F5 tv a f],sg,o⟩ =
  some ([.ref 1],⟨[F5 tv a f],sg,o⟩,[]):=by kernel_rfl
theorem kd_if2_g:(run P (i+100)).ev cW (callF (notE (nB if2))) ⟨[F3 tv],sg,o⟩ =
  some (.fn "_law_stands", ⟨[F3 tv],sg,o⟩,[]):=by kernel_rfl
theorem kd_if2_bs:evs (run P (i+100)) cW (callA (notE (nB if2))) ⟨[F3 tv],sg,o⟩ =
  some ([.ref 1],⟨[F3 tv],sg,o⟩,[]):=by kernel_rfl
theorem kd_for16:evP (run P 300) cW (forIter (lawB.drop 4)) ⟨[F2],pre18 l0 l1 A B X0 X1,o⟩ =
  some (.ref 18,⟨[F2],pre18 l0 l1 A B X0 X1++[.range 16],o⟩,[]):=by kernel_rfl
theorem kd_for16i:iterV (.ref 18) ⟨[F2],pre18 l0 l1 A B X0 X1++[.range 16],o⟩ =
  some (19,⟨[F2],pre18 l0 l1 A B X0 X1++[.range 16,.riter 0 16],o⟩,[]):=by kernel_rfl
theorem kd_for120:evP (run P 300) cW (forIter (lawB.drop 5)) ⟨[F2],zAr l0 l1 A B X0 X1 X2,o⟩ =
  some (.ref 19,⟨[F2],zAr l0 l1 A B X0 X1 X2++[.range 120],o⟩,[]):=by kernel_rfl
theorem kd_for120i:iterV (.ref 19) ⟨[F2],zAr l0 l1 A B X0 X1 X2++[.range 120],o⟩ =
  some (20,⟨[F2],zAr l0 l1 A B X0 X1 X2++[.range 120,.riter 0 120],o⟩,[]):=by kernel_rfl
theorem kd_next:nextV 18 ⟨[F2],zAr l0 l1 A B X0 X1 (.riter i (n+1)),o⟩ =
  some (some (.int i),⟨[F2],zAr l0 l1 A B X0 X1 (.riter (i+1) n),o⟩,[]):=by kernel_rfl
theorem kd_end:nextV 18 ⟨[F2],zAr l0 l1 A B X0 X1 (.riter i 0),o⟩ =
  some (none,⟨[F2],zAr l0 l1 A B X0 X1 .dead,o⟩,[]):=by kernel_rfl
theorem kd_turn:storeV cW "turn" v ⟨[F2],sg,o⟩ =
  some ((),⟨[F3 v],sg,o⟩,[]):=by kernel_rfl
theorem zGs:projF I0 (ex (run P 300) cW kick ⟨[F3 tv],zAr (.list [] [] []) (.list [] [] []) (kN "down" L0 H0 I T) (kN "down" L1 H1 I2 T2) X0 X1 X2,[false]⟩) =
  some (.next,[F4 tv],zAr (.list [] [] [.tup [sv "hello", .bool false]]) (.list [] [] [.tup [sv "hello", .bool false]]) (kN "down" L0 H0 I T) (kN "down" L1 H1 I2 T2) X0 X1 X2,23,[],[.len 0,.len 1,.deep [sv "down", sv "down"] [sv "full", sv "full"] false,.len 0,.len 0]):=by kernel_rfl
theorem zGo:projF I0 (ex (run P 300) cW kick ⟨[F3 tv],zAr (.list [] [] []) (.list [] [] []) (kN "down" L0 H0 I T) (kN "init" L1 H1 I2 T2) X0 X1 X2,[false]⟩) =
  some (.next,[F4 tv],zAr (.list [] [] [.tup [sv "hello", .bool true]]) (.list [] [] [.tup [sv "hello", .bool false]]) (kN "down" L0 H0 I T) (kN "init" L1 H1 I2 T2) X0 X1 X2,23,[],[.len 0,.len 1,.deep [sv "down", sv "init"] [sv "full", sv "full"] false,.len 0,.len 0]):=by kernel_rfl
theorem zGq:projF I0 (ex (run P 300) cW kick ⟨[F3 tv],zAr (.list [] [] []) (.list [] [] []) (kN "down" L0 H0 I T) (kM "exstart" L1 H1 sq2 lf2 ps2 m2) X0 X1 X2,[false]⟩) =
  some (.next,[F4 tv],zAr (.list [] [] [.tup [sv "hello", .bool true],.tup [sv "dd", .tup ps2]]) (.list [] [] [.tup [sv "hello", .bool false]]) (kN "down" L0 H0 I T) (kM "exstart" L1 H1 sq2 lf2 ps2 m2) X0 X1 X2,23,[],[.len 0,.len 1,.deep [sv "down", sv "exstart"] [sv "full", sv "full"] false,.len 0,.len 0,.len 1]):=by kernel_rfl
theorem zGr:projF I0 (ex (run P 300) cW kick ⟨[F3 tv],zAr (.list [] [] []) (.list [] [] []) (kN "down" L0 H0 I T) (kM "exchange" L1 H1 sq2 lf2 ps2 m2) X0 X1 X2,[false]⟩) =
  some (.next,[F4 tv],zAr (.list [] [] [.tup [sv "hello", .bool true],.tup [sv "dd", .tup ps2]]) (.list [] [] [.tup [sv "hello", .bool false]]) (kN "down" L0 H0 I T) (kM "exchange" L1 H1 sq2 lf2 ps2 m2) X0 X1 X2,23,[],[.len 0,.len 1,.deep [sv "down", sv "exchange"] [sv "full", sv "full"] false,.len 0,.len 0,.len 1]):=by kernel_rfl
theorem zGp:projF I0 (ex (run P 300) cW kick ⟨[F3 tv],zAr (.list [] [] []) (.list [] [] []) (kN "down" L0 H0 I T) (kM "full" L1 H1 sq2 lf2 ps2 m2) X0 X1 X2,[false]⟩) =
  some (.next,[F4 tv],zAr (.list [] [] [.tup [sv "hello", .bool true]]) (.list [] [] [.tup [sv "hello", .bool false]]) (kN "down" L0 H0 I T) (kM "full" L1 H1 sq2 lf2 ps2 m2) X0 X1 X2,23,[],[.len 0,.len 1,.deep [sv "down", sv "full"] [sv "full", sv "full"] false,.len 0,.len 0]):=by kernel_rfl
theorem zF8:projF I0 (ex (run P 300) cW kick ⟨[F3 tv],zAr (.list [] [] []) (.list [] [] []) (kN "init" L0 H0 I T) (kN "down" L1 H1 I2 T2) X0 X1 X2,[false]⟩) =
  some (.next,[F4 tv],zAr (.list [] [] [.tup [sv "hello", .bool false]]) (.list [] [] [.tup [sv "hello", .bool true]]) (kN "init" L0 H0 I T) (kN "down" L1 H1 I2 T2) X0 X1 X2,23,[],[.len 0,.len 1,.deep [sv "init", sv "down"] [sv "full", sv "full"] false,.len 0,.len 0]):=by kernel_rfl
theorem zF4:projF I0 (ex (run P 300) cW kick ⟨[F3 tv],zAr (.list [] [] []) (.list [] [] []) (kN "init" L0 H0 I T) (kN "init" L1 H1 I2 T2) X0 X1 X2,[false]⟩) =
  some (.next,[F4 tv],zAr (.list [] [] [.tup [sv "hello", .bool true]]) (.list [] [] [.tup [sv "hello", .bool true]]) (kN "init" L0 H0 I T) (kN "init" L1 H1 I2 T2) X0 X1 X2,23,[],[.len 0,.len 1,.deep [sv "init", sv "init"] [sv "full", sv "full"] false,.len 0,.len 0]):=by kernel_rfl
theorem zF6:projF I0 (ex (run P 300) cW kick ⟨[F3 tv],zAr (.list [] [] []) (.list [] [] []) (kN "init" L0 H0 I T) (kM "exstart" L1 H1 sq2 lf2 ps2 m2) X0 X1 X2,[false]⟩) =
  some (.next,[F4 tv],zAr (.list [] [] [.tup [sv "hello", .bool true],.tup [sv "dd", .tup ps2]]) (.list [] [] [.tup [sv "hello", .bool true]]) (kN "init" L0 H0 I T) (kM "exstart" L1 H1 sq2 lf2 ps2 m2) X0 X1 X2,23,[],[.len 0,.len 1,.deep [sv "init", sv "exstart"] [sv "full", sv "full"] false,.len 0,.len 0,.len 1]):=by kernel_rfl
theorem zF7:projF I0 (ex (run P 300) cW kick ⟨[F3 tv],zAr (.list [] [] []) (.list [] [] []) (kN "init" L0 H0 I T) (kM "exchange" L1 H1 sq2 lf2 ps2 m2) X0 X1 X2,[false]⟩) =
  some (.next,[F4 tv],zAr (.list [] [] [.tup [sv "hello", .bool true],.tup [sv "dd", .tup ps2]]) (.list [] [] [.tup [sv "hello", .bool true]]) (kN "init" L0 H0 I T) (kM "exchange" L1 H1 sq2 lf2 ps2 m2) X0 X1 X2,23,[],[.len 0,.len 1,.deep [sv "init", sv "exchange"] [sv "full", sv "full"] false,.len 0,.len 0,.len 1]):=by kernel_rfl
theorem zF5:projF I0 (ex (run P 300) cW kick ⟨[F3 tv],zAr (.list [] [] []) (.list [] [] []) (kN "init" L0 H0 I T) (kM "full" L1 H1 sq2 lf2 ps2 m2) X0 X1 X2,[false]⟩) =
  some (.next,[F4 tv],zAr (.list [] [] [.tup [sv "hello", .bool true]]) (.list [] [] [.tup [sv "hello", .bool true]]) (kN "init" L0 H0 I T) (kM "full" L1 H1 sq2 lf2 ps2 m2) X0 X1 X2,23,[],[.len 0,.len 1,.deep [sv "init", sv "full"] [sv "full", sv "full"] false,.len 0,.len 0]):=by kernel_rfl
theorem zGi:projF I0 (ex (run P 300) cW kick ⟨[F3 tv],zAr (.list [] [] []) (.list [] [] []) (kS "exstart" true L0 H0 sq lf1 ps m1) (kN "down" L1 H1 I2 T2) X0 X1 X2,[false]⟩) =
  some (.next,[F4 tv],zAr (.list [] [] [.tup [sv "hello", .bool false]]) (.list [] [] [.tup [sv "hello", .bool true],.tup [sv "dd", .tup ps]]) (kS "exstart" true L0 H0 sq lf1 ps m1) (kN "down" L1 H1 I2 T2) X0 X1 X2,23,[],[.len 0,.len 1,.deep [sv "exstart", sv "down"] [sv "full", sv "full"] false,.len 0,.len 1,.len 0]):=by kernel_rfl
theorem zGe:projF I0 (ex (run P 300) cW kick ⟨[F3 tv],zAr (.list [] [] []) (.list [] [] []) (kS "exstart" true L0 H0 sq lf1 ps m1) (kN "init" L1 H1 I2 T2) X0 X1 X2,[false]⟩) =
  some (.next,[F4 tv],zAr (.list [] [] [.tup [sv "hello", .bool true]]) (.list [] [] [.tup [sv "hello", .bool true],.tup [sv "dd", .tup ps]]) (kS "exstart" true L0 H0 sq lf1 ps m1) (kN "init" L1 H1 I2 T2) X0 X1 X2,23,[],[.len 0,.len 1,.deep [sv "exstart", sv "init"] [sv "full", sv "full"] false,.len 0,.len 1,.len 0]):=by kernel_rfl
theorem zGg:projF I0 (ex (run P 300) cW kick ⟨[F3 tv],zAr (.list [] [] []) (.list [] [] []) (kS "exstart" true L0 H0 sq lf1 ps m1) (kM "exstart" L1 H1 sq2 lf2 ps2 m2) X0 X1 X2,[false]⟩) =
  some (.next,[F4 tv],zAr (.list [] [] [.tup [sv "hello", .bool true],.tup [sv "dd", .tup ps2]]) (.list [] [] [.tup [sv "hello", .bool true],.tup [sv "dd", .tup ps]]) (kS "exstart" true L0 H0 sq lf1 ps m1) (kM "exstart" L1 H1 sq2 lf2 ps2 m2) X0 X1 X2,23,[],[.len 0,.len 1,.deep [sv "exstart", sv "exstart"] [sv "full", sv "full"] false,.len 0,.len 1,.len 0,.len 1]):=by kernel_rfl
theorem zGh:projF I0 (ex (run P 300) cW kick ⟨[F3 tv],zAr (.list [] [] []) (.list [] [] []) (kS "exstart" true L0 H0 sq lf1 ps m1) (kM "exchange" L1 H1 sq2 lf2 ps2 m2) X0 X1 X2,[false]⟩) =
  some (.next,[F4 tv],zAr (.list [] [] [.tup [sv "hello", .bool true],.tup [sv "dd", .tup ps2]]) (.list [] [] [.tup [sv "hello", .bool true],.tup [sv "dd", .tup ps]]) (kS "exstart" true L0 H0 sq lf1 ps m1) (kM "exchange" L1 H1 sq2 lf2 ps2 m2) X0 X1 X2,23,[],[.len 0,.len 1,.deep [sv "exstart", sv "exchange"] [sv "full", sv "full"] false,.len 0,.len 1,.len 0,.len 1]):=by kernel_rfl
theorem zGf:projF I0 (ex (run P 300) cW kick ⟨[F3 tv],zAr (.list [] [] []) (.list [] [] []) (kS "exstart" true L0 H0 sq lf1 ps m1) (kM "full" L1 H1 sq2 lf2 ps2 m2) X0 X1 X2,[false]⟩) =
  some (.next,[F4 tv],zAr (.list [] [] [.tup [sv "hello", .bool true]]) (.list [] [] [.tup [sv "hello", .bool true],.tup [sv "dd", .tup ps]]) (kS "exstart" true L0 H0 sq lf1 ps m1) (kM "full" L1 H1 sq2 lf2 ps2 m2) X0 X1 X2,23,[],[.len 0,.len 1,.deep [sv "exstart", sv "full"] [sv "full", sv "full"] false,.len 0,.len 1,.len 0]):=by kernel_rfl
theorem zGn:projF I0 (ex (run P 300) cW kick ⟨[F3 tv],zAr (.list [] [] []) (.list [] [] []) (kS "exchange" false L0 H0 sq lf1 ps m1) (kN "down" L1 H1 I2 T2) X0 X1 X2,[false]⟩) =
  some (.next,[F4 tv],zAr (.list [] [] [.tup [sv "hello", .bool false]]) (.list [] [] [.tup [sv "hello", .bool true]]) (kS "exchange" false L0 H0 sq lf1 ps m1) (kN "down" L1 H1 I2 T2) X0 X1 X2,23,[],[.len 0,.len 1,.deep [sv "exchange", sv "down"] [sv "full", sv "full"] false,.len 0,.len 0]):=by kernel_rfl
theorem zGj:projF I0 (ex (run P 300) cW kick ⟨[F3 tv],zAr (.list [] [] []) (.list [] [] []) (kS "exchange" false L0 H0 sq lf1 ps m1) (kN "init" L1 H1 I2 T2) X0 X1 X2,[false]⟩) =
  some (.next,[F4 tv],zAr (.list [] [] [.tup [sv "hello", .bool true]]) (.list [] [] [.tup [sv "hello", .bool true]]) (kS "exchange" false L0 H0 sq lf1 ps m1) (kN "init" L1 H1 I2 T2) X0 X1 X2,23,[],[.len 0,.len 1,.deep [sv "exchange", sv "init"] [sv "full", sv "full"] false,.len 0,.len 0]):=by kernel_rfl
theorem zGl:projF I0 (ex (run P 300) cW kick ⟨[F3 tv],zAr (.list [] [] []) (.list [] [] []) (kS "exchange" false L0 H0 sq lf1 ps m1) (kM "exstart" L1 H1 sq2 lf2 ps2 m2) X0 X1 X2,[false]⟩) =
  some (.next,[F4 tv],zAr (.list [] [] [.tup [sv "hello", .bool true],.tup [sv "dd", .tup ps2]]) (.list [] [] [.tup [sv "hello", .bool true]]) (kS "exchange" false L0 H0 sq lf1 ps m1) (kM "exstart" L1 H1 sq2 lf2 ps2 m2) X0 X1 X2,23,[],[.len 0,.len 1,.deep [sv "exchange", sv "exstart"] [sv "full", sv "full"] false,.len 0,.len 0,.len 1]):=by kernel_rfl
theorem zGm:projF I0 (ex (run P 300) cW kick ⟨[F3 tv],zAr (.list [] [] []) (.list [] [] []) (kS "exchange" false L0 H0 sq lf1 ps m1) (kM "exchange" L1 H1 sq2 lf2 ps2 m2) X0 X1 X2,[false]⟩) =
  some (.next,[F4 tv],zAr (.list [] [] [.tup [sv "hello", .bool true],.tup [sv "dd", .tup ps2]]) (.list [] [] [.tup [sv "hello", .bool true]]) (kS "exchange" false L0 H0 sq lf1 ps m1) (kM "exchange" L1 H1 sq2 lf2 ps2 m2) X0 X1 X2,23,[],[.len 0,.len 1,.deep [sv "exchange", sv "exchange"] [sv "full", sv "full"] false,.len 0,.len 0,.len 1]):=by kernel_rfl
theorem zGk:projF I0 (ex (run P 300) cW kick ⟨[F3 tv],zAr (.list [] [] []) (.list [] [] []) (kS "exchange" false L0 H0 sq lf1 ps m1) (kM "full" L1 H1 sq2 lf2 ps2 m2) X0 X1 X2,[false]⟩) =
  some (.next,[F4 tv],zAr (.list [] [] [.tup [sv "hello", .bool true]]) (.list [] [] [.tup [sv "hello", .bool true]]) (kS "exchange" false L0 H0 sq lf1 ps m1) (kM "full" L1 H1 sq2 lf2 ps2 m2) X0 X1 X2,23,[],[.len 0,.len 1,.deep [sv "exchange", sv "full"] [sv "full", sv "full"] false,.len 0,.len 0]):=by kernel_rfl
theorem zGd:projF I0 (ex (run P 300) cW kick ⟨[F3 tv],zAr (.list [] [] []) (.list [] [] []) (kS "full" false L0 H0 sq lf1 ps m1) (kN "down" L1 H1 I2 T2) X0 X1 X2,[false]⟩) =
  some (.next,[F4 tv],zAr (.list [] [] [.tup [sv "hello", .bool false]]) (.list [] [] [.tup [sv "hello", .bool true]]) (kS "full" false L0 H0 sq lf1 ps m1) (kN "down" L1 H1 I2 T2) X0 X1 X2,23,[],[.len 0,.len 1,.deep [sv "full", sv "down"] [sv "full", sv "full"] false,.len 0,.len 0]):=by kernel_rfl
theorem zF9:projF I0 (ex (run P 300) cW kick ⟨[F3 tv],zAr (.list [] [] []) (.list [] [] []) (kS "full" false L0 H0 sq lf1 ps m1) (kN "init" L1 H1 I2 T2) X0 X1 X2,[false]⟩) =
  some (.next,[F4 tv],zAr (.list [] [] [.tup [sv "hello", .bool true]]) (.list [] [] [.tup [sv "hello", .bool true]]) (kS "full" false L0 H0 sq lf1 ps m1) (kN "init" L1 H1 I2 T2) X0 X1 X2,23,[],[.len 0,.len 1,.deep [sv "full", sv "init"] [sv "full", sv "full"] false,.len 0,.len 0]):=by kernel_rfl
theorem zGb:projF I0 (ex (run P 300) cW kick ⟨[F3 tv],zAr (.list [] [] []) (.list [] [] []) (kS "full" false L0 H0 sq lf1 ps m1) (kM "exstart" L1 H1 sq2 lf2 ps2 m2) X0 X1 X2,[false]⟩) =
  some (.next,[F4 tv],zAr (.list [] [] [.tup [sv "hello", .bool true],.tup [sv "dd", .tup ps2]]) (.list [] [] [.tup [sv "hello", .bool true]]) (kS "full" false L0 H0 sq lf1 ps m1) (kM "exstart" L1 H1 sq2 lf2 ps2 m2) X0 X1 X2,23,[],[.len 0,.len 1,.deep [sv "full", sv "exstart"] [sv "full", sv "full"] false,.len 0,.len 0,.len 1]):=by kernel_rfl
theorem zGc:projF I0 (ex (run P 300) cW kick ⟨[F3 tv],zAr (.list [] [] []) (.list [] [] []) (kS "full" false L0 H0 sq lf1 ps m1) (kM "exchange" L1 H1 sq2 lf2 ps2 m2) X0 X1 X2,[false]⟩) =
  some (.next,[F4 tv],zAr (.list [] [] [.tup [sv "hello", .bool true],.tup [sv "dd", .tup ps2]]) (.list [] [] [.tup [sv "hello", .bool true]]) (kS "full" false L0 H0 sq lf1 ps m1) (kM "exchange" L1 H1 sq2 lf2 ps2 m2) X0 X1 X2,23,[],[.len 0,.len 1,.deep [sv "full", sv "exchange"] [sv "full", sv "full"] false,.len 0,.len 0,.len 1]):=by kernel_rfl
theorem zGa:projF I0 (ex (run P 300) cW kick ⟨[F3 tv],zAr (.list [] [] []) (.list [] [] []) (kS "full" false L0 H0 sq lf1 ps m1) (kM "full" L1 H1 sq2 lf2 ps2 m2) X0 X1 X2,[true]⟩) =
  some (.ret (.bool true),[F3 tv],zAr (.list [] [] []) (.list [] [] []) (kS "full" false L0 H0 sq lf1 ps m1) (kM "full" L1 H1 sq2 lf2 ps2 m2) X0 X1 X2,21,[],[.len 0,.len 1,.deep [sv "full", sv "full"] [sv "full", sv "full"] true]):=by kernel_rfl
theorem kd_skip_a:ex (run P 300) cW kick ⟨[F3 tv],zAr (.list [] (x::q) []) (.list [] lf1 []) A B X0 X1 X2,o⟩ =
  some (.next,⟨[F3 tv],zAr (.list [] (x::q) []) (.list [] lf1 []) A B X0 X1 X2,o⟩,[]):=by kernel_rfl
theorem kd_skip_b:ex (run P 300) cW kick ⟨[F3 tv],zAr (.list [] [] []) (.list [] (x::q) []) A B X0 X1 X2,o⟩ =
  some (.next,⟨[F3 tv],zAr (.list [] [] []) (.list [] (x::q) []) A B X0 X1 X2,o⟩,[]):=by kernel_rfl
theorem kd_setup:projF [0,3,6,4,5,7,10,13,11,14,35,15,33,32,9,16,1,2] (exs (run P 400) cW ((lawB.drop 1).take 3) ⟨[Fs0],[.tab,.list [.ref 2,.int 0] [] [],.list scr [] []],[]⟩) =
  some (.next,[Fs1],[.tab,.dict ["lines", "sides"] [.ref 6,.ref 7],.list [.ref 4,.ref 5] [] [],.list [] [] [],.list [] [] [.tup [sv "dd", pkPi 7 1000 []]],.list [] [] [.ref 10,.ref 13],.dict zBf [sv "exstart", .ref 33,.ref 11,.ref 35],.dict zBf [sv "init", .none,.ref 14,.ref 15],.list [] [] [.lst [.tup [.int 1,.int 100,.int 1]]],.list [] [] [],.list [] [] [],.list [] [] [],.inst "Exchange" 32,.attrs zBo [.int 1500,.int 2,.int 1,.bool true,.int 1000,.lst [.tup [.int 0,.int 2,.int 1,.int 100,.int 1,.int 1,.int 7]],pkPi 7 1000 [],.int 5,.int 9,sv "exstart", .none,.dct [] []],.dead,.dead,.list [.ref 2,.int 0] [] [],.list scr [] []],39,[],[.len 0,.len 1,.len 0,.len 0,.len 0,.len 0,.len 0,.len 0]):=by kernel_rfl
end
section
variable {cn:Cn} {A:Around} {L it:Addr} {env:Env}
theorem sym_vrs{g:G} {as:List V} {vs:List Value} (h:VRs cn g as vs):VRs cn g (symArg as) vs:=by
 cases as with
 |nil=>exact h
 |cons a as=>cases as with
  |nil=>exact h
  |cons b as=>cases as with
   |nil=>cases b<;>exact h
   |cons d as=>cases as with
    |cons=>cases b<;>exact h
    |nil=>cases b with
     |int i=>exact h.cons_inv λ_ _ e h1 r=>e▸r.cons_inv λ_ _ e h2 r=>e▸(let ⟨t,q⟩:=h2.inv; q▸.cons h1 (.cons (.sym i t) r))
     |_=>exact h
theorem ovrOk_FDv(O:zD0 cn P) {σ0 σp:List AO} (hl:σ0.length=19) (hr:zFq R19 σ0 σp):OvrOk cn (FDv σ0 σp):=by
 intro k m hF g A n a as vs hA ha hv;unfold FDv at hF
 split at hF
 ·rename_i hk;cases hF;intro s s' v ob S Q e ok X hQ;dsimp only at e
  split at e
  ·rename_i hσ
   have Y:St cn g ⟨s.fr,σp,s.orc⟩ S.heap:=X.swap s.orc (by rw [hσ,hr.len]) λi o o' h1 h2=>by
    obtain⟨o2,e2,q⟩:=hr.at h2;rw [hσ] at h1;rw [h1] at e2;cases e2;rw [hσ,hl];exact .inr q
   exact (recOk_RB O).callC hA ha (sym_vrs hv) _ _ v ob S Q e ok Y hQ
  ·cases e
 ·cases hF
open Classical in
theorem fd_call{σ0 σp:List AO} {F:Ovr} {fr o as v s' ob} (hF:F=FDv σ0 σp) (h:RB.call 41 (.fn "_law_deed") (symArg as) ⟨fr,σp,o⟩=some (v,s',ob)):(runX P F 101).call 41 (.fn "_law_deed") as ⟨fr,σ0,o⟩=some (v,s',ob):=by
 subst hF
 show callX P (FDv σ0 σp) (runX P (FDv σ0 σp) 100) 41 (.fn "_law_deed") as ⟨fr,σ0,o⟩=_
 unfold callX
 have e:FDv σ0 σp "_law_deed" = some λn as s=>(if s.σ=σ0 then RB.call n (.fn "_law_deed") (symArg as) { s with σ:=σp } else none):=by
  unfold FDv
  have:eqS "_law_deed" "_law_deed" = true:=zBa.mpr rfl
  rw [this]
 dsimp only;rw [e];dsimp only;rw [if_pos rfl];exact h
theorem t1_ex(F:Ovr) (r:Rec):tst (stepX P F (stepX P F r)) cW (nA if1)=M.b (M.b (M.b (r.ev cW (callF (notE (nA if1)))) λfv=>M.b (evs r cW (callA (notE (nA if1)))) λvs=>r.call 41 fv vs) λv=>ofOpt (truth v)) λb=>M.p (!b):=by kernel_rfl
theorem t2_ex(F:Ovr) (r:Rec):tst (stepX P F (stepX P F r)) cW (nA if2)=M.b (M.b (M.b (r.ev cW (callF (notE (nA if2)))) λfv=>M.b (evs r cW (callA (notE (nA if2)))) λvs=>r.call 41 fv vs) λv=>ofOpt (truth v)) λb=>M.p (!b):=by kernel_rfl
theorem s1_ex(r:Rec):tst (step P (step P r)) cW (nB if1)=M.b (M.b (M.b (r.ev cW (callF (notE (nB if1)))) λfv=>M.b (evs r cW (callA (notE (nB if1)))) λvs=>r.call 41 fv vs) λv=>ofOpt (truth v)) λb=>M.p (!b):=by kernel_rfl
theorem s2_ex(r:Rec):tst (step P (step P r)) cW (nB if2)=M.b (M.b (M.b (r.ev cW (callF (notE (nB if2)))) λfv=>M.b (evs r cW (callA (notE (nB if2)))) λvs=>r.call 41 fv vs) λv=>ofOpt (truth v)) λb=>M.p (!b):=by kernel_rfl
theorem zRa{r:Rec} {fe:Expr} {as:List Expr} {s s':S0} {fv:V} {vs:List V} {b:Bool} (h1:zAd (r.ev cW fe) s fv s) (h2:zAd (evs r cW as) s vs s) (h3:zAd (r.call 41 fv vs) s (.bool b) s') :
  zAd (M.b (M.b (M.b (r.ev cW fe) λfv=>M.b (evs r cW as) λvs=>r.call 41 fv vs) λv=>ofOpt (truth v)) λb=>M.p (!b)) s (!b) s' :=
 zAd.bind (zAd.bind (zAd.bind h1 (zAd.bind h2 h3)) (zAd.of0 rfl)) zAd.pure
noncomputable def ifP:Stmt->Pos
 | .If _ _ _ p=>p
 |_=>default
noncomputable def ifBody:Stmt->List Stmt
 | .If _ b _ _=>b
 |_=>[]
noncomputable def boP:Expr->Pos
 | .BoolOp _ _ p=>p
 |_=>default
theorem if1_eq:if1=.If (.BoolOp .Or [nA if1,nB if1] (boP (ifTest if1))) (ifBody if1) [] (ifP if1):=by kernel_rfl
theorem if2_eq:if2=.If (.BoolOp .Or [nA if2,nB if2] (boP (ifTest if2))) (ifBody if2) [] (ifP if2):=by kernel_rfl
theorem body1_eq:forBody (lawB.drop 4)=[stmtA,if1]:=by kernel_rfl
theorem body2_eq:forBody (lawB.drop 5)=[kick,if2]:=by kernel_rfl
theorem if_or{t1 t2:Expr} {p p':Pos} {b:List Stmt} {S:Shared} {Q:Flow->Shared->Prop} {E:Value->Shared->Prop}
  (h:wpAny (model cn.prog cn.w) A (isTrue t1 env (eval t1 env)) (λu S'=>u=false/\wpAny (model cn.prog cn.w) A (isTrue t2 env (eval t2 env)) (λu S'=>u=false/\Q .next S') E S') E S) :
  wpAny (model cn.prog cn.w) A (exec (.If (.BoolOp .Or [t1,t2] p) b [] p') env) Q E S:=by
 rw [exec_If];refine wpAny_bind (wpAny_standAt (wpAny_bind ?_));show wpAny _ A (isTrue t1 env (eval t1 env) >>= λt=>_) _ _ _;refine wpAny_bind (wpAny_mono h (λu S' hu=>?_) λ_ _ e=>e);obtain⟨rfl,h2⟩:=hu;show wpAny _ A (isTrue t2 env (eval t2 env) >>= λt=>_) _ _ _;refine wpAny_bind (wpAny_mono h2 (λu S' hu=>?_) λ_ _ e=>e);obtain⟨rfl,h3⟩:=hu;exact wpAny_pure (wpAny_pure h3)
end
set_option backward.match.sparseCases true
noncomputable def box (c:Int):AO:=.list [.ref 17,.sym c] [] []
section
variable {cn:Cn} {A:Around} {L it:Addr} {env:Env}
noncomputable def Fok (f:List Str × List V):Prop:=∀ ix:List Nat,ix[1]?=some 1->ix[16]?=some 16->zBl ix f.2 f.2
theorem lay_len(w:Pl.W) (X0 X1 X2:AO):(zDa w X0 X1 X2).length=19:=rfl
theorem Mem.deed(O:zD0 cn P) (H:∀ g:G,g.φ=[L]->zAu cn g cW env) (hA:AOk A 41) {w w':Pl.W} {X0 X1 X2:AO} {f:List Str × List V} (hf:Fok f) {k a:Int} {e:Expr} {fe:Expr} {as:List Expr} {vs:List V}
  (G:zB4 X0 X1 X2 w w' k a) (hex:∀ (F:Ovr) (r:Rec),Mine.tst (stepX P F (stepX P F r)) cW e=M.b (M.b (M.b (r.ev cW fe) λfv=>M.b (evs r cW as) λvs=>r.call 41 fv vs) λv=>ofOpt (truth v)) λb=>M.p (!b))
  (h1:∀ (F:Ovr) o,zAd ((runX P F 101).ev cW fe) ⟨[f],zDa w X0 X1 X2,o⟩ (.fn "_law_deed") ⟨[f],zDa w X0 X1 X2,o⟩) (h2:∀ (F:Ovr) o,zAd (evs (runX P F 101) cW as) ⟨[f],zDa w X0 X1 X2,o⟩ vs ⟨[f],zDa w X0 X1 X2,o⟩)
  (hvs:symArg vs=[.ref 1,.sym k,.int a]) {S:Shared} (m:Mem cn L it f (zDa w X0 X1 X2) S.heap) {Q:Bool->Shared->Prop} {E:Value->Shared->Prop} (K:∀ h' tk,Mem cn L it f (zDa w' X0 X1 X2) h'->Q false { S with heap:=h',toks:=tk }) :
  wpAny (model cn.prog cn.w) A (isTrue e env (eval e env)) Q E S:=by
 obtain⟨σp,ix,N,orc,obs,pre,ok,hix,hrun⟩:=G;obtain⟨s1,hN,he,post⟩:=hrun [f]
 refine Mem.tst (zFs O (ovrOk_FDv O (lay_len w X0 X1 X2) pre) 104) H hA m (f1:=f) (σ1:=s1) ⟨orc,?_⟩ λh' tk m'=>K h' tk ?_
 ·show zAd (Mine.tst (stepX P (FDv (zDa w X0 X1 X2) σp) (stepX P (FDv (zDa w X0 X1 X2) σp) (runX P (FDv (zDa w X0 X1 X2) σp) 101))) cW e) _ _ _;rw [hex];exact zRa (b:=true) (h1 _ orc) (h2 _ orc) ⟨obs,fd_call rfl (by rw [hvs]; exact he),ok⟩
 ·exact m'.pick hix.nd (λi hi=>by rw [hN]; exact hix.lt i hi) hix.i18 rfl (hf ix hix.i1 hix.i16) post
theorem Mem.stands(O:zD0 cn P) (H:∀ g:G,g.φ=[L]->zAu cn g cW env) (hA:AOk A 41) {w:Pl.W} {X0 X1 X2:AO} {f:List Str × List V} (hf:Fok f) {e:Expr} {fe:Expr} {as:List Expr}
  (St:Stands X0 X1 X2 w) (hex:∀ (r:Rec),Mine.tst (step P (step P r)) cW e=M.b (M.b (M.b (r.ev cW fe) λfv=>M.b (evs r cW as) λvs=>r.call 41 fv vs) λv=>ofOpt (truth v)) λb=>M.p (!b))
  (h1:∀ i σ o,zAd ((run P (i+100)).ev cW fe) ⟨[f],σ,o⟩ (.fn "_law_stands") ⟨[f],σ,o⟩) (h2:∀ i σ o,zAd (evs (run P (i+100)) cW as) ⟨[f],σ,o⟩ [.ref 1] ⟨[f],σ,o⟩)
  {S:Shared} (m:Mem cn L it f (zDa w X0 X1 X2) S.heap) {Q:Bool->Shared->Prop} {E:Value->Shared->Prop} (K:∀ h' tk,Mem cn L it f (zDa w X0 X1 X2) h'->Q false { S with heap:=h',toks:=tk }) :
  wpAny (model cn.prog cn.w) A (isTrue e env (eval e env)) Q E S:=by
 obtain⟨N,σp,hN,pre,hrun⟩:=St;obtain⟨orc,s1,he,hlt,post⟩:=hrun [f]
 obtain⟨i,rfl⟩:∃ i,N=i+100:=⟨N-100,by lia⟩
 have m1:Mem cn L it f σp S.heap:=m.pick (ix:=R19) (by decide) (λi hi=>List.mem_range.mp hi) (by rfl) rfl (hf R19 (by rfl) (by rfl)) pre
 refine Mem.tst (zCj O (i+100+3)) H hA m1 (f1:=f) (σ1:=s1) ⟨orc,?_⟩ λh' tk m'=>K h' tk ?_
 ·show zAd (Mine.tst (step P (step P (run P (i+100)))) cW e) _ _ _;rw [hex];exact zRa (b:=true) (h1 i _ orc) (h2 i _ orc) he
 ·exact m'.pick (ix:=R19) (by decide) hlt (by rfl) rfl (hf R19 (by rfl) (by rfl)) post
theorem zGx(a:Int) {b:Int} (h:0<b):0<=a.fmod b/\a.fmod b<b:=⟨Int.fmod_nonneg_of_pos a h,Int.fmod_lt_of_pos a h⟩
theorem zPt{scr:List V} (hs:∀ v∈scr,∃ x,v=.sym x) {c:Int} (hc:0<=c) (h:c+1<=((scr++[]).length:Int)):(Ob.item (scr++[]++[]) (c+1-1)).Ok:=by
 rw [List.append_nil] at h ⊢;rw [List.append_nil]
 have e:c+1-1=c:=by lia
 rw [e]
 have hl:c.toNat<scr.length:=by lia
 obtain⟨x,hx⟩:=hs _ (List.getElem_mem hl);exact⟨hc,x,by rw [List.getElem?_eq_getElem hl,hx]⟩
theorem drawn{scr:List V} (hs:∀ v∈scr,∃ x,v=.sym x) {c:Int} (hc:0<=c) (w:Pl.W) (X2:AO) (tv:V):∃ orc fv av,(0<=fv/\fv<8)/\(0<=av/\av<2) /\
  zAd (ex (run P 300) cW stmtA) ⟨[F3 tv],zDa w (box c) (.list scr [] []) X2,orc⟩ .next ⟨[F5 tv (.sym av) (.sym fv)],zDa w (box (c+1+1)) (.list scr [] []) X2,[]⟩:=by
 by_cases h1:c+1<=((scr++[]).length:Int)
 ·by_cases h2:c+1+1<=((scr++[]).length:Int)
  ·exact⟨_,_,_,zGx _ (by decide),zGx _ (by decide),zAd.of (zP5 ..) (zAa (decide_eq_true h1)<|zAa (zPt hs hc h1)<|zAa (decide_eq_true h2)<|zAa (zPt hs (by lia) h2) zAc)⟩
  ·exact⟨_,_,_,zGx _ (by decide),zGx _ (by decide),zAd.of (zP6 ..) (zAa (decide_eq_true h1)<|zAa (zPt hs hc h1)<|zAa (decide_eq_false h2) zAc)⟩
 ·exact⟨_,_,_,zGx _ (by decide),zGx _ (by decide),zAd.of (zP7 ..) (zAa (decide_eq_false h1)<|zAa (decide_eq_false (by lia)) zAc)⟩
theorem xok{scr:List V} (hs:∀ v∈scr,∃ x,v=.sym x) (c:Int) {X2:AO} (h2:∀ ix,zBe ix X2 X2):Xok (box c) (.list scr [] []) X2:=λix h=>by
 refine⟨⟨.cons (.ref h) (.cons (.ss rfl) .nil),λ_ h=>nomatch h⟩,⟨?_,λ_ h=>nomatch h⟩,h2 ix⟩
 have:∀ l:List V,(∀ v∈l,∃ x,v=.sym x)->zBl ix l l:=λl=>by
  induction l with
  |nil=>exact λ_=>.nil
  |cons v l ih =>
   intro h;obtain⟨x,rfl⟩:=h v (.head _);exact .cons (.ss rfl) (ih λv hv=>h v (.tail _ hv))
 rw [List.append_nil,List.append_nil];exact this scr hs
theorem fok3{tv:V} (h:∃ i,tv=.int i):Fok (F3 tv):=λix h1 h16=>by
 obtain⟨i,rfl⟩:=h;exact .cons (.ref h16) (.cons (.ref h1) (.cons (.ii rfl) .nil))
theorem fok5{i a f:Int}:Fok (F5 (.int i) (.int a) (.sym f)):=λix h1 h16=>.cons (.ref h16) (.cons (.ref h1) (.cons (.ii rfl) (.cons (.ii rfl) (.cons (.ss rfl) .nil))))
theorem to2{x:Str} {d:V} (h:assoc x F2.1 F2.2=some d):∀ tl1 tl2,assoc x (F2.1++tl1) (F2.2++tl2)=some d:=by
 intro tl1 tl2
 show assoc x ("box" :: "world" :: tl1) (.ref 16::.ref 1::tl2)=_
 have h:assoc x ["box", "world"] [.ref 16,.ref 1]=some d:=h
 unfold assoc at h ⊢
 split
 ·rename_i q; rw [q] at h; exact h
 ·rename_i q;rw [q] at h;unfold assoc at h ⊢
  split
  ·rename_i q; dsimp only at h; rw [q] at h; exact h
  ·rename_i q; dsimp only at h; rw [q] at h; simp [assoc] at h
theorem zQy{m:Nat} {w:Pl.W} (h:Pl.Sz m w) (hm:m<700000):Small w:=⟨Nat.lt_of_le_of_lt h.1 hm,Nat.lt_of_le_of_lt h.2.1 hm,Nat.lt_of_le_of_lt h.2.2.1 hm,Nat.lt_of_le_of_lt h.2.2.2 hm⟩
theorem turn1(O:zD0 cn P) (H:∀ g:G,g.φ=[L]->zAu cn g cW env) (hA:AOk A 41) {w:Pl.W} (I:Pl.Inv w) {z:Nat} (B:Pl.Sz z w) (hz:z<600000) {c:Int} (hc:0<=c) {scr:List V} (hs:∀ v∈scr,∃ x,v=.sym x)
  {X2:AO} (h2:∀ ix,zBe ix X2 X2) {i:Int} {S:Shared} (m:Mem cn L it (F3 (.int i)) (zDa w (box c) (.list scr [] []) X2) S.heap) {Q:Flow->Shared->Prop} {E:Value->Shared->Prop}
  (K:∀ (k:Nat) (at1:Bool) h' tk,Mem cn L it F2 (zDa (w.deed k at1) (box (c+1+1)) (.list scr [] []) X2) h'->Q .next { S with heap:=h',toks:=tk }):wpAny (model cn.prog cn.w) A (execs [stmtA,if1] env) Q E S:=by
 obtain⟨orc,fv,av,hfv,hav,hd⟩:=drawn hs hc w X2 (.int i);rw [arm_execs_cons];refine wpAny_bind (Mem.ex (zCj O 300) H hA m ⟨orc,hd⟩ λh1 tk1 m1=>?_);show wpAny _ A (execs [if1] env) Q E _;rw [arm_execs_cons];refine wpAny_bind ?_;rw [if1_eq];obtain⟨k,rfl⟩:=Int.eq_ofNat_of_zero_le hfv.1
 have hk:k<8:=by lia
 have hX:=xok hs (c+1+1) h2;have Bs:=zQy B (by lia)
 have key:∀ (at1:Bool),av=(match at1 with|true=>1|false=>0)->zB4 (box (c+1+1)) (.list scr [] []) X2 w (w.deed k at1) (k:Int) av->wpAny (model cn.prog cn.w) A (exec (.If (.BoolOp .Or [nA if1,nB if1] (boP (ifTest if1))) (ifBody if1) [] (ifP if1)) env)
   (λa s'=>wpAny (model cn.prog cn.w) A (match a with | .next=>execs [] env|f=>Pure.pure f) Q E s') E { S with heap:=h1,toks:=tk1 }:=by
  intro at1 hav' G
  have m2:Mem cn L it (F5 (.int i) (.int av) (.sym k)) (zDa w (box (c+1+1)) (.list scr [] []) X2) h1:=by
   have r:=zAy hX w.n0 w.n1 w.S w.M (l0:=w.l0) (l1:=w.l1) (zAf _) (zAf _);exact m1.pick (ix:=R19) (by decide) (λi hi=>List.mem_range.mp hi) (by rfl) rfl (.cons (.ref (by rfl)) (.cons (.ref (by rfl)) (.cons (.ii rfl) (.cons (.si rfl) (.cons (.ss rfl) .nil))))) r
  refine if_or (Mem.deed O H hA fok5 G t1_ex (λF o=>zAd.of0 (kd_if1_f 1 o (.int i) (.int av) (.sym k) _ F)) (λF o=>zAd.of0 (kd_if1_as 1 o (.int i) (.int av) (.sym k) _ F)) rfl m2 λh2 tk2 m3=>⟨rfl,?_⟩)
  refine Mem.stands O H hA fok5 (zNp hX (I.deed k at1) (Nat.lt_of_le_of_lt (B.deed k at1).1 (by lia)) (Nat.lt_of_le_of_lt (B.deed k at1).2.1 (by lia))) s1_ex (λj σ o=>zAd.of0 (kd_if1_g j o (.int i) (.int av) (.sym k) σ)) (λj σ o=>zAd.of0 (kd_if1_bs j o (.int i) (.int av) (.sym k) σ)) m3 λh3 tk3 m4=>⟨rfl,?_⟩
  exact wpAny_pure (K k at1 h3 tk3 (m4.forget λx d h=>to2 h ["turn", "at", "form"] [.int i,.int av,.sym k]))
 rcases (by omega:av=0\/av=1) with rfl|rfl
 ·exact key false rfl (zK9 hX I Bs hk)
 ·exact key true rfl (zLa hX I Bs hk)
end
noncomputable def forV:List Stmt->Pos
 | .For t _ _ _ _::_=>t.pos
 |_=>default
noncomputable def forP:List Stmt->Pos
 | .For _ _ _ _ p::_=>p
 |_=>default
theorem zFu{ix:List Nat} {r:Option (Fl × S0 × List Ob)} {v fr σ n orc ob} (h:projF ix r=some (v,fr,σ,n,orc,ob)) :
  ∃ s',r=some (v,⟨fr,s',orc⟩,ob)/\s'.length=n/\ix.map (pickA s')=σ:=by
 unfold projF at h
 cases r with
 |none=>cases h
 |some x =>
  obtain⟨v',⟨fr',σ',orc'⟩,ob'⟩:=x;cases h;exact⟨_,rfl,rfl,rfl⟩
theorem zBy(x y:String) (h:¬(Str.ofString x=Str.ofString "full" /\ Str.ofString y=Str.ofString "full")) (hx:PyData.strOk (Str.ofString x)=true) (hy:PyData.strOk (Str.ofString y)=true):(Ob.deep [sv x,sv y] [sv "full", sv "full"] false).Ok :=
 zIj h λz hz=>by
  rcases hz with rfl|rfl|rfl|rfl
  ·exact hx
  ·exact hy
  ·exact zDs
  ·exact zDs
theorem deep_ff:(Ob.deep [sv "full", sv "full"] [sv "full", sv "full"] true).Ok:=by
 have h:∀ x∈[sv "full", sv "full"],okV 11 x=true:=λx hx=>by
  simp only [List.mem_cons,List.not_mem_nil,or_false,or_self] at hx;rw [hx]; exact zDs
 refine⟨h,h,λfr σ=>?_⟩
 suffices q:Gives0 (eqVs 11 [sv "full", sv "full"] [sv "full", sv "full"]) ⟨fr,σ,[]⟩ true ⟨fr,σ,[]⟩ by
  obtain⟨ob,e,k⟩:=q;exact⟨[],_,ob,e,k⟩
 have e:eqS (Str.ofString "full") (Str.ofString "full")=true:=zBa.mpr rfl
 show Gives0 (M.b (M.p (eqS (Str.ofString "full") (Str.ofString "full"))) λt=>match t with|true=>eqVs 10 [sv "full"] [sv "full"]|false=>M.p false) _ _ _
 rw [e];refine Gives0.bind (a:=true) (Gives0.of0 rfl) ?_
 show Gives0 (M.b (M.p (eqS (Str.ofString "full") (Str.ofString "full"))) λt=>match t with|true=>eqVs 9 [] []|false=>M.p false) _ _ _
 rw [e];exact Gives0.bind (a:=true) (Gives0.of0 rfl) (Gives0.of0 rfl)
theorem zDn:PyData.strOk (Str.ofString "down")=true:=by decide +kernel
theorem zDk:PyData.strOk (Str.ofString "init")=true:=by decide +kernel
theorem zDl:PyData.strOk (Str.ofString "exstart")=true:=by decide +kernel
theorem zDm:PyData.strOk (Str.ofString "exchange")=true:=by decide +kernel
theorem zD8:PyData.strOk (Str.ofString "full")=true:=by decide +kernel
theorem o0:(Ob.len 0).Ok:=by show (0:Nat)<900000; decide
theorem o1:(Ob.len 1).Ok:=by show (1:Nat)<900000; decide
theorem zBz{ix:List Nat} (l:List Pl.Msg):zBe ix (.list [] [] (zAb l)) (.list [] (zAb l) []):=by
 refine⟨?_,zAk l⟩;show zBl ix (zAb l) (zAb l++[]);rw [List.append_nil];exact zCf (zAk l)
theorem tab_of{σ l:List AO} {r:List Nat} (h:(0::r).map (pickA σ)=.tab::l):σ[0]?=some .tab:=by
 rw [List.map_cons] at h;have h:=(List.cons.inj h).1;unfold pickA at h
 cases q:σ[0]? with
 |none=>rw [q] at h; cases h
 |some o=>rw [q] at h; exact congrArg some h
theorem zQ5(i n:Nat):∀ ix,zBe ix (.riter i n) (.riter i n):=λ_=>⟨rfl,rfl⟩
theorem kick_run{X0 X1 X2:AO} (hX:Xok X0 X1 X2) {w:Pl.W} (h0:w.l0=[]) (h1:w.l1=[]) (hf:¬ w.isFull=true) (tv:V):∃ orc s1,zAd (ex (run P 300) cW kick) ⟨[F3 tv],zDa w X0 X1 X2,orc⟩ .next ⟨[F4 tv],s1,[]⟩ /\
  s1.length=23/\zFq R19 (R19.map (pickA s1)) (zDa w.kick X0 X1 X2):=by
 obtain⟨n0,n1,S,M,l0,l1⟩:=w;dsimp only at h0 h1;subst h0 h1
 have fin:∀ {orc σr obs w'},projF I0 (ex (run P 300) cW kick ⟨[F3 tv],zDa ⟨n0,n1,S,M,[],[]⟩ X0 X1 X2,orc⟩)=some (.next,[F4 tv],σr,23,[],obs)->Oks obs->zFq R19 σr (zDa w' X0 X1 X2) ->
   ∃ orc s1,zAd (ex (run P 300) cW kick) ⟨[F3 tv],zDa ⟨n0,n1,S,M,[],[]⟩ X0 X1 X2,orc⟩ .next ⟨[F4 tv],s1,[]⟩/\s1.length=23/\zFq R19 (R19.map (pickA s1)) (zDa w' X0 X1 X2):=by
  intro orc σr obs w' e ok r;obtain⟨s1,e1,e2,e3⟩:=zFu e;exact⟨orc,s1,⟨obs,e1,ok⟩,e2,by rw [show R19=I0 from rfl,e3]; exact r⟩
 cases S with
 |down  => cases M with
  |down  => exact fin (w':=Pl.W.kick ⟨n0,n1,.down,.down,[],[]⟩) (zGs ..) (zAa o0<|zAa o1<|zAa (zBy "down" "down" (by decide) zDn zDn)<|zAa o0<|zAa o0<|zAc) (zAy hX n0 n1 (.down) (.down) (zBz [.hello false]) (zBz [.hello false]))
  |init  => exact fin (w':=Pl.W.kick ⟨n0,n1,.down,.init,[],[]⟩) (zGo ..) (zAa o0<|zAa o1<|zAa (zBy "down" "init" (by decide) zDn zDk)<|zAa o0<|zAa o0<|zAc) (zAy hX n0 n1 (.down) (.init) (zBz [.hello true]) (zBz [.hello false]))
  |exst  => exact fin (w':=Pl.W.kick ⟨n0,n1,.down,.exst,[],[]⟩) (zGq ..) (zAa o0<|zAa o1<|zAa (zBy "down" "exstart" (by decide) zDn zDl)<|zAa o0<|zAa o0<|zAa o1<|zAc) (zAy hX n0 n1 (.down) (.exst) (zBz [.hello true,.i1 n1]) (zBz [.hello false]))
  |exch j s=>exact fin (w':=Pl.W.kick ⟨n0,n1,.down,.exch j s,[],[]⟩) (zGr ..) (zAa o0<|zAa o1<|zAa (zBy "down" "exchange" (by decide) zDn zDm)<|zAa o0<|zAa o0<|zAa o1<|zAc) (zAy hX n0 n1 (.down) (.exch j s) (zBz [.hello true,.dat n1 j]) (zBz [.hello false]))
  |full s=>exact fin (w':=Pl.W.kick ⟨n0,n1,.down,.full s,[],[]⟩) (zGp ..) (zAa o0<|zAa o1<|zAa (zBy "down" "full" (by decide) zDn zD8)<|zAa o0<|zAa o0<|zAc) (zAy hX n0 n1 (.down) (.full s) (zBz [.hello true]) (zBz [.hello false]))
 |init  => cases M with
  |down  => exact fin (w':=Pl.W.kick ⟨n0,n1,.init,.down,[],[]⟩) (zF8 ..) (zAa o0<|zAa o1<|zAa (zBy "init" "down" (by decide) zDk zDn)<|zAa o0<|zAa o0<|zAc) (zAy hX n0 n1 (.init) (.down) (zBz [.hello false]) (zBz [.hello true]))
  |init  => exact fin (w':=Pl.W.kick ⟨n0,n1,.init,.init,[],[]⟩) (zF4 ..) (zAa o0<|zAa o1<|zAa (zBy "init" "init" (by decide) zDk zDk)<|zAa o0<|zAa o0<|zAc) (zAy hX n0 n1 (.init) (.init) (zBz [.hello true]) (zBz [.hello true]))
  |exst  => exact fin (w':=Pl.W.kick ⟨n0,n1,.init,.exst,[],[]⟩) (zF6 ..) (zAa o0<|zAa o1<|zAa (zBy "init" "exstart" (by decide) zDk zDl)<|zAa o0<|zAa o0<|zAa o1<|zAc) (zAy hX n0 n1 (.init) (.exst) (zBz [.hello true,.i1 n1]) (zBz [.hello true]))
  |exch j s=>exact fin (w':=Pl.W.kick ⟨n0,n1,.init,.exch j s,[],[]⟩) (zF7 ..) (zAa o0<|zAa o1<|zAa (zBy "init" "exchange" (by decide) zDk zDm)<|zAa o0<|zAa o0<|zAa o1<|zAc) (zAy hX n0 n1 (.init) (.exch j s) (zBz [.hello true,.dat n1 j]) (zBz [.hello true]))
  |full s=>exact fin (w':=Pl.W.kick ⟨n0,n1,.init,.full s,[],[]⟩) (zF5 ..) (zAa o0<|zAa o1<|zAa (zBy "init" "full" (by decide) zDk zD8)<|zAa o0<|zAa o0<|zAc) (zAy hX n0 n1 (.init) (.full s) (zBz [.hello true]) (zBz [.hello true]))
 |exst  => cases M with
  |down  => exact fin (w':=Pl.W.kick ⟨n0,n1,.exst,.down,[],[]⟩) (zGi ..) (zAa o0<|zAa o1<|zAa (zBy "exstart" "down" (by decide) zDl zDn)<|zAa o0<|zAa o1<|zAa o0<|zAc) (zAy hX n0 n1 (.exst) (.down) (zBz [.hello false]) (zBz [.hello true,.i0 n0]))
  |init  => exact fin (w':=Pl.W.kick ⟨n0,n1,.exst,.init,[],[]⟩) (zGe ..) (zAa o0<|zAa o1<|zAa (zBy "exstart" "init" (by decide) zDl zDk)<|zAa o0<|zAa o1<|zAa o0<|zAc) (zAy hX n0 n1 (.exst) (.init) (zBz [.hello true]) (zBz [.hello true,.i0 n0]))
  |exst  => exact fin (w':=Pl.W.kick ⟨n0,n1,.exst,.exst,[],[]⟩) (zGg ..) (zAa o0<|zAa o1<|zAa (zBy "exstart" "exstart" (by decide) zDl zDl)<|zAa o0<|zAa o1<|zAa o0<|zAa o1<|zAc) (zAy hX n0 n1 (.exst) (.exst) (zBz [.hello true,.i1 n1]) (zBz [.hello true,.i0 n0]))
  |exch j s=>exact fin (w':=Pl.W.kick ⟨n0,n1,.exst,.exch j s,[],[]⟩) (zGh ..) (zAa o0<|zAa o1<|zAa (zBy "exstart" "exchange" (by decide) zDl zDm)<|zAa o0<|zAa o1<|zAa o0<|zAa o1<|zAc) (zAy hX n0 n1 (.exst) (.exch j s) (zBz [.hello true,.dat n1 j]) (zBz [.hello true,.i0 n0]))
  |full s=>exact fin (w':=Pl.W.kick ⟨n0,n1,.exst,.full s,[],[]⟩) (zGf ..) (zAa o0<|zAa o1<|zAa (zBy "exstart" "full" (by decide) zDl zD8)<|zAa o0<|zAa o1<|zAa o0<|zAc) (zAy hX n0 n1 (.exst) (.full s) (zBz [.hello true]) (zBz [.hello true,.i0 n0]))
 |exch t k=>cases M with
  |down  => exact fin (w':=Pl.W.kick ⟨n0,n1,.exch t k,.down,[],[]⟩) (zGn ..) (zAa o0<|zAa o1<|zAa (zBy "exchange" "down" (by decide) zDm zDn)<|zAa o0<|zAa o0<|zAc) (zAy hX n0 n1 (.exch t k) (.down) (zBz [.hello false]) (zBz [.hello true]))
  |init  => exact fin (w':=Pl.W.kick ⟨n0,n1,.exch t k,.init,[],[]⟩) (zGj ..) (zAa o0<|zAa o1<|zAa (zBy "exchange" "init" (by decide) zDm zDk)<|zAa o0<|zAa o0<|zAc) (zAy hX n0 n1 (.exch t k) (.init) (zBz [.hello true]) (zBz [.hello true]))
  |exst  => exact fin (w':=Pl.W.kick ⟨n0,n1,.exch t k,.exst,[],[]⟩) (zGl ..) (zAa o0<|zAa o1<|zAa (zBy "exchange" "exstart" (by decide) zDm zDl)<|zAa o0<|zAa o0<|zAa o1<|zAc) (zAy hX n0 n1 (.exch t k) (.exst) (zBz [.hello true,.i1 n1]) (zBz [.hello true]))
  |exch j s=>exact fin (w':=Pl.W.kick ⟨n0,n1,.exch t k,.exch j s,[],[]⟩) (zGm ..) (zAa o0<|zAa o1<|zAa (zBy "exchange" "exchange" (by decide) zDm zDm)<|zAa o0<|zAa o0<|zAa o1<|zAc) (zAy hX n0 n1 (.exch t k) (.exch j s) (zBz [.hello true,.dat n1 j]) (zBz [.hello true]))
  |full s=>exact fin (w':=Pl.W.kick ⟨n0,n1,.exch t k,.full s,[],[]⟩) (zGk ..) (zAa o0<|zAa o1<|zAa (zBy "exchange" "full" (by decide) zDm zD8)<|zAa o0<|zAa o0<|zAc) (zAy hX n0 n1 (.exch t k) (.full s) (zBz [.hello true]) (zBz [.hello true]))
 |full t k=>cases M with
  |down  => exact fin (w':=Pl.W.kick ⟨n0,n1,.full t k,.down,[],[]⟩) (zGd ..) (zAa o0<|zAa o1<|zAa (zBy "full" "down" (by decide) zD8 zDn)<|zAa o0<|zAa o0<|zAc) (zAy hX n0 n1 (.full t k) (.down) (zBz [.hello false]) (zBz [.hello true]))
  |init  => exact fin (w':=Pl.W.kick ⟨n0,n1,.full t k,.init,[],[]⟩) (zF9 ..) (zAa o0<|zAa o1<|zAa (zBy "full" "init" (by decide) zD8 zDk)<|zAa o0<|zAa o0<|zAc) (zAy hX n0 n1 (.full t k) (.init) (zBz [.hello true]) (zBz [.hello true]))
  |exst  => exact fin (w':=Pl.W.kick ⟨n0,n1,.full t k,.exst,[],[]⟩) (zGb ..) (zAa o0<|zAa o1<|zAa (zBy "full" "exstart" (by decide) zD8 zDl)<|zAa o0<|zAa o0<|zAa o1<|zAc) (zAy hX n0 n1 (.full t k) (.exst) (zBz [.hello true,.i1 n1]) (zBz [.hello true]))
  |exch j s=>exact fin (w':=Pl.W.kick ⟨n0,n1,.full t k,.exch j s,[],[]⟩) (zGc ..) (zAa o0<|zAa o1<|zAa (zBy "full" "exchange" (by decide) zD8 zDm)<|zAa o0<|zAa o0<|zAa o1<|zAc) (zAy hX n0 n1 (.full t k) (.exch j s) (zBz [.hello true,.dat n1 j]) (zBz [.hello true]))
  |full s=>exact absurd rfl hf
theorem to3{x:Str} {d tv:V} (h:assoc x (F3 tv).1 (F3 tv).2=some d):assoc x (F4 tv).1 (F4 tv).2=some d:=by
 have h:assoc x ["box", "world", "turn"] [.ref 16,.ref 1,tv]=some d:=h
 show assoc x ["box", "world", "turn", "at"] [.ref 16,.ref 1,tv,.int 1]=some d
 unfold assoc at h ⊢
 split
 ·rename_i q; rw [q] at h; exact h
 ·rename_i q;rw [q] at h;unfold assoc at h ⊢
  split
  ·rename_i q; dsimp only at h; rw [q] at h; exact h
  ·rename_i q;dsimp only at h;rw [q] at h;unfold assoc at h ⊢
   split
   ·rename_i q; dsimp only at h; rw [q] at h; exact h
   ·rename_i q; dsimp only at h; rw [q] at h; simp [assoc] at h
section
variable {cn:Cn} {A:Around} {L it:Addr} {env:Env}
theorem loop1(O:zD0 cn P) (H:∀ g:G,g.φ=[L]->zAu cn g cW env) (hA:AOk A 41) {scr:List V} (hs:∀ v∈scr,∃ x,v=.sym x) {p:Pos} {Q:Result->Shared->Prop}
  {os0:OsState} {gens0} (K:∀ (S':Shared) c' w',S'.os=os0->S'.gens=gens0->Pl.Kept 16 w'->Pl.Sz 100 w'->Mem cn L it F2 (zDa w' (box c') (.list scr [] []) .dead) S'.heap->Q (.ok .next) S') :
  ∀ (n i:Nat) (c:Int) (w:Pl.W) (S:Shared),S.os=os0->S.gens=gens0->i+n=16->Pl.Kept i w->Pl.Sz (i+1) w->0<=c->Mem cn L it F2 (zDa w (box c) (.list scr [] []) (.riter i n)) S.heap ->
   codeAny (model cn.prog cn.w) A (.forLoop (.Name "turn" p) (.ref it) (forBody (lawB.drop 4)) [] env) Q S
 |0,i,c,w,S,ho,hg,hi,hk,hz,hc,m=>Mem.done (c:=cW) hA m (zAd.of0 (kd_end i [] ..)) λh' tk m'=>K _ c w ho hg (by rw [<-(by omega:i=16)]; exact hk) (hz.le (by lia)) m'
 |n+1,i,c,w,S,ho,hg,hi,hk,hz,hc,m=>by
  refine Mem.turn H hA m (zAd.of0 (kd_next i [] _ _ _ _ n ..)) (zAd.of0 (kd_turn [] (.int i) _)) λh' tk Q' E' m' hn hr=>?_;rw [body1_eq];refine turn1 O H hA hk.inv hz (by lia) hc hs (zQ5 _ _) m' λk at1 h2 tk2 m2=>hn _ ?_;exact loop1 O H hA hs K n (i+1) (c+1+1) (w.deed k at1) _ ho hg (by lia) (hk.deed k at1) (hz.deed k at1) (by lia) m2
theorem zRm(O:zD0 cn P) (H:∀ g:G,g.φ=[L]->zAu cn g cW env) (hA:AOk A 41) {w:Pl.W} (I:Pl.Inv w) {z:Nat} (B:Pl.Sz z w) (hz:z<600000) (he:¬(w.l0=[]/\w.l1=[])) {X0 X1 X2:AO} (hX:Xok X0 X1 X2) {i:Int}
  {S:Shared} (m:Mem cn L it (F3 (.int i)) (zDa w X0 X1 X2) S.heap) {Q:Flow->Shared->Prop} {E:Value->Shared->Prop} (K:∀ h' tk,Mem cn L it F2 (zDa w.turn X0 X1 X2) h'->Q .next { S with heap:=h',toks:=tk }) :
  wpAny (model cn.prog cn.w) A (execs [if2] env) Q E S:=by
 have Bs:=zQy B (by lia);rw [arm_execs_cons];refine wpAny_bind ?_;rw [if2_eq];have ht:=Pl.deed_turn he;rw [ht] at K
 have go:∀ (a:Int) (h2:∀ (F:Ovr) o,zAd (evs (runX P F 101) cW (callA (notE (nA if2)))) ⟨[F3 (.int i)],zDa w X0 X1 X2,o⟩ [.ref 1,.int 0,.int a] ⟨[F3 (.int i)],zDa w X0 X1 X2,o⟩) (G:zB4 X0 X1 X2 w (w.deed 0 (w.l0.isEmpty)) (0:Nat) a),
   wpAny (model cn.prog cn.w) A (exec (.If (.BoolOp .Or [nA if2,nB if2] (boP (ifTest if2))) (ifBody if2) [] (ifP if2)) env) (λa s'=>wpAny (model cn.prog cn.w) A (match a with | .next=>execs [] env|f=>Pure.pure f) Q E s') E S:=by
  intro a h2 G;refine if_or (Mem.deed O H hA (fok3 ⟨i,rfl⟩) G t2_ex (λF o=>zAd.of0 (kd_if2_f 1 o (.int i) _ F)) h2 rfl m λh2 tk2 m3=>⟨rfl,?_⟩)
  refine Mem.stands O H hA (fok3 ⟨i,rfl⟩) (zNp hX (I.deed 0 _) (Nat.lt_of_le_of_lt (B.deed 0 _).1 (by lia)) (Nat.lt_of_le_of_lt (B.deed 0 _).2.1 (by lia))) s2_ex (λj σ o=>zAd.of0 (kd_if2_g j o (.int i) σ)) (λj σ o=>zAd.of0 (kd_if2_bs j o (.int i) σ)) m3 λh3 tk3 m4=>⟨rfl,?_⟩
  exact wpAny_pure (K h3 tk3 (m4.forget λx d h=>to2 h ["turn"] [.int i]))
 obtain⟨n0,n1,S0,M0,l0,l1⟩:=w
 cases l0 with
 |nil=>exact go 1 (λF o=>zAd.of0 (kd_if2_as1 1 o ..)) (zLa hX I Bs (by decide))
 |cons x r=>exact go 0 (λF o=>zAd.of0 (kd_if2_as0 1 o ..)) (zK9 hX I Bs (by decide))
theorem full_shape{w:Pl.W} (h:w.isFull=true) (h0:w.l0=[]) (h1:w.l1=[]):∃ n0 n1 t k s,w=⟨n0,n1,.full t k,.full s,[],[]⟩:=by
 obtain⟨n0,n1,S,M,l0,l1⟩:=w;cases h0;cases h1
 cases S with
 |full t k=>cases M with
  |full s=>exact⟨_,_,t,k,s,rfl⟩
  |_=>exact nay h
 |_=>exact nay h
theorem skip_run{X0 X1 X2:AO} {w:Pl.W} (he:¬(w.l0=[]/\w.l1=[])) (tv:V):∃ orc,zAd (ex (run P 300) cW kick) ⟨[F3 tv],zDa w X0 X1 X2,orc⟩ .next ⟨[F3 tv],zDa w X0 X1 X2,[]⟩:=by
 obtain⟨n0,n1,S0,M0,l0,l1⟩:=w
 cases l0 with
 |cons x r=>exact⟨[],zAd.of0 (kd_skip_a ..)⟩
 |nil=>cases l1 with
  |cons x r=>exact⟨[],zAd.of0 (kd_skip_b ..)⟩
  |nil=>exact absurd ⟨rfl,rfl⟩ he
theorem turn2(O:zD0 cn P) (H:∀ g:G,g.φ=[L]->zAu cn g cW env) (hA:AOk A 41) {w:Pl.W} (I:Pl.Inv w) {z:Nat} (B:Pl.Sz z w) (hz:z<500000) {X0 X1 X2:AO} (hX:Xok X0 X1 X2) {i:Int} {n:Nat} (hl:Pl.loop (n+1) w=true)
  {S:Shared} (m:Mem cn L it (F3 (.int i)) (zDa w X0 X1 X2) S.heap) {Q:Flow->Shared->Prop} {E:Value->Shared->Prop} (K:∀ w' h' tk,Pl.Inv w'->Pl.Sz (z+5) w'->Pl.loop n w'=true->Mem cn L it F2 (zDa w' X0 X1 X2) h'->Q .next { S with heap:=h',toks:=tk })
  (K2:∀ h' tk,Fin cn h'->Q (.ret (.bool true)) { S with heap:=h',toks:=tk }):wpAny (model cn.prog cn.w) A (execs [kick,if2] env) Q E S:=by
 rw [arm_execs_cons]
 by_cases he:w.l0=[]/\w.l1=[]
 ·by_cases hf:w.isFull=true
  ·obtain⟨n0,n1,t,k,s,rfl⟩:=full_shape hf he.1 he.2;clear hl hf I B K he;obtain⟨s1,e1,e2,e3⟩:=zFu (zGa (tv:=.int i) (X0:=X0) (X1:=X1) (X2:=X2) ..);exact wpAny_bind (Mem.exRet (zCj O 300) H hA m ⟨_,zAd.of e1 (zAa o0<|zAa o1<|zAa deep_ff zAc)⟩ λh1 tk1 m1=>wpAny_pure (K2 h1 tk1 (m1.fin (tab_of e3))))
  ·obtain⟨orc,s1,g1,hlen,r⟩:=kick_run hX he.1 he.2 hf (.int i);refine wpAny_bind (Mem.ex (zCj O 300) H hA m ⟨orc,g1⟩ λh1 tk1 m1=>?_);show wpAny _ A (execs [if2] env) Q E _;have m2:Mem cn L it (F4 (.int i)) (zDa w.kick X0 X1 X2) h1:=m1.pick (ix:=R19) (by decide) (λi hi=>by rw [hlen]; exact Nat.lt_trans (List.mem_range.mp hi) (by decide)) (by rfl) rfl (.cons (.ref (by rfl)) (.cons (.ref (by rfl)) (.cons (.ii rfl) (.cons (.ii rfl) .nil)))) r;have m3:Mem cn L it (F3 (.int i)) (zDa w.kick X0 X1 X2) h1:=m2.forget λx d h=>to3 h;have hne:¬(w.kick.l0=[]/\w.kick.l1=[]):=λq=>Pl.kick_l0 w q.1;exact zRm O H hA I.kick B.kick (by lia) hne hX m3 λh' tk m4=>K _ h' tk (Pl.deed_turn hne▸I.kick.deed 0 _) (Pl.deed_turn hne▸B.kick.deed 0 _) (Pl.loop_next' hl he hf) m4
 ·refine wpAny_bind (Mem.ex (zCj O 300) H hA m (skip_run he _) λh1 tk1 m1=>?_);show wpAny _ A (execs [if2] env) Q E _;exact zRm O H hA I B (by lia) he hX m1 λh' tk m4=>K _ h' tk (Pl.deed_turn he▸I.deed 0 _) ((Pl.deed_turn he▸B.deed 0 _:Pl.Sz (z+1) w.turn).le (by lia)) (Pl.loop_next hl he) m4
theorem loop2(O:zD0 cn P) (H:∀ g:G,g.φ=[L]->zAu cn g cW env) (hA:AOk A 41) {X0 X1:AO} (hX:∀ X2:AO,(∀ ix,zBe ix X2 X2)->Xok X0 X1 X2) {p:Pos} {Q:Result->Shared->Prop} {os0:OsState} {gens0} (K:∀ (S':Shared),S'.os=os0->S'.gens=gens0->Fin cn S'.heap->Q (.ok (.ret (.bool true))) S') :
  ∀ (n i:Nat) (w:Pl.W) (z:Nat) (S:Shared),S.os=os0->S.gens=gens0->Pl.Inv w->Pl.loop n w=true->Pl.Sz z w->z+5*n<500000->Mem cn L it F2 (zDa w X0 X1 (.riter i n)) S.heap ->
   codeAny (model cn.prog cn.w) A (.forLoop (.Name "turn" p) (.ref it) (forBody (lawB.drop 5)) [] env) Q S
 |0,i,w,z,S,ho,hg,I,hl,hz,hb,m=>nomatch hl
 |n+1,i,w,z,S,ho,hg,I,hl,hz,hb,m=>by
  refine Mem.turn H hA m (zAd.of0 (kd_next i [] _ _ _ _ n ..)) (zAd.of0 (kd_turn [] (.int i) _)) λh' tk Q' E' m' hn hr=>?_;rw [body2_eq];refine turn2 O H hA I hz (by lia) (hX _ (zQ5 _ _)) hl m' (λw' h2 tk2 I' B' hl' m2=>hn _ ?_) (λh2 tk2 fi=>hr _ _ (K _ ho hg fi));exact loop2 O H hA hX K n (i+1) w' (z+5) _ ho hg I' hl' B' (by lia) m2
end
section
variable {cn:Cn} {A:Around} {L:Addr} {env:Env} {r:Rec} {c:Cx}
theorem zRn(R:zA2 cn r) (hA:AOk A c.dep) {b:List Stmt} {Q:Flow->Shared->Prop} {E:Value->Shared->Prop}:∀ (a:List Stmt) (g:G) (s s':S0) (ob:List Ob) (S:Shared),zAu cn g c env->exs r c a s=some (.next,s',ob)->Oks ob->St cn g s S.heap ->
  (∀ g' h' tk,g.le g'->St cn g' s' h'->wpAny (model cn.prog cn.w) A (execs b env) Q E { S with heap:=h',toks:=tk })->wpAny (model cn.prog cn.w) A (execs (a++b) env) Q E S
 |[],g,s,s',ob,S,H,e,ok,X,K=>by
  cases e;exact K g S.heap S.toks (G.le.refl g) X
 |t::a,g,s,s',ob,S,H,e,ok,X,K=>by
  rw [zNd] at e;refine zAp e ?_; clear e; rintro f s1 o1 o2 e1 e2 rfl;show wpAny _ A (execs (t::(a++b)) env) Q E S;rw [arm_execs_cons];refine wpAny_bind (zQ0 R H hA t _ _ _ o1 S _ E e1 (ok.l) X λg1 h1 tk1 w hg Y hw=>?_)
  cases hw with
  |next =>
   exact zRn R hA a g1 s1 s' o2 _ (H.mono hg) e2 (ok.r) Y λg2 h2 tk2 hg2 Z=>K g2 h2 tk2 (hg.trans hg2) Z
  |ret hv =>
   have e2:M.p (Fl.ret _) s1=some (Fl.next,s',o2):=e2;refine zBk e2 ?_; clear e2; rintro q _;cases q
theorem Mem0.pick{ix:List Nat} {f f':List Str × List V} {σ σ':List AO} {h:Heap} (m:Mem0 cn L f σ h) (nd:ix.Nodup) (hlt:∀ i∈ix,i<σ.length) (hk:f.1=f'.1) (hf:zBl ix f.2 f'.2)
  (hr:zFq ix (ix.map (pickA σ)) σ'):Mem0 cn L f' σ' h:=by
 obtain⟨g,h1,X⟩:=m;exact⟨g.pick ix,h1,zI0 X nd hlt hk hf hr⟩
theorem Mem0.forget{f f':List Str × List V} {σ:List AO} {h:Heap} (m:Mem0 cn L f σ h) (hf:∀ x d,assoc x f'.1 f'.2=some d->assoc x f.1 f.2=some d):Mem0 cn L f' σ h:=by
 obtain⟨g,h1,X⟩:=m;exact⟨g,h1,X.forget hf⟩
theorem to_mem{g:G} {it:Addr} {i:Nat} {ix:List Nat} {f:List Str × List V} {σ σ':List AO} {h:Heap} (hφ:g.φ=[L]) (hi:g.ρ[i]?=some it) (X:St cn g ⟨[f],σ,[]⟩ h) (h18:ix[18]?=some i) (nd:ix.Nodup) (hlt:∀ i∈ix,i<σ.length)
  (hf:zBl ix f.2 f.2) (hr:zFq ix (ix.map (pickA σ)) σ'):Mem cn L it f σ' h :=
 ⟨g.pick ix,hφ,zL4 h18 hi,zI0 X nd hlt rfl hf hr⟩
noncomputable def Fs2:List Str × List V:=(["box", "world", "at"],[.ref 16,.ref 1,.int 1])
theorem to4{x:Str} {d:V} (h:assoc x F2.1 F2.2=some d):assoc x Fs2.1 Fs2.2=some d:=to2 h ["at"] [.int 1]
theorem fok2{ix:List Nat} (h1:ix[1]?=some 1) (h16:ix[16]?=some 16):zBl ix F2.2 F2.2:=.cons (.ref h16) (.cons (.ref h1) .nil)
noncomputable def for16:Stmt:=(lawB.drop 4).headD default
noncomputable def for120:Stmt:=(lawB.drop 5).headD default
theorem for16_eq:for16=.For (.Name "turn" (forV (lawB.drop 4))) (forIter (lawB.drop 4)) (forBody (lawB.drop 4)) [] (forP (lawB.drop 4)):=by kernel_rfl
theorem for120_eq:for120=.For (.Name "turn" (forV (lawB.drop 5))) (forIter (lawB.drop 5)) (forBody (lawB.drop 5)) [] (forP (lawB.drop 5)):=by kernel_rfl
theorem law_eq:lawB.drop 1=(lawB.drop 1).take 3++(for16::for120::lawB.drop 6):=by kernel_rfl
noncomputable abbrev SIX:List Nat:=[0,3,6,4,5,7,10,13,11,14,35,15,33,32,9,16,1,2]
noncomputable def layS (w:Pl.W) (X0 X1:AO):List AO:=pre18 (.list [] (zAb w.l0) []) (.list [] (zAb w.l1) []) (sdS w.n0 w.S) (sdM w.n1 w.M) X0 X1
noncomputable def upL (scr:List V):List AO:=[.tab,.dict ["lines", "sides"] [.ref 6,.ref 7],.list [.ref 4,.ref 5] [] [],.list [] [] [],.list [] [] [.tup [sv "dd", pkPi 7 1000 []]],.list [] [] [.ref 10,.ref 13],.dict zBf [sv "exstart", .ref 33,.ref 11,.ref 35],.dict zBf [sv "init", .none,.ref 14,.ref 15],.list [] [] [.lst [.tup [.int 1,.int 100,.int 1]]],.list [] [] [],.list [] [] [],.list [] [] [],.inst "Exchange" 32,.attrs zBo [.int 1500,.int 2,.int 1,.bool true,.int 1000,.lst [.tup [.int 0,.int 2,.int 1,.int 100,.int 1,.int 1,.int 7]],pkPi 7 1000 [],.int 5,.int 9,sv "exstart", .none,.dct [] []],.dead,.dead,.list [.ref 2,.int 0] [] [],.list scr [] []]
theorem syms{ix:List Nat}:∀ l:List V,(∀ v∈l,∃ x,v=.sym x)->zBl ix l l
 |[],_=>.nil
 |v::l,h=>by
  obtain⟨x,rfl⟩:=h v (.head _);exact .cons (.ss rfl) (syms l λv hv=>h v (.tail _ hv))
theorem up_ren{scr:List V} (hs:∀ v∈scr,∃ x,v=.sym x):zFq SIX (upL scr) (layS .start (box 0) (.list scr [] [])):=by
 have nil:∀ d∈([]:List V),okV 12 d=true:=λ_ h=>nomatch h;have pk:zCx SIX (pkPi 7 1000 []) (i0V 1):=.tup (.cons (.str _)<|.cons (.ii rfl)<|.cons (.ii rfl)<|.cons (.ii rfl)<|.cons (.is rfl)<|.cons (.tup .nil) .nil)
 refine .cons trivial<|.cons ⟨rfl,.cons (.ref rfl)<|.cons (.ref rfl) .nil⟩<|.cons ⟨.cons (.ref rfl)<|.cons (.ref rfl) .nil,nil⟩<|.cons ⟨.nil,nil⟩<|.cons ⟨?_,zAk [.i0 1]⟩<|.cons ⟨.cons (.ref rfl)<|.cons (.ref rfl) .nil,nil⟩ <|
  .cons ⟨rfl,.cons (.str _)<|.cons (.ref rfl)<|.cons (.ref rfl)<|.cons (.ref rfl) .nil⟩<|.cons ⟨rfl,.cons (.str _)<|.cons .none<|.cons (.ref rfl)<|.cons (.ref rfl) .nil⟩<|.cons ⟨?_,zAi 0 1⟩<|.cons ⟨.nil,zAi 1 0⟩<|.cons ⟨.nil,nil⟩<|.cons ⟨.nil,nil⟩ <|
  .cons ⟨rfl,rfl⟩<|.cons ⟨rfl,?_⟩<|.cons trivial<|.cons trivial<|.cons ⟨.cons (.ref rfl)<|.cons (.is rfl) .nil,nil⟩<|.cons ⟨?_,nil⟩ .nil
 ·exact .cons (.tup (.cons (.str _)<|.cons pk .nil)) .nil
 ·exact .cons (.lst (.cons (.tup (.cons (.ii rfl)<|.cons (.is rfl)<|.cons (.ii rfl) .nil)) .nil)) .nil
 ·exact .cons (.ii rfl)<|.cons (.ii rfl)<|.cons (.ii rfl)<|.cons (.bool _)<|.cons (.is rfl)<|.cons (.lst (.cons (.tup (.cons (.ii rfl)<|.cons (.ii rfl)<|.cons (.ii rfl)<|.cons (.is rfl)<|.cons (.ii rfl)<|.cons (.ii rfl)<|.cons (.ii rfl) .nil)) .nil)) <|
   .cons pk<|.cons (.ii rfl)<|.cons (.ii rfl)<|.cons (.str _)<|.cons .none<|.cons (.dct .nil) .nil
 ·show zBl SIX (scr++[]++[]) (scr++[]++[]);rw [List.append_nil,List.append_nil];exact syms scr hs
noncomputable abbrev IX16:List Nat:=[0,1,2,3,4,5,6,7,8,9,10,11,12,13,14,15,16,17,19]
noncomputable abbrev IX120:List Nat:=[0,1,2,3,4,5,6,7,8,9,10,11,12,13,14,15,16,17,20]
theorem same_ix{ix:List Nat} (hf:fixes [2,3,4,5,6,7,8,9,10,11,12,13,14,15,17] ix=true) (w:Pl.W) {X0 X1 X2 X2':AO} (h0:zBe ix X0 X0) (h1:zBe ix X1 X1) (h2:zBe ix X2 X2'):zFq ix (zDa w X0 X1 X2) (zDa w X0 X1 X2'):=by
 have F:∀ i∈[2,3,4,5,6,7,8,9,10,11,12,13,14,15,17],ix[i]?=some i:=λi hi=>zNc hf hi;have q:=zBq (ix:=ix) w.n0 w.S (F 8 (by decide)) (F 10 (by decide)) (F 12 (by decide)) (F 13 (by decide));have q':=zBr (ix:=ix) w.n1 w.M (F 9 (by decide)) (F 11 (by decide)) (F 14 (by decide)) (F 15 (by decide));exact zBv (F 2 (by decide)) (F 3 (by decide)) (F 4 (by decide)) (F 5 (by decide)) (F 6 (by decide)) (F 7 (by decide)) (zAf _) (zAf _) q.1 q'.1 q.2.1 q'.2.1 q.2.2.1 q'.2.2.1 q.2.2.2.1 q.2.2.2.2 q'.2.2.2.1 q'.2.2.2.2 h0 h1 h2
theorem xok0{scr:List V} (hs:∀ v∈scr,∃ x,v=.sym x) (c:Int) {ix:List Nat} (h17:ix[17]?=some 17):zBe ix (box c) (box c)/\zBe ix (.list scr [] []) (.list scr [] []):=by
 obtain⟨a,b,_⟩:=xok hs c (X2:=.dead) (λ_=>trivial) ix h17;exact⟨a,b⟩
set_option maxHeartbeats 400000 in
theorem law_rest(O:zD0 cn P) (H:∀ g:G,g.φ=[L]->zAu cn g cW env) (hA:AOk A 41) {scr:List V} (hs:∀ v∈scr,∃ x,v=.sym x) {S:Shared} (m:Mem0 cn L Fs0 [.tab,.list [.ref 2,.int 0] [] [],.list scr [] []] S.heap) {Q:Flow->Shared->Prop} {E:Value->Shared->Prop}
  {LL:List Stmt} (hLL:LL=lawB.drop 1) (K:∀ (S':Shared),S'.os=S.os->S'.gens=S.gens->Fin cn S'.heap->Q (.ret (.bool true)) S'):wpAny (model cn.prog cn.w) A (execs LL env) Q E S:=by
 rw [hLL];obtain⟨s1,e1,e2,e3⟩:=zFu (kd_setup (scr:=scr))
 have l0:(Ob.len 0).Ok:=by show (0:Nat)<900000; decide
 have l1:(Ob.len 1).Ok:=by show (1:Nat)<900000; decide
 obtain⟨g,hφ,X⟩:=m;rw [law_eq];have hA':AOk A cW.dep:=hA;generalize (lawB.drop 1).take 3=AA at e1 ⊢;generalize lawB.drop 6=BB;refine zRn (c:=cW) (r:=run P 400) (b:=for16::for120::BB) (zCj O 400) hA' AA g ⟨[Fs0],[.tab,.list [.ref 2,.int 0] [] [],.list scr [] []],[]⟩ ⟨[Fs1],s1,[]⟩ _ S (H g hφ) e1 (zAa l0<|zAa l1<|zAa l0<|zAa l0<|zAa l0<|zAa l0<|zAa l0<|zAa l0 zAc) X λg1 h1 tk1 hg1 Y=>?_
 have m1:Mem0 cn L F2 (layS .start (box 0) (.list scr [] [])) h1:=by
  have m0:Mem0 cn L Fs1 s1 h1:=⟨g1,hg1.2.2.trans hφ,Y⟩
  have m2:Mem0 cn L Fs2 (layS .start (box 0) (.list scr [] [])) h1:=m0.pick (ix:=SIX) (by decide) (λi hi=>by rw [e2]; exact of_decide_eq_true (List.all_eq_true.mp (by decide:SIX.all (λi=>decide (i<39))=true) i hi)) rfl (.cons (.ref rfl)<|.cons (.ref rfl)<|.cons (.ii rfl) .nil)
   (by rw [e3]; exact up_ren hs)
  exact m2.forget λx d h=>to4 h
 rw [arm_execs_cons,for16_eq];refine wpAny_bind (Mem0.for (zCj O 300) H hA m1 (λorc=>zAd.of0 (kd_for16 ..)) (λorc=>zAd.of0 (kd_for16i ..)) λg2 h2 tk2 it Q' hφ2 hi2 Z hQ'=>?_)
 have m2:Mem cn L it F2 (zDa .start (box 0) (.list scr [] []) (.riter 0 16)) h2:=by
  have x:=xok0 hs 0 (ix:=IX16) (by rfl)
  exact to_mem hφ2 hi2 Z (ix:=IX16) (by rfl) (by decide) (λi hi=>of_decide_eq_true (List.all_eq_true.mp (by decide:IX16.all (λi=>decide (i<20))=true) i hi)) (fok2 (by rfl) (by rfl))
   (same_ix (by decide) .start x.1 x.2 (zQ5 0 16 _))
 refine loop1 O H (hA:=hA.mark) hs (os0:=S.os) (gens0:=S.gens) (λS3 c3 w3 ho3 hg3 hk3 hz3 m3=>hQ' _ _ ?_) 16 0 0 .start _ rfl rfl rfl .start .start (Int.le_refl 0) m2;show wpAny _ A (execs (for120::BB) env) Q E _;rw [arm_execs_cons,for120_eq];refine wpAny_bind (Mem0.for (zCj O 300) H hA m3.base (λorc=>zAd.of0 (kd_for120 ..)) (λorc=>zAd.of0 (kd_for120i ..)) λg4 h4 tk4 it4 Q4 hφ4 hi4 Z4 hQ4=>?_)
 have m4:Mem cn L it4 F2 (zDa w3 (box c3) (.list scr [] []) (.riter 0 120)) h4:=by
  have x:=xok0 hs c3 (ix:=IX120) (by rfl)
  exact to_mem hφ4 hi4 Z4 (ix:=IX120) (by rfl) (by decide) (λi hi=>of_decide_eq_true (List.all_eq_true.mp (by decide:IX120.all (λi=>decide (i<21))=true) i hi)) (fok2 (by rfl) (by rfl))
   (same_ix (by decide) w3 x.1 x.2 (zQ5 0 120 _))
 exact loop2 O H (hA:=hA.mark) (X0:=box c3) (X1:=.list scr [] []) (λX2 h=>xok hs c3 h) (os0:=S.os) (gens0:=S.gens) (λS5 ho5 hg5 fi5=>hQ4 _ _ (wpAny_pure (K S5 ho5 hg5 fi5))) 120 0 w3 100 _ ho3 hg3 hk3.inv hk3.live hz3 (by decide) m4
end
theorem vrs_ints{cn:Cn} {g:G} {vs:List Value} {is:List Int} (h:IntsAre vs is):VRs cn g (is.map .sym) vs:=h.rec .nil λn t _ _ _ ih=>.cons (.sym n t) ih
theorem ints_len{vs:List Value} {is:List Int} (h:IntsAre vs is):vs.length=is.length:=h.rec rfl λ_ _ _ _ _ ih=>congrArg Nat.succ ih
theorem fz_in{K:Frag} {h₀:Heap} (X:K.In h₀) {p:Addr × Obj} (hp:p∈fz0 K):h₀.get? p.1=some p.2:=by
 have one:∀ {a:Addr},p∈tupO K a->h₀.get? p.1=some p.2:=λ{a} h=>by
  unfold tupO at h
  split at h
  ·rename_i o q;rw [List.mem_singleton.mp h];exact X _ _ q
  ·cases h
 unfold fz0 at hp
 rcases List.mem_append.mp hp with h|h
 ·exact one h
 ·rcases List.mem_append.mp h with h|h
  ·exact one h
  ·exact one h
theorem scope_law:(scopeOf "law").kind=.function:=by kernel_rfl
theorem dbg_law:lookS "__debug__" (scopeOf "law").names=none:=by kernel_rfl
set_option maxHeartbeats 1000000 in
theorem law_walk{w:World} {K0:Frag} {h₀:Heap} {p:Program} {loose:List Str} {mean:ExcName->Option Value} {mg mb:Str->Option Value} {L fa bx sc s2:Addr} {cd:Value} {nm:Str} {scope:Scope} {o2:Obj} {ws:List Value} {is:List Int} {c c':Nat} {tk:Tok} {m:Str->Option Value}
  (X:K0.In h₀) (e0:restF K0=restV) (T:Top p loose mean mg mb h₀) (CH:CodeHd h₀ 282 280) {S:Shared} (F:Fr h₀ L S.heap m) (hm:m "box" = some (.ref bx))
  (N:News h₀ L S.heap [(bx,W.listOf #[.ref sc,.int 0 tk] c'),(sc,W.listOf ws.toArray c),(s2,o2),(280,tabObj #[])]) (hI:IntsAre ws is) (hlen:is.length<=1000) (hd1:sc<bx) (hd2:280<sc) (hd3:280<bx) (hscope:scope=scopeOf "law") {LL:List Stmt} (hLL:LL=lawB.drop 1)
  {Q:Flow->Shared->Prop} {E:Value->Shared->Prop} (K:∀ S':Shared,S'.os=S.os->S'.gens=S.gens->(∀ b o,h₀.get? b=some o->S'.heap.get? b=some o)->(∃ ps,S'.heap.get? 280=some (tabObj ps))->Q (.ret (.bool true)) S') :
  wpAny (model PySem.Challenge.rw_sj0181_01.row.prog w) (callerA.deeper (envOf nm scope L fa cd)) (execs LL (envOf nm scope L fa cd)) Q E S:=by
 have sm:h₀.get? mainGlobals≠none:=by
  obtain⟨ob,_,_,e,_⟩:=T.g;rw [e]; exact λh=>nomatch h
 have O:zD0 (mkCn w K0 h₀ sm) P:=allOk X e0 CH T.g T.b T.builtins T.nolimit T.bmain (λo h=>by
  have:=(N (280,tabObj #[]) (.tail _ (.tail _ (.tail _ (.head _))))).2.2
  rw [this] at h; cases h)
 obtain⟨a1,a2,a3⟩:=N (bx,_) (.head _);obtain⟨b1,b2,b3⟩:=N (sc,_) (.tail _ (.head _));obtain⟨t1,t2,t3⟩:=N (280,tabObj #[]) (.tail _ (.tail _ (.tail _ (.head _))));dsimp only at a1 a2 a3 b1 b2 b3 t1 t2 t3
 have hL:h₀.get? L=none:=by
  cases q:h₀.get? L with
  |none=>rfl
  |some o=>exact absurd (Heap.lt_size q) (Nat.not_lt_of_le F.above)
 have n1:bx≠sc:=(Nat.ne_of_lt hd1).symm;have n2:(280:Addr)≠sc:=Nat.ne_of_lt hd2;have n3:(280:Addr)≠bx:=Nat.ne_of_lt hd3
 have gρ:∀ (n:Nat) (a:Addr),([280,bx,sc]:List Addr)[n]?=some a->(n=0/\a=280)\/(n=1/\a=bx)\/(n=2/\a=sc):=by
  intro n a e
  match n,e with
  |0,e=>cases e; exact .inl ⟨rfl,rfl⟩
  |1,e=>cases e; exact .inr (.inl ⟨rfl,rfl⟩)
  |2,e=>cases e; exact .inr (.inr ⟨rfl,rfl⟩)
 have hfree:∀ (n:Nat) (a:Addr),([280,bx,sc]:List Addr)[n]?=some a->h₀.get? a=none/\a≠L:=λn a e=>by
  rcases gρ n a e with⟨_,rfl⟩|⟨_,rfl⟩|⟨_,rfl⟩
  ·exact⟨t3,t2⟩
  ·exact⟨a3,a2⟩
  ·exact⟨b3,b2⟩
 have St0:St (mkCn w K0 h₀ sm) ⟨[280,bx,sc],fz0 K0,[L]⟩ ⟨[Fs0],[.tab,.list [.ref 2,.int 0] [] [],.list (is.map .sym) [] []],[]⟩ S.heap:=by
  refine⟨F.keep,.cons ⟨rfl,#[],t1,trivial,λp cv h=>by cases h⟩<|.cons ⟨[.ref sc,.int 0 tk],c',a1,(by show 2<=1000000; decide),.cons (.ref rfl) (.cons (.int 0 tk) .nil),λ_ h=>nomatch h⟩<|.cons ⟨ws,c,b1,?_,?_,λ_ h=>nomatch h⟩ .nil,
   .cons ⟨m,F.ns,λx d h=>?_⟩ .nil,λq hq=>F.keep _ _ (fz_in X hq),?_,by simp,?_,?_,?_,?_,?_,λq hq=>hq⟩
  ·rw [ints_len hI]; exact Nat.le_trans hlen (by decide)
  ·rw [List.append_nil,List.append_nil]; exact vrs_ints hI
  ·have h:assoc x ["box"] [V.ref 1]=some d:=h
   unfold assoc at h
   split at h
   ·rename_i q;cases h
    have:=zBa.mp q
    subst this;exact⟨_,hm,.ref rfl⟩
   ·simp [assoc] at h
  ·intro n k a o o' e1 e2 _ _ _ _
   rcases gρ n a e1 with⟨rfl,q⟩|⟨rfl,q⟩|⟨rfl,q⟩<;>rcases gρ k a e2 with⟨rfl,r⟩|⟨rfl,r⟩|⟨rfl,r⟩<;>first|rfl|exact absurd (q.symm.trans r) n1|exact absurd (q.symm.trans r) n1.symm|exact absurd (q.symm.trans r) n2|exact absurd (q.symm.trans r) n2.symm|exact absurd (q.symm.trans r) n3|exact absurd (q.symm.trans r) n3.symm
  ·intro n a o e1 _ _ h;exact (hfree n a e1).2 (List.mem_singleton.mp h)
  ·intro n a o e1 _ _;exact (hfree n a e1).1
  ·intro a ha;rw [List.mem_singleton.mp ha]; exact hL
  ·intro n a o e1 _ _ q hq h
   have:=fz_in X hq
   rw [h,(hfree n a e1).1] at this; cases this
  ·intro a ha q hq h
   have:=fz_in X hq
   rw [h,List.mem_singleton.mp ha,hL] at this; cases this
 subst hscope
 have H:∀ g:G,g.φ=[L]->zAu (mkCn w K0 h₀ sm) g cW (envOf nm (scopeOf "law") L fa cd):=λg hg=>⟨scope_law,(show scopeOf "law" = scopeOf "law" from rfl),rfl,rfl,⟨[],hg⟩,dbg_law,(λx i h=>nomatch h),(λh=>nomatch h)⟩
 have hA:AOk (callerA.deeper (envOf nm (scopeOf "law") L fa cd)) 41:=⟨rfl,(by show 301+1+4*41<=900; decide),(by show 4+3+16*41<=8000; decide)⟩
 have hs:∀ v∈is.map V.sym,∃ x,v=.sym x:=λv hv=>by
  obtain⟨x,_,rfl⟩:=List.mem_map.mp hv; exact⟨x,rfl⟩
 have M0:Mem0 (mkCn w K0 h₀ sm) L Fs0 [.tab,.list [.ref 2,.int 0] [] [],.list (is.map .sym) [] []] S.heap:=⟨_,rfl,St0⟩
 exact law_rest (cn:=mkCn w K0 h₀ sm) (L:=L) O H hA (scr:=is.map .sym) hs M0 hLL λS' h1 h2 h3=>K S' h1 h2 h3.1 h3.2
end Mine
set_option maxHeartbeats 8000000 in
theorem PySem.Challenge.cw_sj0181_01_holds : PySem.Challenge.rw_sj0181_01.Holds := by
  refine holds_law Mine.said fun said => ?_
  refine holds_open (q := Mine.qv) (loose := Mine.looseT) (Xt := fun _ => true) (XP := fun _ _ => True) (Yf := fun s => Mine.obsH s.heap) (Ya := fun w => Mine.valH w.params) (YP := fun w h => Mine.obsH h = Mine.valH w.params) (N := 4000)
    Mine.left (fun _ _ e => e) (fun _ _ _ e k => Mine.obs_keeps e k) (fun _ _ => trivial) (fun _ _ _ _ _ => trivial) (by rfl) (by rfl) (by rfl) (fun _ _ => recFacts_nil rfl) (by rfl) said (by decide +kernel) ⟨rfl, rfl, rfl, rfl, rfl, by decide +kernel⟩ ?hw ?hc
  case hw => w_witness2
  k_fill
  intro w s₀ s₁ mg mb G Y fa o pm cd doc dV kV ho hd hcd hD hmg hg args vals as hpre hlay hrd hwl hlo
  refine Ground.open G ?_
  intro T B D TE TW
  obtain ⟨hT9, hX8, hR9⟩ := Mine.obs_parts Y
  clear hmg Y
  wrow_args hpre hlay hrd hwl hlo
  refine enter_call ?_
  w_top on
  refine kn_post hT9 (fun _ _ => rfl) ?_
  w_call any ho hd hcd hD T F
  clear hd
  rename News _ _ _ _ => N
  have l0 := ghost_lt hT9 F
  have C' := ghost_code hT9
  have H9 := hR9.ghost hT9
  have X' := ghost_K hT9 hX8 (by kernel_rfl)
  obtain ⟨LL, T'⟩ : ∃ LL, Top topProg LL (ExcName.means s₀.heap) mg mb _ := ⟨_, ghost_top hT9 T⟩
  have K' := ghost_below hT9
  have N' := ghost_news hT9 F N
  have F' := ghost_fr hT9 F
  kn_lists hT9
  kn_codes C'
  simp only [tabNews, List.map_cons, List.map_nil, List.nil_append, List.cons_append] at N'
  simp only [tabNews, List.map_cons, List.map_nil] at l0
  k_lt l0
  clear N hR9 hX8 F C' T B D TE TW G ho hcd hD
  k_drop
  try k_fold
  show wpAny _ _ (execs (_ :: _) _) _ _ _
  rw [arm_execs_cons]
  refine wpAny_bind ?_
  refine Mine.post_hide fun Q0 E0 hQ0 hE0 => ?_
  walk1; walk1; walk1
  walk1
  with_unfolding_all refine name_B F' X' (topRead_of T') (by kernel_rfl) (by boot_by_name) (by decide) ?_
  iterate 15 walk1
  k_steps
  refine hQ0 _ _ ?_
  clear hQ0 hE0
  rename_i D1 ws h3 hI hC hLl l12 D2 cc h2 l11 l' h1 l1 h' F' N'
  obtain ⟨K9, hX9, hR9, _⟩ := H9.ex
  refine Mine.law_walk hX9 hR9 T' codeHd F' (by rfl) N' hI (by omega) l1.1 l11.2 l1.2.2 (by kernel_rfl) (by kernel_rfl) fun S' ho hg hk ht => ?_
  exact ⟨⟨.inl ⟨.bool true, .bool true, [], rfl, fun _ => rfl, .bool true, (by wrow_post), fun _ => ⟨.nil, fun _ h => nomatch h⟩⟩, hk, ho, hg.trans (by assumption)⟩, ht, trivial⟩
