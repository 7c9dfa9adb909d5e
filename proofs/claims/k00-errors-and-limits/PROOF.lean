import PyProof.Rows.All
import Wide.All
import OpenK.AllK
import Wide.FinOn
import HandS.ForMost
import HandS.ForExc
import HandS.Walk
import HandS.Zip
import HandS.IsInst
import HandS.Wide
import KE.DataEq
import HandS.TupAny
import HandS.TupMul
import HandS.RaiseMore
import KE.KExcSuper
import HandS.ExcSuper
import HandS.ExcInit
import HandS.ExcIs
import HandS.TryMany
import HandS.ExcField
import HandS.Comp
import HandS.Text
import HandS.WordsDict
import PyProof.ReprRoads
import HandS.Ends
import HandS.WordsExc
import HandS.Dict
import HandS.Small
import HandS.Style
import HandS.TupLe
import HandS.Iter
import HandS.Steps
import KE.KRevSl
import PyProof.StrBlock2
import PyProof.Rows.IntBool
import HandS.DictComp
import HandS.More
import HandS.SortInts
import HandS.HotCalls
import PySem.Challenge.RW_standsfirm_k00_errors_and_limits
import KE.RegKSuper
set_option Elab.async false
set_option linter.all false
set_option maxRecDepth 100000
set_option maxHeartbeats 4200000
namespace DL
open PySem PySem.Spec PyProof.Rows L2
inductive D where
  | non | bl (b:Bool) | int (i:Int) | str (x:Str) | tup (xs:List D) | lst (xs:List D)
inductive T where
  | val (d:D)
  | lst (xs:List D)
  | ll (xs:List (List D))
  | dK (kvs:List (Key×D))
  | dT (kvs:List (List Key×D))
abbrev Fp:=Addr→Nat
def one (a:Addr):Fp:=fun b=>if b = a then 1 else 0
def Nd (f:Fp):Prop:=∀ b,f b≤1
def FzL (K:PySem.W.Frag) (H:Hp) (a:Addr) (xs:List V):Prop:=
  (∃ o,H a = some (.frz o (.lst xs)))∨
    ∃ (o:Obj) (its:Array Value) (n:Nat),
      K.lookup a = some o∧o.cls = .type "list" ∧ o.dict = none∧o.data = .seq its n∧its.size≤sizeLine∧Vals xs its.toList
theorem FzL.sq {K:PySem.W.Frag} {H:Hp} {a:Addr} {xs:List V} (h:FzL K H a xs):SqL K H a xs:=by
  rcases h with h | h
  · exact .inl (.inr h)
  · exact .inr h
mutual
inductive RD (K:PySem.W.Frag) (H:Hp):V→D→Prop
  | non:RD K H .non .non
  | bl (b:Bool):RD K H (.bl b) (.bl b)
  | int (i:Int):RD K H (.int i) (.int i)
  | str (x:Str):RD K H (.str x) (.str x)
  | tup {a:Addr} {vs:List V} {ds:List D}:SqT K H a vs→RDs K H vs ds→RD K H (.ref a) (.tup ds)
  | lst {a:Addr} {vs:List V} {ds:List D}:FzL K H a vs→RDs K H vs ds→RD K H (.ref a) (.lst ds)
inductive RDs (K:PySem.W.Frag) (H:Hp):List V→List D→Prop
  | nil:RDs K H [] []
  | cons {v:V} {vs:List V} {d:D} {ds:List D}:RD K H v d→RDs K H vs ds→RDs K H (v :: vs) (d :: ds)
end
structure Stb (H H':Hp):Prop where
  tup:∀ b xs,H b = some (.tup xs)→H' b = some (.tup xs)
  frz:∀ b o u,H b = some (.frz o u)→H' b = some (.frz o u)
theorem Stb.refl (H:Hp):Stb H H:=⟨fun _ _ h=>h,fun _ _ _ h=>h⟩
theorem Stb.trans {H H1 H2:Hp} (a:Stb H H1) (b:Stb H1 H2):Stb H H2:=⟨fun c xs h=>b.tup c xs (a.tup c xs h),fun c o u h=>b.frz c o u (a.frz c o u h)⟩
theorem Stb.fresh {H:Hp} {p:Addr} {o:HO} (h:H p = none):Stb H (upd H p o):=⟨fun b xs e=>by rw [upd_ne (ne_of_none e h)]; exact e,fun b o u e=>by rw [upd_ne (ne_of_none e h)]; exact e⟩
def isOwn:HO→Bool
  | .tup _=>false
  | .frz _ _=>false
  | _=>true
theorem Stb.own {H:Hp} {p:Addr} {o u:HO} (h:H p = some o) (w:isOwn o = true):Stb H (upd H p u):=by
  refine ⟨fun b xs e=>?_,fun b o' u' e=>?_⟩
  · by_cases hb:b = p
    · rw [hb,h] at e; cases e; cases w
    · rw [upd_ne hb]; exact e
  · by_cases hb:b = p
    · rw [hb,h] at e; cases e; cases w
    · rw [upd_ne hb]; exact e
theorem sqT_stb {K:PySem.W.Frag} {H H':Hp} {a:Addr} {xs:List V} (s:Stb H H') (h:SqT K H a xs):SqT K H' a xs:=by
  rcases h with (h | ⟨oh,h⟩) | h
  · exact .inl (.inl (s.tup _ _ h))
  · exact .inl (.inr ⟨oh,s.frz _ _ _ h⟩)
  · exact .inr h
theorem fzL_stb {K:PySem.W.Frag} {H H':Hp} {a:Addr} {xs:List V} (s:Stb H H') (h:FzL K H a xs):FzL K H' a xs:=by
  rcases h with ⟨o,h⟩ | h
  · exact .inl ⟨o,s.frz _ _ _ h⟩
  · exact .inr h
mutual
theorem RD.stb {K:PySem.W.Frag} {H H':Hp} (s:Stb H H') {v:V} {d:D} (h:RD K H v d):RD K H' v d:=by
  cases h with
  | non=>exact .non
  | bl b=>exact .bl b
  | int i=>exact .int i
  | str x=>exact .str x
  | tup q r=>exact .tup (sqT_stb s q) (RDs.stb s r)
  | lst q r=>exact .lst (fzL_stb s q) (RDs.stb s r)
theorem RDs.stb {K:PySem.W.Frag} {H H':Hp} (s:Stb H H') {vs:List V} {ds:List D} (h:RDs K H vs ds):RDs K H' vs ds:=by
  cases h with
  | nil=>exact .nil
  | cons q r=>exact .cons (RD.stb s q) (RDs.stb s r)
end
section
variable {K:PySem.W.Frag} {H H':Hp}
theorem RDs.length:∀ {vs:List V} {ds:List D},RDs K H vs ds→vs.length = ds.length
  | _,_,.nil=>rfl
  | _,_,.cons _ r=>by rw [List.length_cons,List.length_cons,RDs.length r]
theorem RDs.get:∀ {vs:List V} {ds:List D} {i:Nat} {d:D},RDs K H vs ds→ds[i]? = some d→∃ v,vs[i]? = some v∧RD K H v d
  | _,_,_,_,.nil,e=>(by simp at e)
  | _,_,0,_,.cons q _,e=>by simp at e; subst e; exact ⟨_,rfl,q⟩
  | _,_,i + 1,d,.cons _ r,e=>by
    obtain ⟨v,h1,h2⟩:=RDs.get (i:=i) (d:=d) r (by simpa using e)
    exact ⟨v,by simpa using h1,h2⟩
theorem RDs.getV:∀ {vs:List V} {ds:List D} {i:Nat} {v:V},RDs K H vs ds→vs[i]? = some v→∃ d,ds[i]? = some d∧RD K H v d
  | _,_,_,_,.nil,e=>(by simp at e)
  | _,_,0,_,.cons q _,e=>by simp at e; subst e; exact ⟨_,rfl,q⟩
  | _,_,i + 1,d,.cons _ r,e=>by
    obtain ⟨v,h1,h2⟩:=RDs.getV (i:=i) (v:=d) r (by simpa using e)
    exact ⟨v,by simpa using h1,h2⟩
theorem RDs.append:∀ {vs ws:List V} {ds es:List D},RDs K H vs ds→RDs K H ws es→RDs K H (vs ++ ws) (ds ++ es)
  | _,_,_,_,.nil,s=>s
  | _,_,_,_,.cons q r,s=>.cons q (RDs.append r s)
theorem RDs.take:∀ {vs:List V} {ds:List D} (n:Nat),RDs K H vs ds→RDs K H (vs.take n) (ds.take n)
  | _,_,0,_=>.nil
  | _,_,_ + 1,.nil=>.nil
  | _,_,n + 1,.cons q r=>.cons q (RDs.take n r)
theorem RDs.drop:∀ {vs:List V} {ds:List D} (n:Nat),RDs K H vs ds→RDs K H (vs.drop n) (ds.drop n)
  | _,_,0,r=>r
  | _,_,_ + 1,.nil=>.nil
  | _,_,n + 1,.cons _ r=>RDs.drop n r
theorem RDs.set {v:V} {d:D} (q:RD K H v d):∀ {vs:List V} {ds:List D} (i:Nat),RDs K H vs ds→RDs K H (vs.set i v) (ds.set i d)
  | _,_,_,.nil=>.nil
  | _,_,0,.cons _ r=>.cons q r
  | _,_,i + 1,.cons p r=>.cons p (RDs.set q i r)
theorem RDs.reverse:∀ {vs:List V} {ds:List D},RDs K H vs ds→RDs K H vs.reverse ds.reverse
  | _,_,.nil=>.nil
  | _,_,.cons q r=>by rw [List.reverse_cons,List.reverse_cons]; exact RDs.append (RDs.reverse r) (.cons q .nil)
theorem RDs.ints:∀ (ns:List Int),RDs K H (ns.map V.int) (ns.map D.int)
  | []=>.nil
  | n :: r=>.cons (.int n) (RDs.ints r)
end
inductive RL (K:PySem.W.Frag) (H:Hp):List V→List (List D)→Fp→Prop
  | nil {f:Fp}:(∀ b,f b = 0)→RL K H [] [] f
  | cons {a:Addr} {us vs:List V} {ds:List D} {xs:List (List D)} {f g:Fp}:H a = some (.lst us)→RDs K H us ds→RL K H vs xs g→(∀ b,f b = one a b + g b)→RL K H (.ref a :: vs) (ds :: xs) f
inductive RK {κ:Type} (K:PySem.W.Frag) (H:Hp):List (κ×V)→List (κ×D)→Prop
  | nil:RK K H [] []
  | cons {k:κ} {v:V} {d:D} {l:List (κ×V)} {m:List (κ×D)}:RD K H v d→RK K H l m→RK K H ((k,v) :: l) ((k,d) :: m)
inductive RT (K:PySem.W.Frag) (H:Hp):V→T→Fp→Prop
  | val {v:V} {d:D} {f:Fp}:RD K H v d→(∀ b,f b = 0)→RT K H v (.val d) f
  | lst {a:Addr} {vs:List V} {ds:List D} {f:Fp}:H a = some (.lst vs)→RDs K H vs ds→(∀ b,f b = one a b)→RT K H (.ref a) (.lst ds) f
  | ll {a:Addr} {vs:List V} {xs:List (List D)} {f g:Fp}:H a = some (.lst vs)→RL K H vs xs g→(∀ b,f b = one a b + g b)→RT K H (.ref a) (.ll xs) f
  | dK {a:Addr} {l:List (Key×V)} {m:List (Key×D)} {f:Fp}:H a = some (.dK l)→RK K H l m→(∀ b,f b = one a b)→RT K H (.ref a) (.dK m) f
  | dT {a:Addr} {l:List (List Key×V)} {m:List (List Key×D)} {f:Fp}:H a = some (.dT l)→RK K H l m→(∀ b,f b = one a b)→RT K H (.ref a) (.dT m) f
theorem one_same (a:Addr):one a a = 1:=by unfold one; rw [if_pos rfl]
theorem one_ne {a b:Addr} (h:b ≠ a):one a b = 0:=by unfold one; rw [if_neg h]
theorem of_one {a b:Addr} (h:one a b ≠ 0):b = a:=by
  by_cases e:b = a
  · exact e
  · exact absurd (one_ne e) h
section
variable {K:PySem.W.Frag} {H H':Hp}
def OwnFp (H:Hp) (f:Fp):Prop:=∀ b,f b ≠ 0→∃ o,H b = some o∧isOwn o = true
theorem RL.own:∀ {vs:List V} {xs:List (List D)} {f:Fp},RL K H vs xs f→OwnFp H f
  | _,_,_,.nil z=>fun b h=>absurd (z b) h
  | _,_,f,.cons (a:=a) (g:=g) e _ r z=>fun b h=>by
    by_cases hb:b = a
    · subst hb; exact ⟨_,e,rfl⟩
    · exact r.own b (by rw [z b,one_ne hb] at h; omega)
theorem RT.own {v:V} {t:T} {f:Fp} (h:RT K H v t f):OwnFp H f:=by
  cases h with
  | val _ z=>exact fun b h=>absurd (z b) h
  | @lst a _ _ _ e _ z=>
    intro b h
    have:b = a:=of_one (by rw [← z b]; exact h)
    subst this; exact ⟨_,e,rfl⟩
  | @ll a _ _ _ g e r z=>
    intro b h
    by_cases hb:b = a
    · subst hb; exact ⟨_,e,rfl⟩
    · exact r.own b (by rw [z b,one_ne hb] at h; omega)
  | @dK a _ _ _ e _ z=>
    intro b h
    have:b = a:=of_one (by rw [← z b]; exact h)
    subst this; exact ⟨_,e,rfl⟩
  | @dT a _ _ _ e _ z=>
    intro b h
    have:b = a:=of_one (by rw [← z b]; exact h)
    subst this; exact ⟨_,e,rfl⟩
theorem RK.stb {κ:Type} (s:Stb H H'):∀ {l:List (κ×V)} {m:List (κ×D)},RK K H l m→RK K H' l m
  | _,_,.nil=>.nil
  | _,_,.cons q r=>.cons (q.stb s) (RK.stb s r)
theorem RL.keep (s:Stb H H'):∀ {vs:List V} {xs:List (List D)} {f:Fp},RL K H vs xs f→(∀ b o,f b ≠ 0→H b = some o→H' b = some o)→RL K H' vs xs f
  | _,_,_,.nil z,_=>.nil z
  | _,_,f,.cons (a:=a) (g:=g) e q r z,k=>.cons (k a _ (by rw [z a,one_same]; omega) e) (q.stb s) (RL.keep s r fun b o h=>k b o (by rw [z b]; omega)) z
theorem RT.keep (s:Stb H H') {v:V} {t:T} {f:Fp} (h:RT K H v t f) (k:∀ b o,f b ≠ 0→H b = some o→H' b = some o):RT K H' v t f:=by
  cases h with
  | val q z=>exact .val (q.stb s) z
  | @lst a _ _ _ e q z=>exact .lst (k a _ (by rw [z a,one_same]; omega) e) (q.stb s) z
  | @ll a _ _ _ g e r z=>exact .ll (k a _ (by rw [z a,one_same]; omega) e) (r.keep s fun b o h=>k b o (by rw [z b]; omega)) z
  | @dK a _ _ _ e q z=>exact .dK (k a _ (by rw [z a,one_same]; omega) e) (q.stb s) z
  | @dT a _ _ _ e q z=>exact .dT (k a _ (by rw [z a,one_same]; omega) e) (q.stb s) z
end
abbrev S:=List (Option T)
structure Pend where
  P:Hp→Prop
  p:Fp
  keep:∀ H H',P H→Stb H H'→(∀ b o,p b ≠ 0→H b = some o→H' b = some o)→P H'
  own:∀ H,P H→OwnFp H p
def Pend.no:Pend:=⟨fun _=>True,fun _=>0,fun _ _ _ _ _=>True.intro,fun _ _ _ h=>absurd rfl h⟩
inductive RS (K:PySem.W.Frag) (ϖ:Pend) (H:Hp):L2.St→S→Fp→Prop
  | nil {f:Fp}:ϖ.P H→(∀ b,f b = ϖ.p b)→RS K ϖ H [] [] f
  | non {x:Option V} {σv:L2.St} {σ:S} {f:Fp}:RS K ϖ H σv σ f→RS K ϖ H (x :: σv) (none :: σ) f
  | som {v:V} {t:T} {σv:L2.St} {σ:S} {f g h:Fp}:RT K H v t g→RS K ϖ H σv σ h→(∀ b,f b = g b + h b)→RS K ϖ H (some v :: σv) (some t :: σ) f
section
variable {K:PySem.W.Frag} {ϖ:Pend} {H H':Hp}
theorem RS.own:∀ {σv:L2.St} {σ:S} {f:Fp},RS K ϖ H σv σ f→OwnFp H f
  | _,_,_,.nil p z=>fun b h=>ϖ.own H p b (by rw [← z b]; exact h)
  | _,_,_,.non r=>r.own
  | _,_,f,.som (g:=g) (h:=h) q r z=>fun b hb=>by
    by_cases hg:g b = 0
    · exact r.own b (by rw [z b] at hb; omega)
    · exact q.own b hg
theorem RS.keep (s:Stb H H'):∀ {σv:L2.St} {σ:S} {f:Fp},RS K ϖ H σv σ f→(∀ b o,f b ≠ 0→H b = some o→H' b = some o)→RS K ϖ H' σv σ f
  | _,_,_,.nil p z,k=>.nil (ϖ.keep H H' p s fun b o hb=>k b o (by rw [z b]; exact hb)) z
  | _,_,_,.non r,k=>.non (RS.keep s r k)
  | _,_,f,.som (g:=g) (h:=h) q r z,k=>.som (q.keep s fun b o hb=>k b o (by rw [z b]; omega)) (RS.keep s r fun b o hb=>k b o (by rw [z b]; omega)) z
theorem RS.length:∀ {σv:L2.St} {σ:S} {f:Fp},RS K ϖ H σv σ f→σv.length = σ.length
  | _,_,_,.nil _ _=>rfl
  | _,_,_,.non r=>by rw [List.length_cons,List.length_cons,RS.length r]
  | _,_,_,.som _ r _=>by rw [List.length_cons,List.length_cons,RS.length r]
theorem RS.congr:∀ {σv:L2.St} {σ:S} {f g:Fp},RS K ϖ H σv σ f→(∀ b,g b = f b)→RS K ϖ H σv σ g
  | _,_,_,_,.nil p z,e=>.nil p fun b=>by rw [e b,z b]
  | _,_,_,_,.non r,e=>.non (RS.congr r e)
  | _,_,_,_,.som q r z,e=>.som q r fun b=>by rw [e b,z b]
theorem RS.out:∀ {σv:L2.St} {σ:S} {f:Fp} {i:Nat} {t:T},RS K ϖ H σv σ f→σ[i]? = some (some t)→∃ v g h,σv[i]? = some (some v)∧RT K H v t g∧RS K ϖ H σv (σ.set i none) h∧∀ b,f b = g b + h b
  | _,_,_,_,_,.nil _ _,e=>by simp at e
  | _,_,_,0,_,.non _,e=>by simp at e
  | _,_,_,0,_,.som q r z,e=>by
    simp at e; subst e
    exact ⟨_,_,_,rfl,q,.non r,z⟩
  | _,_,_,i + 1,t,.non r,e=>by
    obtain ⟨v,g,h,e1,q,r',z⟩:=RS.out (i:=i) (t:=t) r (by simpa using e)
    exact ⟨v,g,h,by simpa using e1,q,.non r',z⟩
  | _,_,f,i + 1,t,.som (g:=g1) (h:=h1) q1 r z1,e=>by
    obtain ⟨v,g,h,e1,q,r',z⟩:=RS.out (i:=i) (t:=t) r (by simpa using e)
    exact ⟨v,g,fun b=>g1 b + h b,by simpa using e1,q,.som q1 r' fun b=>rfl,fun b=>by show _ = g b + (g1 b + h b); rw [z1 b,z b]; omega⟩
theorem RS.drop:∀ {σv:L2.St} {σ:S} {f:Fp} (i:Nat),RS K ϖ H σv σ f→∃ h,RS K ϖ H σv (σ.set i none) h∧∀ b,h b≤f b
  | _,_,_,_,.nil p z=>⟨_,.nil p z,fun _=>Nat.le_refl _⟩
  | _,_,_,0,.non r=>⟨_,.non r,fun _=>Nat.le_refl _⟩
  | _,_,_,0,.som q r z=>⟨_,.non r,fun b=>by rw [z b]; omega⟩
  | _,_,_,i + 1,.non r=>by
    obtain ⟨h,r',z⟩:=RS.drop i r
    exact ⟨h,.non r',z⟩
  | _,_,_,i + 1,.som (g:=g1) q1 r z1=>by
    obtain ⟨h,r',z⟩:=RS.drop i r
    exact ⟨fun b=>g1 b + h b,.som q1 r' fun _=>rfl,fun b=>by show g1 b + h b≤_; have:=z b; rw [z1 b]; omega⟩
theorem RS.put:∀ {σv:L2.St} {σ:S} {f g:Fp} {i:Nat} {v:V} {t:T},RS K ϖ H σv (σ.set i none) f→i < σ.length→RT K H v t g→RS K ϖ H (σv.set i (some v)) (σ.set i (some t)) (fun b=>g b + f b)
  | σv,[],_,_,_,_,_,_,hi,_=>absurd hi (Nat.not_lt_zero _)
  | σv,s :: σ,_,g,0,v,t,r,_,q=>by
    rw [List.set_cons_zero] at r ⊢
    cases r with
    | non r=>exact .som q r fun b=>rfl
  | σv,s :: σ,f,g,i + 1,v,t,r,hi,q=>by
    rw [List.set_cons_succ] at r ⊢
    cases r with
    | non r=>
      have h:=RS.put (i:=i) r (by simpa using hi) q
      exact .non h
    | @som _ _ _ _ _ g1 h1 q1 r z1=>
      have h:=RS.put (i:=i) r (by simpa using hi) q
      exact .som q1 h fun b=>by rw [z1 b]; omega
theorem RS.putSame {σv:L2.St} {σ:S} {f g:Fp} {i:Nat} {v:V} {t:T} (r:RS K ϖ H σv (σ.set i none) f) (hi:i < σ.length) (e:σv[i]? = some (some v)) (q:RT K H v t g):RS K ϖ H σv (σ.set i (some t)) (fun b=>g b + f b):=by
  have h:=r.put hi q
  have e2:σv.set i (some v) = σv:=by
    obtain ⟨h1,h2⟩:=List.getElem?_eq_some_iff.mp e
    rw [← h2,List.set_getElem_self]
  rw [e2] at h
  exact h
end
structure Fr (H:Hp) (f:Fp) (H':Hp) (f':Fp):Prop where
  keep:∀ b o,H b = some o→f b = 0→H' b = some o
  new:∀ b,f' b ≠ 0→f b ≠ 0∨H b = none
  stb:Stb H H'
theorem Fr.refl (H:Hp) (f:Fp):Fr H f H f:=⟨fun _ _ h _=>h,fun _ h=>.inl h,.refl H⟩
theorem Fr.trans {H H1 H2:Hp} {f f1 f2:Fp} (a:Fr H f H1 f1) (b:Fr H1 f1 H2 f2):Fr H f H2 f2:=by
  refine ⟨fun c o h z=>?_,fun c h=>?_,a.stb.trans b.stb⟩
  · by_cases hf:f1 c = 0
    · exact b.keep c o (a.keep c o h z) hf
    · rcases a.new c hf with q | q
      · exact absurd z q
      · rw [h] at q; cases q
  · rcases b.new c h with q | q
    · exact a.new c q
    · by_cases hf:f c = 0
      · right
        cases e:H c with
        | none=>rfl
        | some o=>rw [a.keep c o e hf] at q; cases q
      · exact .inl hf
theorem Fr.le {H H':Hp} {f f' g':Fp} (a:Fr H f H' f') (h:∀ b,g' b≤f' b):Fr H f H' g':=⟨a.keep,fun b e=>a.new b (by have:=h b; omega),a.stb⟩
theorem Fr.ge {H H':Hp} {f g f':Fp} (a:Fr H f H' f') (h:∀ b,f b≤g b):Fr H g H' f':=⟨fun b o e z=>a.keep b o e (by have:=h b; omega),fun b e=>(a.new b e).imp (fun q=>by have:=h b; omega) id,a.stb⟩
theorem Fr.beside {H H':Hp} {f f' g:Fp} (a:Fr H f H' f'):Fr H (fun b=>g b + f b) H' (fun b=>g b + f' b):=by
  refine ⟨fun b o e z=>a.keep b o e (by have:g b + f b = 0:=z; omega),fun b e=>?_,a.stb⟩
  have e:g b + f' b ≠ 0:=e
  show g b + f b ≠ 0∨_
  by_cases h:g b = 0
  · rcases a.new b (by omega) with q | q
    · exact .inl (by omega)
    · exact .inr q
  · exact .inl (by omega)
theorem Fr.apart {H H':Hp} {f f' g:Fp} (a:Fr H f H' f') (o:OwnFp H g) (n:Nd fun b=>g b + f b) (n':Nd f'):Nd fun b=>g b + f' b:=fun b=>by
  show g b + f' b≤1
  have h1:g b + f b≤1:=n b
  have h2:=n' b
  by_cases hg:g b = 0
  · omega
  · by_cases hf:f' b = 0
    · omega
    · rcases a.new b hf with q | q
      · omega
      · obtain ⟨ob,e,_⟩:=o b hg
        rw [e] at q; cases q
theorem Fr.laid {H:Hp} {p:Addr} {o:HO} {f:Fp} (h:H p = none):Fr H f (upd H p o) (fun b=>one p b + f b):=by
  refine ⟨fun b u e _=>by rw [upd_ne (ne_of_none e h)]; exact e,fun b e=>?_,.fresh h⟩
  have e:one p b + f b ≠ 0:=e
  by_cases hb:b = p
  · subst hb; exact .inr h
  · rw [one_ne hb] at e; exact .inl (by omega)
theorem Fr.laid0 {H:Hp} {p:Addr} {o:HO} {f:Fp} (h:H p = none):Fr H f (upd H p o) f:=
  ⟨fun b u e _=>by rw [upd_ne (ne_of_none e h)]; exact e,fun b e=>.inl e,.fresh h⟩
theorem Fr.write {H:Hp} {p:Addr} {o u:HO} {f:Fp} (h:H p = some o) (w:isOwn o = true) (hf:f p ≠ 0):Fr H f (upd H p u) f:=
  ⟨fun b z e q=>by rw [upd_ne (fun y=>hf (by rw [← y]; exact q))]; exact e,fun b e=>.inl e,.own h w⟩
end DL
namespace DL
open PySem PySem.Spec PyProof.Rows L2
inductive R (α:Type) where
  | ok (a:α) (σ:S)
  | exc (C:Addr) (xs:List (Str×D)) (σ:S)
  | stuck
def R.bind {α β:Type} (r:R α) (k:α→S→R β):R β:=match r with
  | .ok a σ=>k a σ
  | .exc C xs σ=>.exc C xs σ
  | .stuck=>.stuck
@[simp] theorem R.bind_ok {α β:Type} (a:α) (σ:S) (k:α→S→R β):(R.ok a σ).bind k = k a σ:=rfl
@[simp] theorem R.bind_exc {α β:Type} (C:Addr) (xs:List (Str×D)) (σ:S) (k:α→S→R β):(R.exc C xs σ:R α).bind k = .exc C xs σ:=rfl
@[simp] theorem R.bind_stuck {α β:Type} (k:α→S→R β):(R.stuck:R α).bind k = .stuck:=rfl
inductive RTs (K:PySem.W.Frag) (H:Hp):List V→List T→Fp→Prop
  | nil {f:Fp}:(∀ b,f b = 0)→RTs K H [] [] f
  | cons {v:V} {vs:List V} {t:T} {ts:List T} {f g h:Fp}:RT K H v t g→RTs K H vs ts h→(∀ b,f b = g b + h b)→RTs K H (v :: vs) (t :: ts) f
theorem Nd.le {f g:Fp} (n:Nd f) (h:∀ b,g b≤f b):Nd g:=fun b=>Nat.le_trans (h b) (n b)
section
variable {K:PySem.W.Frag} {H H':Hp}
theorem RTs.own:∀ {vs:List V} {ts:List T} {f:Fp},RTs K H vs ts f→OwnFp H f
  | _,_,_,.nil z=>fun b h=>absurd (z b) h
  | _,_,f,.cons (g:=g) (h:=h) q r z=>fun b hb=>by
    by_cases hg:g b = 0
    · exact r.own b (by rw [z b] at hb; omega)
    · exact q.own b hg
theorem RTs.keep (s:Stb H H'):∀ {vs:List V} {ts:List T} {f:Fp},RTs K H vs ts f→(∀ b o,f b ≠ 0→H b = some o→H' b = some o)→RTs K H' vs ts f
  | _,_,_,.nil z,_=>.nil z
  | _,_,f,.cons (g:=g) (h:=h) q r z,k=>.cons (q.keep s fun b o hb=>k b o (by rw [z b]; omega)) (RTs.keep s r fun b o hb=>k b o (by rw [z b]; omega)) z
theorem RTs.length:∀ {vs:List V} {ts:List T} {f:Fp},RTs K H vs ts f→vs.length = ts.length
  | _,_,_,.nil _=>rfl
  | _,_,_,.cons _ r _=>by rw [List.length_cons,List.length_cons,RTs.length r]
theorem RTs.congr:∀ {vs:List V} {ts:List T} {f g:Fp},RTs K H vs ts f→(∀ b,g b = f b)→RTs K H vs ts g
  | _,_,_,_,.nil z,e=>.nil fun b=>by rw [e b,z b]
  | _,_,_,_,.cons q r z,e=>.cons q r fun b=>by rw [e b,z b]
theorem RT.congr {v:V} {t:T} {f g:Fp} (h:RT K H v t f) (e:∀ b,g b = f b):RT K H v t g:=by
  cases h with
  | val q z=>exact .val q fun b=>by rw [e b,z b]
  | lst a q z=>exact .lst a q fun b=>by rw [e b,z b]
  | ll a q z=>exact .ll a q fun b=>by rw [e b,z b]
  | dK a q z=>exact .dK a q fun b=>by rw [e b,z b]
  | dT a q z=>exact .dT a q fun b=>by rw [e b,z b]
theorem RT.vl {v:V} {d:D} (h:RD K H v d):RT K H v (.val d) (fun _=>0):=.val h fun _=>rfl
theorem RT.un {v:V} {d:D} {f:Fp} (h:RT K H v (.val d) f):RD K H v d:=by
  cases h with
  | val q _=>exact q
theorem RT.z {v:V} {d:D} {f:Fp} (h:RT K H v (.val d) f):∀ b,f b = 0:=by
  cases h with
  | val _ z=>exact z
end
section
variable {α β γ δ:Type} (K:PySem.W.Frag) (ϖ:Pend) (W:WX)
def Post (Rl:Hp→β→α→Fp→Prop) (σv:L2.St) (r:R α) (H:Hp) (f:Fp) (Q:β→Hp→Prop):Prop:=match r with
  | .ok t σ=>∀ v H' g h,Rl H' v t g→RS K ϖ H' σv σ h→Nd (fun b=>g b + h b)→Fr H f H' (fun b=>g b + h b)→Q v H'
  | .exc C xs σ=>∀ d vs H' h,H' d = some (.xd vs)→RK K H' vs xs→RS K ϖ H' σv σ h→Nd h→Fr H f H' h→W (.ref C) (some d) σv H'
  | .stuck=>False
def tX (Rl:Hp→β→α→Fp→Prop) (F:S→R α):L2.St→Hp→(β→Hp→Prop)→Prop:=fun σv H Q=>∃ σ h,RS K ϖ H σv σ h∧Nd h∧Post K ϖ W Rl σv (F σ) H h Q
def RB:Hp→Bool→Bool→Fp→Prop:=fun _ b c g=>b = c∧∀ a,g a = 0
def RV (K:PySem.W.Frag):Hp→V→T→Fp→Prop:=fun H v t g=>RT K H v t g
abbrev tE (F:S→R T):TE:=tX K ϖ W (RV K) F
abbrev tT (F:S→R Bool):TT:=tX K ϖ W RB F
end
section
variable {α β γ δ:Type} {K:PySem.W.Frag} {ϖ:Pend} {W:WX} {Rl:Hp→β→α→Fp→Prop} {Rm:Hp→δ→γ→Fp→Prop} {σv:L2.St} {H H' H0:Hp} {f g h f0:Fp} {r:R α}
theorem Post.mono {Q Q':β→Hp→Prop} (p:Post K ϖ W Rl σv r H f Q) (hq:∀ v H',Q v H'→Q' v H'):Post K ϖ W Rl σv r H f Q':=by
  cases r with
  | ok t σ=>exact fun v H' g h a b c d=>hq v H' (p v H' g h a b c d)
  | exc C xs σ=>exact p
  | stuck=>exact p
theorem Post.fr {Q:β→Hp→Prop} (p:Post K ϖ W Rl σv r H0 f0 Q) (a:Fr H0 f0 H f):Post K ϖ W Rl σv r H f Q:=by
  cases r with
  | ok t σ=>exact fun v H' g h x y z w=>p v H' g h x y z (a.trans w)
  | exc C xs σ=>exact fun d vs H' h x y z u w=>p d vs H' h x y z u (a.trans w)
  | stuck=>exact p
theorem tX.mono {F:S→R α} {Q Q':β→Hp→Prop} (p:tX K ϖ W Rl F σv H Q) (hq:∀ v H',Q v H'→Q' v H'):tX K ϖ W Rl F σv H Q':=by
  obtain ⟨σ,h,a,b,c⟩:=p
  exact ⟨σ,h,a,b,c.mono hq⟩
theorem ev {F:S→R α} {k:α→S→R γ} {σ:S} {vs:List V} {ts:List T} {Q:δ→Hp→Prop} (hp:RTs K H vs ts g) (hs:RS K ϖ H σv σ h) (nd:Nd fun b=>g b + h b)
    (q:Post K ϖ W Rm σv ((F σ).bind k) H (fun b=>g b + h b) Q):
    tX K ϖ W Rl F σv H (fun u H2=>∃ t2 g2 σ2 h2,Rl H2 u t2 g2∧RTs K H2 vs ts g∧RS K ϖ H2 σv σ2 h2∧Nd (fun b=>g b + (g2 b + h2 b))∧Post K ϖ W Rm σv (k t2 σ2) H2 (fun b=>g b + (g2 b + h2 b)) Q):=by
  refine ⟨σ,h,hs,nd.le fun b=>by show h b≤g b + h b; omega,?_⟩
  cases e:F σ with
  | stuck=>rw [e] at q; exact q
  | exc C xs σ'=>
    rw [e] at q
    exact fun d vs' H' h' a b c n w=>q d vs' H' h' a b c n ((w.beside (g:=g)).le fun b=>by show h' b≤g b + h' b; omega)
  | ok t2 σ2=>
    rw [e] at q
    intro v H2 g2 h2 a b n w
    have w':=w.beside (g:=g)
    refine ⟨t2,g2,σ2,h2,a,hp.keep w.stb fun b o hb e=>w.keep b o e (by have:=nd b; have:g b + h b≤1:=this; omega),b,w.apart hp.own nd n,q.fr w'⟩
theorem ev0 {F:S→R α} {k:α→S→R γ} {Q:δ→Hp→Prop} (q:tX K ϖ W Rm (fun σ=>(F σ).bind k) σv H Q):
    tX K ϖ W Rl F σv H (fun u H2=>∃ t2 g2 σ2 h2,Rl H2 u t2 g2∧RS K ϖ H2 σv σ2 h2∧Nd (fun b=>g2 b + h2 b)∧Post K ϖ W Rm σv (k t2 σ2) H2 (fun b=>g2 b + h2 b) Q):=by
  obtain ⟨σ,h,hs,nd,q⟩:=q
  have e0:(fun b=>(0:Nat) + h b) = h:=by funext b; exact Nat.zero_add _
  refine (ev (Rl:=Rl) (Rm:=Rm) (F:=F) (k:=k) (Q:=Q) (g:=fun _=>0) (vs:=[]) (ts:=[]) (.nil fun _=>rfl) hs (by rw [e0]; exact nd) (by rw [e0]; exact q)).mono fun u H2 ⟨t2,g2,σ2,h2,a,_,b,c,d⟩=>?_
  have e1:(fun b=>(0:Nat) + (g2 b + h2 b)) = fun b=>g2 b + h2 b:=by funext b; exact Nat.zero_add _
  rw [e1] at c d
  exact ⟨t2,g2,σ2,h2,a,b,c,d⟩
end
structure Nw (H H':Hp) (g:Fp):Prop where
  same:Same H H'
  new:∀ b,g b ≠ 0→H b = none
  nd:Nd g
theorem Nw.refl (H:Hp):Nw H H (fun _=>0):=⟨.refl H,fun _ h=>absurd rfl h,fun _=>Nat.zero_le _⟩
theorem Nw.laid {H:Hp} {p:Addr} {o:HO} (h:H p = none):Nw H (upd H p o) (one p):=
  ⟨fun b u e=>by rw [upd_ne (ne_of_none e h)]; exact e,fun b e=>by rw [of_one e]; exact h,fun b=>by unfold one; split <;> omega⟩
theorem Nw.laid0 {H:Hp} {p:Addr} {o:HO} (h:H p = none):Nw H (upd H p o) (fun _=>0):=
  ⟨fun b u e=>by rw [upd_ne (ne_of_none e h)]; exact e,fun _ z=>absurd rfl z,fun _=>Nat.zero_le _⟩
theorem Nw.stb {H H':Hp} {g:Fp} (n:Nw H H' g):Stb H H':=⟨fun b xs e=>n.same _ _ e,fun b o u e=>n.same _ _ e⟩
theorem Nw.fr {H H':Hp} {g f h:Fp} (n:Nw H H' g) (hf:∀ b,h b≤f b):Fr H f H' (fun b=>g b + h b):=
  ⟨fun b o e _=>n.same b o e,fun b e=>by
    have e:g b + h b ≠ 0:=e
    by_cases z:g b = 0
    · exact .inl (by have:=hf b; omega)
    · exact .inr (n.new b z),n.stb⟩
theorem Nw.ndw {H H':Hp} {g h:Fp} (n:Nw H H' g) (o:OwnFp H h) (nh:Nd h):Nd (fun b=>g b + h b):=fun b=>by
  show g b + h b≤1
  have h1:=n.nd b
  have h2:=nh b
  by_cases z:g b = 0
  · omega
  · by_cases y:h b = 0
    · omega
    · obtain ⟨ob,e,_⟩:=o b y
      rw [n.new b z] at e; cases e
theorem Nw.rs {K:PySem.W.Frag} {H H':Hp} {g h:Fp} {σv:L2.St} {σ:S} (n:Nw H H' g) (r:RS K ϖ H σv σ h):RS K ϖ H' σv σ h:=r.keep n.stb fun b o _ e=>n.same b o e
section
variable {K:PySem.W.Frag} {ϖ:Pend} {W:WX} {σv:L2.St} {σ:S} {H H':Hp} {f g h:Fp} {Q:VK} {t:T} {v:V}
theorem Post.fin (p:Post K ϖ W (RV K) σv (.ok t σ) H f Q) (n:Nw H H' g) (q:RT K H' v t g) (hs:RS K ϖ H σv σ h) (nh:Nd h) (hf:∀ b,h b≤f b):Q v H':=
  p v H' g h q (n.rs hs) (n.ndw hs.own nh) (n.fr hf)
theorem Post.fin0 {d:D} (p:Post K ϖ W (RV K) σv (.ok (.val d) σ) H f Q) (q:RD K H v d) (hs:RS K ϖ H σv σ h) (nh:Nd h) (hf:∀ b,h b≤f b):Q v H:=
  p.fin (Nw.refl H) (.vl q) hs nh hf
theorem Post.finB {b:Bool} {Q:Bool→Hp→Prop} (p:Post K ϖ W RB σv (.ok b σ) H f Q) (hs:RS K ϖ H σv σ h) (nh:Nd h) (hf:∀ b,h b≤f b):Q b H:=
  p b H (fun _=>0) h ⟨rfl,fun _=>rfl⟩ hs ((Nw.refl H).ndw hs.own nh) ((Nw.refl H).fr hf)
end
theorem _root_.L2.PE.imp {X:Cx} {e:Expr} {t t':TE} (h:PE X e t) (i:∀ σ H Q,t' σ H Q→t σ H Q):PE X e t':=⟨fun pins s σ H Q I w=>h.run pins s σ H Q I (i _ _ _ w)⟩
theorem _root_.L2.PT.imp {X:Cx} {e:Expr} {t t':TT} (h:PT X e t) (i:∀ σ H Q,t' σ H Q→t σ H Q):PT X e t':=⟨fun pins s σ H Q I w=>h.run pins s σ H Q I (i _ _ _ w)⟩
theorem _root_.L2.PA.imp {X:Cx} {e:List Expr} {t t':TA} (h:PA X e t) (i:∀ σ H Q,t' σ H Q→t σ H Q):PA X e t':=⟨fun pos pins s σ H Q I w=>h.run pos pins s σ H Q I (i _ _ _ w)⟩
theorem _root_.L2.PS.imp {X:Cx} {e:Stmt} {t t':TS} (h:PS X e t) (i:∀ D σ H,t' D σ H→t D σ H):PS X e t':=⟨fun pins s σ H D I w=>h.run pins s σ H D I (i _ _ _ w)⟩
theorem _root_.L2.PSs.imp {X:Cx} {e:List Stmt} {t t':TS} (h:PSs X e t) (i:∀ D σ H,t' D σ H→t D σ H):PSs X e t':=⟨fun pins s σ H D I w=>h.run pins s σ H D I (i _ _ _ w)⟩
def DE (X:Cx) (ϖ:Pend) (W:WX) (e:Expr) (F:S→R T):Prop:=PE X e (tE X.K ϖ W F)
def DT (X:Cx) (ϖ:Pend) (W:WX) (e:Expr) (F:S→R Bool):Prop:=PT X e (tT X.K ϖ W F)
inductive Gh:Hp→(Hp→Prop)→Prop
  | done {H:Hp} {P:Hp→Prop}:P H→Gh H P
  | frz {H:Hp} {P:Hp→Prop} {a:Addr} {xs:List V}:H a = some (.lst xs)→(∀ o,Gh (upd H a (.frz o (.lst xs))) P)→Gh H P
theorem Gh.inv {X:Cx} {pins:List (Addr×Obj)} {σ:L2.St} {s:Shared}:∀ {H:Hp} {P:Hp→Prop},Gh H P→Inv X pins σ H s→∃ H',P H'∧Inv X pins σ H' s:=by
  intro H P g
  induction g with
  | done p=>exact fun I=>⟨_,p,I⟩
  | frz e _ ih=>
    intro I
    obtain ⟨o,I'⟩:=I.lock e True.intro
    exact ih o I'
theorem Gh.mono {H:Hp} {P P':Hp→Prop} (g:Gh H P) (h:∀ H,P H→P' H):Gh H P':=by
  induction g with
  | done p=>exact .done (h _ p)
  | frz e _ ih=>exact .frz e fun o=>ih o h
theorem Gh.bind {H:Hp} {P P':Hp→Prop} (g:Gh H P) (h:∀ H,P H→Gh H P'):Gh H P':=by
  induction g with
  | done p=>exact h _ p
  | frz e _ ih=>exact .frz e fun o=>ih o h
theorem _root_.L2.PE.ghost {X:Cx} {e:Expr} {t:TE} (h:PE X e t):PE X e (fun σ H Q=>t σ H fun v H1=>Gh H1 (Q v)):=
  ⟨fun pins s σ H Q I w=>thn (h.run pins s σ H _ I w) fun u s1 ⟨v,H1,I1,r,g⟩=>by
    obtain ⟨H2,q,I2⟩:=g.inv I1
    exact ⟨v,H2,I2,r,q⟩⟩
def T.fz:T→Option D
  | .val d=>some d
  | .lst xs=>some (.lst xs)
  | .ll xs=>some (.lst (xs.map .lst))
  | _=>none
theorem frz_one {H:Hp} {a:Addr} {vs:List V} (e:H a = some (.lst vs)) (o:Obj):Stb H (upd H a (.frz o (.lst vs))):=.own e rfl
theorem frz_ll {K:PySem.W.Frag}:∀ {vs:List V} {xs:List (List D)} {g:Fp} {H:Hp},RL K H vs xs g→Nd g→Gh H fun H'=>RDs K H' vs (xs.map D.lst)∧Stb H H'∧∀ b,g b = 0→H' b = H b
  | _,_,_,H,.nil _,_=>.done ⟨.nil,.refl H,fun _ _=>rfl⟩
  | _,_,f,H,.cons (a:=a) (us:=us) (ds:=ds) (g:=g) e q r z,n=>by
    have na:g a = 0:=by have:=n a; rw [z a,one_same] at this; omega
    refine .frz e fun o=>?_
    have st:=frz_one e o
    have r':RL K (upd H a (.frz o (.lst us))) _ _ g:=r.keep st fun b ob hb eb=>by rw [upd_ne (fun y=>hb (by rw [y]; exact na))]; exact eb
    refine (frz_ll r' (n.le fun b=>by rw [z b]; omega)).mono fun H' ⟨h1,h2,h3⟩=>⟨.cons (.lst (.inl ⟨o,h2.frz _ _ _ upd_same⟩) (q.stb (st.trans h2))) h1,st.trans h2,fun b hb=>?_⟩
    rw [h3 b (by rw [z b] at hb; omega),upd_ne (fun y=>by rw [y,z a,one_same] at hb; omega)]
theorem frz_T {K:PySem.W.Frag} {H:Hp} {v:V} {t:T} {d:D} {g:Fp} (h:RT K H v t g) (e:t.fz = some d) (n:Nd g):Gh H fun H'=>RD K H' v d∧Stb H H'∧∀ b,g b = 0→H' b = H b:=by
  cases h with
  | val q z=>cases e; exact .done ⟨q,.refl H,fun _ _=>rfl⟩
  | @lst a vs ds _ ea q z=>
    cases e
    refine .frz ea fun o=>.done ⟨.lst (.inl ⟨o,upd_same⟩) (q.stb (frz_one ea o)),frz_one ea o,fun b hb=>upd_ne fun y=>?_⟩
    rw [y,z a,one_same] at hb; omega
  | @ll a vs xs _ g' ea q z=>
    cases e
    have na:g' a = 0:=by have:=n a; rw [z a,one_same] at this; omega
    refine .frz ea fun o=>?_
    have st:=frz_one ea o
    have r':RL K (upd H a (.frz o (.lst vs))) _ _ g':=q.keep st fun b ob hb eb=>by rw [upd_ne (fun y=>hb (by rw [y]; exact na))]; exact eb
    refine (frz_ll r' (n.le fun b=>by rw [z b]; omega)).mono fun H' ⟨h1,h2,h3⟩=>⟨.lst (.inl ⟨o,h2.frz _ _ _ upd_same⟩) h1,st.trans h2,fun b hb=>?_⟩
    rw [h3 b (by rw [z b] at hb; omega),upd_ne (fun y=>by rw [y,z a,one_same] at hb; omega)]
  | dK _ _ _=>cases e
  | dT _ _ _=>cases e
def eV (F:S→R T):S→R T:=fun σ=>(F σ).bind fun t σ'=>match t.fz with
  | some d=>.ok (.val d) σ'
  | none=>.stuck
theorem d_V {X:Cx} {ϖ:Pend} {W:WX} {e:Expr} {F:S→R T} (h:DE X ϖ W e F):DE X ϖ W e (eV F):=by
  refine (PE.ghost h).imp fun σv H Q q=>(ev0 q).mono fun v H1 ⟨t,g,σ,h,a,b,n,p⟩=>?_
  have a:RT X.K H1 v t g:=a
  cases e:t.fz with
  | none=>simp only [e] at p; exact p.elim
  | some d=>
    simp only [e] at p
    refine (frz_T a e (n.le fun b=>by show g b≤g b + h b; omega)).mono fun H2 ⟨h1,h2,h3⟩=>?_
    have hk:∀ c o,h c ≠ 0→H1 c = some o→H2 c = some o:=fun c o hc eo=>by
      have:g c + h c≤1:=n c
      rw [h3 c (by omega)]; exact eo
    refine p v H2 (fun _=>0) h (.vl h1) (b.keep h2 hk) (fun c=>by have:g c + h c≤1:=n c; show 0 + h c≤1; omega) ⟨fun c o eo z=>?_,fun c hc=>.inl ?_,h2⟩
    · have z:g c + h c = 0:=z
      rw [h3 c (by omega)]; exact eo
    · have hc:0 + h c ≠ 0:=hc
      show g c + h c ≠ 0
      omega
def eN (i:Nat):S→R T:=fun σ=>match σ[i]? with
  | some (some t)=>(match t.fz with
    | some d=>.ok (.val d) (σ.set i (some (.val d)))
    | none=>.stuck)
  | _=>.stuck
def eM (i:Nat):S→R T:=fun σ=>match σ[i]? with
  | some (some (.val d))=>.ok (.val d) σ
  | some (some t)=>.ok t (σ.set i none)
  | _=>.stuck
def eC (d:D):S→R T:=fun σ=>.ok (.val d) σ
section
variable {X:Cx} {ϖ:Pend} {W:WX}
theorem d_var {e:Expr} {i:Nat} (h:PE X e (tVar i)):DE X ϖ W e (eN i):=by
  refine (PE.ghost h).imp fun σv H Q ⟨σ,f,hs,n,p⟩=>?_
  unfold eN at p
  cases e:σ[i]? with
  | none=>rw [e] at p; exact p.elim
  | some o=>
    cases o with
    | none=>rw [e] at p; exact p.elim
    | some t=>
      rw [e] at p
      dsimp only at p
      cases e2:t.fz with
      | none=>rw [e2] at p; exact p.elim
      | some d=>
        rw [e2] at p
        dsimp only at p
        obtain ⟨v,g,h,ev,q,r,z⟩:=hs.out e
        refine ⟨v,ev,?_⟩
        refine (frz_T q e2 (n.le fun b=>by rw [z b]; omega)).mono fun H2 ⟨h1,h2,h3⟩=>?_
        have hi:i < σ.length:=(List.getElem?_eq_some_iff.mp e).1
        have r':RS X.K ϖ H2 σv (σ.set i none) h:=r.keep h2 fun c o hc eo=>by
          have:=n c; rw [z c] at this
          rw [h3 c (by omega)]; exact eo
        have r2:=r'.putSame (t:=.val d) (g:=fun _=>0) hi ev (.vl h1)
        refine p v H2 (fun _=>0) _ (.vl h1) r2 (fun c=>by show 0 + (0 + h c)≤1; have:=n c; rw [z c] at this; omega) ⟨fun c o eo hz=>?_,fun c hc=>.inl ?_,h2⟩
        · rw [z c] at hz; rw [h3 c (by omega)]; exact eo
        · have hc:0 + (0 + h c) ≠ 0:=hc
          rw [z c]; omega
theorem d_mv {e:Expr} {i:Nat} (h:PE X e (tVar i)):DE X ϖ W e (eM i):=by
  refine PE.imp h fun σv H Q ⟨σ,f,hs,n,p⟩=>?_
  unfold eM at p
  cases e:σ[i]? with
  | none=>rw [e] at p; exact p.elim
  | some o=>
    cases o with
    | none=>rw [e] at p; exact p.elim
    | some t=>
      obtain ⟨v,g,h,ev,q,r,z⟩:=hs.out e
      refine ⟨v,ev,?_⟩
      have key:∀ t',t' = t→Post X.K ϖ W (RV X.K) σv (.ok t' (σ.set i none)) H f Q→Q v H:=fun t' et p=>p v H g h (et ▸ q) r (n.le fun b=>Nat.le_of_eq (z b).symm) ((Fr.refl H f).le fun b=>Nat.le_of_eq (z b).symm)
      rw [e] at p
      cases t with
      | val d=>exact p.fin0 q.un hs n fun _=>Nat.le_refl _
      | lst xs=>exact key _ rfl p
      | ll xs=>exact key _ rfl p
      | dK xs=>exact key _ rfl p
      | dT xs=>exact key _ rfl p
theorem d_const {e:Expr} {v:V} {d:D} (h:PE X e (tC v)) (r:∀ H,RD X.K H v d):DE X ϖ W e (eC d):=
  PE.imp h fun σv H Q ⟨σ,f,hs,n,p⟩=>p.fin0 (r H) hs n fun _=>Nat.le_refl _
end
end DL
namespace DL
open PySem PySem.Spec PyProof.Rows L2
mutual
def D.py:D→PyData
  | .non=>.none
  | .bl b=>.bool b
  | .int i=>.int i
  | .str x=>.str x
  | .tup xs=>.tuple (D.pys xs)
  | .lst xs=>.list (D.pys xs)
def D.pys:List D→List PyData
  | []=>[]
  | x :: xs=>D.py x :: D.pys xs
end
mutual
theorem D.plain:∀ d:D,d.py.plain = true
  | .non | .bl _ | .int _ | .str _=>rfl
  | .tup xs=>by unfold D.py PyData.plain; exact D.plains xs
  | .lst xs=>by unfold D.py PyData.plain; exact D.plains xs
theorem D.plains:∀ ds:List D,PyData.plainAll (D.pys ds) = true
  | []=>rfl
  | x :: xs=>by unfold D.pys PyData.plainAll; rw [D.plain x,D.plains xs]; rfl
end
mutual
theorem RD.dp {K:PySem.W.Frag} {H:Hp} {v:V} {d:D} (h:RD K H v d):Dp K H v d.py:=by
  cases h with
  | non=>exact .non
  | bl b=>exact .bl b
  | int i=>exact .int i
  | str x=>exact .str x
  | tup q r=>exact .tup q (RDs.dp r)
  | lst q r=>exact .lst q.sq (RDs.dp r)
theorem RDs.dp {K:PySem.W.Frag} {H:Hp} {vs:List V} {ds:List D} (h:RDs K H vs ds):DpAll K H vs (D.pys ds):=by
  cases h with
  | nil=>exact .nil
  | cons q r=>exact .cons (RD.dp q) (RDs.dp r)
end
def D.eqv (a b:D):Bool:=PyData.eqv a.py b.py
def D.dep (a:D):Nat:=a.py.depth
def T.ls:T→Option (List D)
  | .lst xs=>some xs
  | .val (.lst xs)=>some xs
  | _=>none
def T.sq:T→Option (List D)
  | .lst xs=>some xs
  | .val (.lst xs)=>some xs
  | .val (.tup xs)=>some xs
  | _=>none
section
variable {K:PySem.W.Frag} {H:Hp}
theorem RT.ls {v:V} {t:T} {g:Fp} {xs:List D} (h:RT K H v t g) (e:t.ls = some xs):∃ a vs,v = .ref a∧SqL K H a vs∧RDs K H vs xs:=by
  cases h with
  | val q z=>
    cases q with
    | lst q r=>cases e; exact ⟨_,_,rfl,q.sq,r⟩
    | _=>cases e
  | lst q r z=>cases e; exact ⟨_,_,rfl,.of q,r⟩
  | _=>cases e
theorem RT.sq {v:V} {t:T} {g:Fp} {xs:List D} (h:RT K H v t g) (e:t.sq = some xs):∃ a vs,v = .ref a∧(SqL K H a vs∨SqT K H a vs)∧RDs K H vs xs:=by
  cases h with
  | val q z=>
    cases q with
    | lst q r=>cases e; exact ⟨_,_,rfl,.inl q.sq,r⟩
    | tup q r=>cases e; exact ⟨_,_,rfl,.inr q,r⟩
    | _=>cases e
  | lst q r z=>cases e; exact ⟨_,_,rfl,.inl (.of q),r⟩
  | _=>cases e
theorem RT.int {v:V} {i:Int} {g:Fp} (h:RT K H v (.val (.int i)) g):v = .int i:=by
  cases h.un; rfl
theorem RT.str {v:V} {i:Str} {g:Fp} (h:RT K H v (.val (.str i)) g):v = .str i:=by
  cases h.un; rfl
theorem RT.bl {v:V} {i:Bool} {g:Fp} (h:RT K H v (.val (.bl i)) g):v = .bl i:=by
  cases h.un; rfl
theorem RT.non {v:V} {g:Fp} (h:RT K H v (.val .non) g):v = .non:=by
  cases h.un; rfl
theorem RT.tup {v:V} {xs:List D} {g:Fp} (h:RT K H v (.val (.tup xs)) g):∃ a vs,v = .ref a∧SqT K H a vs∧RDs K H vs xs:=by
  cases h.un with
  | tup q r=>exact ⟨_,_,rfl,q,r⟩
end
def OpT (X:Cx) (f:Value→Value→Sem Value) (o:T→T→Option T):Prop:=
  ∀ (pins:List (Addr×Obj)) (s:Shared) (σ:L2.St) (H:Hp) (x y:V) (v u:Value) (tx ty t:T) (g1 g2:Fp) (Q:VK),Inv X pins σ H s→RelV x v→RelV y u→RT X.K H x tx g1→RT X.K H y ty g2→o tx ty = some t→
    (∀ z H' g,RT X.K H' z t g→Nw H H' g→Q z H')→wpAny (model X.prog X.w) X.A (f v u) (EP X pins σ Q) X.xe s
def rT (K:PySem.W.Frag) (o:T→T→Option T):R2:=fun x y H Q=>∃ tx ty t g1 g2,RT K H x tx g1∧RT K H y ty g2∧o tx ty = some t∧∀ z H' g,RT K H' z t g→Nw H H' g→Q z H'
theorem OpT.r {X:Cx} {f:Value→Value→Sem Value} {o:T→T→Option T} (h:OpT X f o):OpR X f (rT X.K o):=by
  intro pins s σ H x y v u Q I rx ry ⟨tx,ty,t,g1,g2,r1,r2,e,q⟩
  exact h pins s σ H x y v u tx ty t g1 g2 Q I rx ry r1 r2 e q
theorem OpT.of {X:Cx} {f:Value→Value→Sem Value} {o:T→T→Option T} {r:R2} (h:OpR X f r)
    (i:∀ (H:Hp) (x y:V) (tx ty t:T) (g1 g2:Fp) (Q:VK),RT X.K H x tx g1→RT X.K H y ty g2→o tx ty = some t→(∀ z H' g,RT X.K H' z t g→Nw H H' g→Q z H')→r x y H Q):OpT X f o:=
  fun pins s σ H x y v u tx ty t g1 g2 Q I rx ry r1 r2 e q=>h pins s σ H x y v u Q I rx ry (i H x y tx ty t g1 g2 Q r1 r2 e q)
def oOr (o p:T→T→Option T):T→T→Option T:=fun x y=>match o x y with
  | some t=>some t
  | none=>p x y
theorem OpT.or {X:Cx} {f:Value→Value→Sem Value} {o p:T→T→Option T} (h:OpT X f o) (h':OpT X f p):OpT X f (oOr o p):=by
  intro pins s σ H x y v u tx ty t g1 g2 Q I rx ry r1 r2 e q
  unfold oOr at e
  cases e1:o tx ty with
  | some t'=>rw [e1] at e; cases e; exact h pins s σ H x y v u tx ty t g1 g2 Q I rx ry r1 r2 e1 q
  | none=>rw [e1] at e; exact h' pins s σ H x y v u tx ty t g1 g2 Q I rx ry r1 r2 e q
def oInt (C:Int→Int→Bool) (g:Int→Int→D):T→T→Option T
  | .val (.int i),.val (.int j)=>if C i j = true then some (.val (g i j)) else none
  | _,_=>none
theorem oInt_inv {C:Int→Int→Bool} {g:Int→Int→D} {x y t:T} (e:oInt C g x y = some t):∃ i j,x = .val (.int i)∧y = .val (.int j)∧C i j = true∧t = .val (g i j):=by
  unfold oInt at e
  split at e
  · split at e
    · cases e; exact ⟨_,_,rfl,rfl,by assumption,rfl⟩
    · cases e
  · cases e
theorem OpT.int {X:Cx} {f:Value→Value→Sem Value} {C:Int→Int→Prop} {g:Int→Int→V} {C':Int→Int→Bool} {g':Int→Int→D} (h:OpR X f (rI C g)) (hC:∀ i j,C' i j = true→C i j) (hg:∀ i j H,RD X.K H (g i j) (g' i j)):OpT X f (oInt C' g'):=by
  refine .of h fun H x y tx ty t g1 g2 Q r1 r2 e q=>?_
  obtain ⟨i,j,rfl,rfl,hc,rfl⟩:=oInt_inv e
  exact ⟨i,j,r1.int,r2.int,hC _ _ hc,q _ H _ (.vl (hg i j H)) (Nw.refl H)⟩
theorem rI_of0 {X:Cx} {f:Value→Value→Sem Value} {g:Int→Int→V} (h:OpR X f (rI0 g)):OpR X f (rI (fun _ _=>True) g):=by
  intro pins s σ H x y v u Q I rx ry ⟨i,j,e1,e2,_,q⟩
  exact h pins s σ H x y v u Q I rx ry ⟨i,j,e1,e2,q⟩
theorem OpT.int0 {X:Cx} {f:Value→Value→Sem Value} {g:Int→Int→V} {g':Int→Int→D} (h:OpR X f (rI0 g)) (hg:∀ i j H,RD X.K H (g i j) (g' i j)):OpT X f (oInt (fun _ _=>true) g'):=
  .int (rI_of0 h) (fun _ _ _=>True.intro) hg
def oCatS:T→T→Option T
  | .val (.str a),.val (.str b)=>if a.length + b.length≤sizeLine then some (.val (.str (a ++ b))) else none
  | _,_=>none
def oCatT:T→T→Option T
  | .val (.tup xs),.val (.tup ys)=>if xs.length + ys.length≤sizeLine then some (.val (.tup (xs ++ ys))) else none
  | _,_=>none
def oCatL (x y:T):Option T:=match x.ls,y.ls with
  | some xs,some ys=>if xs.length + ys.length≤sizeLine then some (.lst (xs ++ ys)) else none
  | _,_=>none
section
variable {X:Cx}
theorem ot_catS:OpT X (binaryOp .Add) oCatS:=by
  refine .of op_add_str fun H x y tx ty t g1 g2 Q r1 r2 e q=>?_
  unfold oCatS at e
  split at e
  · split at e
    · cases e; exact ⟨_,_,r1.str,r2.str,by assumption,q _ H _ (.vl (.str _)) (Nw.refl H)⟩
    · cases e
  · cases e
theorem ot_catT:OpT X (binaryOp .Add) oCatT:=by
  refine .of op_catA fun H x y tx ty t g1 g2 Q r1 r2 e q=>?_
  unfold oCatT at e
  split at e
  · split at e
    · rename_i xs ys hz
      cases e
      obtain ⟨a,vs,rfl,s1,d1⟩:=r1.tup
      obtain ⟨b,ws,rfl,s2,d2⟩:=r2.tup
      refine ⟨a,b,vs,ws,rfl,rfl,s1,s2,by rw [d1.length,d2.length]; exact hz,fun e=>?_,fun _ e=>?_,fun _ _ p hp=>?_⟩
      · subst e
        cases d1
        exact q _ H _ (.vl (.tup s2 d2)) (Nw.refl H)
      · subst e
        cases d2
        rw [List.append_nil] at q
        exact q _ H _ (.vl (.tup s1 d1)) (Nw.refl H)
      · have st:Stb H (upd H p (.tup (vs ++ ws))):=.fresh hp
        exact q _ _ _ (.vl (.tup (.of upd_same) ((d1.stb st).append (d2.stb st)))) (Nw.laid0 hp)
    · cases e
  · cases e
def rCatS (K:PySem.W.Frag):R2:=fun x y H Q=>∃ l b xs zs,x = .ref l∧y = .ref b∧SqL K H l xs∧SqL K H b zs∧xs.length + zs.length≤sizeLine∧∀ p,H p = none→Q (.ref p) (upd H p (.lst (xs ++ zs)))
theorem op_catS:OpR X (binaryOp .Add) (rCatS X.K):=by
  rintro pins s σ H _ _ v u Q I rx ry ⟨l,b,xs,zs,rfl,rfl,pL,pB,hz,q⟩
  cases rx; cases ry
  obtain ⟨us,r,⟨⟨_,_,_,sl⟩,n,e,c1,c2,c3⟩,_⟩:=I.list pL
  obtain ⟨ws,r2,⟨⟨_,_,_,sl2⟩,n2,e2,k1,k2,k3⟩,_⟩:=I.list pB
  simp only at c1 c2 c3 k1 k2 k3
  subst c1 c2 c3 k1 k2 k3
  have fits:us.toArray.size + ws.toArray.size≤sizeLine:=by rw [List.size_toArray,List.size_toArray,← r.length,← r2.length]; exact hz
  refine concat_meets ⟨_,e,rfl⟩ ⟨_,e2,rfl⟩ noFill_list_add seq_list_add PySem.F.slot_list_add PySem.F.entry_list_add (PySem.F.args_list_add_2 _ _) (list_addW l b us.toArray ws.toArray n n2 none none sl sl2 fits) ⟨e,e2,?_⟩
  rw [show us.toArray ++ ws.toArray = (us ++ ws).toArray by simp]
  exact ⟨.ref _,_,I.lnew (t':=s.toks) (r.append r2) (by rw [List.length_append]; exact hz),rfl,q _ (I.fresh)⟩
theorem ot_catL:OpT X (binaryOp .Add) oCatL:=by
  refine .of op_catS fun H x y tx ty t g1 g2 Q r1 r2 e q=>?_
  unfold oCatL at e
  split at e
  · split at e
    · rename_i xs ys ex ey hz
      cases e
      obtain ⟨a,vs,rfl,s1,d1⟩:=r1.ls ex
      obtain ⟨b,ws,rfl,s2,d2⟩:=r2.ls ey
      refine ⟨a,b,vs,ws,rfl,rfl,s1,s2,by rw [d1.length,d2.length]; exact hz,fun p hp=>?_⟩
      have st:Stb H (upd H p (.lst (vs ++ ws))):=.fresh hp
      exact q _ _ _ (.lst upd_same ((d1.stb st).append (d2.stb st)) fun _=>rfl) (Nw.laid hp)
    · cases e
  · cases e
def oAdd:T→T→Option T:=oOr (oInt (fun _ _=>true) fun i j=>.int (i + j)) (oOr oCatS (oOr oCatT oCatL))
theorem ot_add:OpT X (binaryOp .Add) oAdd:=.or (.int0 op_add fun _ _ _=>.int _) (.or ot_catS (.or ot_catT ot_catL))
def oSub:T→T→Option T:=oInt (fun _ _=>true) fun i j=>.int (i - j)
def mulOk (i j:Int):Bool:=decide (i.natAbs.log2 + j.natAbs.log2 < 1000000)
theorem mulOk_of (i j:Int) (h:mulOk i j = true):CMulW i j:=show i.natAbs.log2 + j.natAbs.log2 < 1000000 from of_decide_eq_true h
def oRepT:T→T→Option T
  | .val (.tup xs),.val (.int k)=>if xs ≠ []∧2≤k∧k≤1000∧xs.length≤1000 then some (.val (.tup (List.replicate k.toNat xs).flatten)) else none
  | _,_=>none
def oRepL (x y:T):Option T:=match x,y with
  | .lst xs,.val (.int k)=>if -(2 ^ 63)≤k∧k < 2 ^ 63∧xs.length * k.toNat≤sizeLine then some (.lst (List.replicate k.toNat xs).flatten) else none
  | _,_=>none
theorem RDs.rep {K:PySem.W.Frag} {H:Hp} {vs:List V} {ds:List D} (h:RDs K H vs ds):∀ n:Nat,RDs K H (List.replicate n vs).flatten (List.replicate n ds).flatten
  | 0=>.nil
  | n + 1=>by rw [List.replicate_succ,List.replicate_succ,List.flatten_cons,List.flatten_cons]; exact h.append (RDs.rep h n)
theorem ot_repT:OpT X (binaryOp .Mult) oRepT:=by
  refine .of op_repT fun H x y tx ty t g1 g2 Q r1 r2 e q=>?_
  unfold oRepT at e
  split at e
  · split at e
    · rename_i xs k hc
      cases e
      obtain ⟨h1,h2,h3,h4⟩:=hc
      obtain ⟨a,vs,rfl,s1,d1⟩:=r1.tup
      refine ⟨a,k,vs,rfl,r2.int,s1,fun e=>h1 ?_,h2,h3,by rw [d1.length]; exact h4,fun p hp=>?_⟩
      · subst e; cases d1; rfl
      · exact q _ _ _ (.vl (.tup (.of upd_same) ((d1.rep _).stb (.fresh hp)))) (Nw.laid0 hp)
    · cases e
  · cases e
theorem ot_repL:OpT X (binaryOp .Mult) oRepL:=by
  refine .of op_rep fun H x y tx ty t g1 g2 Q r1 r2 e q=>?_
  unfold oRepL at e
  split at e
  · split at e
    · rename_i xs k hc
      cases e
      obtain ⟨h1,h2,h3⟩:=hc
      cases r1 with
      | lst e1 d1 z=>
        refine ⟨_,k,_,rfl,r2.int,e1,h1,h2,by rw [d1.length]; exact h3,fun p hp=>?_⟩
        exact q _ _ _ (.lst upd_same ((d1.rep _).stb (.fresh hp)) fun _=>rfl) (Nw.laid hp)
    · cases e
  · cases e
def oMul:T→T→Option T:=oOr (oInt mulOk fun i j=>.int (i * j)) (oOr oRepT oRepL)
theorem ot_mul:OpT X (binaryOp .Mult) oMul:=.or (.int op_mulW mulOk_of fun _ _ _=>.int _) (.or ot_repT ot_repL)
def CDivA (i j:Int):Prop:=j ≠ 0∧Builtin.divisionGoesByPylong i j = false
def divOk (i j:Int):Bool:=decide (j ≠ 0) && !Builtin.divisionGoesByPylong i j
theorem divOk_of (i j:Int) (h:divOk i j = true):CDivA i j:=by
  unfold divOk at h
  rw [Bool.and_eq_true,Bool.not_eq_true'] at h
  exact ⟨of_decide_eq_true h.1,h.2⟩
theorem op_fdivA:OpR X (binaryOp .FloorDiv) (rI CDivA fun i j=>.int (i.fdiv j)):=opI fun i j _ _ _ _ _ hc q=>floordiv_int hc.1 q (.inl hc.2)
def oDiv:T→T→Option T:=oInt divOk fun i j=>.int (i.fdiv j)
theorem ot_div:OpT X (binaryOp .FloorDiv) oDiv:=.int op_fdivA divOk_of fun _ _ _=>.int _
def oMod:T→T→Option T:=oInt (fun _ j=>decide (j ≠ 0)) fun i j=>.int (i.fmod j)
theorem ot_mod:OpT X (binaryOp .Mod) oMod:=.int op_modN (fun i j h=>of_decide_eq_true h) fun _ _ _=>.int _
def powOk (i j:Int):Bool:=decide (0≤j∧j≤1000000∧i.natAbs < 2 ^ 64)
theorem powOk_of (i j:Int) (h:powOk i j = true):CPow i j:=show 0≤j∧j≤1000000∧i.natAbs < 2 ^ 64 from of_decide_eq_true h
def oPow:T→T→Option T:=oInt powOk fun i j=>.int (i ^ j.toNat)
theorem ot_pow:OpT X (binaryOp .Pow) oPow:=.int op_pow powOk_of fun _ _ _=>.int _
def oEq:T→T→Option T
  | .val a,.val b=>if min a.dep b.dep≤63 then some (.val (.bl (D.eqv a b))) else none
  | x,y=>match x.ls,y.ls with
    | some xs,some ys=>if min (D.lst xs).dep (D.lst ys).dep≤63 then some (.val (.bl (D.eqv (.lst xs) (.lst ys)))) else none
    | _,_=>none
def oNe:T→T→Option T
  | .val a,.val b=>if min a.dep b.dep≤63 then some (.val (.bl (!D.eqv a b))) else none
  | x,y=>match x.ls,y.ls with
    | some xs,some ys=>if min (D.lst xs).dep (D.lst ys).dep≤63 then some (.val (.bl (!D.eqv (.lst xs) (.lst ys)))) else none
    | _,_=>none
theorem RT.dp {K:PySem.W.Frag} {H:Hp} {v:V} {t:T} {g:Fp} {xs:List D} (h:RT K H v t g) (e:t.ls = some xs):Dp K H v (D.lst xs).py:=by
  obtain ⟨a,vs,rfl,q,r⟩:=h.ls e
  unfold D.py
  exact .lst q r.dp
theorem eqD_run {pins:List (Addr×Obj)} {s:Shared} {σ:L2.St} {H:Hp} {x y:V} {v u:Value} {a b:D} {Q:VK} (hu:X.A.units + 64 < cLine) (I:Inv X pins σ H s) (rx:RelV x v) (ry:RelV y u) (h1:Dp X.K H x a.py) (h2:Dp X.K H y b.py) (hd:min a.dep b.dep≤63)
    (q:Q (.bl (D.eqv a b)) H):wpAny (model X.prog X.w) X.A (compareOp .Eq v u) (EP X pins σ Q) X.xe s:=by
  obtain ⟨as,e1⟩:=Dp.reads I _ x v h1 rx
  obtain ⟨bs,e2⟩:=Dp.reads I _ y u h2 ry
  have hd:min a.py.depth b.py.depth≤63:=hd
  exact SeqAt.eq_plain e1 e2 a.plain b.plain (by omega) ⟨.bl _,H,I,rfl,q⟩
theorem neD_run {pins:List (Addr×Obj)} {s:Shared} {σ:L2.St} {H:Hp} {x y:V} {v u:Value} {a b:D} {Q:VK} (hu:X.A.units + 64 < cLine) (I:Inv X pins σ H s) (rx:RelV x v) (ry:RelV y u) (h1:Dp X.K H x a.py) (h2:Dp X.K H y b.py) (hd:min a.dep b.dep≤63)
    (q:Q (.bl (!D.eqv a b)) H):wpAny (model X.prog X.w) X.A (compareOp .NotEq v u) (EP X pins σ Q) X.xe s:=by
  obtain ⟨as,e1⟩:=Dp.reads I _ x v h1 rx
  obtain ⟨bs,e2⟩:=Dp.reads I _ y u h2 ry
  have hd:min a.py.depth b.py.depth≤63:=hd
  exact SeqAt.ne_plain e1 e2 a.plain b.plain (by omega) ⟨.bl _,H,I,rfl,q⟩
theorem ot_eq (hu:X.A.units + 64 < cLine):OpT X (compareOp .Eq) oEq:=by
  intro pins s σ H x y v u tx ty t g1 g2 Q I rx ry r1 r2 e q
  unfold oEq at e
  split at e
  · split at e
    · cases e; exact eqD_run hu I rx ry r1.un.dp r2.un.dp (by assumption) (q _ H _ (.vl (.bl _)) (Nw.refl H))
    · cases e
  · split at e
    · rename_i ex ey
      split at e
      · cases e; exact eqD_run hu I rx ry (r1.dp ex) (r2.dp ey) (by assumption) (q _ H _ (.vl (.bl _)) (Nw.refl H))
      · cases e
    · cases e
theorem ot_ne (hu:X.A.units + 64 < cLine):OpT X (compareOp .NotEq) oNe:=by
  intro pins s σ H x y v u tx ty t g1 g2 Q I rx ry r1 r2 e q
  unfold oNe at e
  split at e
  · split at e
    · cases e; exact neD_run hu I rx ry r1.un.dp r2.un.dp (by assumption) (q _ H _ (.vl (.bl _)) (Nw.refl H))
    · cases e
  · split at e
    · rename_i ex ey
      split at e
      · cases e; exact neD_run hu I rx ry (r1.dp ex) (r2.dp ey) (by assumption) (q _ H _ (.vl (.bl _)) (Nw.refl H))
      · cases e
    · cases e
def oStrC (g:Str→Str→Bool):T→T→Option T
  | .val (.str a),.val (.str b)=>some (.val (.bl (g a b)))
  | _,_=>none
theorem OpT.strC {f:Value→Value→Sem Value} {g:Str→Str→Bool} (h:OpR X f (fun x y H Q=>∃ i j,x = .str i∧y = .str j∧Q (.bl (g i j)) H)):OpT X f (oStrC g):=by
  refine .of h fun H x y tx ty t g1 g2 Q r1 r2 e q=>?_
  unfold oStrC at e
  split at e
  · cases e; exact ⟨_,_,r1.str,r2.str,q _ H _ (.vl (.bl _)) (Nw.refl H)⟩
  · cases e
def oLt:T→T→Option T:=oOr (oInt (fun _ _=>true) fun i j=>.bl (decide (i < j))) (oStrC fun a b=>decide (a.cps.toList < b.cps.toList))
theorem ot_lt:OpT X (compareOp .Lt) oLt:=.or (.int0 op_lt fun _ _ _=>.bl _) (.strC op_lt_str)
def oLe:T→T→Option T:=oOr (oInt (fun _ _=>true) fun i j=>.bl (decide (i≤j))) (oStrC fun a b=>!decide (b.cps.toList < a.cps.toList))
def oGt:T→T→Option T:=oInt (fun _ _=>true) fun i j=>.bl (decide (j < i))
theorem ot_gt:OpT X (compareOp .Gt) oGt:=.int0 op_gt fun _ _ _=>.bl _
def oGe:T→T→Option T:=oInt (fun _ _=>true) fun i j=>.bl (decide (j≤i))
theorem ot_ge:OpT X (compareOp .GtE) oGe:=.int0 op_ge fun _ _ _=>.bl _
end
end DL
namespace DL
open PySem PySem.Spec PyProof.Rows L2
theorem z_le (g h:Fp):∀ b,h b≤g b + h b:=fun b=>Nat.le_add_left _ _
section
variable {α β γ δ:Type} {K:PySem.W.Frag} {ϖ:Pend} {W:WX} {Rl:Hp→β→α→Fp→Prop} {Rm:Hp→δ→γ→Fp→Prop} {σv:L2.St} {H H' H0:Hp} {f g h f0:Fp} {r:R α}
theorem evP {F:S→R α} {k:α→S→R γ} {σ:S} {P:Hp→Prop} {Q:δ→Hp→Prop} (hP:∀ H',Stb H H'→(∀ b o,g b ≠ 0→H b = some o→H' b = some o)→P H') (own:OwnFp H g) (hs:RS K ϖ H σv σ h) (nd:Nd fun b=>g b + h b)
    (q:Post K ϖ W Rm σv ((F σ).bind k) H (fun b=>g b + h b) Q):
    tX K ϖ W Rl F σv H (fun u H2=>∃ t2 g2 σ2 h2,Rl H2 u t2 g2∧P H2∧OwnFp H2 g∧RS K ϖ H2 σv σ2 h2∧Nd (fun b=>g b + (g2 b + h2 b))∧Post K ϖ W Rm σv (k t2 σ2) H2 (fun b=>g b + (g2 b + h2 b)) Q):=by
  refine ⟨σ,h,hs,nd.le fun b=>by show h b≤g b + h b; omega,?_⟩
  cases e:F σ with
  | stuck=>rw [e] at q; exact q
  | exc C xs σ'=>
    rw [e] at q
    exact fun d vs' H' h' a b c n w=>q d vs' H' h' a b c n ((w.beside (g:=g)).le fun b=>by show h' b≤g b + h' b; omega)
  | ok t2 σ2=>
    rw [e] at q
    intro v H2 g2 h2 a b n w
    have w':=w.beside (g:=g)
    have kp:∀ b o,g b ≠ 0→H b = some o→H2 b = some o:=fun b o hb e=>w.keep b o e (by have:=nd b; have:g b + h b≤1:=this; omega)
    refine ⟨t2,g2,σ2,h2,a,hP H2 w.stb kp,fun b hb=>?_,b,w.apart own nd n,q.fr w'⟩
    obtain ⟨o,eo,wo⟩:=own b hb
    exact ⟨o,kp b o hb eo,wo⟩
end
abbrev G:=Sum Nat T
inductive RO (K:PySem.W.Frag) (σv:L2.St) (H:Hp):V→G→Fp→Prop
  | ref {i:Nat} {v:V} {f:Fp}:σv[i]? = some (some v)→(∀ b,f b = 0)→RO K σv H v (.inl i) f
  | tmp {v:V} {t:T} {f:Fp}:RT K H v t f→RO K σv H v (.inr t) f
inductive ROs (K:PySem.W.Frag) (σv:L2.St) (H:Hp):List V→List G→Fp→Prop
  | nil {f:Fp}:(∀ b,f b = 0)→ROs K σv H [] [] f
  | cons {v:V} {vs:List V} {x:G} {xs:List G} {f g h:Fp}:RO K σv H v x g→ROs K σv H vs xs h→(∀ b,f b = g b + h b)→ROs K σv H (v :: vs) (x :: xs) f
section
variable {K:PySem.W.Frag} {σv:L2.St} {H H':Hp}
theorem RO.own {v:V} {x:G} {f:Fp} (h:RO K σv H v x f):OwnFp H f:=by
  cases h with
  | ref _ z=>exact fun b h=>absurd (z b) h
  | tmp r=>exact r.own
theorem RO.keep (s:Stb H H') {v:V} {x:G} {f:Fp} (h:RO K σv H v x f) (k:∀ b o,f b ≠ 0→H b = some o→H' b = some o):RO K σv H' v x f:=by
  cases h with
  | ref e z=>exact .ref e z
  | tmp r=>exact .tmp (r.keep s k)
theorem ROs.own:∀ {vs:List V} {xs:List G} {f:Fp},ROs K σv H vs xs f→OwnFp H f
  | _,_,_,.nil z=>fun b h=>absurd (z b) h
  | _,_,f,.cons (g:=g) (h:=h) q r z=>fun b hb=>by
    by_cases hg:g b = 0
    · exact r.own b (by rw [z b] at hb; omega)
    · exact q.own b hg
theorem ROs.keep (s:Stb H H'):∀ {vs:List V} {xs:List G} {f:Fp},ROs K σv H vs xs f→(∀ b o,f b ≠ 0→H b = some o→H' b = some o)→ROs K σv H' vs xs f
  | _,_,_,.nil z,_=>.nil z
  | _,_,f,.cons (g:=g) (h:=h) q r z,k=>.cons (q.keep s fun b o hb=>k b o (by rw [z b]; omega)) (ROs.keep s r fun b o hb=>k b o (by rw [z b]; omega)) z
theorem ROs.length:∀ {vs:List V} {xs:List G} {f:Fp},ROs K σv H vs xs f→vs.length = xs.length
  | _,_,_,.nil _=>rfl
  | _,_,_,.cons _ r _=>by rw [List.length_cons,List.length_cons,ROs.length r]
end
def look (σ:S) (i:Nat):Option T:=match σ[i]? with
  | some o=>o
  | none=>none
theorem look_some {σ:S} {i:Nat} {t:T} (h:look σ i = some t):σ[i]? = some (some t):=by
  unfold look at h
  split at h
  · rename_i o e; rw [e,h]
  · cases h
def rdG:G→S→Option T
  | .inl i,σ=>look σ i
  | .inr t,_=>some t
def rds:List G→S→Option (List T)
  | [],_=>some []
  | x :: xs,σ=>match rdG x σ,rds xs σ with
    | some t,some ts=>some (t :: ts)
    | _,_=>none
section
variable {K:PySem.W.Frag} {ϖ:Pend} {σv:L2.St} {H H':Hp} {σ:S} {h:Fp}
theorem RO.rd {v:V} {x:G} {f:Fp} {t:T} (r:RO K σv H v x f) (hs:RS K ϖ H σv σ h) (e:rdG x σ = some t):∃ g,RT K H v t g:=by
  cases r with
  | tmp r=>cases e; exact ⟨_,r⟩
  | @ref i _ _ ev z=>
    have e:look σ i = some t:=e
    obtain ⟨v',g,h',ev',q,_,_⟩:=hs.out (look_some e)
    rw [ev] at ev'; cases ev'
    exact ⟨g,q⟩
theorem ROs.rds {hs:RS K ϖ H σv σ h}:∀ {vs:List V} {xs:List G} {f:Fp} {ts:List T},ROs K σv H vs xs f→DL.rds xs σ = some ts→∃ g,RTs K H vs ts g
  | _,_,_,_,.nil _,e=>by cases e; exact ⟨fun _=>0,.nil fun _=>rfl⟩
  | _,x :: xs,_,ts,.cons q r _,e=>by
    unfold DL.rds at e
    split at e
    · rename_i t us e1 e2
      cases e
      obtain ⟨g1,r1⟩:=q.rd hs e1
      obtain ⟨g2,r2⟩:=ROs.rds (hs:=hs) r e2
      exact ⟨fun b=>g1 b + g2 b,.cons r1 r2 fun _=>rfl⟩
    · cases e
end
section
variable {X:Cx} {ϖ:Pend} {W:WX} {e a b c:Expr} {es:List Expr} {F Fa Fb Fc:S→R T} {A B C:S→R G} {As:S→R (List G)} {pos:Pos}
def tG (K:PySem.W.Frag) (ϖ:Pend) (W:WX) (A:S→R G):TE:=fun σv H Q=>tX K ϖ W (RO K σv) A σv H Q
def tGs (K:PySem.W.Frag) (ϖ:Pend) (W:WX) (A:S→R (List G)):TA:=fun σv H Q=>tX K ϖ W (ROs K σv) A σv H Q
def DG (X:Cx) (ϖ:Pend) (W:WX) (e:Expr) (A:S→R G):Prop:=PE X e (tG X.K ϖ W A)
def DGs (X:Cx) (ϖ:Pend) (W:WX) (es:List Expr) (A:S→R (List G)):Prop:=PA X es (tGs X.K ϖ W A)
def gN (i:Nat):S→R G:=fun σ=>match σ[i]? with
  | some (some _)=>.ok (.inl i) σ
  | _=>.stuck
def gE (F:S→R T):S→R G:=fun σ=>(F σ).bind fun t σ1=>.ok (.inr t) σ1
theorem g_name {i:Nat} (h:PE X e (tVar i)):DG X ϖ W e (gN i):=by
  refine PE.imp h fun σv H Q ⟨σ,f,hs,n,p⟩=>?_
  unfold gN at p
  split at p
  · rename_i t et
    obtain ⟨v,g,h',ev,q,r,z⟩:=hs.out et
    exact ⟨v,ev,p v H (fun _=>0) f (.ref ev fun _=>rfl) hs (n.le fun b=>by show 0 + f b≤f b; omega) ((Fr.refl H f).le fun b=>by show 0 + f b≤f b; omega)⟩
  · exact p.elim
theorem g_e (h:DE X ϖ W e F):DG X ϖ W e (gE F):=
  PE.imp h fun σv H Q q=>by
    refine (ev0 (Rl:=RV X.K) (Rm:=RO X.K σv) (F:=F) (k:=fun t σ1=>R.ok (Sum.inr t) σ1) q).mono fun v H1 ⟨t,g,σ,h,a,b,n,p⟩=>?_
    exact p v H1 g h (.tmp a) b n (Fr.refl _ _)
def gNil:S→R (List G):=fun σ=>.ok [] σ
def gCons (A:S→R G) (As:S→R (List G)):S→R (List G):=fun σ=>(A σ).bind fun x σ1=>(As σ1).bind fun xs σ2=>.ok (x :: xs) σ2
theorem gs_nil:DGs X ϖ W [] gNil:=PA.imp pa_nil fun σv H Q ⟨σ,f,hs,n,p⟩=>by
  have p:Post X.K ϖ W (ROs X.K σv) σv (.ok [] σ) H f Q:=p
  exact p [] H (fun _=>0) f (.nil fun _=>rfl) hs (n.le fun b=>by show 0 + f b≤f b; omega) ((Fr.refl H f).le fun b=>by show 0 + f b≤f b; omega)
theorem gs_cons (ha:DG X ϖ W e A) (hr:DGs X ϖ W es As) (hs:starEach (e :: es) X.env = (false,eval e X.env) :: starEach es X.env:=by rfl):DGs X ϖ W (e :: es) (gCons A As):=by
  refine PA.imp (pa_cons ha hr hs) fun σv H Q q=>?_
  refine (ev0 (Rl:=RO X.K σv) (Rm:=ROs X.K σv) (F:=A) (k:=fun x σ1=>(As σ1).bind fun xs σ2=>.ok (x :: xs) σ2) q).mono fun v H1 ⟨x,g,σ,h,a,b,n,p⟩=>?_
  refine (evP (Rl:=ROs X.K σv) (Rm:=ROs X.K σv) (P:=fun H2=>RO X.K σv H2 v x g) (fun H2 s k=>RO.keep s a k) (RO.own a) b n p).mono fun vs H2 ⟨xs,g2,σ2,h2,r2,r1,_,s2,n2,p2⟩=>?_
  have p2:Post X.K ϖ W (ROs X.K σv) σv (.ok (x :: xs) σ2) H2 (fun b=>g b + (g2 b + h2 b)) Q:=p2
  refine p2 (v :: vs) H2 (fun b=>g b + g2 b) h2 (.cons r1 r2 fun _=>rfl) s2 (n2.le fun b=>by show g b + g2 b + h2 b≤g b + (g2 b + h2 b); omega) ((Fr.refl _ _).le fun b=>by show g b + g2 b + h2 b≤g b + (g2 b + h2 b); omega)
def lift (o:Option T) (σ:S):R T:=match o with
  | some t=>.ok t σ
  | none=>.stuck
def op2 (o:T→T→Option T) (x y:G) (σ:S):R T:=match rdG x σ,rdG y σ with
  | some t,some u=>lift (o t u) σ
  | _,_=>.stuck
def eB (o:T→T→Option T) (A B:S→R G):S→R T:=fun σ=>(A σ).bind fun x σ1=>(B σ1).bind fun y σ2=>op2 o x y σ2
theorem bin_end {K:PySem.W.Frag} {o:T→T→Option T} {v u:V} {x y:G} {σv:L2.St} {σ:S} {H:Hp} {g1 g2 h f:Fp} {Q:VK} (r1:RO K σv H v x g1) (r2:RO K σv H u y g2) (hs:RS K ϖ H σv σ h) (nh:Nd h) (hf:∀ b,h b≤f b)
    (p:Post K ϖ W (RV K) σv (op2 o x y σ) H f Q):rT K o v u H Q:=by
  unfold op2 at p
  split at p
  · rename_i t1 t2 e1 e2
    obtain ⟨f1,q1⟩:=r1.rd hs e1
    obtain ⟨f2,q2⟩:=r2.rd hs e2
    unfold lift at p
    cases e:o t1 t2 with
    | none=>rw [e] at p; exact p.elim
    | some t=>
      rw [e] at p
      exact ⟨t1,t2,t,f1,f2,q1,q2,e,fun z H' g q n=>p.fin n q hs nh hf⟩
  · exact p.elim
theorem tOp_of {K:PySem.W.Frag} {o:T→T→Option T} {σv:L2.St} {H:Hp} {Q:VK} (h:tE K ϖ W (eB o A B) σv H Q):tOp (rT K o) (tG K ϖ W A) (tG K ϖ W B) σv H Q:=by
  refine (ev0 (Rl:=RO K σv) (Rm:=RV K) (F:=A) (k:=fun x σ1=>(B σ1).bind fun y σ2=>op2 o x y σ2) h).mono fun v H1 ⟨x,g1,σ1,h1,r1,s1,n1,p1⟩=>?_
  refine (evP (Rl:=RO K σv) (Rm:=RV K) (P:=fun H2=>RO K σv H2 v x g1) (fun H2 s k=>RO.keep s r1 k) (RO.own r1) s1 n1 p1).mono fun u H2 ⟨y,g2,σ2,h2,r2,r1',_,s2,n2,p2⟩=>?_
  exact bin_end r1' r2 s2 (n2.le fun b=>by show h2 b≤g1 b + (g2 b + h2 b); omega) (fun b=>by show h2 b≤g1 b + (g2 b + h2 b); omega) p2
theorem d_bin {op:Operator} {o:T→T→Option T} (ho:OpT X (binaryOp op) o) (ha:DG X ϖ W a A) (hb:DG X ϖ W b B):DE X ϖ W (.BinOp a op b pos) (eB o A B):=
  (pe_op ho.r ha hb).imp fun σv H Q h=>tOp_of h
theorem d_cmp {op:CmpOp} {o:T→T→Option T} (ho:OpT X (compareOp op) o) (ha:DG X ϖ W a A) (hb:DG X ϖ W b B) (hm:behindInMarks op b = false:=by first | exact nomark _ (by decide) (by decide) | rfl):DE X ϖ W (.Compare a [op] [b] pos) (eB o A B):=
  (pe_cmpR ho.r ha hb hm).imp fun σv H Q h=>tOp_of h
def eCh (o o':T→T→Option T) (A B C:S→R G):S→R T:=fun σ=>(A σ).bind fun x σ1=>(B σ1).bind fun y σ2=>(op2 o x y σ2).bind fun z σ3=>match z with
  | .val (.bl true)=>(C σ3).bind fun u σ4=>op2 o' y u σ4
  | .val (.bl false)=>.ok (.val (.bl false)) σ3
  | _=>.stuck
theorem _root_.L2.PE.or {t t':TE} (h:PE X e t) (h':PE X e t'):PE X e (fun σ H Q=>t σ H Q∨t' σ H Q):=
  ⟨fun pins s σ H Q I w=>w.elim (h.run pins s σ H Q I) (h'.run pins s σ H Q I)⟩
def UnT (X:Cx) (f:Value→Sem Value) (o:T→Option T):Prop:=
  ∀ (pins:List (Addr×Obj)) (s:Shared) (σ:L2.St) (H:Hp) (x:V) (v:Value) (tx t:T) (g1:Fp) (Q:VK),Inv X pins σ H s→RelV x v→RT X.K H x tx g1→o tx = some t→
    (∀ z H' g,RT X.K H' z t g→Nw H H' g→Q z H')→wpAny (model X.prog X.w) X.A (f v) (EP X pins σ Q) X.xe s
def oNeg:T→Option T
  | .val (.int i)=>some (.val (.int (-i)))
  | _=>none
theorem ut_neg:UnT X (unaryOp .USub) oNeg:=by
  intro pins s σ H x v tx t g1 Q I rx r1 e q
  unfold oNeg at e
  split at e
  · cases e
    exact un_neg pins s σ H x v Q I rx ⟨_,r1.int,q _ H _ (.vl (.int _)) (Nw.refl H)⟩
  · cases e
def op1 (o:T→Option T) (x:G) (σ:S):R T:=match rdG x σ with
  | some t=>lift (o t) σ
  | _=>.stuck
def eU (o:T→Option T) (A:S→R G):S→R T:=fun σ=>(A σ).bind fun x σ1=>op1 o x σ1
theorem d_un {op:UnaryOp} {o:T→Option T} (ho:UnT X (unaryOp op) o) (ha:DG X ϖ W a A):DE X ϖ W (.UnaryOp op a pos) (eU o A):=by
  let r:V→Hp→VK→Prop:=fun x H Q=>∃ tx t g1,RT X.K H x tx g1∧o tx = some t∧∀ z H' g,RT X.K H' z t g→Nw H H' g→Q z H'
  have hr:UnR X (unaryOp op) r:=fun pins s σ H x v Q I rx ⟨tx,t,g1,r1,e,q⟩=>ho pins s σ H x v tx t g1 Q I rx r1 e q
  refine (pe_un hr ha).imp fun σv H Q h=>?_
  refine (ev0 (Rl:=RO X.K σv) (Rm:=RV X.K) (F:=A) h).mono fun v H1 ⟨x,g1,σ1,h1,r1,s1,n1,p1⟩=>?_
  unfold op1 at p1
  split at p1
  · rename_i t1 e1
    obtain ⟨f1,q1⟩:=RO.rd r1 s1 e1
    unfold lift at p1
    cases e:o t1 with
    | none=>rw [e] at p1; exact p1.elim
    | some t=>
      rw [e] at p1
      exact ⟨t1,t,f1,q1,e,fun z H' g q n=>p1.fin n q s1 (n1.le (z_le _ _)) (z_le _ _)⟩
  · exact p1.elim
def CallT (X:Cx) (f:Value) (o:List T→Option T):Prop:=
  ∀ (pins:List (Addr×Obj)) (s:Shared) (σ:L2.St) (H:Hp) (xs:List V) (us:List Value) (ts:List T) (t:T) (g1:Fp) (Q:VK),Inv X pins σ H s→Vals xs us→RTs X.K H xs ts g1→o ts = some t→
    (∀ z H' g,RT X.K H' z t g→Nw H H' g→Q z H')→wpAny (model X.prog X.w) X.A (call f us) (EP X pins σ Q) X.xe s
def rCT (K:PySem.W.Frag) (o:List T→Option T):List V→Hp→VK→Prop:=fun xs H Q=>∃ ts t g1,RTs K H xs ts g1∧o ts = some t∧∀ z H' g,RT K H' z t g→Nw H H' g→Q z H'
theorem CallT.r {f:Value} {o:List T→Option T} (h:CallT X f o):CallR X f (rCT X.K o):=fun pins s σ H xs us Q I r ⟨ts,t,g1,r1,e,q⟩=>h pins s σ H xs us ts t g1 Q I r r1 e q
theorem CallT.of {f:Value} {o:List T→Option T} {r:List V→Hp→VK→Prop} (h:CallR X f r)
    (i:∀ (H:Hp) (xs:List V) (ts:List T) (t:T) (g1:Fp) (Q:VK),RTs X.K H xs ts g1→o ts = some t→(∀ z H' g,RT X.K H' z t g→Nw H H' g→Q z H')→r xs H Q):CallT X f o:=
  fun pins s σ H xs us ts t g1 Q I rv r1 e q=>h pins s σ H xs us Q I rv (i H xs ts t g1 Q r1 e q)
def oOrs (o p:List T→Option T):List T→Option T:=fun x=>match o x with
  | some t=>some t
  | none=>p x
theorem CallT.or {f:Value} {o p:List T→Option T} (h:CallT X f o) (h':CallT X f p):CallT X f (oOrs o p):=by
  intro pins s σ H xs us ts t g1 Q I rv r1 e q
  unfold oOrs at e
  cases e1:o ts with
  | some t'=>rw [e1] at e; cases e; exact h pins s σ H xs us ts _ g1 Q I rv r1 e1 q
  | none=>rw [e1] at e; exact h' pins s σ H xs us ts _ g1 Q I rv r1 e q
def opL (o:List T→Option T) (xs:List G) (σ:S):R T:=match rds xs σ with
  | some ts=>lift (o ts) σ
  | _=>.stuck
def eCB (o:List T→Option T) (As:S→R (List G)):S→R T:=fun σ=>(As σ).bind fun xs σ1=>opL o xs σ1
theorem tCB_of {K:PySem.W.Frag} {o:List T→Option T} {σv:L2.St} {H:Hp} {Q:VK} (h:tE K ϖ W (eCB o As) σv H Q):tCB (rCT K o) (tGs K ϖ W As) σv H Q:=by
  refine (ev0 (Rl:=ROs K σv) (Rm:=RV K) (F:=As) (k:=fun xs σ1=>opL o xs σ1) h).mono fun vs H1 ⟨xs,g1,σ1,h1,r1,s1,n1,p1⟩=>?_
  unfold opL at p1
  split at p1
  · rename_i ts e1
    obtain ⟨f1,q1⟩:=ROs.rds (hs:=s1) r1 e1
    unfold lift at p1
    cases e:o ts with
    | none=>rw [e] at p1; exact p1.elim
    | some t=>
      rw [e] at p1
      exact ⟨ts,t,f1,q1,e,fun z H' g q n=>p1.fin n q s1 (n1.le (z_le _ _)) (z_le _ _)⟩
  · exact p1.elim
theorem d_callB {id:String} {o:List T→Option T} {x:Str} {p:Pos} (hc:CallT X (.builtin id) o) (hg:Gl X x) (hm:X.mg x = none) (hv:bootBuiltins x = some (.builtin id)) (ha:DGs X ϖ W (e :: es) As) (hn:x ≠ "__name__" := by decide) (hdb:(x == ("__debug__" : Str)) = false:=by decide)
    (he:starEach (e :: es) X.env = (false,eval e X.env) :: starEach es X.env:=by rfl) (hpl:(backTo pos (starEach es X.env)).any (·.1) = false:=by rfl):DE X ϖ W (.Call (.Name x p) (e :: es) [] pos) (eCB o As):=
  (pe_callB hc.r hg hm hv ha hn hdb he hpl).imp fun σv H Q h=>tCB_of h
theorem d_callTy {id:String} {o:List T→Option T} {x:Str} {p:Pos} (hc:CallT X (.type id) o) (hg:Gl X x) (hm:X.mg x = none) (hv:bootBuiltins x = some (.type id)) (ha:DGs X ϖ W (e :: es) As) (hn:x ≠ "__name__" := by decide) (hdb:(x == ("__debug__" : Str)) = false:=by decide)
    (he:starEach (e :: es) X.env = (false,eval e X.env) :: starEach es X.env:=by rfl) (hpl:(backTo pos (starEach es X.env)).any (·.1) = false:=by rfl):DE X ϖ W (.Call (.Name x p) (e :: es) [] pos) (eCB o As):=
  (pe_callTy hc.r hg hm hv ha hn hdb he hpl).imp fun σv H Q h=>tCB_of h
def vals?:List T→Option (List D)
  | []=>some []
  | .val d :: r=>(vals? r).map (d :: ·)
  | _=>none
theorem RTs.vals {K:PySem.W.Frag} {H:Hp}:∀ {vs:List V} {ts:List T} {f:Fp} {ds:List D},RTs K H vs ts f→vals? ts = some ds→RDs K H vs ds
  | _,_,_,_,.nil _,e=>by cases e; exact .nil
  | _,.val d :: ts,_,ds,.cons q r _,e=>by
    unfold vals? at e
    cases e1:vals? ts with
    | none=>rw [e1] at e; cases e
    | some es=>rw [e1] at e; cases e; exact .cons q.un (RTs.vals r e1)
def oTup (ts:List T):Option T:=match vals? ts with
  | some ds=>if ds.length≤sizeLine then some (.val (.tup ds)) else none
  | none=>none
def oLst (ts:List T):Option T:=match vals? ts with
  | some ds=>if ds.length≤sizeLine then some (.lst ds) else none
  | none=>none
theorem d_tup {x1:Nat} (ha:DGs X ϖ W es As):DE X ϖ W (.Tuple es x1 pos) (eCB oTup As):=by
  refine (pe_tup ha).imp fun σv H Q h=>?_
  refine tX.mono (tCB_of h) fun vs H1 ⟨ts,t,g1,r1,e,q⟩=>?_
  unfold oTup at e
  split at e
  · split at e
    · rename_i ds ed hz
      cases e
      have rd:=r1.vals ed
      exact ⟨by rw [rd.length]; exact hz,fun p hp=>q _ _ _ (.vl (.tup (.of upd_same) (rd.stb (.fresh hp)))) (Nw.laid0 hp)⟩
    · cases e
  · cases e
theorem d_lst (ha:DGs X ϖ W es As):DE X ϖ W (.List es pos) (eCB oLst As):=by
  refine (pe_lst ha).imp fun σv H Q h=>?_
  refine tX.mono (tCB_of h) fun vs H1 ⟨ts,t,g1,r1,e,q⟩=>?_
  unfold oLst at e
  split at e
  · split at e
    · rename_i ds ed hz
      cases e
      have rd:=r1.vals ed
      exact ⟨by rw [rd.length]; exact hz,fun p hp=>q _ _ _ (.lst upd_same (rd.stb (.fresh hp)) fun _=>rfl) (Nw.laid hp)⟩
    · cases e
  · cases e
def tst (t:T) (σ:S):R Bool:=match t with
  | .val (.bl b)=>.ok b σ
  | _=>.stuck
def bV (F:S→R T):S→R Bool:=fun σ=>(F σ).bind tst
theorem d_val (h:DE X ϖ W e F) (he:∀ whole,isTrue e X.env whole = (do let v ← whole; standAt e.pos; holding [v] (truthy v)):=by intro _; rfl):DT X ϖ W e (bV F):=by
  refine (pt_val h he).imp fun σv H Q q=>?_
  refine (ev0 (Rl:=RV X.K) (Rm:=RB) (F:=F) (k:=tst) q).mono fun v H1 ⟨t,g,σ,h1,r1,s1,n1,p1⟩=>?_
  unfold tst at p1
  split at p1
  · have r1:RT X.K H1 v _ g:=r1
    exact ⟨_,r1.bl,p1.finB s1 (n1.le (z_le _ _)) (z_le _ _)⟩
  · exact p1.elim
theorem d_cmpT {op:CmpOp} {o:T→T→Option T} (ho:OpT X (compareOp op) o) (ha:DG X ϖ W a A) (hb:DG X ϖ W b B) (hm:behindInMarks op b = false:=by first | exact nomark _ (by decide) (by decide) | rfl):DT X ϖ W (.Compare a [op] [b] pos) (bV (eB o A B)):=by
  refine (pt_cmpR ho.r ha hb hm).imp fun σv H Q q=>?_
  have q:tX X.K ϖ W RB (fun σ=>(eB o A B σ).bind tst) σv H Q:=q
  have q2:tE X.K ϖ W (eB o A B) σv H (fun x H'=>∃ k,x = .bl k∧Q k H'):=by
    refine (ev0 (Rl:=RV X.K) (Rm:=RB) (F:=eB o A B) (k:=tst) q).mono fun v H1 ⟨t,g,σ,h1,r1,s1,n1,p1⟩=>?_
    unfold tst at p1
    split at p1
    · have r1:RT X.K H1 v _ g:=r1
      exact ⟨_,r1.bl,p1.finB s1 (n1.le (z_le _ _)) (z_le _ _)⟩
    · exact p1.elim
  exact tOp_of q2
def truT:T→Option Bool
  | .val .non=>some false
  | .val (.bl b)=>some b
  | .val (.int i)=>some (i != 0)
  | .val (.str x)=>if x.length≤sizeLine then some ((x.length:Int) != 0) else none
  | .val (.tup xs)=>some (!xs.isEmpty)
  | .val (.lst xs)=>some (!xs.isEmpty)
  | .lst xs=>some (!xs.isEmpty)
  | .ll xs=>some (!xs.isEmpty)
  | _=>none
def tru (x:G) (σ:S):R Bool:=match rdG x σ with
  | some t=>(match truT t with
    | some b=>.ok b σ
    | none=>.stuck)
  | none=>.stuck
def bT (A:S→R G):S→R Bool:=fun σ=>(A σ).bind tru
theorem isEmpty_len {α β:Type} {xs:List α} {ys:List β} (h:xs.length = ys.length):(!ys.isEmpty) = !xs.isEmpty:=by
  cases xs with
  | nil=>cases ys with
    | nil=>rfl
    | cons _ _=>simp at h
  | cons _ _=>cases ys with
    | nil=>simp at h
    | cons _ _=>rfl
theorem RL.length {K:PySem.W.Frag} {H:Hp}:∀ {vs:List V} {xs:List (List D)} {f:Fp},RL K H vs xs f→vs.length = xs.length
  | _,_,_,.nil _=>rfl
  | _,_,_,.cons _ _ r _=>by rw [List.length_cons,List.length_cons,RL.length r]
theorem RT.tru {K:PySem.W.Frag} {H:Hp} {v:V} {t:T} {g:Fp} {b:Bool} (h:RT K H v t g) (e:truT t = some b):TruV K v H b:=by
  unfold truT at e
  split at e
  · cases e; cases h.un; rfl
  · cases e; cases h.un; exact rfl
  · cases e; cases h.un; exact rfl
  · split at e
    · cases e; cases h.un; exact ⟨by assumption,rfl⟩
    · cases e
  · cases e
    obtain ⟨a,vs,rfl,q,r⟩:=h.tup
    exact .inr (.inl ⟨vs,q,isEmpty_len r.length⟩)
  · cases e
    obtain ⟨a,vs,rfl,q,r⟩:=h.ls rfl
    exact .inl ⟨vs,q,isEmpty_len r.length⟩
  · cases e
    obtain ⟨a,vs,rfl,q,r⟩:=h.ls rfl
    exact .inl ⟨vs,q,isEmpty_len r.length⟩
  · cases e
    cases h with
    | ll q r z=>exact .inl ⟨_,.of q,isEmpty_len r.length⟩
  · cases e
theorem d_truth (ha:DG X ϖ W a A) (he:∀ whole,isTrue a X.env whole = (do let v ← whole; standAt a.pos; holding [v] (truthy v)):=by intro _; rfl):DT X ϖ W a (bT A):=by
  refine (pt_truth ha he).imp fun σv H Q q=>?_
  refine (ev0 (Rl:=RO X.K σv) (Rm:=RB) (F:=A) (k:=tru) q).mono fun v H1 ⟨x,g,σ,h1,r1,s1,n1,p1⟩=>?_
  unfold tru at p1
  split at p1
  · rename_i t e1
    obtain ⟨f1,q1⟩:=RO.rd r1 s1 e1
    split at p1
    · rename_i b eb
      exact ⟨b,q1.tru eb,p1.finB s1 (n1.le (z_le _ _)) (z_le _ _)⟩
    · exact p1.elim
  · exact p1.elim
def bNot (B:S→R Bool):S→R Bool:=fun σ=>(B σ).bind fun b σ1=>.ok (!b) σ1
def bAnd (B C:S→R Bool):S→R Bool:=fun σ=>(B σ).bind fun b σ1=>if b = true then C σ1 else .ok false σ1
def bOr (B C:S→R Bool):S→R Bool:=fun σ=>(B σ).bind fun b σ1=>if b = true then .ok true σ1 else C σ1
theorem evB {α β:Type} {K:PySem.W.Frag} {Rm:Hp→β→α→Fp→Prop} {B:S→R Bool} {k:Bool→S→R α} {σv:L2.St} {H:Hp} {Q:β→Hp→Prop} (q:tX K ϖ W Rm (fun σ=>(B σ).bind k) σv H Q):
    tT K ϖ W B σv H (fun b H2=>tX K ϖ W Rm (fun σ=>k b σ) σv H2 Q):=by
  refine (ev0 (Rl:=RB) (Rm:=Rm) (F:=B) (k:=k) q).mono fun b H1 ⟨c,g,σ,h1,⟨e,z⟩,s1,n1,p1⟩=>?_
  subst e
  have eg:(fun b=>g b + h1 b) = h1:=by funext b; rw [z b]; omega
  rw [eg] at n1 p1
  exact ⟨σ,h1,s1,n1,p1⟩
theorem tX_okB {K:PySem.W.Frag} {b:Bool} {σv:L2.St} {H:Hp} {Q:Bool→Hp→Prop} (q:tT K ϖ W (fun σ=>.ok b σ) σv H Q):Q b H:=by
  obtain ⟨σ,h,hs,n,p⟩:=q
  have p:Post K ϖ W RB σv (.ok b σ) H h Q:=p
  exact p.finB hs n fun _=>Nat.le_refl _
theorem d_not {B:S→R Bool} (h:DT X ϖ W a B):DT X ϖ W (.UnaryOp .Not a pos) (bNot B):=
  (pt_not h).imp fun σv H Q q=>tX.mono (evB (Rm:=RB) (B:=B) (k:=fun b σ1=>.ok (!b) σ1) q) fun b H1 p=>tX_okB p
theorem _root_.L2.PW.imp {t t':TT} (h:PW X e t) (i:∀ σ H Q,t' σ H Q→t σ H Q):PW X e t':=⟨fun wh pins s σ H Q I w=>h.run wh pins s σ H Q I (i _ _ _ w)⟩
def eAnd (F C:S→R T):S→R T:=fun σ=>(F σ).bind fun t σ1=>match t with
  | .val (.bl true)=>C σ1
  | .val (.bl false)=>.ok (.val (.bl false)) σ1
  | _=>.stuck
def eOr (F C:S→R T):S→R T:=fun σ=>(F σ).bind fun t σ1=>match t with
  | .val (.bl true)=>.ok (.val (.bl true)) σ1
  | .val (.bl false)=>C σ1
  | _=>.stuck
def eNot (F:S→R T):S→R T:=fun σ=>(F σ).bind fun t σ1=>match t with
  | .val (.bl b)=>.ok (.val (.bl (!b))) σ1
  | _=>.stuck
def eIf (B:S→R Bool) (F C:S→R T):S→R T:=fun σ=>(B σ).bind fun b σ1=>if b = true then F σ1 else C σ1
theorem d_ifE {B:S→R Bool} (hc:DT X ϖ W c B) (ha:DE X ϖ W a Fa) (hb:DE X ϖ W b Fb):DE X ϖ W (.IfExp c a b pos) (eIf B Fa Fb):=
  (pe_ifExp hc ha hb).imp fun σv H Q q=>tX.mono (evB (Rm:=RV X.K) (B:=B) (k:=fun b σ1=>if b = true then Fa σ1 else Fb σ1) q) fun b H1 p=>by
    cases b with
    | true=>exact p
    | false=>exact p
def oIx (x y:T):Option T:=match x,y with
  | .val (.tup xs),.val (.int i)=>(atI xs i).map .val
  | .val (.lst xs),.val (.int i)=>(atI xs i).map .val
  | .lst xs,.val (.int i)=>(atI xs i).map .val
  | .val (.str z),.val (.int i)=>if z.length≤sizeLine then (atI z.cps.toList i).map fun c=>.val (.str ⟨#[c]⟩) else none
  | _,_=>none
theorem atI_rel {K:PySem.W.Frag} {H:Hp} {vs:List V} {ds:List D} {i:Int} {d:D} (r:RDs K H vs ds) (e:atI ds i = some d):∃ v,atI vs i = some v∧RD K H v d:=by
  unfold atI at e ⊢
  rw [← r.length] at e
  cases e1:ixN vs.length i with
  | none=>rw [e1] at e; cases e
  | some j=>
    rw [e1] at e
    exact r.get e
theorem oIx_ok:IxR X (rT X.K oIx):=by
  intro value slice pins s σ H x y v u Q I rx ry ⟨tx,ty,t,g1,g2,r1,r2,e,q⟩ hs
  unfold oIx at e
  split at e
  · obtain ⟨d,e1,e2⟩:=Option.map_eq_some_iff.mp e
    subst e2
    obtain ⟨a,vs,rfl,sq,rd⟩:=r1.tup
    obtain ⟨w,ew,rw'⟩:=atI_rel rd e1
    exact ix_tup value slice pins s σ H _ y v u Q I rx ry ⟨a,vs,_,w,rfl,r2.int,sq,ew,q _ H _ (.vl rw') (Nw.refl H)⟩ hs
  · obtain ⟨d,e1,e2⟩:=Option.map_eq_some_iff.mp e
    subst e2
    obtain ⟨a,vs,rfl,sq,rd⟩:=r1.ls rfl
    obtain ⟨w,ew,rw'⟩:=atI_rel rd e1
    exact ix_list value slice pins s σ H _ y v u Q I rx ry ⟨a,vs,_,w,rfl,r2.int,sq,ew,q _ H _ (.vl rw') (Nw.refl H)⟩ hs
  · obtain ⟨d,e1,e2⟩:=Option.map_eq_some_iff.mp e
    subst e2
    obtain ⟨a,vs,rfl,sq,rd⟩:=r1.ls rfl
    obtain ⟨w,ew,rw'⟩:=atI_rel rd e1
    exact ix_list value slice pins s σ H _ y v u Q I rx ry ⟨a,vs,_,w,rfl,r2.int,sq,ew,q _ H _ (.vl rw') (Nw.refl H)⟩ hs
  · split at e
    · obtain ⟨d,e1,e2⟩:=Option.map_eq_some_iff.mp e
      subst e2
      exact ix_str value slice pins s σ H _ y v u Q I rx ry ⟨_,_,d,r1.str,r2.int,by assumption,e1,q _ H _ (.vl (.str _)) (Nw.refl H)⟩ hs
    · cases e
  · cases e
theorem d_ix (ha:DG X ϖ W a A) (hb:DG X ϖ W b B) (hs:PlainIx b:=by exact fun _ _=>rfl):DE X ϖ W (.Subscript a b pos) (eB oIx A B):=
  (pe_ix oIx_ok ha hb hs).imp fun σv H Q h=>tOp_of h
end
end DL
namespace DL
open PySem PySem.Spec PyProof.Rows L2
inductive O where
  | nx (σ:S) | rt (t:T) (σ:S) | bk (σ:S) | ct (σ:S)
  | exc (C:Addr) (xs:List (Str×D)) (σ:S)
  | stuck
def Kp (kp:Nat→Bool) (σv σw:L2.St):Prop:=∀ i,kp i = true→σw[i]? = σv[i]?
theorem Kp.refl (kp:Nat→Bool) (σv:L2.St):Kp kp σv σv:=fun _ _=>rfl
theorem Kp.trans {kp:Nat→Bool} {a b c:L2.St} (h:Kp kp a b) (h':Kp kp b c):Kp kp a c:=fun i e=>(h' i e).trans (h i e)
theorem Kp.set {kp:Nat→Bool} {σv:L2.St} {i:Nat} {o:Option V} (h:kp i = false):Kp kp σv (σv.set i o):=fun j e=>by
  rw [List.getElem?_set_ne]
  intro z; subst z; rw [h] at e; cases e
section
variable (K:PySem.W.Frag) (ϖ:Pend) (W:WX) (kp:Nat→Bool)
def SPost (o:O) (Dn:Ends) (σv:L2.St) (H:Hp) (f:Fp):Prop:=match o with
  | .nx σ=>∀ σw H' h,RS K ϖ H' σw σ h→Nd h→Fr H f H' h→Kp kp σv σw→Dn.nx σw H'
  | .bk σ=>∀ σw H' h,RS K ϖ H' σw σ h→Nd h→Fr H f H' h→Kp kp σv σw→Dn.bk σw H'
  | .ct σ=>∀ σw H' h,RS K ϖ H' σw σ h→Nd h→Fr H f H' h→Kp kp σv σw→Dn.ct σw H'
  | .rt t σ=>∀ v σw H' g h,RT K H' v t g→RS K ϖ H' σw σ h→Nd (fun b=>g b + h b)→Fr H f H' (fun b=>g b + h b)→Kp kp σv σw→Dn.rt v H'
  | .exc C xs σ=>∀ d vs σw H' h,H' d = some (.xd vs)→RK K H' vs xs→RS K ϖ H' σw σ h→Nd h→Fr H f H' h→Kp kp σv σw→W (.ref C) (some d) σw H'
  | .stuck=>False
def sS (g:S→O):TS:=fun Dn σv H=>∃ σ f,RS K ϖ H σv σ f∧Nd f∧SPost K ϖ W kp (g σ) Dn σv H f
end
def DS (X:Cx) (ϖ:Pend) (W:WX) (kp:Nat→Bool) (st:Stmt) (g:S→O):Prop:=PS X st (sS X.K ϖ W kp g)
def DSs (X:Cx) (ϖ:Pend) (W:WX) (kp:Nat→Bool) (st:List Stmt) (g:S→O):Prop:=PSs X st (sS X.K ϖ W kp g)
section
variable {K:PySem.W.Frag} {ϖ:Pend} {W:WX} {kp:Nat→Bool} {o:O} {Dn Dm:Ends} {σv σw:L2.St} {H H':Hp} {f h:Fp}
theorem SPost.fr (p:SPost K ϖ W kp o Dn σv H f) (a:Fr H f H' h) (k:Kp kp σv σw):SPost K ϖ W kp o Dn σw H' h:=by
  cases o with
  | nx σ=>exact fun σx H2 h2 r n w q=>p σx H2 h2 r n (a.trans w) (k.trans q)
  | bk σ=>exact fun σx H2 h2 r n w q=>p σx H2 h2 r n (a.trans w) (k.trans q)
  | ct σ=>exact fun σx H2 h2 r n w q=>p σx H2 h2 r n (a.trans w) (k.trans q)
  | rt t σ=>exact fun v σx H2 g2 h2 x r n w q=>p v σx H2 g2 h2 x r n (a.trans w) (k.trans q)
  | exc C xs σ=>exact fun d vs σx H2 h2 e x r n w q=>p d vs σx H2 h2 e x r n (a.trans w) (k.trans q)
  | stuck=>exact p
def R.then {α:Type} (r:R α) (k:α→S→O):O:=match r with
  | .ok a σ=>k a σ
  | .exc C xs σ=>.exc C xs σ
  | .stuck=>.stuck
@[simp] theorem R.then_ok {α:Type} (a:α) (σ:S) (k:α→S→O):(R.ok a σ).then k = k a σ:=rfl
@[simp] theorem R.then_exc {α:Type} (C:Addr) (xs:List (Str×D)) (σ:S) (k:α→S→O):(R.exc C xs σ:R α).then k = .exc C xs σ:=rfl
@[simp] theorem R.then_stuck {α:Type} (k:α→S→O):(R.stuck:R α).then k = .stuck:=rfl
theorem evS {α β:Type} {Rl:Hp→β→α→Fp→Prop} {F:S→R α} {k:α→S→O} (q:sS K ϖ W kp (fun σ=>(F σ).then k) Dn σv H):
    tX K ϖ W Rl F σv H (fun u H2=>∃ t2 g2 σ2 h2,Rl H2 u t2 g2∧RS K ϖ H2 σv σ2 h2∧Nd (fun b=>g2 b + h2 b)∧SPost K ϖ W kp (k t2 σ2) Dn σv H2 (fun b=>g2 b + h2 b)):=by
  obtain ⟨σ,h,hs,n,p⟩:=q
  have p:SPost K ϖ W kp ((F σ).then k) Dn σv H h:=p
  refine ⟨σ,h,hs,n,?_⟩
  cases e:F σ with
  | stuck=>rw [e] at p; exact p
  | exc C xs σ'=>
    rw [e] at p
    exact fun d vs' H' h' a b c n w=>p d vs' σv H' h' a b c n w (.refl _ _)
  | ok t2 σ2=>
    rw [e] at p
    exact fun v H2 g2 h2 a b n w=>⟨t2,g2,σ2,h2,a,b,n,p.fr w (.refl _ _)⟩
theorem evSB {B:S→R Bool} {k:Bool→S→O} (q:sS K ϖ W kp (fun σ=>(B σ).then k) Dn σv H):tT K ϖ W B σv H (fun b H2=>sS K ϖ W kp (fun σ=>k b σ) Dn σv H2):=by
  refine (evS (Rl:=RB) q).mono fun b H1 ⟨c,g,σ,h1,⟨e,z⟩,s1,n1,p1⟩=>?_
  subst e
  have eg:(fun b=>g b + h1 b) = h1:=by funext b; rw [z b]; omega
  rw [eg] at n1 p1
  exact ⟨σ,h1,s1,n1,p1⟩
theorem SPost.nx' {σ:S} (p:SPost K ϖ W kp (.nx σ) Dn σv H f) (r:RS K ϖ H σw σ h) (n:Nd h) (hf:∀ b,h b≤f b) (k:Kp kp σv σw):Dn.nx σw H:=p σw H h r n ((Fr.refl H f).le hf) k
theorem RS.sto {σ:S} {i:Nat} {v:V} {t:T} {g:Fp} (r:RS K ϖ H σv σ h) (q:RT K H v t g) (n:Nd fun b=>g b + h b):∃ h',RS K ϖ H (σv.set i (some v)) (σ.set i (some t)) h'∧Nd h'∧∀ b,h' b≤g b + h b:=by
  by_cases hi:i < σ.length
  · obtain ⟨h1,r1,z⟩:=r.drop i
    exact ⟨_,r1.put hi q,n.le fun b=>by have:=z b; show g b + h1 b≤g b + h b; omega,fun b=>by have:=z b; show g b + h1 b≤g b + h b; omega⟩
  · have e1:σv.set i (some v) = σv:=by rw [List.set_eq_of_length_le]; rw [r.length]; omega
    have e2:σ.set i (some t) = σ:=by rw [List.set_eq_of_length_le]; omega
    rw [e1,e2]
    exact ⟨h,r,n.le (z_le _ _),z_le _ _⟩
end
section
variable {X:Cx} {ϖ:Pend} {W:WX} {kp:Nat→Bool} {e a b c:Expr} {es:List Expr} {F Fa Fb:S→R T} {A B:S→R G} {As:S→R (List G)} {st:Stmt} {sts:List Stmt} {g g1 g2:S→O} {pos:Pos}
def sNx:S→O:=fun σ=>.nx σ
def sSeq (g1 g2:S→O):S→O:=fun σ=>match g1 σ with
  | .nx σ'=>g2 σ'
  | o=>o
theorem s_end {Dn:Ends} {K:PySem.W.Frag} {σv:L2.St} {H:Hp} (q:sS K ϖ W kp sNx Dn σv H):Dn.nx σv H:=by
  obtain ⟨σ,f,r,n,p⟩:=q
  have p:SPost K ϖ W kp (.nx σ) Dn σv H f:=p
  exact p.nx' r n (fun _=>Nat.le_refl _) (.refl _ _)
theorem ds_nil:DSs X ϖ W kp [] sNx:=pss_nil.imp fun Dn σv H q=>s_end q
theorem ds_one (h:DS X ϖ W kp st g):DSs X ϖ W kp [st] g:=pss_one h
theorem ds_cons (h1:DS X ϖ W kp st g1) (h2:DSs X ϖ W kp sts g2):DSs X ϖ W kp (st :: sts) (sSeq g1 g2):=by
  refine (pss_cons h1 h2).imp fun Dn σv H ⟨σ,f,r,n,p⟩=>?_
  refine ⟨σ,f,r,n,?_⟩
  unfold sSeq at p
  split at p
  · rename_i σ' e
    rw [e]
    exact fun σw H' h' r' n' w k=>⟨σ',h',r',n',p.fr w k⟩
  · rename_i o hne
    cases e:g1 σ with
    | nx σ'=>exact absurd e (hne σ')
    | bk _=>rw [e] at p; exact p
    | ct _=>rw [e] at p; exact p
    | rt _ _=>rw [e] at p; exact p
    | exc _ _ _=>rw [e] at p; exact p
    | stuck=>rw [e] at p; exact p
def sAsg (i:Nat) (F:S→R T):S→O:=fun σ=>(F σ).then fun t σ1=>.nx (σ1.set i (some t))
theorem asg_end {K:PySem.W.Frag} {i:Nat} {Dn:Ends} {σv:L2.St} {H:Hp} (hk:kp i = false) (q:sS K ϖ W kp (sAsg i F) Dn σv H):tAsg (tE K ϖ W F) (gName i) Dn σv H:=by
  refine (evS (Rl:=RV K) (F:=F) (k:=fun t σ1=>.nx (σ1.set i (some t))) q).mono fun v H1 ⟨t,g,σ,h,r,s,n,p⟩=>?_
  obtain ⟨h',r',n',z⟩:=s.sto (i:=i) r n
  exact p.nx' r' n' z (.set hk)
theorem ds_set {i:Nat} {x:Str} {pos':Pos} (hN:X.N.Nodup) (hi:X.N[i]? = some x) (hx:Loc X.env.scope x) (he:DE X ϖ W e F) (hk:kp i = false:=by rfl) (hs:swapsWith e (some (.Name x pos')) pos.line X.env = pure false:=by rfl) (hf:X.fn x = true∨X.env.scope.names.lookup x = some .local:=by first | exact .inl rfl | exact .inr rfl | assumption):
    DS X ϖ W kp (.Assign [.Name x pos'] e pos) (sAsg i F):=(ps_set hN hi hx he hs hf).imp fun Dn σv H q=>asg_end hk q
def sExpr (F:S→R T):S→O:=fun σ=>(F σ).then fun _ σ1=>.nx σ1
theorem ds_expr (he:DE X ϖ W e F) (hs:swapsWith e none pos.line X.env = pure false:=by rfl):DS X ϖ W kp (.Expr e pos) (sExpr F):=by
  refine (ps_expr he hs).imp fun Dn σv H q=>?_
  refine (evS (Rl:=RV X.K) (F:=F) (k:=fun _ σ1=>.nx σ1) q).mono fun v H1 ⟨t,g,σ,h,r,s,n,p⟩=>?_
  exact p.nx' s (n.le (z_le _ _)) (z_le _ _) (.refl _ _)
def sRet (F:S→R T):S→O:=fun σ=>(F σ).then fun t σ1=>.rt t σ1
theorem ds_ret (he:DE X ϖ W e F):DS X ϖ W kp (.Return (some e) pos) (sRet F):=by
  refine (ps_ret he).imp fun Dn σv H q=>?_
  refine (evS (Rl:=RV X.K) (F:=F) (k:=fun t σ1=>.rt t σ1) q).mono fun v H1 ⟨t,g,σ,h,r,s,n,p⟩=>?_
  exact p v σv H1 g h r s n (.refl _ _) (.refl _ _)
def sIf (B:S→R Bool) (g1 g2:S→O):S→O:=fun σ=>(B σ).then fun b σ1=>if b = true then g1 σ1 else g2 σ1
theorem ds_if {B:S→R Bool} {ys ns:List Stmt} (hc:DT X ϖ W c B) (ha:DSs X ϖ W kp ys g1) (hb:DSs X ϖ W kp ns g2):DS X ϖ W kp (.If c ys ns pos) (sIf B g1 g2):=
  (ps_if hc ha hb).imp fun Dn σv H q=>tX.mono (evSB (B:=B) (k:=fun b σ1=>if b = true then g1 σ1 else g2 σ1) q) fun b H1 p=>by
    cases b with
    | true=>exact p
    | false=>exact p
def tTg (K:PySem.W.Frag) (ϖ:Pend) (kp:Nat→Bool) (G:D→S→Option S):TG:=fun v σv H Q=>∃ d σ f,RD K H v d∧RS K ϖ H σv σ f∧Nd f∧match G d σ with
  | some σ'=>∀ σw H' h,RS K ϖ H' σw σ' h→Nd h→Fr H f H' h→Kp kp σv σw→Q σw H'
  | none=>False
def DTg (X:Cx) (ϖ:Pend) (kp:Nat→Bool) (tg:Expr) (G:D→S→Option S):Prop:=PG X tg (tTg X.K ϖ kp G)
theorem _root_.L2.PG.imp {t t':TG} (h:PG X e t) (i:∀ v σ H Q,t' v σ H Q→t v σ H Q):PG X e t':=⟨fun pins s σ H v u Q I r w=>h.run pins s σ H v u Q I r (i _ _ _ _ w)⟩
theorem _root_.L2.PGs.imp {t t':TGs} (h:PGs X es t) (i:∀ v σ H Q,t' v σ H Q→t v σ H Q):PGs X es t':=⟨fun pins s σ H v u Q I r w=>h.run pins s σ H v u Q I r (i _ _ _ _ w)⟩
def tgN (i:Nat):D→S→Option S:=fun d σ=>some (σ.set i (some (.val d)))
theorem tg_name {i:Nat} {x:Str} (hN:X.N.Nodup) (hi:X.N[i]? = some x) (hx:Loc X.env.scope x) (hk:kp i = false:=by rfl) (hf:X.fn x = true∨X.env.scope.names.lookup x = some .local:=by first | exact .inl rfl | exact .inr rfl | assumption):DTg X ϖ kp (.Name x pos) (tgN i):=
  (pg_name hN hi hx hf).imp fun v σv H Q ⟨d,σ,f,rd,r,n,p⟩=>by
    obtain ⟨h',r',n',z⟩:=r.sto (i:=i) (RT.vl rd) (n.le fun b=>by show 0 + f b≤f b; omega)
    exact p _ H h' r' n' ((Fr.refl _ _).le fun b=>by have:h' b≤0 + f b:=z b; omega) (.set hk)
def sPar (i j:Nat) (As:S→R (List G)):S→O:=fun σ=>(As σ).then fun xs σ1=>match rds xs σ1 with
  | some ts=>(match vals? ts with
    | some [d,d']=>.nx ((σ1.set i (some (.val d))).set j (some (.val d')))
    | _=>.stuck)
  | none=>.stuck
theorem ds_par {i j:Nat} {x y:Str} {px py pt:Pos} {kt k2 pt2} (hc:X.calm = true) (hN:X.N.Nodup) (hi:X.N[i]? = some x) (hj:X.N[j]? = some y) (hij:i ≠ j)
    (hx:X.env.scope.names.lookup x = some .local) (hy:X.env.scope.names.lookup y = some .local) (ha:DGs X ϖ W [a,b] As)
    (hw:swappedStores [.Tuple [.Name x px,.Name y py] kt pt] (.Tuple [a,b] k2 pt2) X.env = pure (some [x,y])) (hki:kp i = false:=by rfl) (hkj:kp j = false:=by rfl)
    (hs:swapsWithSole [.Tuple [.Name x px,.Name y py] kt pt] (.Tuple [a,b] k2 pt2) pos.line X.env = pure false:=by rfl):DS X ϖ W kp (.Assign [.Tuple [.Name x px,.Name y py] kt pt] (.Tuple [a,b] k2 pt2) pos) (sPar i j As):=by
  refine (ps_par hc hN hi hj hij hx hy ha hw hs).imp fun Dn σv H q=>?_
  refine (evS (Rl:=ROs X.K σv) (F:=As) q).mono fun vs H1 ⟨xs,g,σ,h,r,s,n,p⟩=>?_
  split at p
  · rename_i ts e1
    obtain ⟨f1,q1⟩:=ROs.rds (hs:=s) r e1
    split at p
    · rename_i d d' e2
      have rd:=q1.vals e2
      cases rd with
      | @cons v _ _ _ rv rr=>
        cases rr with
        | @cons w _ _ _ rw' rn=>
          cases rn
          have nh:Nd h:=n.le (z_le _ _)
          obtain ⟨h1,r1,n1,z1⟩:=s.sto (i:=i) (RT.vl rv) (nh.le fun b=>by show 0 + h b≤h b; omega)
          obtain ⟨h2,r2,n2,z2⟩:=r1.sto (i:=j) (RT.vl rw') (n1.le fun b=>by show 0 + h1 b≤h1 b; omega)
          exact ⟨v,w,rfl,p.nx' r2 n2 (fun b=>by have:=z1 b; have:=z2 b; simp only [Nat.zero_add] at *; omega) ((Kp.set hki).trans (.set hkj))⟩
    · exact p.elim
  · exact p.elim
structure WalkD (K:PySem.W.Frag) (J:It) (ds:List D) (Gd:Hp→Prop):Prop where
  goes:∀ i H,i < ds.length→Gd H→J.go i H
  stops:∀ H,Gd H→J.stop ds.length H
  yields:∀ i H x H',i < ds.length→Gd H→J.yld i H x H'→∃ d,ds[i]? = some d∧RD K H' x d∧Nw H H' (fun _=>0)
  stays:∀ H H',Gd H→Stb H H'→Gd H'
def tI (K:PySem.W.Frag) (ϖ:Pend) (W:WX) (F:S→R (List D)):TI:=fun σv H R=>tX K ϖ W (fun H' J ds g=>(∃ Gd,WalkD K J ds Gd∧Gd H')∧∀ b,g b = 0) F σv H R
def DI (X:Cx) (ϖ:Pend) (W:WX) (tg it:Expr) (F:S→R (List D)):Prop:=PI X tg it (tI X.K ϖ W F)
theorem _root_.L2.PI.imp {tg:Expr} {t t':TI} (h:PI X tg e t) (i:∀ σ H Q,t' σ H Q→t σ H Q):PI X tg e t':=⟨fun pins s σ H R I w=>h.run pins s σ H R I (i _ _ _ w)⟩
theorem _root_.L2.PI.or {tg:Expr} {t t':TI} (h:PI X tg e t) (h':PI X tg e t'):PI X tg e (fun σ H R=>t σ H R∨t' σ H R):=⟨fun pins s σ H R I w=>w.elim (h.run pins s σ H R I) (h'.run pins s σ H R I)⟩
theorem wd_list {K:PySem.W.Frag} {a:Addr} {vs:List V} {ds:List D}:∀ {H:Hp},FzL K H a vs→RDs K H vs ds→∃ Gd,WalkD K (Itl K a) ds Gd∧Gd H:=fun {H} q r=>by
  refine ⟨fun H=>FzL K H a vs∧RDs K H vs ds,⟨fun i H hi ⟨q,r⟩=>?_,fun H ⟨q,r⟩=>⟨vs,q.sq,by rw [r.length]; exact Nat.le_refl _⟩,fun i H x H' hi ⟨q,r⟩ y=>?_,fun H H' ⟨q,r⟩ s=>⟨fzL_stb s q,r.stb s⟩⟩,q,r⟩
  · have h:i < vs.length:=by rw [r.length]; exact hi
    exact ⟨vs,vs[i],q.sq,by simp [h]⟩
  · obtain ⟨e,y⟩:=y
    subst e
    obtain ⟨d,e1,e2⟩:=r.getV (y vs q.sq)
    exact ⟨d,e1,e2,Nw.refl _⟩
theorem wd_tup {K:PySem.W.Frag} {a:Addr} {vs:List V} {ds:List D}:∀ {H:Hp},SqT K H a vs→RDs K H vs ds→∃ Gd,WalkD K (Itt K a) ds Gd∧Gd H:=fun {H} q r=>by
  refine ⟨fun H=>SqT K H a vs∧RDs K H vs ds,⟨fun i H hi ⟨q,r⟩=>?_,fun H ⟨q,r⟩=>⟨vs,q,by rw [r.length]; exact Nat.le_refl _⟩,fun i H x H' hi ⟨q,r⟩ y=>?_,fun H H' ⟨q,r⟩ s=>⟨sqT_stb s q,r.stb s⟩⟩,q,r⟩
  · have h:i < vs.length:=by rw [r.length]; exact hi
    exact ⟨vs,vs[i],q,by simp [h]⟩
  · obtain ⟨e,y⟩:=y
    subst e
    obtain ⟨d,e1,e2⟩:=r.getV (y vs q)
    exact ⟨d,e1,e2,Nw.refl _⟩
def D.items:D→Option (List D)
  | .tup xs=>some xs
  | .lst xs=>some xs
  | _=>none
def iSeq (F:S→R T):S→R (List D):=fun σ=>(F σ).bind fun t σ1=>match t with
  | .val d=>(match d.items with
    | some ds=>.ok ds σ1
    | none=>.stuck)
  | _=>.stuck
theorem di_seq {tg:Expr} (h:DE X ϖ W e F):DI X ϖ W tg e (iSeq F):=by
  refine ((pi_list (tg:=tg) h).or (pi_tup (tg:=tg) h)).imp fun σv H Rk q=>?_
  obtain ⟨σ,f,hs,n,p⟩:=q
  unfold iSeq at p
  have dead:∀ {P:Prop},Post X.K ϖ W (fun H' J ds g=>(∃ Gd,WalkD X.K J ds Gd∧Gd H')∧∀ b,g b = 0) σv (R.stuck:DL.R (List D)) H f Rk→P:=fun h=>h.elim
  cases e1:F σ with
  | stuck=>rw [e1] at p; exact p.elim
  | exc C xs σ'=>
    rw [e1] at p
    refine .inl ⟨σ,f,hs,n,?_⟩
    rw [e1]
    exact p
  | ok t σ'=>
    rw [e1] at p
    simp only [R.bind_ok] at p
    cases t with
    | val d=>
      cases d with
      | tup ds=>
        refine .inr ⟨σ,f,hs,n,?_⟩
        rw [e1]
        intro v H' g h r s nd w
        have r:RT X.K H' v (.val (.tup ds)) g:=r
        obtain ⟨a,vs,rfl,sq,rd⟩:=r.tup
        refine ⟨a,rfl,⟨vs,sq⟩,p (Itt X.K a) H' (fun _=>0) h ⟨wd_tup sq rd,fun _=>rfl⟩ s (nd.le fun b=>by show 0 + h b≤g b + h b; omega) (w.le fun b=>by show 0 + h b≤g b + h b; omega)⟩
      | lst ds=>
        refine .inl ⟨σ,f,hs,n,?_⟩
        rw [e1]
        intro v H' g h r s nd w
        have r:RT X.K H' v (.val (.lst ds)) g:=r
        cases r.un with
        | lst q rd=>exact ⟨_,rfl,⟨_,q.sq⟩,p (Itl X.K _) H' (fun _=>0) h ⟨wd_list q rd,fun _=>rfl⟩ s (nd.le fun b=>by show 0 + h b≤g b + h b; omega) (w.le fun b=>by show 0 + h b≤g b + h b; omega)⟩
      | _=>exact p.elim
    | _=>exact p.elim
def iota (lo:Int):Nat→List D
  | 0=>[]
  | n + 1=>.int lo :: iota (lo + 1) n
theorem iota_len (lo:Int):∀ n,(iota lo n).length = n
  | 0=>rfl
  | n + 1=>by unfold iota; rw [List.length_cons,iota_len]
theorem iota_get:∀ (lo:Int) (n i:Nat),i < n→(iota lo n)[i]? = some (.int (lo + i))
  | lo,n + 1,0,_=>by simp [iota]
  | lo,n + 1,i + 1,h=>by
    unfold iota
    rw [List.getElem?_cons_succ,iota_get (lo + 1) n i (by omega)]
    congr 2
    omega
theorem wd_range {K:PySem.W.Frag} {lo:Int} {n:Nat} {H:Hp}:∃ Gd,WalkD K (Itr lo n) (iota lo n) Gd∧Gd H:=
  ⟨fun _=>True,⟨fun i H hi _=>by rw [iota_len] at hi; exact hi,fun H _=>by rw [iota_len]; exact Nat.le_refl _,fun i H x H' hi _ y=>by
    obtain ⟨e,y⟩:=y
    subst e; subst y
    rw [iota_len] at hi
    exact ⟨_,iota_get lo n i hi,.int _,Nw.refl _⟩,fun _ _ _ _=>True.intro⟩,True.intro⟩
def rngOk (i:Int):Bool:=decide (-(2 ^ 62)≤i∧i < 2 ^ 62)
def iRg1:List T→Option (List D)
  | [.val (.int j)]=>if rngOk j = true then some (iota 0 j.toNat) else none
  | _=>none
def iG (o:List T→Option (List D)) (As:S→R (List G)):S→R (List D):=fun σ=>(As σ).bind fun xs σ1=>match rds xs σ1 with
  | some ts=>(match o ts with
    | some ds=>.ok ds σ1
    | none=>.stuck)
  | none=>.stuck
theorem iG_end {K:PySem.W.Frag} {o:List T→Option (List D)} {σv:L2.St} {H:Hp} {R:It→Hp→Prop} (q:tI K ϖ W (iG o As) σv H R):
    tGs K ϖ W As σv H (fun vs H1=>∃ ts ds g,RTs K H1 vs ts g∧o ts = some ds∧∀ J H2,Nw H1 H2 (fun _=>0)→(∃ Gd,WalkD K J ds Gd∧Gd H2)→R J H2):=by
  refine (ev0 (Rl:=ROs K σv) (F:=As) q).mono fun vs H1 ⟨xs,g,σ,h,r,s,n,p⟩=>?_
  split at p
  · rename_i ts e1
    obtain ⟨f1,q1⟩:=ROs.rds (hs:=s) r e1
    split at p
    · rename_i ds e2
      refine ⟨ts,ds,f1,q1,e2,fun J H2 w wd=>?_⟩
      exact p J H2 (fun _=>0) h ⟨wd,fun _=>rfl⟩ (w.rs s) (n.le fun b=>by show 0 + h b≤g b + h b; omega) ((w.fr (z_le g h)).le fun b=>by show 0 + h b≤0 + h b; omega)
    · exact p.elim
  · exact p.elim
theorem di_range1 {tg:Expr} {p:Pos} (hg:Gl X "range") (hm:X.mg "range" = none) (ha:DGs X ϖ W [a] As) (hs:starEach [a] X.env = [(false,eval a X.env)]:=by rfl):DI X ϖ W tg (.Call (.Name "range" p) [a] [] pos) (iG iRg1 As):=
  (pi_range1 hg hm ha hs).imp fun σv H R q=>tX.mono (iG_end q) fun vs H1 ⟨ts,ds,g,r,e,k⟩=>by
    unfold iRg1 at e
    split at e
    · split at e
      · rename_i j hj
        cases e
        cases r with
        | cons r1 r2 _=>
          cases r2
          have hj:=of_decide_eq_true hj
          exact ⟨j,by rw [r1.int],hj.1,hj.2,k _ H1 (Nw.refl _) wd_range⟩
      · cases e
    · cases e
def loopO (G:D→S→Option S) (body:S→O):List D→S→O
  | [],σ=>.nx σ
  | d :: ds,σ=>match G d σ with
    | none=>.stuck
    | some σ1=>match body σ1 with
      | .nx σ2=>loopO G body ds σ2
      | .ct σ2=>loopO G body ds σ2
      | .bk σ2=>.nx σ2
      | o=>o
def sFor (F:S→R (List D)) (G:D→S→Option S) (body:S→O):S→O:=fun σ=>(F σ).then fun ds σ1=>loopO G body ds σ1
theorem ds_for {tg iter:Expr} {body:List Stmt} {F:S→R (List D)} {G:D→S→Option S} {gb:S→O} (hp:PassesOwn (model X.prog X.w) X.A X.env X.xe) (hc:X.calm = true) (hi:DI X ϖ W tg iter F) (hg:DTg X ϖ kp tg G) (hb:DSs X ϖ W kp body gb)
    (hs:∀ x,foldedSetIterable iter X.env x = pure x:=by intro _; rfl):DS X ϖ W kp (.For tg iter body [] pos) (sFor F G gb):=by
  refine (ps_for hp hc hi hg hb hs).imp fun Dn σv H q=>?_
  refine (evS (Rl:=fun H' J ds g=>(∃ Gd,WalkD X.K J ds Gd∧Gd H')∧∀ b,g b = 0) (F:=F) q).mono fun J H1 ⟨ds,g,σ,h,⟨⟨Gd,wd,gd⟩,z⟩,s,n,p⟩=>?_
  have eg:(fun b=>g b + h b) = h:=by funext b; rw [z b]; omega
  rw [eg] at n p
  have w:Walk J ds.length Gd (fun i H x H'=>∃ d,ds[i]? = some d∧RD X.K H' x d∧Nw H H' (fun _=>0)):=⟨wd.goes,wd.stops,wd.yields⟩
  refine for_it w (fun i σw H2=>∃ σ2 h2,RS X.K ϖ H2 σw σ2 h2∧Nd h2∧Gd H2∧SPost X.K ϖ W kp (loopO G gb (ds.drop i) σ2) Dn σw H2 h2) ⟨σ,h,s,n,gd,p⟩ (fun i σw H2 _ ⟨_,_,_,_,gd,_⟩=>gd) ?_ ?_
  · rintro i x σw H2 H3 hi ⟨σ2,h2,r2,n2,gd2,p2⟩ ⟨d,e1,rd,nw⟩
    have e2:ds.drop i = d :: ds.drop (i + 1):=by
      obtain ⟨h1,h2⟩:=List.getElem?_eq_some_iff.mp e1
      rw [(List.drop_eq_getElem_cons h1),h2]
    rw [e2] at p2
    unfold loopO at p2
    refine ⟨d,σ2,h2,rd,nw.rs r2,n2,?_⟩
    cases eg:G d σ2 with
    | none=>rw [eg] at p2; exact p2.elim
    | some σ3=>
      rw [eg] at p2
      dsimp only at p2 ⊢
      intro σx H4 h4 r4 n4 w4 k4
      have w24:Fr H2 h2 H4 h4:=(((nw.fr (h:=h2) (f:=h2) fun _=>Nat.le_refl _).le fun b=>by show h2 b≤0 + h2 b; omega)).trans w4
      refine ⟨σ3,h4,r4,n4,?_⟩
      have gd4:Gd H4:=wd.stays _ _ gd2 w24.stb
      cases eb:gb σ3 with
      | nx σ5=>
        rw [eb] at p2
        exact fun σy H5 h5 r5 n5 w5 k5=>⟨σ5,h5,r5,n5,wd.stays _ _ gd4 w5.stb,p2.fr (w24.trans w5) (k4.trans k5)⟩
      | ct σ5=>
        rw [eb] at p2
        exact fun σy H5 h5 r5 n5 w5 k5=>⟨σ5,h5,r5,n5,wd.stays _ _ gd4 w5.stb,p2.fr (w24.trans w5) (k4.trans k5)⟩
      | bk σ5=>
        rw [eb] at p2
        exact fun σy H5 h5 r5 n5 w5 k5=>p2 σy H5 h5 r5 n5 (w24.trans w5) (k4.trans k5)
      | rt t σ5=>
        rw [eb] at p2
        exact SPost.fr (o:=.rt t σ5) p2 w24 k4
      | exc C xs σ5=>
        rw [eb] at p2
        exact SPost.fr (o:=.exc C xs σ5) p2 w24 k4
      | stuck=>
        rw [eb] at p2
        exact p2
  · rintro σw H2 ⟨σ2,h2,r2,n2,gd2,p2⟩
    rw [List.drop_length] at p2
    exact p2.nx' r2 n2 (fun _=>Nat.le_refl _) (.refl _ _)
end
end DL
namespace DL
open PySem PySem.Spec PyProof.Rows L2
inductive Rf where
  | ok (t:T) (ps:S)
  | exc (C:Addr) (xs:List (Str×D)) (ps:S)
  | stuck
abbrev Fn:=List T→Rf
def spF (K:PySem.W.Frag) (F:Fn):Sp:=fun vs H Q E=>∃ ts f,RTs K H vs ts f∧Nd f∧match F ts with
  | .ok t ps=>∀ v H' g h,RT K H' v t g→RS K Pend.no H' (vs.map some) ps h→Nd (fun b=>g b + h b)→Fr H f H' (fun b=>g b + h b)→Q v H'
  | .exc C xs ps=>∀ d ws H' h,H' d = some (.xd ws)→RK K H' ws xs→RS K Pend.no H' (vs.map some) ps h→Nd h→Fr H f H' h→E (.ref C) (some d) H'
  | .stuck=>False
def msk (kp:Nat→Bool):Nat→List T→S→S
  | _,[],_=>[]
  | j,t :: ts,[]=>none :: msk kp (j + 1) ts []
  | j,t :: ts,s :: σ=>(if kp j = true then s else match t with
    | .val d=>some (.val d)
    | _=>none) :: msk kp (j + 1) ts σ
def strt (N:Nat) (ts:List T):S:=ts.map some ++ List.replicate (N - ts.length) none
def mkFn (n N:Nat) (kp:Nat→Bool) (g:S→O):Fn:=fun ts=>if ts.length = n then match g (strt N ts) with
  | .rt t σ=>.ok t (msk kp 0 ts σ)
  | .nx σ=>.ok (.val .non) (msk kp 0 ts σ)
  | .exc C xs σ=>.exc C xs (msk kp 0 ts σ)
  | _=>.stuck else .stuck
section
variable {K:PySem.W.Frag} {ϖ:Pend} {H H':Hp}
theorem rs_repl:∀ (n:Nat) {f:Fp},(∀ b,f b = 0)→RS K Pend.no H (List.replicate n none) (List.replicate n none) f
  | 0,_,z=>.nil True.intro z
  | n + 1,_,z=>.non (rs_repl n z)
theorem rs_start:∀ {vs:List V} {ts:List T} {f:Fp} (n:Nat),RTs K H vs ts f→RS K Pend.no H (vs.map some ++ List.replicate n none) (ts.map some ++ List.replicate n none) f
  | _,_,_,n,.nil z=>rs_repl n z
  | _,_,_,n,.cons q r z=>.som q (rs_start n r) z
theorem rs_msk {kp:Nat→Bool}:∀ {vs:List V} {ts:List T} {σw:L2.St} {σ:S} {f g:Fp} (j:Nat),RTs K H vs ts g→Stb H H'→RS K ϖ H' σw σ f→(∀ i,kp (j + i) = true→∀ v,vs[i]? = some v→σw[i]? = some (some v))→
    ∃ h,RS K Pend.no H' (vs.map some) (msk kp j ts σ) h∧∀ b,h b≤f b
  | _,_,_,_,f,_,j,.nil _,s,r,k=>⟨fun _=>0,.nil True.intro fun _=>rfl,fun _=>Nat.zero_le _⟩
  | _,_,_,_,f,_,j,.cons q rs z,s,.nil p z',k=>by
    obtain ⟨h,r',le⟩:=rs_msk (kp:=kp) (σw:=[]) (σ:=[]) (j + 1) rs s (.nil p z') fun i e v ev=>by
      have:=k (i + 1) (by rw [show j + (i + 1) = j + 1 + i by omega]; exact e) v (by simpa using ev)
      simp at this
    exact ⟨h,.non r',le⟩
  | v :: vs,t :: ts,x :: σw,_,f,_,j,.cons q rs z,s,.non r,k=>by
    obtain ⟨h,r',le⟩:=rs_msk (kp:=kp) (j + 1) rs s r fun i e w ev=>by
      have:=k (i + 1) (by rw [show j + (i + 1) = j + 1 + i by omega]; exact e) w (by simpa using ev)
      simpa using this
    by_cases hk:kp j = true
    · refine ⟨h,?_,le⟩
      show RS K Pend.no H' (some v :: vs.map some) ((if kp j = true then none else _) :: msk kp (j + 1) ts _) h
      rw [if_pos hk]
      exact .non r'
    · cases t with
      | val d=>
        refine ⟨h,?_,le⟩
        show RS K Pend.no H' (some v :: vs.map some) ((if kp j = true then none else some (.val d)) :: msk kp (j + 1) ts _) h
        rw [if_neg hk]
        exact .som (.vl (q.un.stb s)) r' fun b=>(Nat.zero_add _).symm
      | _=>
        refine ⟨h,?_,le⟩
        show RS K Pend.no H' (some v :: vs.map some) ((if kp j = true then none else none) :: msk kp (j + 1) ts _) h
        rw [if_neg hk]
        exact .non r'
  | v :: vs,t :: ts,_,_,f,_,j,.cons q rs z,s,.som (v:=x) (t:=u) (g:=g1) (h:=h1) q1 r z1,k=>by
    obtain ⟨h,r',le⟩:=rs_msk (kp:=kp) (j + 1) rs s r fun i e w ev=>by
      have:=k (i + 1) (by rw [show j + (i + 1) = j + 1 + i by omega]; exact e) w (by simpa using ev)
      simpa using this
    by_cases hk:kp j = true
    · have ex:x = v:=by
        have:=k 0 hk v rfl
        simpa using this
      subst ex
      refine ⟨fun b=>g1 b + h b,?_,fun b=>by have:=le b; have:=z1 b; show g1 b + h b≤f b; omega⟩
      show RS K Pend.no H' (some x :: vs.map some) ((if kp j = true then some u else _) :: msk kp (j + 1) ts _) _
      rw [if_pos hk]
      exact .som q1 r' fun b=>rfl
    · cases t with
      | val d=>
        refine ⟨h,?_,fun b=>by have:=le b; have:=z1 b; omega⟩
        show RS K Pend.no H' (some v :: vs.map some) ((if kp j = true then some u else some (.val d)) :: msk kp (j + 1) ts _) h
        rw [if_neg hk]
        exact .som (.vl (q.un.stb s)) r' fun b=>(Nat.zero_add _).symm
      | _=>
        refine ⟨h,?_,fun b=>by have:=le b; have:=z1 b; omega⟩
        show RS K Pend.no H' (some v :: vs.map some) ((if kp j = true then some u else none) :: msk kp (j + 1) ts _) h
        rw [if_neg hk]
        exact .non r'
end
structure Rm (k:Nat) (A:Around):Prop where
  rm:Room k A
  gd:A.guards = some []
theorem Rm.mono {j k:Nat} {A:Around} (r:Rm k A) (h:j≤k):Rm j A:=⟨r.rm.mono h,r.gd⟩
theorem Rm.deeper {k:Nat} {A:Around} (r:Rm (k + 1) A) (env:Env):Rm k (A.deeper env):=⟨r.rm.deeper env,r.gd⟩
theorem Rm.un {k:Nat} {A:Around} (r:Rm k A):A.units + 64 < cLine:=by have:=r.rm.un; omega
structure FnG (P:Program) (w:World) (K:PySem.W.Frag) (mg:Str→Option Value) (base:Heap) (k:Nat) (f:Addr) (fd:FuncData) (ps:List Str) (sp:Sp):Prop where
  len:∀ (vs:List V) H Q E,sp vs H Q E→vs.length = ps.length
  run:∀ (A:Around) (outer:List Env) (s:Shared) (H:Hp) (args:Args) (us:List Value) (vs:List V) (Q:VK) (E:XK),Rm k A→Env0 P w K mg base A outer s H→BindsTo s fd args (ps.zip us)→Vals vs us→sp vs H Q E→
    codeAny (model P w) A (.call (.ref f) args) (CR (L2.CX P w) outer P w H s Q E) s
theorem FnG.mono {P:Program} {w:World} {K:PySem.W.Frag} {mg:Str→Option Value} {base:Heap} {j k:Nat} {f:Addr} {fd:FuncData} {ps:List Str} {sp:Sp} (F:FnG P w K mg base j f fd ps sp) (h:j≤k):FnG P w K mg base k f fd ps sp:=
  ⟨F.len,fun A outer s H args us vs Q E r=>F.run A outer s H args us vs Q E (r.mono h)⟩
theorem fng_of {P:Program} {w:World} {K:PySem.W.Frag} {mg:Str→Option Value} {base:Heap} {k:Nat} {f:Addr} {nm qual:Str} {prm:Arguments} {body:List Stmt} {sc:Scope} {dV kV dc pm cdv ct oc:Value} {an od:Option Addr} {osl:Array (Option Value)} {N ps:List Str} {sp:Sp}
    (lk:K.lookup f = some ⟨oc,od,.func (PySem.W.fnOf nm qual prm body sc dV kV dc pm an cdv ct),osl⟩) (hcd:PySem.W.codeIn K cdv qual = true) (T:FnScope N ps sc) (len:∀ vs H Q E,sp vs H Q E→vs.length = ps.length)
    (hb:∀ (A:Around) (outer:List Env) (s:Shared) (H:Hp) (vs:List V) (Q:VK) (E:XK),Rm k (A.deeper (envOfC qual sc s.heap.objs.size f cdv))→sp vs H Q E→
      ∃ t,PSs (cxOf (L2.CX P w) P w K mg base N qual sc f cdv A outer s H E) body t∧t { nx:=fun _ H'=>Q .non H',rt:=Q } (L2.start N vs) H):
    FnG P w K mg base (k + 1) f (PySem.W.fnOf nm qual prm body sc dV kV dc pm an cdv ct) ps sp:=by
  refine ⟨len,fun A outer s H args us vs Q E rm en bd rv hsp=>?_⟩
  have kIn:K.In s.heap:=en.mod.kin.keeps fun b o e=>(en.bs b o e).1
  have loc:∀ y ∈ ps.zip us,sc.names.lookup y.1 = some .local∨(sc.names.lookup y.1 = some .cell∧((cellsFrom (s.heap.objs.size + 1) sc.names []).lookup y.1).isSome = true):=fun ⟨n,v⟩ hy=>
    (T.par n (List.of_mem_zip hy).1).imp id fun q=>⟨q,PySem.W.cellsFrom_some _ _ _ (.inl q)⟩
  refine codeAny_call_function rm.rm.depth (kIn _ _ lk) rfl T.co T.gen rfl (PySem.W.codeRec_of kIn hcd) (bd _ _ _ _ (wpAny_newFunctionEnv_cells T.kind loc fun env he s1 x=>?_))
  subst he
  refine ⟨(en.mod.nolimit.keeps fun b o e=>(en.bs b o e).1).keeps x.toInCall.keep,codeAny_func ?_⟩
  obtain ⟨t,ht,hq⟩:=hb A outer s H vs Q E (rm.deeper _) hsp
  refine wpAny_mono (ht.run [] s1 (L2.start N vs) H _ (inv_start T rm.rm.hd en (len _ _ _ _ hsp) rv x) hq) (fun fl s' hs=>?_) fun e s' hs=>hs
  cases fl with
  | ret u=>obtain ⟨v,σ',H',J,r,q⟩:=hs; exact ⟨v,H',J.os,J.bare,J.base,J.hok,r,q⟩
  | next=>obtain ⟨σ',H',J,q⟩:=hs; exact ⟨V.non,H',J.os,J.bare,J.base,J.hok,rfl,q⟩
  | brk=>obtain ⟨_,_,_,q⟩:=hs; exact q.elim
  | cont=>obtain ⟨_,_,_,q⟩:=hs; exact q.elim
section
variable {P:Program} {w:World} {K:PySem.W.Frag} {mg:Str→Option Value} {base:Heap}
theorem dl_fn {x qual:Str} {st:Stmt} {f:Addr} {fd:FuncData} {N ps:List Str} {k:Nat} {kp:Nat→Bool} {g:S→O} (F:Fun K x qual st f fd) (Sc:FnScope N ps (defScope st)) (hN:ps.length≤N.length)
    (hbody:∀ (cdv:Value) (A:Around) (outer:List Env) (s:Shared) (H:Hp) (E:XK),Rm k (A.deeper (envOfC qual (defScope st) s.heap.objs.size f cdv))→
      DSs (cxOf (L2.CX P w) P w K mg base N qual (defScope st) f cdv A outer s H E) Pend.no (fun c d _ H=>E c d H) kp (defBody st) g):FnG P w K mg base (k + 1) f fd ps (spF K (mkFn ps.length N.length kp g)):=by
  obtain ⟨_,_,_,_,_,_,cdv,_,_,rfl,lk,hcd⟩:=F.ex
  refine fng_of lk hcd Sc (fun vs H Q E ⟨ts,f,r,n,p⟩=>?_) fun A outer s H vs Q E hr ⟨ts,f,r,n,p⟩=>⟨_,hbody cdv A outer s H E hr,?_⟩
  · unfold mkFn at p
    by_cases hl:ts.length = ps.length
    · rw [r.length,hl]
    · rw [if_neg hl] at p; exact p.elim
  · unfold mkFn at p
    by_cases hl:ts.length = ps.length
    · rw [if_pos hl] at p
      have hv:vs.length = ts.length:=r.length
      refine ⟨strt N.length ts,f,?_,n,?_⟩
      · unfold L2.start strt
        rw [hv]
        exact rs_start _ r
      · have kk:∀ {σw:L2.St},Kp kp (L2.start N vs) σw→∀ i,kp (0 + i) = true→∀ v,vs[i]? = some v→σw[i]? = some (some v):=fun {σw} k i e v ev=>by
          rw [Nat.zero_add] at e
          rw [k i e]
          unfold L2.start
          have hi:i < (vs.map some).length:=by rw [List.length_map]; exact (List.getElem?_eq_some_iff.mp ev).1
          rw [List.getElem?_append_left hi,List.getElem?_map,ev]
          rfl
        cases e:g (strt N.length ts) with
        | rt t σ=>
          rw [e] at p
          intro v σw H' gt ht q rs nd fr k
          obtain ⟨h',r',le⟩:=rs_msk (kp:=kp) 0 r fr.stb rs (kk k)
          exact p v H' gt h' q r' (nd.le fun b=>by have:=le b; show gt b + h' b≤gt b + ht b; omega) (fr.le fun b=>by have:=le b; show gt b + h' b≤gt b + ht b; omega)
        | nx σ=>
          rw [e] at p
          intro σw H' ht rs nd fr k
          obtain ⟨h',r',le⟩:=rs_msk (kp:=kp) 0 r fr.stb rs (kk k)
          exact p .non H' (fun _=>0) h' (.vl .non) r' (nd.le fun b=>by have:=le b; show 0 + h' b≤ht b; omega) (fr.le fun b=>by have:=le b; show 0 + h' b≤ht b; omega)
        | exc C xs σ=>
          rw [e] at p
          intro d ws σw H' ht ed rk rs nd fr k
          obtain ⟨h',r',le⟩:=rs_msk (kp:=kp) 0 r fr.stb rs (kk k)
          exact p d ws H' h' ed rk r' (nd.le le) (fr.le le)
        | bk σ=>rw [e] at p; exact p.elim
        | ct σ=>rw [e] at p; exact p.elim
        | stuck=>rw [e] at p; exact p.elim
    · rw [if_neg hl] at p; exact p.elim
end
structure Def (P:Program) (w:World) (K:PySem.W.Frag) (mg:Str→Option Value) (base:Heap) (x:Str) (k:Nat) (F:Fn):Prop where
  ex:∃ (f:Addr) (fd:FuncData) (ps:List Str),mg x = some (.ref f)∧PySem.W.keepIn K (.ref f) = true∧Binds K fd ps []∧FnG P w K mg base k f fd ps (spF K F)
theorem Def.mono {P:Program} {w:World} {K:PySem.W.Frag} {mg:Str→Option Value} {base:Heap} {x:Str} {j k:Nat} {F:Fn} (h:Def P w K mg base x j F) (l:j≤k):Def P w K mg base x k F:=by
  obtain ⟨f,fd,ps,a,b,c,d⟩:=h.ex
  exact ⟨f,fd,ps,a,b,c,d.mono l⟩
def takeG:List G→S→Option (List T×S)
  | [],σ=>some ([],σ)
  | .inr t :: r,σ=>(takeG r σ).map fun q=>(t :: q.1,q.2)
  | .inl i :: r,σ=>match look σ i with
    | some (.val d)=>(takeG r σ).map fun q=>(.val d :: q.1,q.2)
    | some t=>(takeG r (σ.set i none)).map fun q=>(t :: q.1,q.2)
    | none=>none
def backG:List G→S→S→S
  | .inl i :: r,some t :: ps,σ=>match σ[i]? with
    | some none=>backG r ps (σ.set i (some t))
    | _=>backG r ps σ
  | _ :: r,_ :: ps,σ=>backG r ps σ
  | _,_,σ=>σ
def callF (F:Fn) (xs:List G) (σ:S):R T:=match takeG xs σ with
  | none=>.stuck
  | some (ts,σ1)=>match F ts with
    | .ok t ps=>.ok t (backG xs ps σ1)
    | .exc C ys ps=>.exc C ys (backG xs ps σ1)
    | .stuck=>.stuck
def eCall (F:Fn) (As:S→R (List G)):S→R T:=fun σ=>(As σ).bind fun xs σ1=>callF F xs σ1
section
variable {K:PySem.W.Frag} {ϖ:Pend} {σv:L2.St} {H H':Hp}
theorem take_ok:∀ {vs:List V} {xs:List G} {g h:Fp} {σ σ1:S} {ts:List T},ROs K σv H vs xs g→RS K ϖ H σv σ h→takeG xs σ = some (ts,σ1)→∃ g1 h1,RTs K H vs ts g1∧RS K ϖ H σv σ1 h1∧∀ b,g1 b + h1 b = g b + h b
  | _,[],g,h,σ,σ1,ts,.nil z,hs,e=>by
    have e:=Option.some.inj e
    have e1:ts = []:=(congrArg Prod.fst e).symm
    have e2:σ1 = σ:=(congrArg Prod.snd e).symm
    subst e1; subst e2
    exact ⟨fun _=>0,h,.nil fun _=>rfl,hs,fun b=>by rw [z b]⟩
  | _,.inr t :: r,g,h,σ,σ1,ts,.cons (.tmp q) rs z,hs,e=>by
    unfold takeG at e
    obtain ⟨⟨us,σ2⟩,e1,e2⟩:=Option.map_eq_some_iff.mp e
    have e3:t :: us = ts:=congrArg Prod.fst e2
    have e4:σ2 = σ1:=congrArg Prod.snd e2
    subst e3; subst e4
    obtain ⟨g1,h1,a,b,c⟩:=take_ok rs hs e1
    exact ⟨_,h1,.cons q a fun _=>rfl,b,fun x=>by have:=c x; rw [z x]; omega⟩
  | _,.inl i :: r,g,h,σ,σ1,ts,.cons (.ref ev z0) rs z,hs,e=>by
    unfold takeG at e
    split at e
    · rename_i d ed
      obtain ⟨⟨us,σ2⟩,e1,e2⟩:=Option.map_eq_some_iff.mp e
      have e3:T.val d :: us = ts:=congrArg Prod.fst e2
      have e4:σ2 = σ1:=congrArg Prod.snd e2
      subst e3; subst e4
      obtain ⟨g1,h1,a,b,c⟩:=take_ok rs hs e1
      obtain ⟨v',gx,hx,ev',q,_,_⟩:=hs.out (look_some ed)
      rw [ev] at ev'; cases ev'
      exact ⟨g1,h1,.cons (.vl q.un) a fun b=>(Nat.zero_add _).symm,b,fun x=>by have:=c x; rw [z x,z0 x]; omega⟩
    · rename_i t hne et
      obtain ⟨⟨us,σ2⟩,e1,e2⟩:=Option.map_eq_some_iff.mp e
      have e3:t :: us = ts:=congrArg Prod.fst e2
      have e4:σ2 = σ1:=congrArg Prod.snd e2
      subst e3; subst e4
      obtain ⟨v',gx,hx,ev',q,r',zz⟩:=hs.out (look_some et)
      rw [ev] at ev'; cases ev'
      obtain ⟨g1,h1,a,b,c⟩:=take_ok rs r' e1
      exact ⟨_,h1,.cons q a fun _=>rfl,b,fun x=>by have:=c x; rw [z x,z0 x,zz x]; omega⟩
    · cases e
theorem back_ok:∀ {vs:List V} {xs:List G} {g0 g h:Fp} {σ ps:S} {H0:Hp},ROs K σv H0 vs xs g0→RS K Pend.no H (vs.map some) ps g→RS K ϖ H σv σ h→∃ h1,RS K ϖ H σv (backG xs ps σ) h1∧∀ b,h1 b≤g b + h b
  | _,[],g0,g,h,σ,ps,H0,.nil _,r,hs=>by
    have e:backG [] ps σ = σ:=by cases ps <;> rfl
    rw [e]
    exact ⟨h,hs,fun b=>Nat.le_add_left _ _⟩
  | v :: vs,.inr t :: xs,g0,g,h,σ,_,H0,.cons _ rs _,r,hs=>by
    have r:RS K Pend.no H (some v :: vs.map some) _ g:=r
    cases r with
    | non r=>
      obtain ⟨h1,a,b⟩:=back_ok rs r hs
      exact ⟨h1,a,b⟩
    | som q r1 z=>
      obtain ⟨h1,a,b⟩:=back_ok rs r1 hs
      exact ⟨h1,a,fun x=>by have:=b x; rw [z x]; omega⟩
  | v :: vs,.inl i :: xs,g0,g,h,σ,_,H0,.cons (.ref ev _) rs _,r,hs=>by
    have r:RS K Pend.no H (some v :: vs.map some) _ g:=r
    cases r with
    | non r=>
      obtain ⟨h1,a,b⟩:=back_ok rs r hs
      exact ⟨h1,a,b⟩
    | @som _ t _ σp _ gx hx q r1 z=>
      cases e:σ[i]? with
      | none=>
        obtain ⟨h1,a,b⟩:=back_ok rs r1 hs
        refine ⟨h1,?_,fun x=>by have:=b x; rw [z x]; omega⟩
        unfold backG
        rw [e]
        exact a
      | some o=>
        cases o with
        | none=>
          have hi:i < σ.length:=(List.getElem?_eq_some_iff.mp e).1
          have es:σ.set i none = σ:=by
            obtain ⟨h1,h2⟩:=List.getElem?_eq_some_iff.mp e
            rw [← h2,List.set_getElem_self]
          have hs':RS K ϖ H σv (σ.set i none) h:=by rw [es]; exact hs
          obtain ⟨h1,a,b⟩:=back_ok rs r1 (hs'.putSame hi ev q)
          refine ⟨h1,?_,fun x=>by have:h1 x≤hx x + (gx x + h x):=b x; rw [z x]; omega⟩
          unfold backG
          rw [e]
          exact a
        | some t'=>
          obtain ⟨h1,a,b⟩:=back_ok rs r1 hs
          refine ⟨h1,?_,fun x=>by have:=b x; rw [z x]; omega⟩
          unfold backG
          rw [e]
          exact a
end
section
variable {X:Cx} {ϖ:Pend} {W:WX} {kp:Nat→Bool} {e a b c:Expr} {es:List Expr} {As:S→R (List G)} {pos:Pos}
theorem eCall_of {F:Fn} {σv:L2.St} {H:Hp} {Q:VK} (h:tE X.K ϖ W (eCall F As) σv H Q):tCallS (spF X.K F) (WE W) (tGs X.K ϖ W As) σv H Q:=by
  refine (ev0 (Rl:=ROs X.K σv) (Rm:=RV X.K) (F:=As) (k:=fun xs σ1=>callF F xs σ1) h).mono fun vs H1 ⟨xs,g,σ,h,r,s,n,p⟩=>?_
  unfold callF at p
  cases et:takeG xs σ with
  | none=>rw [et] at p; exact p.elim
  | some q=>
    obtain ⟨ts,σ1⟩:=q
    rw [et] at p
    obtain ⟨g1,h1,rt,rs,eq⟩:=take_ok r s et
    have n1:Nd fun b=>g1 b + h1 b:=n.le fun b=>Nat.le_of_eq (eq b)
    refine ⟨ts,g1,rt,n1.le fun b=>by show g1 b≤g1 b + h1 b; omega,?_⟩
    dsimp only at p
    have kept:∀ {H2:Hp} {f2:Fp},Fr H1 g1 H2 f2→RS X.K ϖ H2 σv σ1 h1:=fun {H2 f2} w=>rs.keep w.stb fun b o hb eo=>w.keep b o eo (by have:g1 b + h1 b≤1:=n1 b; omega)
    have wide:∀ {H2:Hp} {f2:Fp},Fr H1 g1 H2 f2→Fr H1 (fun b=>g b + h b) H2 (fun b=>h1 b + f2 b):=fun {H2 f2} w=>(w.beside (g:=h1)).ge fun b=>by have:=eq b; show h1 b + g1 b≤g b + h b; omega
    have apart:∀ {H2:Hp} {f2:Fp},Fr H1 g1 H2 f2→Nd f2→Nd fun b=>h1 b + f2 b:=fun {H2 f2} w n2=>w.apart rs.own (n1.le fun b=>by show h1 b + g1 b≤g1 b + h1 b; omega) n2
    cases ef:F ts with
    | stuck=>rw [ef] at p; exact p
    | ok t ps=>
      rw [ef] at p
      intro v H2 g2 h2 q r2 n2 w2
      obtain ⟨h3,r3,le⟩:=back_ok r r2 (kept w2)
      have n3:=apart w2 n2
      have lle:∀ b,g2 b + h3 b≤h1 b + (g2 b + h2 b):=fun b=>by have:=le b; omega
      exact p v H2 g2 h3 q r3 (n3.le lle) ((wide w2).le lle)
    | exc C ys ps=>
      rw [ef] at p
      intro d ws H2 h2 ed rk r2 n2 w2
      obtain ⟨h3,r3,le⟩:=back_ok r r2 (kept w2)
      have n3:=apart w2 n2
      have lle:∀ b,h3 b≤h1 b + h2 b:=fun b=>by have:=le b; omega
      exact p d ws H2 h3 ed rk r3 (n3.le lle) ((wide w2).le lle)
theorem run_fnG {k:Nat} {f:Addr} {fd:FuncData} {ps:List Str} {sp:Sp} {E:L2.St→XK} {pins:List (Addr×Obj)} {σ:L2.St} {H:Hp} {s:Shared} {Q:VK} {us:List Value} {vs:List V} (F:FnG X.prog X.w X.K X.mg X.base k f fd ps sp) (hr:Rm k X.A) (hb:Binds X.K fd ps []) (hx:PassesAt (L2.CX X.prog X.w) X σ (E σ))
    (J:Inv X pins σ H s) (r:Vals vs us) (h:sp vs H Q (E σ)):wpAny (model X.prog X.w) X.A (call (.ref f) us) (EP X pins σ Q) X.xe s:=by
  have bd:=hb s us J.kIn (by rw [List.append_nil,← r.length]; exact F.len _ _ _ _ h)
  rw [List.append_nil] at bd
  refine wpAny_call (codeAny_mono (F.run X.A X.stack s H ⟨us,[]⟩ us vs Q (E σ) hr J.env0 bd r h) fun q s' hq=>?_)
  cases q with
  | error e=>exact hx pins H s e s' J hq
  | ok fl=>
    cases fl with
    | ret u=>exact J.after hq
    | next=>exact hq.elim
    | brk=>exact hq.elim
    | cont=>exact hq.elim
theorem d_call {F:Fn} {x:Str} {k:Nat} {p:Pos} (G:Def X.prog X.w X.K X.mg X.base x k F) (hr:Rm k X.A) (hg:Gl X x) (tk:Takes X W) (ha:DGs X ϖ W (e :: es) As) (hdb:(x == ("__debug__" : Str)) = false:=by decide)
    (he:starEach (e :: es) X.env = (false,eval e X.env) :: starEach es X.env:=by rfl) (hpl:(backTo pos (starEach es X.env)).any (·.1) = false:=by rfl):DE X ϖ W (.Call (.Name x p) (e :: es) [] pos) (eCall F As):=by
  obtain ⟨f,fd,ps,hm,hk,hb,hF⟩:=G.ex
  refine ⟨fun pins s σ H Q I h=>?_⟩
  have h:tCallS (spF X.K F) (WE W) (tGs X.K ϖ W As) σ H Q:=eCall_of h
  refine wpAny_Call_Name_kw (ld_glob (X:=X) I hg hm ?_ hdb)
  have ha:PA X (e :: es) (tGs X.K ϖ W As):=ha
  exact PySem.W.callWith_K (h₀:=X.base) I.ok.mod.kin hk (thn (ha.run pos pins s σ H _ I h) fun us s1 ⟨vs,H1,J,r,q⟩=>⟨J.kIn,run_fnG hF hr hb (passAt tk σ) J r q⟩) he hpl
theorem d_call0 {F:Fn} {x:Str} {k:Nat} {p:Pos} (G:Def X.prog X.w X.K X.mg X.base x k F) (hr:Rm k X.A) (hg:Gl X x) (tk:Takes X W) (hdb:(x == ("__debug__" : Str)) = false:=by decide):DE X ϖ W (.Call (.Name x p) [] [] pos) (fun σ=>callF F [] σ):=by
  obtain ⟨f,fd,ps,hm,hk,hb,hF⟩:=G.ex
  refine ⟨fun pins s σ H Q I h=>?_⟩
  have h:tCallS (spF X.K F) (WE W) (tGs X.K ϖ W fun σ=>.ok [] σ) σ H Q:=eCall_of h
  refine wpAny_Call_Name_kw (ld_glob (X:=X) I hg hm ?_ hdb)
  obtain ⟨σ',f',r,n,q⟩:=h
  have q:Post X.K ϖ W (ROs X.K σ) σ (.ok [] σ') H f' (fun vs H1=>spF X.K F vs H1 Q (WE W σ)):=q
  exact PySem.W.callWith_K0 I.kIn hk (run_fnG (us:=[]) hF hr hb (passAt tk σ) I .nil (q [] H (fun _=>0) f' (.nil fun _=>rfl) r (n.le fun b=>by show 0 + f' b≤f' b; omega) ((Fr.refl H f').le fun b=>by show 0 + f' b≤f' b; omega)))
end
end DL
namespace PySem
namespace DLX
open PySem.W PySem.Calls PyProof.Rows PySem.HandSPX PySem.Spec
structure Init (st:Stmt) (ps:List Str):Prop where
  fn:∃ (p1:Pos) (qs:List Pos) (p3 p4 p5 p7 p8:Pos) (rs:List Pos) (zs:List (Pos×Pos×Pos×Pos)),rs.length = ps.length∧zs.length = ps.length∧
    L2.defArgs st = { posonlyargs:=[],args:={ arg := "self",annotation:=none,pos:=p1 } :: (ps.zip qs).map fun q=>{ arg:=q.1,annotation:=none,pos:=q.2 },vararg:=none,kwonlyargs:=[],kw_defaults:=[],kwarg:=none,defaults:=[] }∧
    L2.defBody st = (.Expr (.Call (.Attribute (.Call (.Name "super" p3) [] [] p4) "__init__" p5) ((ps.zip rs).map fun q=>.Name q.1 q.2) [] p7) p8) ::
      ((ps.zip zs).map fun q=>.Assign [.Attribute (.Name "self" q.2.1) q.1 q.2.2.1] (.Name q.1 q.2.2.2.1) q.2.2.2.2)∧
    (∀ env:Env,∃ pl:Sem Bool,eval (.Call (.Attribute (.Call (.Name "super" p3) [] [] p4) "__init__" p5) ((ps.zip rs).map fun q=>.Name q.1 q.2) [] p7) env = (do
      let ov ← attributeBase (.Call (.Name "super" p3) [] [] p4) "__init__" env (eval (.Call (.Name "super" p3) [] [] p4) env)
      standAt p5.atName
      let (m,first) ← holding [ov] (getMethod ov "__init__" pl)
      callWith p7 m first (backTo p7 (starEach ((ps.zip rs).map fun q=>.Name q.1 q.2) env)) []))∧
    (∀ env:Env,swapsWith (.Call (.Attribute (.Call (.Name "super" p3) [] [] p4) "__init__" p5) ((ps.zip rs).map fun q=>.Name q.1 q.2) [] p7) none p8.line env = pure false)
  kind:(L2.defScope st).kind = .function
  co:(L2.defScope st).isCoroutine = false
  gen:(L2.defScope st).isGenerator = false
  cell:∀ x ∈ (L2.defScope st).names,x.2 ≠ .cell
  self:(L2.defScope st).names.lookup ("self" : Str) = some .local
  loc:∀ x ∈ ps,(L2.defScope st).names.lookup x = some .local
  sup:(L2.defScope st).names.lookup ("super" : Str) = some .globalImplicit
  cls:(L2.defScope st).names.lookup ("__class__" : Str) = some .free
structure SupTxt (P:Program) (K:Frag) (mg:Str→Option Value) (st:Stmt) (C D fI:Addr) (ps:List Str):Prop where
  cls:∃ nm q N bs bm sn sub ab col dd k0 k1 k2 k3 k5,K.lookup C = some (excClassObj nm q C N bs bm true sn sub ab col dd k0 k1 k2 k3 k5 "ValueError.__new__")∧refsVE bm = true
  sa:findIn K (.ref C) "__setattr__" = some (some (.builtin "object.__setattr__"))
  ga:findIn K (.ref C) "__getattribute__" = some (some (.builtin "BaseException.__getattribute__"))
  gg:findIn K (.ref C) "__getattr__" = some none
  noN:∀ x ∈ ps,findIn K (.ref C) x = some none
  iC:findIn K (.ref C) "__init__" = some (some (.ref fI))
  tI:typeIn K (.ref fI) = some (.type "function")
  kC:keepIn K (.ref C) = true
  exC:subIn K (.ref C) (.type "BaseException") = some true
  veC:subIn K (.ref C) (.type "ValueError") = some true
  tyC:typeIn K (.ref C) = some (.type "type")
  hdC:hasDictIn K C = true
  opq:nsIn K cStatics "thirdparty.any" = some none
  sin:ks_superIn K C D "__init__" = some (some (.builtin "ValueError.__init__"))
  sub:mroIn K C (.ref D) = some true
  clD:∃ cd,clsIn K D = some cd
  msup:mg "super" = none
  ini:Init st ps
  top:(P.main.scope.names.lookup ("super" : Str)).isSome = false
  fn:∃ (oc:Value) (od an:Option Addr) (doc pm kV ct:Value) (osl:Array (Option Value)) (q:Str) (cc cda:Addr) (ccl cl:Value) (cdd cld:Option Addr) (vs:Array Value) (ccs csl:Array (Option Value)) (file:Str) (tf:Tok),
    K.lookup fI = some ⟨oc,od,.func (fnX "__init__" q (L2.defArgs st) (L2.defBody st) (L2.defScope st) [("__class__",cc)] .none kV doc pm an (.ref cda) ct),osl⟩∧codeIn K (.ref cda) q = true∧
    K.lookup cda = some ⟨ccl,cdd,.fields vs,ccs⟩∧vs[2]? = some (.str file tf)∧((P.main.file:Str) == file) = true∧K.lookup cc = some ⟨cl,cld,.cell (some (.ref D)),csl⟩∧
    ∀ (s:Shared) (x:Addr) (us:List Value),us.length = ps.length→BindsTo s (fnX "__init__" q (L2.defArgs st) (L2.defBody st) (L2.defScope st) [("__class__",cc)] .none kV doc pm an (.ref cda) ct) ⟨.ref x :: us,[]⟩ (("self",.ref x) :: ps.zip us)
structure Top0 (mg:Str→Option Value) (h:Heap):Prop where
  glob:h.Ns mainGlobals mg
  blt:∃ mb,h.Ns builtinsNs mb∧∀ x:Str,x ≠ "__name__" → mb x = bootBuiltins x
theorem Top0.keeps {mg:Str→Option Value} {h h':Heap} (t:Top0 mg h) (k:∀ b o,h.get? b = some o→h'.get? b = some o):Top0 mg h':=by
  obtain ⟨mb,h1,h2⟩:=t.blt
  exact ⟨t.glob.keeps k,mb,h1.keeps k,h2⟩
section
variable {prog:Program} {w:World} {A:Around} {E:Value→Shared→Prop} {K:Frag} {mg:Str→Option Value} {C D fI:Addr} {st:Stmt} {ps:List Str}
theorem sup_get {body:List Stmt} {scope:Scope} {q:Str} {L cc cda x:Addr} {t0:Addr} {p0 p1:Pos} {attr:Str} {whole:Sem Value} {s:Shared} {m:Str→Option Value} {fd:FuncData} {ar:Arg} {vs:Array Value} {file:Str} {tf:Tok}
    {oc ccl cl:Value} {od cdd cld:Option Addr} {osl ccs csl:Array (Option Value)} {cdD:ClassData} {Q:Value→Shared→Prop}
    (X:K.In s.heap) (T:Top0 mg s.heap) (hn:s.heap.Ns L m) (hf:K.lookup fI = some ⟨oc,od,.func fd,osl⟩) (hp:(fd.params.posonlyargs ++ fd.params.args).head? = some ar) (hv:m ar.arg = some (.ref x)) (hx:s.heap.get? x = some (excO C t0))
    (hcode:K.lookup cda = some ⟨ccl,cdd,.fields vs,ccs⟩) (hvs:vs[2]? = some (.str file tf))
    (hfile:((prog.main.file:Str) == file) = true) (hcell:K.lookup cc = some ⟨cl,cld,.cell (some (.ref D)),csl⟩) (hD:clsIn K D = some cdD) (hsub:mroIn K C (.ref D) = some true) (hsuper:mg "super" = none)
    (hat:(attr == ("__class__" : Str)) = false) (hks:scope.names.lookup ("super" : Str) = some .globalImplicit) (hkc:scope.names.lookup ("__class__" : Str) = some .free)
    (hka:scope.names.lookup ar.arg = some .local) (hk:scope.kind = .function) (htop:(prog.main.scope.names.lookup ("super" : Str)).isSome = false)
    (h:∀ so h',h'.get? so = some (ks_superObj D x C)→(∀ y o,s.heap.get? y = some o→h'.get? y = some o)→Q (.ref so) { s with heap:=h' }):
    _root_.PySem.wpAt (model prog w) A (.func body (ksEnv q scope L fI (.ref cda) cc)) (attributeBase (.Call (.Name "super" p0) [] [] p1) attr (ksEnv q scope L fI (.ref cda) cc) whole) Q E s:=by
  obtain ⟨hh,g,d,t,os⟩:=s
  have clsD:∃ o,hh.get? D = some o∧o.data = .cls cdD:=by
    unfold clsIn at hD
    split at hD
    · cases hD; exact ⟨_,X _ _ (by assumption),rfl⟩
    · cases hD
  obtain ⟨oD,hD1,hD2⟩:=clsD
  obtain ⟨mb,hb1,hb2⟩:=T.blt
  refine ks_wpAt_super_base (env:=ksEnv q scope L fI (.ref cda) cc) hks hkc hat rfl (X _ _ hf) rfl hp rfl (X _ _ hcode) rfl hvs hfile htop ?_
  refine ks_loadName_global hk hks (loadGlobal_builtin (env:=ksEnv q scope L fI (.ref cda) cc) T.glob hsuper hb1 ((hb2 _ (by decide +kernel)).trans (by decide +kernel:bootBuiltins "super" = some (.type "super"))) ⟨rfl,?_⟩)
  refine wpAny_loadName_free hk hkc rfl ⟨_,X _ _ hcell,rfl⟩ (wpAny_loadName_local hk hka hn hv (ks_wpAny_isType_cls hD1 hD2 ⟨rfl,?_⟩))
  exact ks_wpAny_call_super hD1 hD2 hx rfl (fun c e=>by cases e) (looks_mroIn X hsub) fun h' e k=>h _ h' e k
theorem sup_call {u x t0:Addr} {h:Heap} {g:Array GenState} {d:Drawn} {t:Nat} {os:OsState} {nm q:Str} {N:Addr} {bs bm:List Value} {hdct:Bool} {sn:List Str} {sub:List Value} {ab:Bool} {col:Option Bool} {dd:Option Addr} {k0 k1 k2 k3 k5:Option Value} {rest:List Value} {Q:Value→Shared→Prop}
    (hC:h.get? C = some (excClassObj nm q C N bs bm hdct sn sub ab col dd k0 k1 k2 k3 k5 "ValueError.__new__")) (he:h.get? x = some (excO C t0)) (hu:h.get? u = some (kxs_mw "ValueError.__init__" x)) (hrest:rest.length≤sizeLine)
    (hq:∀ h' t1,(∀ b o,b ≠ x→h.get? b = some o→h'.get? b = some o)→h'.get? x = some (excO C t1)→Q .none ⟨h',g,d,t,os⟩):
    wpAny (model prog w) A (call (.ref u) rest) Q E (⟨h,g,d,t,os⟩:Shared):=by
  have isMw:(Value.type "method-wrapper" == Value.type "method" || Value.type "method-wrapper" == Value.type "builtin_function_or_method" || Value.type "method-wrapper" == Value.type "method-wrapper") = true:=by decide
  refine wpAny_call (codeAny_of_tree (?_:wpAny _ A.in1 (callAny (.ref u) ⟨rest,[]⟩) _ _ _))
  simp only [callAny]
  refine wpAny_bind (wpAny_load hu ?_); simp only [kxs_mw,isMw,if_true]
  refine W.KFB.if_so (by decide) (wpAny_bind (ESX.check_bound F.excBase_ValueError hC he rfl (wpAny_bind (wpAny_pure (wpAny_pure ?_)))))
  refine ⟨Code.quiet_builtin _ (by decide +kernel),codeAny_builtin F.excBase_ValueError.initEntry ?_⟩
  rw [Around.under_plainId F.excBase_ValueError.init.plain _]
  wp_walk
  refine hq _ h.objs.size (fun b o ne ho=>?_) ?_
  · rw [Heap.get?_update_other _ _ (Ne.symm ne)]; exact Heap.get?_push_of_some _ ho
  · rw [Heap.get?_update_self _ (Heap.get?_push_of_some _ he) (rfl)]; rfl
def stf:List (Str×Value)→Str→Option Value
  | [],_=>none
  | p :: r,y=>if y = p.1 then some p.2 else stf r y
theorem stf_within:∀ l:List (Str×Value),Within (stf l) (l.map (·.1))
  | []=>fun y h=>absurd rfl h
  | p :: r=>fun y h=>by
    by_cases e:y = p.1
    · subst e; simp
    · have h':stf r y ≠ none:=by unfold stf at h; rwa [if_neg e] at h
      exact List.mem_cons_of_mem _ (stf_within r y h')
structure IEnd (h h':Heap) (x C:Addr) (kvs:List (Str×Value)):Prop where
  keep:∀ b o,b ≠ x→h.get? b = some o→h'.get? b = some o
  obj:∃ dx t1,h'.get? x = some { cls:=.ref C,dict:=some dx,data:=.fields #[.ref t1,.none,.none,.none,.bool false,.none] }∧h.objs.size≤dx∧dx ≠ x∧h'.Ns1 dx (stf kvs)
variable {R:Result→Shared→Prop}
abbrev sto (q:Str×(Pos×Pos×Pos×Pos)):Stmt:=.Assign [.Attribute (.Name "self" q.2.1) q.1 q.2.2.1] (.Name q.1 q.2.2.2.1) q.2.2.2.2
theorem sup_more {q:Str} {scope:Scope} {L cc cda x:Addr} {h0:Heap} {m:Str→Option Value} {nm qn:Str} {N:Addr} {bs bm:List Value} {sn:List Str} {sub:List Value} {ab:Bool} {col:Option Bool} {dd:Option Addr} {k0 k1 k2 k3 k5:Option Value} {Q:Flow→Shared→Prop}
    (hk:scope.kind = .function) (hs:scope.names.lookup ("self" : Str) = some .local) (hms:m "self" = some (.ref x)) (hC:K.lookup C = some (excClassObj nm qn C N bs bm true sn sub ab col dd k0 k1 k2 k3 k5 "ValueError.__new__")) (hbm:refsVE bm = true)
    (sa:findIn K (.ref C) "__setattr__" = some (some (.builtin "object.__setattr__"))) (hx0:h0.objs.size≤L) (hxl:x < h0.objs.size) (h00:K.In h0) (hlx:K.lookup x = none):
    ∀ (l:List (Str×(Pos×Pos×Pos×Pos))) (dn:List (Str×Value)) (s:Shared) (dx t1:Addr),(∀ y ∈ l,scope.names.lookup y.1 = some .local∧findIn K (.ref C) y.1 = some none∧(y.1 == ("__debug__" : Str)) = false∧∃ v,m y.1 = some v)→dn.length + l.length≤900→
      (∀ b o,b ≠ x→h0.get? b = some o→s.heap.get? b = some o)→s.heap.get? x = some { cls:=.ref C,dict:=some dx,data:=.fields #[.ref t1,.none,.none,.none,.bool false,.none] }→h0.objs.size≤dx→dx ≠ x→dx ≠ L→s.heap.Ns1 dx (stf dn)→s.heap.Ns L m→
      (∀ h' tk,IEnd h0 h' x C ((l.map fun y=>(y.1,(m y.1).getD .none)).reverse ++ dn)→Q .next { s with heap:=h',toks:=tk })→wpAny (model prog w) A (execs (l.map sto) (ksEnv q scope L fI (.ref cda) cc)) Q E s
  | [],dn,s,dx,t1,_,_,k,ox,d1,d2,d3,ns,_,hq=>wpAny_execs_nil (hq s.heap s.toks ⟨k,dx,t1,ox,d1,d2,ns⟩)
  | y :: l,dn,s,dx,t1,hl,hz,k,ox,d1,d2,d3,ns,nl,hq=>by
    obtain ⟨l1,l2,l3,v,hv⟩:=hl y List.mem_cons_self
    have hcl:clsIn K C = some { name:=nm,bases:=bs,mro:=.ref C :: bm,ns:=N,qualname:=qn,hasDict:=true,slotNames:=sn,subclasses:=sub,abstract:=ab,collection:=col,hasDel:=false }:=by unfold clsIn; rw [hC] <;> rfl
    have X:K.In s.heap:=fun b o e=>k b o (fun z=>by rw [z,hlx] at e; cases e) (h00 b o e)
    rw [List.map_cons]
    refine wpAny_execs_cons (plainObj_wpAny_Assign_Attribute (wpAny_Name (wpAny_loadName_local hk l1 nl hv (wpAny_Name (wpAny_loadName_local hk hs nl hms ?_) (by decide))) l3) (by rfl))
    have hz1:dn.length + (l.length + 1)≤900:=hz
    obtain ⟨hp,g,d,t,os⟩:=s
    obtain ⟨oD,_,_,hoD,_,_⟩:=ns.count (stf_within dn)
    refine set_plain X (ox:={ cls:=.ref C,dict:=some dx,data:=.fields #[.ref t1,.none,.none,.none,.bool false,.none] }) (od:=some oD) ⟨ox,rfl,rfl,hoD⟩ sa ?_
    refine PySem.OEX.osa_old X ox ns (stf_within dn) (by rw [List.length_map]; omega) hcl (show refsVE (.ref C :: bm) = true from hbm) rfl l2 (fun h' tk' k' hn=>?_)
    refine sup_more hk hs hms hC hbm sa hx0 hxl h00 hlx l ((y.1,v) :: dn) ⟨h',g,d,tk',os⟩ dx t1 (fun z hz=>hl z (List.mem_cons_of_mem _ hz)) (by rw [List.length_cons]; omega) (fun b o hb e=>k' b o (fun z=>?_) (k b o hb e)) (k' _ _ (Ne.symm d2) ox) d1 d2 d3 hn ?_ fun h2 tk2 ie=>?_
    · rw [z] at e; exact absurd (Nat.lt_of_lt_of_le (Heap.lt_size e) d1) (Nat.lt_irrefl _)
    · obtain ⟨o,es,ep,ho,r⟩:=nl
      exact ⟨o,es,ep,k' _ _ (Ne.symm d3) ho,r⟩
    · refine hq h2 tk2 ?_
      rw [List.map_cons,List.reverse_cons,List.append_assoc,hv]
      exact ie
theorem lookup_rev:∀ {l:List (Str×Value)} {y:Str} {v:Value},(l.map (·.1)).Nodup→(y,v) ∈ l→l.reverse.lookup y = some v
  | p :: r,y,v,nd,h=>by
    rw [List.reverse_cons,List.lookup_append]
    rw [List.map_cons,List.nodup_cons] at nd
    rcases (List.mem_cons.mp h) with e | h
    · subst e
      have hn:r.reverse.lookup y = none:=by
        rw [List.lookup_eq_none_iff]
        rintro ⟨q,qv⟩ hq
        have:q ≠ y:=fun z=>nd.1 (by rw [← z]; exact List.mem_map.mpr ⟨(q,qv),List.mem_reverse.mp hq,rfl⟩)
        simpa using fun z:y = q=>this z.symm
      rw [hn]; simp
    · rw [lookup_rev nd.2 h]; rfl
theorem zip_fst:∀ {α β:Type} {a:List α} {b:List β},b.length = a.length→(a.zip b).map (·.1) = a
  | _,_,[],_,_=>rfl
  | _,_,x :: a,[],h=>by simp at h
  | _,_,x :: a,y :: b,h=>by rw [List.zip_cons_cons,List.map_cons,zip_fst (by simpa using h)]
theorem names_ev {env:Env} {m:Str→Option Value} (hk:env.scope.kind = .function):∀ (l:List (Str×Pos)) (pos:Pos) (s:Shared) (Q:List Value→Shared→Prop),s.heap.Ns env.locals m→(∀ y ∈ l,env.kindOf y.1 = some .local∧(y.1 == ("__debug__" : Str)) = false∧∃ v,m y.1 = some v)→
    Q (l.map fun y=>(m y.1).getD .none) s→wpAny (model prog w) A (spliced (backTo pos (starEach (l.map fun q=>.Name q.1 q.2) env))) Q E s
  | [],pos,s,Q,hn,hl,hq=>spliced_nil hq
  | y :: l,pos,s,Q,hn,hl,hq=>by
    obtain ⟨h1,h2,v,hv⟩:=hl y List.mem_cons_self
    show wpAny _ _ (spliced ((false,eval (.Name y.1 y.2) env) :: backTo pos (starEach (l.map fun q=>.Name q.1 q.2) env))) _ _ _
    refine spliced_cons (wpAny_Name (wpAny_loadName_local hk h1 hn hv ?_) h2)
    refine names_ev hk l pos s _ hn (fun z hz=>hl z (List.mem_cons_of_mem _ hz)) ?_
    rw [List.map_cons,hv] at hq
    exact hq
theorem names_plain {env:Env}:∀ (l:List (Str×Pos)) (pos:Pos),(backTo pos (starEach (l.map fun q=>.Name q.1 q.2) env)).any (·.1) = false
  | [],_=>rfl
  | y :: l,pos=>by
    show (false || (backTo pos (starEach (l.map fun q=>.Name q.1 q.2) env)).any (·.1)) = false
    rw [names_plain l pos]; rfl
theorem zip_mem {α β:Type}:∀ {a:List α} {b:List β} {p:α×β},p ∈ a.zip b→p.1 ∈ a
  | [],_,p,h=>by simp at h
  | x :: a,[],p,h=>by simp at h
  | x :: a,y :: b,p,h=>by
    rw [List.zip_cons_cons] at h
    rcases (List.mem_cons.mp h) with e | h
    · subst e; exact List.mem_cons_self
    · exact List.mem_cons_of_mem _ (zip_mem h)
theorem zip_find {α β:Type}:∀ {a:List α} {b:List β} {x:α},b.length = a.length→x ∈ a→∃ y,(x,y) ∈ a.zip b
  | x :: a,[],z,h,_=>by simp at h
  | x :: a,y :: b,z,h,hz=>by
    rcases (List.mem_cons.mp hz) with e | hz
    · subst e; exact ⟨y,by rw [List.zip_cons_cons]; exact List.mem_cons_self⟩
    · obtain ⟨y',h'⟩:=zip_find (b:=b) (by simpa using h) hz
      exact ⟨y',by rw [List.zip_cons_cons]; exact List.mem_cons_of_mem _ h'⟩
theorem zip_look {m:Str→Option Value} {γ:Type}:∀ {ps:List Str} {us:List Value} {zs:List γ},us.length = ps.length→zs.length = ps.length→(∀ p ∈ ps.zip us,m p.1 = some p.2)→((ps.zip zs).map fun y=>(y.1,(m y.1).getD .none)) = ps.zip us
  | [],[],_,_,_,_=>rfl
  | p :: ps,u :: us,z :: zs,h1,h2,h=>by
    rw [List.zip_cons_cons,List.zip_cons_cons,List.map_cons,zip_look (by simpa using h1) (by simpa using h2) fun q hq=>h q (by rw [List.zip_cons_cons]; exact List.mem_cons_of_mem _ hq)]
    rw [h (p,u) (by rw [List.zip_cons_cons]; exact List.mem_cons_self)]
    rfl
theorem zip_val {m:Str→Option Value} {γ:Type}:∀ {ps:List Str} {us:List Value} {zs:List γ},us.length = ps.length→zs.length = ps.length→(∀ p ∈ ps.zip us,m p.1 = some p.2)→((ps.zip zs).map fun y=>(m y.1).getD .none) = us
  | [],[],_,_,_,_=>rfl
  | p :: ps,u :: us,z :: zs,h1,h2,h=>by
    rw [List.zip_cons_cons,List.map_cons,zip_val (us:=us) (by simpa using h1) (by simpa using h2) fun q hq=>h q (by rw [List.zip_cons_cons]; exact List.mem_cons_of_mem _ hq)]
    rw [h (p,u) (by rw [List.zip_cons_cons]; exact List.mem_cons_self)]
    rfl
theorem sup_init (T:SupTxt prog K mg st C D fI ps) {x t0:Addr} {us:List Value} {s:Shared} (hps:ps ≠ []) (hnd:(("self" : Str) :: ps).Nodup) (hne:∀ p ∈ ps,(p == ("__debug__" : Str)) = false) (hl:us.length = ps.length) (hlen:ps.length≤100)
    (X:K.In s.heap) (T0:Top0 mg s.heap) (hlim:s.heap.NoLimit) (hx:s.heap.get? x = some (excO C t0)) (hnx:K.lookup x = none) (hroom:A.depth < recursionLimit)
    (hq:∀ h' tk,IEnd s.heap h' x C (ps.zip us).reverse→R (.ok (.ret .none)) { s with heap:=h',toks:=tk }):
    codeAny (model prog w) A (.call (.ref fI) ⟨.ref x :: us,[]⟩) R s:=by
  obtain ⟨oc,od,an,doc,pm,kV,ct,osl,q,cc,cda,ccl,cl,cdd,cld,vs,ccs,csl,file,tf,ho,hcd,hcode,hvs,hfile,hcell,hbind⟩:=T.fn
  obtain ⟨nm,qn,N,bs,bm,sn,sub,ab,col,dd,k0,k1,k2,k3,k5,hC,hbm⟩:=T.cls
  obtain ⟨cdD,hD⟩:=T.clD
  obtain ⟨p1,qs,p3,p4,p5,p7,p8,rs,zs,erl,ezl,eA,eB,eev,esw⟩:=T.ini.fn
  have hxl:x < s.heap.objs.size:=Heap.lt_size hx
  have hbk:(((("self" : Str),Value.ref x) :: ps.zip us).map (·.1)) = ("self" : Str) :: ps:=by rw [List.map_cons,zip_fst hl]
  have hnd':(((("self" : Str),Value.ref x) :: ps.zip us).map (·.1)).Nodup:=by rw [hbk]; exact hnd
  refine ks_codeAny_call_defAt (fd:=fnX "__init__" q (L2.defArgs st) (L2.defBody st) (L2.defScope st) [("__class__",cc)] .none kV doc pm an (.ref cda) ct) (body:=L2.defBody st) (binds:=("self",.ref x) :: ps.zip us)
    hroom (X _ _ ho) rfl hlim (codeRec_of X hcd) rfl (hbind s x us hl) T.ini.cell (fun y hy=>?_) (fun h₁ hns hk₁=>?_) T.ini.co T.ini.gen T.ini.kind
  · rcases List.mem_cons.mp hy with e | hy
    · subst e; exact T.ini.self
    · exact T.ini.loc _ (zip_mem hy)
  show _root_.PySem.wpAt (model prog w) (A.deeper (ksEnv q (L2.defScope st) s.heap.objs.size fI (.ref cda) cc)) (.func (L2.defBody st) (ksEnv q (L2.defScope st) s.heap.objs.size fI (.ref cda) cc)) (execs (L2.defBody st) (ksEnv q (L2.defScope st) s.heap.objs.size fI (.ref cda) cc)) _ _ _
  generalize hm:(fun y=>((("self" : Str),Value.ref x) :: ps.zip us).reverse.lookup y) = m at hns
  have ms:m "self" = some (.ref x):=by rw [← hm]; exact lookup_rev hnd' List.mem_cons_self
  have mp:∀ p ∈ ps.zip us,m p.1 = some p.2:=fun p hp=>by rw [← hm]; exact lookup_rev hnd' (List.mem_cons_of_mem _ hp)
  have X₁:K.In h₁:=X.keeps hk₁
  have hx₁:=hk₁ _ _ hx
  have hlocs:∀ {γ:Type} (zs:List γ),∀ y ∈ ps.zip zs,(L2.defScope st).names.lookup y.1 = some .local∧findIn K (.ref C) y.1 = some none∧(y.1 == ("__debug__" : Str)) = false∧∃ v,m y.1 = some v:=fun zs y hy=>by
    have hm:=zip_mem hy
    obtain ⟨v,hv⟩:=zip_find hl hm
    exact ⟨T.ini.loc _ hm,T.noN _ hm,hne _ hm,v,mp _ hv⟩
  have hel:∀ {γ:Type} {zs:List γ},zs.length = ps.length→((ps.zip zs).map fun y=>(m y.1).getD .none) = us:=fun {γ zs} e=>zip_val hl e mp
  obtain ⟨cdC,hcC⟩:∃ cd,clsIn K C = some cd:=⟨_,by unfold clsIn; rw [hC] <;> rfl⟩
  obtain ⟨pl,eev⟩:=eev (ksEnv q (L2.defScope st) s.heap.objs.size fI (.ref cda) cc)
  have hex:=congrArg (fun b=>execs b (ksEnv q (L2.defScope st) s.heap.objs.size fI (.ref cda) cc)) eB
  rw [hex]
  refine ks_wpAt_execs_cons (ks_wpAt_Expr_any (ks_wpAt_MethodCall (pl:=pl) (sup_get (C:=C) (D:=D) (m:=m) (t0:=t0) (x:=x) X₁ (T0.keeps hk₁) hns ho (ar:={ arg := "self",annotation:=none,pos:=p1 }) ?hp ms hx₁ hcode hvs hfile hcell hD T.sub T.msup (by decide) T.ini.sup T.ini.cls T.ini.self T.ini.kind T.top fun so h₂ hso k₂=>?_) eev) (by unfold interactive; rw [show (ksEnv q (L2.defScope st) s.heap.objs.size fI (.ref cda) cc).scope.kind = .function from T.ini.kind]; rfl) (esw _))
  case hp=>
    show ((L2.defArgs st).posonlyargs ++ (L2.defArgs st).args).head? = _
    rw [eA]; rfl
  have X₂:K.In h₂:=X₁.keeps k₂
  have hx₂:=k₂ _ _ hx₁
  have I₂:InstAt h₂ x (excO C t0) C none:=⟨hx₂,rfl,rfl,trivial⟩
  have al:alongIn K "__init__" ((cdC.mro.dropWhile (· != .ref D)).drop 1) = some (some (.builtin "ValueError.__init__")):=by
    have:=T.sin
    unfold ks_superIn at this
    rw [hcC] at this
    exact this
  refine kxs_getMethod kxs_ValueError hso (looks_opaque X₂ T.opq) (l₀:=cdC.mro) (fun A Q E s k q=>wpAny_bind ((looks_clsIn X₂ hcC) A _ E s k (wpAny_pure q))) rfl X₂ al (I₂.type.andThen (looks_subIn X₂ T.veC)) (ks_ne X₂ I₂ hcC) (by decide) ?_
  have k₃:∀ b o,h₂.get? b = some o→(h₂.push (kxs_mw "ValueError.__init__" x)).get? b = some o:=fun b o e=>Heap.get?_push_of_some _ e
  have n₃:(h₂.push (kxs_mw "ValueError.__init__" x)).Ns s.heap.objs.size m:=(hns.keeps k₂).keeps k₃
  have hu₃:(h₂.push (kxs_mw "ValueError.__init__" x)).get? h₂.objs.size = some (kxs_mw "ValueError.__init__" x):=Heap.get?_push_at rfl rfl
  have hcl:clsIn K C = some { name:=nm,bases:=bs,mro:=.ref C :: bm,ns:=N,qualname:=qn,hasDict:=true,slotNames:=sn,subclasses:=sub,abstract:=ab,collection:=col,hasDel:=false }:=by unfold clsIn; rw [hC] <;> rfl
  have hus:us.length≤sizeLine:=by rw [hl,sizeLine_eq]; omega
  -- the arguments,the call
  refine kxs_callWith (i := "ValueError.__init__") (x:=x) (names_plain _ _) ?_
  have done:∀ (s':Shared),s'.heap = h₂.push (kxs_mw "ValueError.__init__" x)→s'.gens = s.gens→s'.drawn = s.drawn→s'.os = s.os→KxsAt "ValueError.__init__" h₂.objs.size x s'.heap∧
      wpAny (model prog w) (A.deeper (ksEnv q (L2.defScope st) s.heap.objs.size fI (.ref cda) cc)) (call (.ref h₂.objs.size) us) (fun _ s''=>wpAny (model prog w) (A.deeper (ksEnv q (L2.defScope st) s.heap.objs.size fI (.ref cda) cc)) (execs ((ps.zip zs).map sto) (ksEnv q (L2.defScope st) s.heap.objs.size fI (.ref cda) cc))
        (fun f s'=>R (.ok (.ret (match f with | .ret v=>v | _=>.none))) s') (fun _ _=>False) s'') (fun _ _=>False) s':=by
    rintro s' e1 e2 e3 e4
    refine ⟨by rw [e1]; exact hu₃,?_⟩
    obtain ⟨hp,g,d,t,os⟩:=s'
    have e1:hp = h₂.push (kxs_mw "ValueError.__init__" x):=e1
    have e2:g = s.gens:=e2
    have e3:d = s.drawn:=e3
    have e4:os = s.os:=e4
    subst e1 e2 e3 e4
    refine sup_call (C:=C) (t0:=t0) ((X₂.keeps k₃) _ _ hC) (k₃ _ _ hx₂) hu₃ hus fun h₄ t1 k₄ hx₄=>?_
    have k₀₄:∀ b o,b ≠ x→s.heap.get? b = some o→h₄.get? b = some o:=fun b o hb e=>k₄ b o hb (k₃ _ _ (k₂ _ _ (hk₁ _ _ e)))
    have X₄:K.In h₄:=fun b o e=>k₀₄ b o (fun z=>by rw [z,hnx] at e; cases e) (X b o e)
    have hLx:s.heap.objs.size ≠ x:=Nat.ne_of_gt hxl
    have n₄:h₄.Ns s.heap.objs.size m:=by
      obtain ⟨o,es,ep,ho,r⟩:=n₃
      exact ⟨o,es,ep,k₄ _ _ hLx ho,r⟩
    have hL4:s.heap.objs.size < h₄.objs.size:=n₄.lt
    -- the first store
    cases hp:ps with
    | nil=>exact absurd hp hps
    | cons p ps'=>
      cases hz:zs with
      | nil=>rw [hp,hz] at ezl; simp at ezl
      | cons z zs'=>
        rw [List.zip_cons_cons,List.map_cons]
        obtain ⟨l1,l2,l3,v,hv⟩:=hlocs zs (p,z) (by rw [hp,hz,List.zip_cons_cons]; exact List.mem_cons_self)
        refine wpAny_execs_cons (plainObj_wpAny_Assign_Attribute (wpAny_Name (wpAny_loadName_local T.ini.kind l1 n₄ hv (wpAny_Name (wpAny_loadName_local T.ini.kind T.ini.self n₄ ms ?_) (by decide))) l3) (by rfl))
        refine set_plain X₄ (ox:=excO C t1) (od:=none) ⟨hx₄,rfl,rfl,trivial⟩ T.sa ?_
        refine exc_osa X₄ hx₄ hcl (show refsVE (.ref C :: bm) = true from hbm) rfl l2 (fun h₅ tk₅ dx k₅ dn dne hx₅ hn₅=>?_)
        have hz':s.heap.objs.size≤dx:=Nat.le_trans (Nat.le_of_lt hL4) dn
        have dL:dx ≠ s.heap.objs.size:=Nat.ne_of_gt (Nat.lt_of_lt_of_le hL4 dn)
        have n₅:h₅.Ns s.heap.objs.size m:=by
          obtain ⟨o,es,ep,ho,r⟩:=n₄
          exact ⟨o,es,ep,k₅ _ _ hLx ho,r⟩
        have hfin:∀ h' tk,IEnd s.heap h' x C (((ps'.zip zs').map fun y=>(y.1,(m y.1).getD .none)).reverse ++ [(p,v)])→R (.ok (.ret .none)) { heap:=h',gens:=s.gens,drawn:=s.drawn,toks:=tk,os:=s.os }:=fun h' tk ie=>by
          refine hq h' tk ?_
          have e:=zip_look (m:=m) hl ezl mp
          rw [← e,hp,hz,List.zip_cons_cons,List.map_cons,List.reverse_cons]
          rw [hv]
          exact ie
        have e1:(fun y=>if y = p then some v else none) = stf [(p,v)]:=by funext y; rfl
        rw [e1] at hn₅
        refine sup_more (s:=⟨h₅,s.gens,s.drawn,tk₅,s.os⟩) (h0:=s.heap) T.ini.kind T.ini.self ms hC hbm T.sa (Nat.le_refl _) hxl X hnx (ps'.zip zs') [(p,v)] dx t1 (fun y hy=>hlocs zs y (by rw [hp,hz,List.zip_cons_cons]; exact List.mem_cons_of_mem _ hy)) ?_ (fun b o hb e=>k₅ b o hb (k₀₄ b o hb e)) hx₅ hz' dne dL hn₅ n₅ hfin
        rw [List.length_zip]
        have:ps.length = ps'.length + 1:=by rw [hp]; rfl
        show 1 + _≤_
        omega
  have hargs:∀ (s':Shared) (Q:List Value→Shared→Prop),s'.heap = h₂.push (kxs_mw "ValueError.__init__" x)→Q us s'→∀ E,wpAny (model prog w) (A.deeper (ksEnv q (L2.defScope st) s.heap.objs.size fI (.ref cda) cc)) (spliced (backTo p7 (starEach ((ps.zip rs).map fun q=>.Name q.1 q.2) (ksEnv q (L2.defScope st) s.heap.objs.size fI (.ref cda) cc)))) Q E s':=fun s' Q e hQ E=>by
    refine names_ev (m:=m) T.ini.kind (ps.zip rs) p7 s' Q (by rw [e]; exact n₃) (fun y hy=>?_) (by rw [hel erl]; exact hQ)
    obtain ⟨l1,_,l3,v,hv⟩:=hlocs rs y hy
    exact ⟨l1,l3,v,hv⟩
  obtain ⟨xe,rest,exr⟩:∃ xe rest,backTo p7 (starEach ((ps.zip rs).map fun q=>.Name q.1 q.2) (ksEnv q (L2.defScope st) s.heap.objs.size fI (.ref cda) cc)) = (false,xe) :: rest:=by
    cases hp:ps with
    | nil=>exact absurd hp hps
    | cons p ps'=>
      cases hr:rs with
      | nil=>rw [hp,hr] at erl; simp at erl
      | cons r rs'=>exact ⟨_,_,rfl⟩
  rw [exr]
  refine evalArgs_plain ?_
  rw [← exr]
  refine hargs _ _ rfl ?_ _
  obtain ⟨h5,h6⟩:=done ⟨h₂.push (kxs_mw "ValueError.__init__" x),s.gens,s.drawn,s.toks + ((("self" : Str),Value.ref x) :: ps.zip us).length + 1,s.os⟩ rfl rfl rfl rfl
  refine ⟨h5,?_⟩
  rw [List.nil_append]
  exact wpAny_mono h6 (fun _ s'' h7=>wpAt_of_wpAny (wpAny_mono h7 (fun _ _ q=>q) fun _ _ z=>z.elim)) fun _ _ z=>z.elim
structure OMade (h h':Heap) (e C d:Addr) (kvs:List (Str×Value)):Prop where
  keep:∀ b o,h.get? b = some o→h'.get? b = some o
  new:h.objs.size≤e
  obj:∃ oe vs,h'.get? e = some oe∧oe.cls = .ref C∧oe.dict = some d∧oe.data = .fields vs∧vs[1]? = some .none
  dbig:h.objs.size≤d
  dne:d ≠ e
  ns:h'.Ns1 d (stf kvs)
theorem sup_made (T:SupTxt prog K mg st C D fI ps) {us:List Value} {s:Shared} (hps:ps ≠ []) (hnd:(("self" : Str) :: ps).Nodup) (hne:∀ p ∈ ps,(p == ("__debug__" : Str)) = false) (hl:us.length = ps.length) (hlen:ps.length≤100)
    (X:K.In s.heap) (T0:Top0 mg s.heap) (hlim:s.heap.NoLimit) (hroom:A.depth + 1 < recursionLimit)
    (hq:∀ h' tk e d,OMade s.heap h' e C d (ps.zip us).reverse→R (.ok (.ret (.ref e))) { s with heap:=h',toks:=tk }):
    codeAny (model prog w) A (.call (.ref C) ⟨us,[]⟩) R s:=by
  obtain ⟨nm,q,N,bs,bm,sn,sub,ab,col,dd,k0,k1,k2,k3,k5,hC,hbm⟩:=T.cls
  obtain ⟨hp,g,dr,tk,os⟩:=s
  have k:∀ b o,hp.get? b = some o→((hp.push (kdv_tup us)).push (excO C hp.objs.size)).get? b = some o:=fun b o e=>Heap.get?_push_of_some _ (Heap.get?_push_of_some _ e)
  have hget:((hp.push (kdv_tup us)).push (excO C hp.objs.size)).get? (hp.objs.size + 1) = some (excO C hp.objs.size):=by heap_get
  have hnx:K.lookup (hp.objs.size + 1) = none:=by
    cases e:K.lookup (hp.objs.size + 1) with
    | none=>rfl
    | some o=>
      have z:hp.get? (hp.objs.size + 1) = some o:=X _ _ e
      exact absurd (Nat.lt_of_succ_lt (Heap.lt_size z)) (Nat.lt_irrefl _)
  have hus:us.length≤sizeLine:=by rw [hl,sizeLine_eq]; omega
  refine call_own F.excBase_ValueError (fun X=>refsVE_contains X bm hbm) (X _ _ hC) (looks_findIn X T.iC) (fun self=>bind_fn X self T.tI) hus ?_
  refine sup_init (s:=⟨(hp.push (kdv_tup us)).push (excO C hp.objs.size),g,dr,tk,os⟩) T hps hnd hne hl hlen (X.keeps k) (T0.keeps k) (hlim.keeps k) hget hnx ?_ fun h' tk' ⟨k',dx,t1,hx,dn,dne,hns⟩=>?_
  · show A.depth + 1 < recursionLimit
    exact hroom
  · have old:∀ b o,hp.get? b = some o→h'.get? b = some o:=fun b o e=>k' b o (Nat.ne_of_lt (Nat.lt_succ_of_lt (Heap.lt_size e))) (k b o e)
    have z:hp.objs.size + 1 + 1≤dx:=by
      first
        | (simpa only [Heap.size_push] using dn)
        | exact dn
        | (have q:=dn; rw [Heap.size_push,Heap.size_push] at q; exact q)
    exact ⟨rfl,hq h' tk' (hp.objs.size + 1) dx ⟨old,Nat.le_succ _,⟨_,_,hx,rfl,rfl,rfl,rfl⟩,Nat.le_trans (Nat.le_trans (Nat.le_succ _) (Nat.le_succ _)) z,dne,hns⟩⟩
end
end DLX
end PySem
namespace DL
open PySem PySem.Spec PyProof.Rows L2 PySem.DLX
theorem relO_stf:∀ {l:List (Str×V)} {l':List (Str×Value)},KV l l'→∀ f,RelO (l.lookup f) (stf l' f)
  | _,_,.nil,f=>True.intro
  | (a,v) :: l,(b,u) :: l',.cons ⟨e,r⟩ t,f=>by
    have e:a = b:=e
    subst e
    unfold stf
    rw [List.lookup_cons]
    by_cases h:f = a
    · subst h
      rw [if_pos rfl]
      simp only [beq_self_eq_true]
      exact r
    · rw [if_neg h,show (f == a) = false by simpa using h]
      exact relO_stf t f
theorem kv_app {l m:List (Str×V)} {l' m':List (Str×Value)}:KV l l'→KV m m'→KV (l ++ m) (l' ++ m')
  | .nil,s=>s
  | .cons r t,s=>.cons r (kv_app t s)
theorem kv_rev:∀ {l:List (Str×V)} {l':List (Str×Value)},KV l l'→KV l.reverse l'.reverse
  | _,_,.nil=>.nil
  | _,_,.cons r t=>by rw [List.reverse_cons,List.reverse_cons]; exact kv_app (kv_rev t) (.cons r .nil)
theorem kv_zip:∀ {ps:List Str} {vs:List V} {us:List Value},Vals vs us→KV (ps.zip vs) (ps.zip us)
  | [],_,_,_=>.nil
  | _ :: _,_,_,.nil=>.nil
  | p :: ps,_,_,.cons r t=>.cons ⟨rfl,r⟩ (kv_zip t)
section
variable {X:Cx} {st:Stmt} {C D' fI:Addr} {ps:List Str}
def tMkSup (C:Addr) (ps:List Str) (ta:TA):L2.St→Hp→XK→Prop:=fun σ H Q=>ta σ H fun vs H1=>vs.length = ps.length∧∀ d,H1 d = none→Q (.ref C) (some d) (upd H1 d (.xd (ps.zip vs).reverse))
theorem top0_of {pins:List (Addr×Obj)} {σ:L2.St} {H:Hp} {s:Shared} (I:Inv X pins σ H s):Top0 X.mg s.heap:=by
  obtain ⟨mb,h1,h2⟩:=(I.mod.blt)
  exact ⟨I.mod.glob.keeps I.bk,mb,h1.keeps I.bk,h2⟩
theorem pmk_sup {e:Expr} {es:List Expr} {x:Str} {ta:TA} {p pos:Pos} {k:Nat} (T:SupTxt X.prog X.K X.mg st C D' fI ps) (gC:X.mg x = some (.ref C)) (hps:ps ≠ []) (hnd:(("self" : Str) :: ps).Nodup) (hne:∀ p ∈ ps,(p == ("__debug__" : Str)) = false) (hlen:ps.length≤100) (hr:Room k X.A) (ha:PA X (e :: es) ta) (hg:Gl X x)
    (hdb:(x == ("__debug__" : Str)) = false:=by decide) (he:starEach (e :: es) X.env = (false,eval e X.env) :: starEach es X.env:=by rfl) (hpl:(backTo pos (starEach es X.env)).any (·.1) = false:=by rfl):PMk X (.Call (.Name x p) (e :: es) [] pos) (tMkSup C ps ta):=by
  intro pins s σ H Q I h
  refine wpAny_Call_Name_kw (ld_glob (X:=X) I hg gC ?_ hdb)
  refine PySem.W.callWith_K (h₀:=X.base) I.ok.mod.kin T.kC (thn (ha.run pos pins s σ H _ I h) fun us s1 hh=>?_) he hpl
  obtain ⟨vs,H1,I1,r1,hl,q1⟩:=hh
  refine ⟨I1.kIn,?_⟩
  show wpAny _ X.A (call (.ref C) us) _ _ _
  have hlim:=I1.nolimit
  have t0:=top0_of I1
  obtain ⟨hp,g,dr,tk,os⟩:=s1
  refine wpAny_call (sup_made T hps hnd hne (by rw [← r1.length]; exact hl) hlen I1.kIn t0 hlim (by have:=hr.dp; omega) fun h' tk' e d M=>?_)
  show MkP X pins σ Q (.ref e) ⟨h',g,dr,tk',os⟩
  obtain ⟨oe,fv,hoe,hc,hd,hdat,h1⟩:=M.obj
  have hns:=M.ns
  obtain ⟨G',g1,g2⟩:=restrict h' fun b=>decide (b ≠ e)
  have gk:∀ b,b ≠ e→G'.get? b = h'.get? b:=fun b hb=>g1 b (decide_eq_true hb)
  have ge:G'.get? e = none:=g2 e (by simp)
  have old:∀ b o,hp.get? b = some o→G'.get? b = some o:=fun b o q=>(gk b (Nat.ne_of_lt (Nat.lt_of_lt_of_le (Heap.lt_size q) M.new))).trans (M.keep b o q)
  have ob:ObjOk X.prog X.w (upd H1 d (.xd (ps.zip vs).reverse)) G' d (.xd (ps.zip vs).reverse):=
    ⟨_,hns.at (fun o q=>(gk d M.dne).trans q),relO_stf (kv_rev (kv_zip r1))⟩
  have J:Inv X pins σ (upd H1 d (.xd (ps.zip vs).reverse)) ⟨G',g,dr,tk',os⟩:=I1.laid (t':=tk') old M.dbig ob
  refine ⟨e,oe,fv,⟨G',g,dr,tk',os⟩,_,.ref C,some d,rfl,J,fun b o q=>?_,ge,hoe,⟨hc,hd⟩,hdat,h1,?_,rfl,I1.bare,raises_own T.exC T.tyC,q1 d (I1.hok.fresh M.dbig)⟩
  · by_cases hb:b = e
    · have q':G'.get? b = some o:=q
      rw [hb,ge] at q'; cases q'
    · exact (gk b hb).symm.trans q
  · rw [upd_ne (Ne.symm M.dne)]
    exact I1.hok.fresh M.new
def sRaise (C:Addr) (ps:List Str) (As:S→R (List G)):S→O:=fun σ=>(As σ).then fun xs σ1=>match rds xs σ1 with
  | some ts=>(match vals? ts with
    | some ds=>if ds.length = ps.length then .exc C (ps.zip ds).reverse σ1 else .stuck
    | none=>.stuck)
  | none=>.stuck
theorem RK.app {κ:Type} {K:PySem.W.Frag} {H:Hp} {l l':List (κ×V)} {m m':List (κ×D)}:RK K H l m→RK K H l' m'→RK K H (l ++ l') (m ++ m')
  | .nil,s=>s
  | .cons q r,s=>.cons q (RK.app r s)
theorem RK.rev {κ:Type} {K:PySem.W.Frag} {H:Hp}:∀ {l:List (κ×V)} {m:List (κ×D)},RK K H l m→RK K H l.reverse m.reverse
  | _,_,.nil=>.nil
  | _,_,.cons q r=>by rw [List.reverse_cons,List.reverse_cons]; exact RK.app (RK.rev r) (.cons q .nil)
theorem RK.zip {κ:Type} {K:PySem.W.Frag} {H:Hp}:∀ {ps:List κ} {vs:List V} {ds:List D},RDs K H vs ds→RK K H (ps.zip vs) (ps.zip ds)
  | [],_,_,_=>.nil
  | _ :: _,_,_,.nil=>.nil
  | p :: ps,_,_,.cons q r=>.cons q (RK.zip r)
theorem ds_raise {ϖ:Pend} {W:WX} {kp:Nat→Bool} {e:Expr} {es:List Expr} {x:Str} {As:S→R (List G)} {p pos pos2:Pos} {k:Nat} (hc:X.calm = true) (T:SupTxt X.prog X.K X.mg st C D' fI ps) (gC:X.mg x = some (.ref C)) (hps:ps ≠ []) (hnd:(("self" : Str) :: ps).Nodup) (hne:∀ p ∈ ps,(p == ("__debug__" : Str)) = false) (hlen:ps.length≤100) (hr:Room k X.A) (tk:Takes X W) (ha:DGs X ϖ W (e :: es) As) (hg:Gl X x)
    (hdb:(x == ("__debug__" : Str)) = false:=by decide) (he:starEach (e :: es) X.env = (false,eval e X.env) :: starEach es X.env:=by rfl) (hpl:(backTo pos (starEach es X.env)).any (·.1) = false:=by rfl):DS X ϖ W kp (.Raise (some (.Call (.Name x p) (e :: es) [] pos)) none pos2) (sRaise C ps As):=by
  refine (ps_raise hc tk (pmk_sup T gC hps hnd hne hlen hr ha hg hdb he hpl)).imp fun Dn σv H q=>?_
  refine (evS (Rl:=ROs X.K σv) (F:=As) q).mono fun vs H1 ⟨xs,g,σ,h,r,s,n,p⟩=>?_
  split at p
  · rename_i ts e1
    obtain ⟨f1,q1⟩:=ROs.rds (hs:=s) r e1
    split at p
    · rename_i ds e2
      split at p
      · rename_i hl
        have rd:=q1.vals e2
        refine ⟨by rw [rd.length]; exact hl,fun d hd=>?_⟩
        have w:Nw H1 (upd H1 d (.xd (ps.zip vs).reverse)) (fun _=>0):=Nw.laid0 hd
        exact p d _ σv _ h upd_same (RK.rev (RK.zip (rd.stb w.stb))) (w.rs s) (n.le (z_le _ _)) ((w.fr (z_le g h)).le fun b=>by show h b≤0 + h b; omega) (.refl _ _)
      · exact p.elim
    · exact p.elim
  · exact p.elim
end
end DL
namespace DL
open PySem PySem.Spec PyProof.Rows L2
def goneD (oi:Option Nat) (D:Ends):Ends:=match oi with
  | none=>D
  | some i=>{ D with nx:=fun σ' H'=>D.nx (σ'.set i none) H',bk:=fun σ' H'=>D.bk (σ'.set i none) H',ct:=fun σ' H'=>D.ct (σ'.set i none) H' }
def heldS (oi:Option Nat) (a:Addr) (σ:L2.St):L2.St:=match oi with
  | none=>σ
  | some i=>σ.set i (some (.ref a))
abbrev Su:=Addr→Value→Option Addr→TS
def wCl (K:PySem.W.Frag) (Wout:WX) (D:Ends):List (Value×Option Nat×Su)→WX
  | []=>Wout
  | (c,oi,ts) :: r=>fun cls d σ H=>∃ b,PySem.W.exmOne K cls c = some b∧(b = true→∀ a,H a = none→ts a cls d (goneD oi D) (heldS oi a σ) H)∧(b = false→wCl K Wout D r cls d σ H)
theorem RS.hole {K:PySem.W.Frag} {ϖ:Pend} {H:Hp} {o:Option V}:∀ {σv:L2.St} {σ:S} {f:Fp} (i:Nat),RS K ϖ H σv (σ.set i none) f→RS K ϖ H (σv.set i o) (σ.set i none) f
  | [],[],_,_,r=>r
  | x :: σv,[],_,_,r=>by cases r
  | [],s :: σ,_,i,r=>by cases i <;> cases r
  | x :: σv,s :: σ,_,0,r=>by
    rw [List.set_cons_zero] at r ⊢
    cases r with
    | non r=>exact .non r
  | x :: σv,s :: σ,f,i + 1,r=>by
    rw [List.set_cons_succ] at r ⊢
    cases r with
    | non r=>exact .non (RS.hole i r)
    | som q r z=>exact .som q (RS.hole i r) z
abbrev SuF:=Addr→List (Str×D)→S→O
def tSu (K:PySem.W.Frag) (ϖ:Pend) (kp:Nat→Bool) (oi:Option Nat) (g:SuF):Su:=fun a cls d Dn σv H=>∃ C dd vs xs σ f,cls = .ref C∧d = some dd∧(∀ i,oi = some i→σv[i]? = some (some (.ref a)))∧H dd = some (.xd vs)∧RK K H vs xs∧RS K ϖ H σv σ f∧Nd f∧
  SPost K ϖ (fun _ _ _ _=>False) kp (g C xs σ) Dn σv H f
def DSu (X:Cx) (ϖ:Pend) (kp:Nat→Bool) (oi:Option Nat) (sts:List Stmt) (g:SuF):Prop:=∀ (a:Addr) (oe:Obj) (C dd:Addr) (pn:List (Addr×Obj)),Zc (.ref C) (some dd) oe→(∃ vs,oe.data = .fields vs)→
  PSs (X.suite a ((a,oe) :: pn)) sts (fun Dn σv H=>∃ vs xs σ f,(∀ i,oi = some i→σv[i]? = some (some (.ref a)))∧H dd = some (.xd vs)∧RK X.K H vs xs∧RS X.K ϖ H σv σ f∧Nd f∧SPost X.K ϖ (fun _ _ _ _=>False) kp (g C xs σ) Dn σv H f)
theorem DSu.su {X:Cx} {ϖ:Pend} {kp:Nat→Bool} {oi:Option Nat} {sts:List Stmt} {g:SuF} (h:DSu X ϖ kp oi sts g) (a:Addr) (oe:Obj) (cls:Value) (d:Option Addr) (pn:List (Addr×Obj)) (hz:Zc cls d oe) (hf:∃ vs,oe.data = .fields vs):
    PSs (X.suite a ((a,oe) :: pn)) sts (tSu X.K ϖ kp oi g a cls d):=by
  refine ⟨fun pins s σ H D I q=>?_⟩
  obtain ⟨C,dd,vs,xs,σ',f,e1,e2,h1,h2,h3,h4,h5,h6⟩:=q
  subst e1; subst e2
  exact (h a oe C dd pn hz hf).run pins s σ H D I ⟨vs,xs,σ',f,h1,h2,h3,h4,h5,h6⟩
structure Hd where
  m:List (Addr×Bool)
  oi:Option Nat
  g:SuF
def finO (oi:Option Nat) (o:O):O:=match oi with
  | none=>o
  | some i=>match o with
    | .nx σ=>.nx (σ.set i none)
    | .bk σ=>.bk (σ.set i none)
    | .ct σ=>.ct (σ.set i none)
    | o=>o
def entO (oi:Option Nat) (σ:S) (k:S→O):O:=match oi with
  | none=>k σ
  | some i=>if i < σ.length then k (σ.set i none) else .stuck
def noX (o:O):O:=match o with
  | .exc _ _ _=>.stuck
  | o=>o
def hGo:List Hd→Addr→List (Str×D)→S→O
  | [],C,xs,σ=>.exc C xs σ
  | h :: r,C,xs,σ=>match h.m.lookup C with
    | some true=>finO h.oi (noX (entO h.oi σ (h.g C xs)))
    | some false=>hGo r C xs σ
    | none=>.stuck
def sTry (body:S→O) (hds:List Hd):S→O:=fun σ=>match body σ with
  | .exc C xs σ1=>hGo hds C xs σ1
  | o=>o
section
variable {X:Cx} {ϖ:Pend} {kp:Nat→Bool} {W:WX} {body:List Stmt} {h₀:ExceptHandler} {hds:List ExceptHandler} {l:List (Value×Option Nat×Su)} {hs:List Hd} {pos:Pos} {g:S→O}
theorem fin_ok {K:PySem.W.Frag} {oi:Option Nat} {o:O} {Dn:Ends} {σv:L2.St} {H:Hp} {f:Fp} (hk:∀ i,oi = some i→kp i = false) (p:SPost K ϖ W kp (finO oi o) Dn σv H f):SPost K ϖ W kp o (goneD oi Dn) σv H f:=by
  cases oi with
  | none=>exact p
  | some i=>
    have k:=hk i rfl
    have go:∀ {σw:L2.St} {σ:S} {H':Hp} {h:Fp},RS K ϖ H' σw σ h→Nd h→Fr H f H' h→Kp kp σv σw→∃ h',RS K ϖ H' (σw.set i none) (σ.set i none) h'∧Nd h'∧Fr H f H' h'∧Kp kp σv (σw.set i none):=fun r n w q=>by
      obtain ⟨h',r',le⟩:=r.drop i
      exact ⟨h',r'.hole i,n.le le,w.le le,q.trans (.set k)⟩
    cases o with
    | nx σ=>intro σw H' h r n w q; obtain ⟨h',a,b,c,d⟩:=go r n w q; exact p _ H' h' a b c d
    | bk σ=>intro σw H' h r n w q; obtain ⟨h',a,b,c,d⟩:=go r n w q; exact p _ H' h' a b c d
    | ct σ=>intro σw H' h r n w q; obtain ⟨h',a,b,c,d⟩:=go r n w q; exact p _ H' h' a b c d
    | rt t σ=>exact p
    | exc C xs σ=>exact p
    | stuck=>exact p
theorem noX_ok {K:PySem.W.Frag} {o:O} {Dn:Ends} {σv:L2.St} {H:Hp} {f:Fp} {W':WX} (p:SPost K ϖ W kp (noX o) Dn σv H f):SPost K ϖ W' kp o Dn σv H f:=by
  cases o with
  | exc C xs σ=>exact p.elim
  | stuck=>exact p.elim
  | nx σ=>exact p
  | bk σ=>exact p
  | ct σ=>exact p
  | rt t σ=>exact p
inductive ClsF (K:PySem.W.Frag) (ϖ:Pend) (kp:Nat→Bool):List (Value×Option Nat×Su)→List Hd→Prop
  | nil:ClsF K ϖ kp [] []
  | cons {c:Value} {h:Hd} {l:List (Value×Option Nat×Su)} {r:List Hd} (hm:∀ C b,h.m.lookup C = some b→PySem.W.exmOne K (.ref C) c = some b) (hk:∀ i,h.oi = some i→kp i = false) (t:ClsF K ϖ kp l r):
      ClsF K ϖ kp ((c,h.oi,tSu K ϖ kp h.oi h.g) :: l) (h :: r)
theorem go_ok {K:PySem.W.Frag} {Wout:WX} {l:List (Value×Option Nat×Su)} {hs:List Hd} (h:ClsF K ϖ kp l hs) {C dd:Addr} {vs:List (Str×V)} {xs:List (Str×D)} {σ:S} {σw:L2.St} {H:Hp} {f:Fp} {Dn:Ends}
    (e:H dd = some (.xd vs)) (rk:RK K H vs xs) (r:RS K ϖ H σw σ f) (n:Nd f) (p:SPost K ϖ Wout kp (hGo hs C xs σ) Dn σw H f):wCl K Wout Dn l (.ref C) (some dd) σw H:=by
  induction h with
  | nil=>exact p dd vs σw H f e rk r n (.refl _ _) (.refl _ _)
  | @cons c h l hs hm hk t ih=>
    unfold hGo at p
    cases em:h.m.lookup C with
    | none=>rw [em] at p; exact p.elim
    | some b=>
      rw [em] at p
      refine ⟨b,hm C b em,fun hb a na=>?_,fun hb=>?_⟩
      · subst hb
        have p:=noX_ok (W':=fun _ _ _ _=>False) (fin_ok hk p)
        cases eo:h.oi with
        | none=>
          rw [eo] at p
          exact ⟨C,dd,vs,xs,σ,f,rfl,rfl,(fun i z=>by cases z),e,rk,r,n,p⟩
        | some i=>
          rw [eo] at p
          unfold entO at p
          dsimp only at p
          by_cases hi:i < σ.length
          · rw [if_pos hi] at p
            obtain ⟨h',r',le⟩:=r.drop i
            refine ⟨C,dd,vs,xs,σ.set i none,h',rfl,rfl,(fun j z=>by cases z; show (σw.set i (some (.ref a)))[i]? = _; rw [List.getElem?_set_self (by rw [r.length]; exact hi)]),e,rk,r'.hole i,n.le le,?_⟩
            exact p.fr ((Fr.refl H f).le le) (.set (hk i eo))
          · rw [if_neg hi] at p
            exact p.elim
      · subst hb
        exact ih p
theorem ds_try1 {x n:Str} {c:Value} {i:Nat} {b₀:Stmt} {suite:List Stmt} {np pos':Pos} {m:List (Addr×Bool)} {gs:SuF} (hst:X.stack = X.env :: X.outer) (hf:X.env.frame = some X.env.locals) (hN:X.N.Nodup) (hi:X.N[i]? = some n) (hln:X.env.kindOf n = some .local) (hc:Names X x c) (tk:Takes X W)
    (hm:∀ C b,m.lookup C = some b→PySem.W.exmOne X.K (.ref C) c = some b)
    (hb:∀ (W:WX) (pn:List (Addr×Obj)) (xe:Value→Shared→Prop),Takes (X.tr pn xe) W→PassesOwn (model X.prog X.w) X.A X.env xe→DSs (X.tr pn xe) ϖ W kp body g)
    (hsu:DSu X ϖ kp (some i) (b₀ :: suite) gs) (hk:kp i = false:=by rfl):DS X ϖ W kp (.Try body [.ExceptHandler (some (.Name x np)) (some n) (b₀ :: suite) pos'] [] [] pos) (sTry g [⟨m,some i,gs⟩]):=by
  have cl:ClsF X.K ϖ kp [(c,some i,tSu X.K ϖ kp (some i) gs)] [⟨m,some i,gs⟩]:=.cons (h:=⟨m,some i,gs⟩) hm (fun j e=>by cases e; exact hk) .nil
  refine (ps_try_as (tb:=fun W=>sS X.K ϖ W kp g) (ts:=tSu X.K ϖ kp (some i) gs) hst hf hN hi hln hc tk hb hsu.su).imp fun Dn σv H ⟨σ,f,r,n,p⟩=>⟨σ,f,r,n,?_⟩
  have conv:∀ cls d σ H,wCl X.K W Dn [(c,some i,tSu X.K ϖ kp (some i) gs)] cls d σ H→wAs X.K c i (tSu X.K ϖ kp (some i) gs) W Dn cls d σ H:=fun cls d σ H w=>w
  unfold sTry at p
  cases e:g σ with
  | nx σ'=>rw [e] at p; exact p
  | bk σ'=>rw [e] at p; exact p
  | ct σ'=>rw [e] at p; exact p
  | rt t σ'=>rw [e] at p; exact p
  | stuck=>rw [e] at p; exact p
  | exc C xs σ'=>
    rw [e] at p
    exact fun d vs σw H' h ed rk r' n' w k=>conv _ _ _ _ (go_ok cl ed rk r' n' (p.fr w k))
end
abbrev PxF:=Addr→List (Str×D)→Option D
def tPx (K:PySem.W.Frag) (a dd:Addr) (oi:Option Nat) (o:List (Str×D)→Option D):TE:=fun σv H Q=>(∀ i,oi = some i→σv[i]? = some (some (.ref a)))∧∃ vs xs x,H dd = some (.xd vs)∧RK K H vs xs∧o xs = some x∧∀ v H',RD K H' v x→Nw H H' (fun _=>0)→Q v H'
def DPx (X:Cx) (oi:Option Nat) (e:Expr) (px:PxF):Prop:=∀ (a:Addr) (oe:Obj) (C dd:Addr) (pn:List (Addr×Obj)),Zc (.ref C) (some dd) oe→(∃ vs,oe.data = .fields vs)→
  PE (X.suite a ((a,oe) :: pn)) e (tPx X.K a dd oi (px C))
def tPa (K:PySem.W.Frag) (a dd:Addr) (oi:Option Nat) (o:List (Str×D)→Option (List D)):TA:=fun σv H Q=>(∀ i,oi = some i→σv[i]? = some (some (.ref a)))∧∃ vs xs x,H dd = some (.xd vs)∧RK K H vs xs∧o xs = some x∧∀ us H',RDs K H' us x→Nw H H' (fun _=>0)→Q us H'
def DPa (X:Cx) (oi:Option Nat) (es:List Expr) (pa:Addr→List (Str×D)→Option (List D)):Prop:=∀ (a:Addr) (oe:Obj) (C dd:Addr) (pn:List (Addr×Obj)),Zc (.ref C) (some dd) oe→(∃ vs,oe.data = .fields vs)→
  PA (X.suite a ((a,oe) :: pn)) es (tPa X.K a dd oi (pa C))
def tPb (K:PySem.W.Frag) (a dd:Addr) (oi:Option Nat) (o:List (Str×D)→Option Bool):TT:=fun σv H Q=>(∀ i,oi = some i→σv[i]? = some (some (.ref a)))∧∃ vs xs x,H dd = some (.xd vs)∧RK K H vs xs∧o xs = some x∧Q x H
def DPb (X:Cx) (oi:Option Nat) (e:Expr) (pb:Addr→Option Bool):Prop:=∀ (a:Addr) (oe:Obj) (C dd:Addr) (pn:List (Addr×Obj)),Zc (.ref C) (some dd) oe→(∃ vs,oe.data = .fields vs)→
  PT (X.suite a ((a,oe) :: pn)) e (tPb X.K a dd oi (fun _=>pb C))
theorem Nw.rk {K:PySem.W.Frag} {H H':Hp} {g:Fp} {κ:Type} (n:Nw H H' g) {vs:List (κ×V)} {xs:List (κ×D)} (r:RK K H vs xs):RK K H' vs xs:=r.stb n.stb
theorem Nw.tr0 {H H1 H2:Hp} (a:Nw H H1 (fun _=>0)) (b:Nw H1 H2 (fun _=>0)):Nw H H2 (fun _=>0):=⟨fun c o e=>b.same c o (a.same c o e),fun _ z=>absurd rfl z,fun _=>Nat.zero_le _⟩
section
variable {X:Cx} {ϖ:Pend} {kp:Nat→Bool} {oi:Option Nat} {e b c:Expr} {es:List Expr} {px py:PxF} {pos:Pos} {pa:Addr→List (Str×D)→Option (List D)} {pb pc:Addr→Option Bool}
def pxAttr (cs:List Addr) (f:Str):PxF:=fun C xs=>if cs.contains C = true then xs.lookup f else none
theorem RK.look {K:PySem.W.Frag} {H:Hp}:∀ {vs:List (Str×V)} {xs:List (Str×D)} {f:Str} {x:D},RK K H vs xs→xs.lookup f = some x→∃ v,vs.lookup f = some v∧RD K H v x
  | _,_,_,_,.nil,e=>by cases e
  | (k,v) :: vs,(_,d) :: xs,f,x,.cons q r,e=>by
    rw [List.lookup_cons] at e ⊢
    cases h:f == k with
    | true=>rw [h] at e; cases e; exact ⟨v,rfl,q⟩
    | false=>rw [h] at e; exact RK.look r e
theorem px_attr {i:Nat} {n:Str} (cs:List Addr) (hC:∀ C ∈ cs,XfC X.K C∧PySem.W.findIn X.K (.ref C) n = some none) (he:∀ a pn,PE (X.suite a pn) e (tVar i)) (hb:attributeBase e n X.env (eval e X.env) = eval e X.env:=by rfl):
    DPx X (some i) (.Attribute e n pos) (pxAttr cs n):=fun a oe C dd pn hz hf=>by
  by_cases hc:cs.contains C = true
  · obtain ⟨T,hno⟩:=hC C (List.contains_iff_mem.mp hc)
    refine (pe_xf T hno hz hf (he a _) hb).imp fun σv H Q ⟨ha,vs,xs,x,ed,rk,e,q⟩=>?_
    unfold pxAttr at e
    rw [if_pos hc] at e
    obtain ⟨v,l,rv⟩:=rk.look e
    exact ⟨.ref a,ha i rfl,rfl,rfl,dd,vs,v,rfl,ed,l,q v H rv (Nw.refl H)⟩
  · refine ⟨fun pins s σ H Q I ⟨ha,vs,xs,x,ed,rk,e,q⟩=>?_⟩
    unfold pxAttr at e
    rw [if_neg hc] at e
    cases e
theorem pa_nil:DPa X oi [] (fun _ _=>some []):=fun a oe C dd pn _ _=>(L2.pa_nil).imp fun σv H Q ⟨_,vs,xs,x,_,_,e,q⟩=>by cases e; exact q [] H .nil (Nw.refl H)
theorem pa_cons (h1:DPx X oi e px) (h2:DPa X oi es pa) (hs:starEach (e :: es) X.env = (false,eval e X.env) :: starEach es X.env:=by rfl):DPa X oi (e :: es) (fun C xs=>(px C xs).bind fun d=>(pa C xs).map (d :: ·)):=fun a oe C dd pn hz hf=>
  (L2.pa_cons (h1 a oe C dd pn hz hf) (h2 a oe C dd pn hz hf) hs).imp fun σv H Q ⟨ha,vs,xs,x,ed,rk,e,q⟩=>by
    obtain ⟨d,e1,e2⟩:=Option.bind_eq_some_iff.mp e
    obtain ⟨ds,e3,e4⟩:=Option.map_eq_some_iff.mp e2
    subst e4
    exact ⟨ha,vs,xs,d,ed,rk,e1,fun v H1 rv n1=>⟨ha,vs,xs,ds,n1.same _ _ ed,n1.rk rk,e3,fun us H2 rs n2=>q _ _ (.cons (rv.stb n2.stb) rs) (n1.tr0 n2)⟩⟩
theorem px_tup {x1:Nat} (h:DPa X oi es pa):DPx X oi (.Tuple es x1 pos) (fun C xs=>(pa C xs).bind fun ds=>if ds.length≤sizeLine then some (.tup ds) else none):=fun a oe C dd pn hz hf=>
  (pe_tup (h a oe C dd pn hz hf)).imp fun σv H Q ⟨ha,vs,xs,x,ed,rk,e,q⟩=>by
    obtain ⟨ds,e1,e2⟩:=Option.bind_eq_some_iff.mp e
    split at e2
    · rename_i hl
      cases e2
      exact ⟨ha,vs,xs,ds,ed,rk,e1,fun us H1 rs n1=>⟨by rw [rs.length]; exact hl,fun p hp=>q _ _ (.tup (.of upd_same) (rs.stb (.fresh hp))) (n1.tr0 (Nw.laid0 hp))⟩⟩
    · cases e2
theorem su_ret (h:DPx X oi e px):DSu X ϖ kp oi [.Return (some e) pos] (fun C xs σ=>match px C xs with | some d=>.rt (.val d) σ | none=>.stuck):=fun a oe C dd pn hz hf=>
  pss_one ((ps_ret (h a oe C dd pn hz hf)).imp fun Dn σv H ⟨vs,xs,σ,f,ha,ed,rk,r,n,p⟩=>by
    cases e:px C xs with
    | none=>simp only [e] at p; exact p.elim
    | some d=>
      simp only [e] at p
      refine ⟨ha,vs,xs,d,ed,rk,e,fun v H' rv nw=>p v σv H' (fun _=>0) f (.vl rv) (nw.rs r) (n.le fun b=>by show 0 + f b≤f b; omega) ((nw.fr fun _=>Nat.le_refl _)) (.refl _ _)⟩)
end
end DL
namespace PySem.DLI
open PySem PySem.W PySem.Calls PyProof.Rows PySem.Spec
section
variable {prog:Program} {w:World} {A:Around} {E:Value→Shared→Prop} {s:Shared} {K:Frag} {y B:Addr} {oy:Obj} {oz:Option Obj}
theorem obj_data {nm:Str} {v g:Value} (h1:(clsIn K B).isSome = true) (h2:findIn K (.ref B) nm = some (some v)) (h3:specialIn K v "__get__" = some (some g)) (h4:takesIn K v = some true):findObj K B oz nm = some (.bind g v):=by
  obtain ⟨cd,e⟩:=Option.isSome_iff_exists.mp h1
  unfold findObj
  rw [e,Option.bind_some,h2,Option.bind_some]
  simp [h3,h4]
theorem own_class {Q:Option Value→Shared→Prop} (T:L2.ExcC K B) (X:K.In s.heap) (I:InstAt s.heap y oy B oz) (h:Q (some (.ref B)) { s with toks:=s.toks + 1 }):wpAny (model prog w) A (getAttr? (.ref y) "__class__") Q E s:=by
  have hf:findObj K B oz "__class__" = some (.bind (.builtin "getset_descriptor.__get__") (.builtin "object.__class__")):=obj_data (by obtain ⟨cd,hc,_⟩:=any_some T.hd; rw [hc]; rfl) T.ha T.hn T.ht
  obtain ⟨hp,gs,dr,tk,os⟩:=s
  have l0:=I.type (M:=model prog w)
  have l1:=looks_findIn (M:=model prog w) X T.hg
  have l2:=looks_findIn (M:=model prog w) X T.hk
  have l3:=looks_find (M:=model prog w) X I hf
  have sub:Looks (model prog w) hp (isInstance (.ref y) (.type "BaseException")) true:=l0.andThen (looks_subIn X T.hs)
  have z0:(false && onTheHeap (Value.builtin "BaseException.__getattribute__")) = false:=rfl
  have z2:(Value.builtin "BaseException.__getattribute__" == Value.builtin "object.__getattribute__") = false:=by decide +kernel
  have z1:(onTheHeap (Value.ref B) && Value.builtin "BaseException.__getattribute__" == Value.builtin "object.__getattribute__") = false:=by rw [z2]; rfl
  unfold getAttr?; unfold getAttrBy? getAttrBy
  refine wpAny_bind (wpAny_mkText (wpAny_bind (wpAny_attempt (wpAny_holding (wpAny_bind (l0.at (wpAny_bind (l1.at ?_))))))))
  show wpAny _ _ (if (onTheHeap (Value.ref B) && Value.builtin "BaseException.__getattribute__" == Value.builtin "object.__getattribute__") = true then _ else _) _ _ _
  rw [z1,if_neg Bool.false_ne_true]
  unfold getAttrByItsOwn; unfold hookBefore
  refine wpAny_bind ?_
  rw [if_pos (show onTheHeap (Value.ref B) = true from rfl)]
  refine l2.at (wpAny_bind (wpAny_attempt (wpAny_holding ?_)))
  unfold callGetattribute
  rw [z0,if_neg Bool.false_ne_true]
  unfold boundAndCalled
  rw [PySem.F.excAttr_ValueError.ga.bind (.ref y)]
  refine wpAny_bind (wpAny_pure ?_); show wpAny _ _ (call (.builtin "BaseException.__getattribute__") [.ref y,.str "__class__" tk]) _ _ _
  refine wpAny_call (codeAny_call_builtin (F.excAttr_ValueError.ga.plain) (F.entry_bexc_ga) ?_)
  refine @check_slot (model prog w) _ _ ⟨hp,gs,dr,tk + 1,os⟩ "BaseException.__getattribute__" "BaseException" "__getattribute__" (.ref y) [.str "__class__" tk] [] _ (by decide +kernel) (by decide +kernel) sub (PySem.F.args_bexc_ga (.ref y) (.str "__class__" tk)) ?_
  unfold Builtin.«object.__getattribute__»; refine wpAny_bind (wpAny_of_eq (a:=((Value.ref y:Value),[Value.str "__class__" tk])) (by first | rfl | (simp only [slotArgs]; rfl)) ?_)
  refine wpAny_bind (wpAny_pure (wpAny_bind (l0.at (wpAny_bind (l3.at ?_)))))
  show wpAny _ _ (holding [Value.builtin "object.__class__"] (call (.builtin "getset_descriptor.__get__") [.builtin "object.__class__",.ref y,.ref B]) >>= ret) _ _ _
  refine wpAny_bind (wpAny_holding (wpAny_call (class_get (s:=⟨hp,gs,dr,tk + 1,os⟩) (ox:=oy) (od:=oz) X I T.hm ?_)))
  refine wpAny_pure ?_
  show wpAny _ _ (handedOut (.ref B)) _ _ _
  rw [handedOut_of (v:=.ref B) rfl]
  first
    | exact wpAny_pure h | exact wpAny_pure (wpAny_pure h) | exact wpAny_pure (wpAny_bind (wpAny_pure (wpAny_pure h)))
theorem kit_own (T:L2.ExcC K B):KitX K (.ref y) (.ref B) (fun h=>∃ oz,InstAt h y oy B oz) where
  ty:=fun _ _ _ ⟨_,I⟩=>I.type
  it:=fun _ _ X _=>by
    obtain ⟨cdB,hcB,_⟩:=any_some T.hd
    unfold clsIn at hcB
    split at hcB
    · rename_i c1 d1 cd1 sl1 ho
      exact fun A1 Q1 E1 s1 k q=>by
        unfold isType loadHead; exact wpAny_bind (wpAny_loadPart (k _ _ (X _ _ ho)) (wpAny_pure q))
    · cases hcB
  ne:=fun hp tp dd its n sl X htp=>by
    obtain ⟨cdB,hcB,_⟩:=any_some T.hd
    refine (Bool.eq_false_iff.mpr fun q=>?_); have e:B = tp:=Value.ref.inj (beq_iff_eq.mp q)
    subst e
    unfold clsIn at hcB
    split at hcB
    · rename_i c1 d1 cd1 sl1 ho
      cases (X _ _ ho).symm.trans htp
    · cases hcB
  ca:=fun X ⟨_,I⟩ k=>own_class T X I k
end
end PySem.DLI
namespace DL
open PySem PySem.Spec PyProof.Rows L2
theorem call_isD {X:Cx} {a B dd:Addr} {oe:Obj} {pn:List (Addr×Obj)} (C:ExcC X.K B) (hz:Zc (.ref B) (some dd) oe) (hf:∃ vs,oe.data = .fields vs):CallR (X.suite a ((a,oe) :: pn)) (.builtin "isinstance")
    (fun xs H Q=>(∃ fs,H dd = some (.xd fs))∧rIsE X.K B a xs H Q):=by
  intro pins s σ H xs us Q I r ⟨⟨fs,hfs⟩,h⟩
  obtain ⟨c,cv,bb,rfl,hcv,e,q⟩:=h
  cases r with
  | cons rx rr=>
    cases rr with
    | cons rt rr=>
      cases rr
      cases rx
      cases hcv _ rt
      obtain ⟨hget,_⟩:=I.pin (a,oe) (List.mem_append_left _ List.mem_cons_self)
      obtain ⟨vs,hv⟩:=hf
      have hx:ObjOk X.prog X.w H s.heap dd (.xd fs):=I.hok dd _ hfs
      obtain ⟨mA,hns,hr⟩:=hx
      obtain ⟨od,ho,hl⟩:=lookIn_ns hns
      have J:PySem.W.InstAt s.heap a oe B (some od):=⟨hget,hz.1,by unfold PySem.W.notCls; rw [hv] <;> rfl,by rw [hz.2]; exact ho⟩
      exact PySem.W.kia_one (PySem.DLI.kit_own C) I.kIn ⟨_,J⟩ e (fun z=>nomatch z) fun tk=>⟨.bl bb,H,I.kept (t':=tk) fun _ _ z=>z,rfl,q⟩
section
variable {X:Cx} {e:Expr} {i:Nat} {pos:Pos}
def D.ty:D→String
  | .non => "NoneType"
  | .bl _ => "bool"
  | .int _ => "int"
  | .str _ => "str"
  | .tup _ => "tuple"
  | .lst _ => "list"
def T.ty:T→String
  | .val d=>d.ty
  | .lst _ => "list"
  | .ll _ => "list"
  | .dK _ => "dict"
  | .dT _ => "dict"
theorem RD.ty {K:PySem.W.Frag} {H:Hp} {v:V} {d:D} (h:RD K H v d):TyX K H v (.type d.ty):=by
  cases h with
  | non=>exact .base .non
  | bl b=>exact .base (.bl b)
  | int i=>exact .base (.int i)
  | str x=>exact .base (.str x)
  | tup q r=>
    rcases q with (q | ⟨o,q⟩) | ⟨o,its,n,q,c,_⟩
    · exact .base (.tup q)
    · exact .fTuple q
    · exact .kTuple q c
  | lst q r=>
    rcases q with ⟨o,q⟩ | ⟨o,its,n,q,c,_⟩
    · exact .base (.frz q)
    · exact .kList q c
theorem RT.ty {K:PySem.W.Frag} {H:Hp} {v:V} {t:T} {f:Fp} (h:RT K H v t f):TyX K H v (.type t.ty):=by
  cases h with
  | val q _=>exact q.ty
  | lst e _ _=>exact .base (.lst e)
  | ll e _ _=>exact .base (.lst e)
  | dK e _ _=>exact .base (.dK e)
  | dT e _ _=>exact .base (.dT e)
def isTy (ty:String) (o:String):Bool:=if ty = "int" then o == "int" || o == "bool" else o == ty
def eIs (ty:String) (A:S→R G):S→R T:=fun σ=>(A σ).bind fun x σ1=>match rdG x σ1 with
  | some t=>.ok (.val (.bl (isTy ty t.ty))) σ1
  | none=>.stuck
end
end DL
namespace DL
open PySem PySem.Spec PyProof.Rows L2
def R.nox {α:Type} (r:R α):R α:=match r with
  | .exc _ _ _=>.stuck
  | r=>r
section
variable {α β γ δ:Type} {K:PySem.W.Frag} {ϖ:Pend} {W W':WX} {Rl:Hp→β→α→Fp→Prop} {Rm:Hp→δ→γ→Fp→Prop} {σv σw:L2.St} {H H' H0:Hp} {f g h f0:Fp}
theorem evN {F:S→R α} {k:α→S→R γ} {σ:S} {P:Hp→Prop} {Q:δ→Hp→Prop} (hP:∀ H',Stb H H'→(∀ b o,g b ≠ 0→H b = some o→H' b = some o)→P H') (own:OwnFp H g) (hs:RS K ϖ H σw σ h) (nd:Nd fun b=>g b + h b)
    (q:Post K ϖ W Rm σv ((F σ).nox.bind k) H (fun b=>g b + h b) Q):
    tX K ϖ W' Rl F σw H (fun u H2=>∃ t2 g2 σ2 h2,Rl H2 u t2 g2∧P H2∧Stb H H2∧OwnFp H2 g∧RS K ϖ H2 σw σ2 h2∧Nd (fun b=>g b + (g2 b + h2 b))∧Post K ϖ W Rm σv (k t2 σ2) H2 (fun b=>g b + (g2 b + h2 b)) Q):=by
  refine ⟨σ,h,hs,nd.le fun b=>by show h b≤g b + h b; omega,?_⟩
  cases e:F σ with
  | stuck=>rw [e] at q; exact q
  | exc C xs σ'=>rw [e] at q; exact q.elim
  | ok t2 σ2=>
    rw [e] at q
    intro v H2 g2 h2 a b n w
    have w':=w.beside (g:=g)
    have kp:∀ b o,g b ≠ 0→H b = some o→H2 b = some o:=fun b o hb e=>w.keep b o e (by have:=nd b; have:g b + h b≤1:=this; omega)
    refine ⟨t2,g2,σ2,h2,a,hP H2 w.stb kp,w.stb,fun b hb=>?_,b,w.apart own nd n,Post.fr (r:=k t2 σ2) q w'⟩
    obtain ⟨o,eo,wo⟩:=own b hb
    exact ⟨o,kp b o hb eo,wo⟩
end
def wipeS (σ:S):List Nat→S
  | []=>σ
  | v :: vs=>wipeS (σ.set v none) vs
def keepS (σ1:S):List Nat→S→S
  | [],σ=>σ
  | v :: vs,σ=>keepS σ1 vs (match σ1[v]? with
    | some (some (.val d))=>σ.set v (some (.val d))
    | _=>σ)
section
variable {K:PySem.W.Frag} {ϖ:Pend} {H H1:Hp} {σv:L2.St}
theorem RS.wipeIn:∀ (vs:List Nat) {σ:S} {f:Fp},RS K ϖ H σv σ f→∃ h,RS K ϖ H (wipe σv vs) (wipeS σ vs) h∧∀ b,h b≤f b:=by
  intro vs
  induction vs with
  | nil=>exact fun r=>⟨_,r,fun _=>Nat.le_refl _⟩
  | cons v vs ih=>
    intro σ f r
    obtain ⟨h,r1,z⟩:=r.drop v
    obtain ⟨h2,r2,z2⟩:=ih r1
    have e:∀ (vs:List Nat) (σ:S),wipeS (σ.set v none) vs = (wipeS σ vs).set v none:=by
      intro vs
      induction vs with
      | nil=>exact fun _=>rfl
      | cons u vs ih=>
        intro σ
        show wipeS ((σ.set v none).set u none) vs = (wipeS (σ.set u none) vs).set v none
        rw [← ih]
        by_cases hu:v = u
        · subst hu; rfl
        · rw [List.set_comm _ _ hu]
    refine ⟨h2,?_,fun b=>Nat.le_trans (z2 b) (z b)⟩
    show RS K ϖ H ((wipe σv vs).set v none) (wipeS (σ.set v none) vs) h2
    rw [e] at r2 ⊢
    exact r2.hole v
theorem RS.wipeOut:∀ (vs:List Nat) {σ:S} {f:Fp},RS K ϖ H (wipe σv vs) σ f→∃ h,RS K ϖ H σv (wipeS σ vs) h∧∀ b,h b≤f b:=by
  intro vs
  induction vs with
  | nil=>exact fun r=>⟨_,r,fun _=>Nat.le_refl _⟩
  | cons v vs ih=>
    intro σ f r
    have r:RS K ϖ H ((wipe σv vs).set v none) σ f:=r
    obtain ⟨h,r1,z⟩:=r.drop v
    have r2:=r1.hole (o:=(wipe σv vs)[v]?.join) v
    have e:((wipe σv vs).set v none).set v (wipe σv vs)[v]?.join = wipe σv vs:=by
      rw [List.set_set]
      cases h:(wipe σv vs)[v]? with
      | none=>exact List.set_eq_of_length_le (List.getElem?_eq_none_iff.mp h)
      | some o=>
        obtain ⟨h1,h2⟩:=List.getElem?_eq_some_iff.mp h
        show (wipe σv vs).set v o = _
        rw [← h2,List.set_getElem_self]
    rw [e] at r2
    obtain ⟨h3,r3,z3⟩:=ih r2
    exact ⟨h3,r3,fun b=>Nat.le_trans (z3 b) (z b)⟩
theorem RS.keepIn {σ1:S} {f1:Fp} (r1:RS K ϖ H1 σv σ1 f1) (s:Stb H1 H):∀ (vs:List Nat) {σ:S} {f:Fp},RS K ϖ H σv σ f→∃ h,RS K ϖ H σv (keepS σ1 vs σ) h∧∀ b,h b≤f b:=by
  intro vs
  induction vs with
  | nil=>exact fun r=>⟨_,r,fun _=>Nat.le_refl _⟩
  | cons v vs ih=>
    intro σ f r
    unfold keepS
    split
    · rename_i d e
      obtain ⟨x,_,_,ev,q,_,_⟩:=r1.out e
      obtain ⟨h,r2,z⟩:=r.drop v
      by_cases hi:v < σ.length
      · obtain ⟨h3,r3,z3⟩:=ih (r2.putSame (t:=.val d) (g:=fun _=>0) hi ev (.vl (q.un.stb s)))
        exact ⟨h3,r3,fun b=>by have:=z3 b; have:=z b; simp only [Nat.zero_add] at *; omega⟩
      · rw [List.set_eq_of_length_le (by omega)]
        exact ih r
    · exact ih r
theorem wipe_at {σ:L2.St}:∀ (vs:List Nat) (i:Nat),(wipe σ vs)[i]? = if i ∈ vs then (if i < σ.length then some none else none) else σ[i]?
  | [],i=>by simp [wipe]
  | v :: vs,i=>by
    unfold wipe
    by_cases hi:i = v
    · subst hi
      by_cases hl:i < σ.length
      · rw [List.getElem?_set_self (by rw [wipe_length]; exact hl)]; simp [hl]
      · rw [List.getElem?_eq_none (by rw [List.length_set,wipe_length]; omega)]; simp [hl]
    · rw [List.getElem?_set_ne (Ne.symm hi),wipe_at vs i]
      simp [hi]
theorem wipe_same {σ σ2:L2.St} {vs:List Nat} (hl:σ2.length = σ.length) (k:∀ i,i ∉ vs→σ2[i]? = σ[i]?):wipe σ2 vs = wipe σ vs:=by
  refine List.ext_getElem? fun i=>?_
  rw [wipe_at,wipe_at]
  by_cases hi:i ∈ vs
  · rw [if_pos hi,if_pos hi,hl]
  · rw [if_neg hi,if_neg hi,k i hi]
theorem wipe_twice (σ:L2.St) (vs:List Nat):wipe (wipe σ vs) vs = wipe σ vs:=wipe_same (wipe_length _ _) fun i hi=>by rw [wipe_at,if_neg hi]
end
def DTs (X:Cx) (ϖ:Pend) (W:WX) (ifs:List Expr) (B:S→R Bool):Prop:=PTs X ifs (tT X.K ϖ W B)
def bYes:S→R Bool:=fun σ=>.ok true σ
theorem _root_.L2.PTs.imp {X:Cx} {e:List Expr} {t t':TT} (h:PTs X e t) (i:∀ σ H Q,t' σ H Q→t σ H Q):PTs X e t':=⟨fun pins s σ H Q I w=>h.run pins s σ H Q I (i _ _ _ w)⟩
theorem ts_nil {X:Cx} {ϖ:Pend} {W:WX}:DTs X ϖ W [] bYes:=pts_nil.imp fun σv H Q ⟨σ,h,r,n,p⟩=>by
  have p:Post X.K ϖ W RB σv (.ok true σ) H h Q:=p
  exact p.finB r n fun _=>Nat.le_refl _
def lcLoop (vs:List Nat) (G:D→S→Option S) (B:S→R Bool) (E:S→R T):List D→List D→S→R (List D)
  | [],acc,σ=>.ok acc σ
  | d :: ds,acc,σ=>match G d σ with
    | none=>.stuck
    | some σ1=>if σ1.length = σ.length then (B σ1).nox.bind fun b σ2=>if b = true then (eV E σ2).nox.bind fun t σ3=>(match t with
        | .val x=>if acc.length < sizeLine then lcLoop vs G B E ds (acc ++ [x]) (wipeS σ3 vs) else .stuck
        | _=>.stuck) else lcLoop vs G B E ds acc (wipeS σ2 vs) else .stuck
def eLC (vs:List Nat) (F:S→R (List D)) (G:D→S→Option S) (B:S→R Bool) (E:S→R T):S→R T:=fun σ=>(F σ).bind fun ds σ1=>(lcLoop vs G B E ds [] (wipeS σ1 vs)).nox.bind fun acc σ2=>.ok (.lst acc) (keepS σ1 vs (wipeS σ2 vs))
abbrev kpV (vs:List Nat):Nat→Bool:=fun i=>!(vs.contains i)
section
variable {X:Cx} {ϖ:Pend} {W:WX}
theorem lc_of {vs:List Nat} {F:S→R (List D)} {G:D→S→Option S} {B:S→R Bool} {E:S→R T} {σv:L2.St} {H:Hp} {Q:VK} (q:tE X.K ϖ W (eLC vs F G B E) σv H Q):
    tLc (tI X.K ϖ W F) (tTg X.K ϖ (kpV vs) G) (tT X.K ϖ (fun _ _ _ _=>False) B) (tE X.K ϖ (fun _ _ _ _=>False) (eV E)) vs σv H Q:=by
  refine (ev0 (Rl:=fun H' J ds g=>(∃ Gd,WalkD X.K J ds Gd∧Gd H')∧∀ b,g b = 0) (Rm:=RV X.K) (F:=F) q).mono fun J H1 ⟨ds,g,σ,h,⟨⟨Gd,wd,gd⟩,z⟩,s,n,p⟩=>?_
  have eg:(fun b=>g b + h b) = h:=by funext b; rw [z b]; omega
  rw [eg] at n p
  intro D hD
  have w:Walk J ds.length Gd (fun i H x H'=>∃ d,ds[i]? = some d∧RD X.K H' x d∧Nw H H' (fun _=>0)):=⟨wd.goes,wd.stops,wd.yields⟩
  let Pv:Nat→Hp→Prop:=fun i H2=>∃ acc us σ2 h2,H2 D = some (.lst us)∧RDs X.K H2 us acc∧RS X.K ϖ H2 (wipe σv vs) σ2 h2∧Nd (fun b=>one D b + h2 b)∧Gd H2∧Stb H1 H2∧
    Post X.K ϖ W (RV X.K) σv ((lcLoop vs G B E (ds.drop i) acc σ2).nox.bind fun acc σ2=>.ok (.lst acc) (keepS σ vs (wipeS σ2 vs))) H2 (fun b=>one D b + h2 b) Q
  have st0:Stb H1 (upd H1 D (.lst [])):=.fresh hD
  refine lc_it w Pv ?_ (fun i H2 _ ⟨_,_,_,_,_,_,_,_,gd,_⟩=>gd) ?_ ?_
  · obtain ⟨h0,r0,z0⟩:=s.wipeIn vs
    have nw:Nw H1 (upd H1 D (.lst [])) (one D):=Nw.laid hD
    have r1:=nw.rs r0
    exact ⟨[],[],_,h0,upd_same,.nil,r1,nw.ndw r0.own (n.le z0),wd.stays _ _ gd st0,st0,Post.fr p (nw.fr z0)⟩
  · rintro i x H2 H3 hi ⟨acc,us,σ2,h2,eD,ra,r2,n2,gd2,st2,p2⟩ ⟨d,e1,rd,nw⟩
    have e2:ds.drop i = d :: ds.drop (i + 1):=by
      obtain ⟨h1,h2⟩:=List.getElem?_eq_some_iff.mp e1
      rw [(List.drop_eq_getElem_cons h1),h2]
    rw [e2] at p2
    unfold lcLoop at p2
    have own2:OwnFp H2 (one D):=fun b hb=>⟨.lst us,by rw [of_one hb]; exact eD,rfl⟩
    refine ⟨d,σ2,h2,rd,nw.rs r2,n2.le fun b=>by show h2 b≤one D b + h2 b; omega,?_⟩
    cases eg:G d σ2 with
    | none=>rw [eg] at p2; exact p2.elim
    | some σ3=>
      rw [eg] at p2
      dsimp only at p2 ⊢
      by_cases hl:σ3.length = σ2.length
      · rw [if_pos hl] at p2
        intro σx H4 h4 r4 n4 w4 k4
        have w24:Fr H2 h2 H4 h4:=(((nw.fr (h:=h2) (f:=h2) fun _=>Nat.le_refl _).le fun b=>by show h2 b≤0 + h2 b; omega)).trans w4
        have kD:H4 D = some (.lst us):=w24.keep _ _ eD (by have:one D D + h2 D≤1:=n2 D; rw [one_same] at this; omega)
        have gd4:Gd H4:=wd.stays _ _ gd2 w24.stb
        have ew:wipe σx vs = wipe σv vs:=by
          rw [← wipe_twice σv vs]
          refine wipe_same ?_ fun i hi=>k4 i (by show (!(vs.contains i)) = true; simpa using hi)
          rw [r4.length,r2.length]; exact hl
        have own4:OwnFp H4 (one D):=fun b hb=>⟨.lst us,by rw [of_one hb]; exact kD,rfl⟩
        have n4':Nd fun b=>one D b + h4 b:=w24.apart own2 n2 n4
        refine ⟨ew,?_⟩
        have w24b:=w24.beside (g:=one D)
        have p4:=Post.fr p2 w24b
        have assoc:∀ {α β γ:Type} (r:R α) (k:α→S→R β) (k':β→S→R γ),((r.bind k).nox.bind k') = r.nox.bind fun a σ=>(k a σ).nox.bind k':=fun r k k'=>by cases r <;> rfl
        have noxx:∀ {α:Type} (r:R α),r.nox.nox = r.nox:=fun r=>by cases r <;> rfl
        rw [assoc,noxx] at p4
        refine (evN (W':=fun _ _ _ _=>False) (Rl:=RB) (g:=one D) (P:=fun H=>H D = some (.lst us)∧RDs X.K H us acc) (fun H' st kp=>⟨kp D _ (by rw [one_same]; omega) kD,(ra.stb w24.stb).stb st⟩) own4 r4 n4' p4).mono fun b H5 ⟨c,g5,σ5,h5,⟨ec,z5⟩,⟨kD5,ra5⟩,st5,own5,r5,n5,p5⟩=>?_
        subst ec
        have eg5:(fun b=>one D b + (g5 b + h5 b)) = fun b=>one D b + h5 b:=by funext b; rw [z5 b]; omega
        rw [eg5] at n5 p5
        have gd5:Gd H5:=wd.stays _ _ gd4 st5
        have st05:Stb H1 H5:=(st2.trans w24.stb).trans st5
        have fin:∀ {H7:Hp} {us':List V} {acc':List DL.D} {σ7:S} {h7:Fp},H7 D = some (.lst us')→RDs X.K H7 us' acc'→RS X.K ϖ H7 σx σ7 h7→Nd (fun b=>one D b + h7 b)→Stb H5 H7→Post X.K ϖ W (RV X.K) σv ((lcLoop vs G B E (ds.drop (i + 1)) acc' (wipeS σ7 vs)).nox.bind fun acc σ2=>.ok (.lst acc) (keepS σ vs (wipeS σ2 vs))) H7 (fun b=>one D b + h7 b) Q→Pv (i + 1) H7:=fun {H7 us' acc' σ7 h7} a b c d e f=>by
          obtain ⟨h8,r8,z8⟩:=c.wipeIn vs
          rw [ew] at r8
          have le:∀ b,one D b + h8 b≤one D b + h7 b:=fun b=>by have:=z8 b; omega
          exact ⟨acc',us',_,h8,a,b,r8,d.le le,wd.stays _ _ gd5 e,st05.trans e,Post.fr f ((Fr.refl _ _).le le)⟩
        cases b with
        | false=>
          have p5:Post X.K ϖ W (RV X.K) σv ((lcLoop vs G B E (ds.drop (i + 1)) acc (wipeS σ5 vs)).nox.bind fun acc σ2=>.ok (.lst acc) (keepS σ vs (wipeS σ2 vs))) H5 (fun b=>one D b + h5 b) Q:=p5
          exact fin kD5 ra5 r5 n5 (.refl _) p5
        | true=>
          rw [if_pos rfl] at p5 ⊢
          rw [assoc,noxx] at p5
          refine (evN (W':=fun _ _ _ _=>False) (Rl:=RV X.K) (g:=one D) (P:=fun H=>H D = some (.lst us)∧RDs X.K H us acc) (fun H' st kp=>⟨kp D _ (by rw [one_same]; omega) kD5,ra5.stb st⟩) own5 r5 n5 p5).mono fun y H6 ⟨t,g6,σ6,h6,ry,⟨kD6,ra6⟩,st6,own6,r6,n6,p6⟩=>?_
          have ry:RT X.K H6 y t g6:=ry
          cases t with
          | val x=>
            dsimp only at p6
            by_cases hz:acc.length < sizeLine
            · rw [if_pos hz] at p6
              refine ⟨us,kD6,by rw [ra6.length]; exact hz,?_⟩
              have ez:(fun b=>one D b + (g6 b + h6 b)) = fun b=>one D b + h6 b:=by funext b; rw [ry.z b]; omega
              rw [ez] at n6 p6
              have hd:one D D + h6 D≤1:=n6 D
              rw [one_same] at hd
              have wr:Fr H6 (fun b=>one D b + h6 b) (upd H6 D (.lst (us ++ [y]))) (fun b=>one D b + h6 b):=Fr.write kD6 rfl (by show one D D + h6 D ≠ 0; rw [one_same]; omega)
              exact fin upd_same ((ra6.stb wr.stb).append (.cons (ry.un.stb wr.stb) .nil)) (r6.keep wr.stb fun b o hb e=>by rw [upd_ne (fun z=>by rw [z] at hb; omega)]; exact e) n6 (st6.trans wr.stb) (Post.fr p6 wr)
            · rw [if_neg hz] at p6; exact p6.elim
          | _=>exact p6.elim
      · rw [if_neg hl] at p2; exact p2.elim
  · rintro H2 ⟨acc,us,σ2,h2,eD,ra,r2,n2,gd2,st2,p2⟩
    rw [List.drop_length] at p2
    obtain ⟨h3,r3,z3⟩:=r2.wipeOut vs
    obtain ⟨h4,r4,z4⟩:=RS.keepIn s st2 vs r3
    have p2:Post X.K ϖ W (RV X.K) σv (.ok (.lst acc) (keepS σ vs (wipeS σ2 vs))) H2 (fun b=>one D b + h2 b) Q:=p2
    have le:∀ b,one D b + h4 b≤one D b + h2 b:=fun b=>by have:=z3 b; have:=z4 b; omega
    exact p2 (.ref D) H2 (one D) h4 (.lst eD ra fun _=>rfl) r4 (n2.le le) ((Fr.refl _ _).le le)
theorem d_lc {vs:List Nat} {F:S→R (List D)} {G:D→S→Option S} {B:S→R Bool} {E:S→R T} {elt tg iter:Expr} {ifs:List Expr} {scope:Scope} {own:List (Str×Nat)} {pos:Pos} (hc:X.calm = true) (hN:X.N.Nodup) (hi:DI X ϖ W tg iter F) (ok:BlkOk X.N X.env.scope scope own) (hv:own.map (·.2) = vs)
    (hg:∀ (s:Shared) (H:Hp) (C:Addr) (cl:List (Str×Addr)) (fp:List Addr),DTg (X.blk s H scope (compEnvC scope cl C X.env) fp) ϖ (kpV vs) tg G) (ht:∀ (s:Shared) (H:Hp) (C:Addr) (cl:List (Str×Addr)) (fp:List Addr),DTs (X.blk s H scope (compEnvC scope cl C X.env) fp) ϖ (fun _ _ _ _=>False) ifs B)
    (he:∀ (s:Shared) (H:Hp) (C:Addr) (cl:List (Str×Addr)) (fp:List Addr),DE (X.blk s H scope (compEnvC scope cl C X.env) fp) ϖ (fun _ _ _ _=>False) elt E) (hs:∀ x,foldedSetIterable iter X.env x = pure x:=by intro _; rfl):
    DE X ϖ W (.ListComp elt [⟨tg,iter,ifs,0⟩] scope pos) (eLC vs F G B E):=by
  subst hv
  exact PE.imp (pe_lc (wi:=tI X.K ϖ W F) (g:=tTg X.K ϖ (kpV (List.map (fun x:Str×Nat=>x.2) own)) G) (tt:=tT X.K ϖ (fun _ _ _ _=>False) B) (te:=tE X.K ϖ (fun _ _ _ _=>False) (eV E)) hc hN hi ok hg ht (fun s H C cl fp=>d_V (he s H C cl fp)) hs) fun σv H Q q=>lc_of q
end
end DL
namespace DL
open PySem PySem.Spec PyProof.Rows L2
theorem RTs.one {K:PySem.W.Frag} {H:Hp} {vs:List V} {t:T} {f:Fp} (h:RTs K H vs [t] f):∃ v g,vs = [v]∧RT K H v t g:=by
  cases h with
  | cons q r _=>cases r; exact ⟨_,_,rfl,q⟩
theorem sqL_own {K:PySem.W.Frag} {H:Hp} {a:Addr} {vs:List V} (h:H a = some (.lst vs)):SqL K H a vs:=.inl (.inl h)
theorem RT.own1 {K:PySem.W.Frag} {H:Hp} {v:V} {xs:List D} {g:Fp} (h:RT K H v (.lst xs) g):∃ a vs,v = .ref a∧H a = some (.lst vs)∧RDs K H vs xs∧∀ b,g b = one a b:=by
  cases h with
  | lst e q z=>exact ⟨_,_,rfl,e,q,z⟩
theorem RS.wr {K:PySem.W.Frag} {ϖ:Pend} {H:Hp} {σv:L2.St} {σ:S} {h:Fp} {i:Nat} {xs:List D} (hs:RS K ϖ H σv σ h) (nh:Nd h) (e:look σ i = some (.lst xs)):
    ∃ a vs,σv[i]? = some (some (.ref a))∧H a = some (.lst vs)∧RDs K H vs xs∧h a ≠ 0∧∀ ws ys,RDs K H ws ys→RS K ϖ (upd H a (.lst ws)) σv (σ.set i (some (.lst ys))) h∧Fr H h (upd H a (.lst ws)) h:=by
  obtain ⟨v,g,h',ev,q,r,z⟩:=hs.out (look_some e)
  obtain ⟨a,vs,rfl,ea,rd,zz⟩:=q.own1
  have hi:i < σ.length:=(List.getElem?_eq_some_iff.mp (look_some e)).1
  have ha:h a ≠ 0:=by rw [z a,zz a,one_same]; omega
  have hz:h' a = 0:=by have:=nh a; rw [z a,zz a,one_same] at this; omega
  refine ⟨a,vs,ev,ea,rd,ha,fun ws ys rd'=>?_⟩
  have wr:Fr H h (upd H a (.lst ws)) h:=Fr.write ea rfl ha
  have r2:RS K ϖ (upd H a (.lst ws)) σv (σ.set i none) h':=r.keep wr.stb fun b o hb e=>by rw [upd_ne (fun z=>hb (by rw [z]; exact hz))]; exact e
  have r3:=r2.putSame (t:=.lst ys) (g:=one a) hi ev (.lst upd_same (rd'.stb wr.stb) fun _=>rfl)
  have eqh:(fun b=>one a b + h' b) = h:=by funext b; rw [z b,zz b]
  rw [eqh] at r3
  exact ⟨r3,wr⟩
section
variable {X:Cx} {ϖ:Pend} {W:WX} {kp:Nat→Bool} {e a b c:Expr} {es:List Expr} {F:S→R T} {A B:S→R G} {As:S→R (List G)} {pos:Pos}
def appT (t:T) (d:D):Option T:=match t with
  | .lst xs=>if xs.length < sizeLine then some (.lst (xs ++ [d])) else none
  | _=>none
def eApp (i:Nat) (F:S→R T):S→R T:=fun σ=>match look σ i with
  | some (.lst _)=>(eV F σ).bind fun t σ1=>(match t,look σ1 i with
    | .val d,some u=>(match appT u d with
      | some u'=>.ok (.val .non) (σ1.set i (some u'))
      | none=>.stuck)
    | _,_=>.stuck)
  | _=>.stuck
theorem d_app {o e:Expr} {i:Nat} {apos cpos:Pos} (ho:PE X o (tVar i)) (he:DE X ϖ W e F) (hbase:attributeBase o "append" X.env (eval o X.env) = eval o X.env:=by rfl)
    (hfew:((backTo cpos (starEach [e] X.env)).all (fun x=>!x.1) && (backToKw cpos (keywordEach [] X.env)).all (fun x=>x.1.isSome) && decide ([e].length + ([]:List Keyword).length + (if ([]:List Keyword).isEmpty then 0 else 1) < 30)) = true:=by rfl)
    (hline:(apos.endLine == cpos.line) = true:=by rfl) (hs:starEach [e] X.env = (false,eval e X.env) :: starEach [] X.env:=by rfl) (hplain:(backTo cpos (starEach [] X.env)).any (·.1) = false:=by rfl):DE X ϖ W (.Call (.Attribute o "append" apos) [e] [] cpos) (eApp i F):=by
  refine PE.imp (pe_bm PySem.F.plainAttrs_list PySem.F.slot_list_append PySem.F.type_list_append mt_append ho (L2.pa_cons (d_V he) L2.pa_nil hs) hbase hfew hline hs hplain) fun σv H Q ⟨σ,f,hs,n,p⟩=>?_
  unfold eApp at p
  split at p
  · rename_i xs el
    obtain ⟨a,vs,ev,ea,rd,_,_⟩:=hs.wr n el
    refine ⟨.ref a,ev,.inl ⟨rfl,vs,sqL_own ea⟩,?_⟩
    refine (ev0 (Rl:=RV X.K) (Rm:=RV X.K) (F:=eV F) ⟨σ,f,hs,n,p⟩).mono fun y H1 ⟨t,g1,σ1,h1,ry0,r1,n1,p1⟩=>?_
    have ry:RT X.K H1 y t g1:=ry0
    have nh:Nd h1:=n1.le (z_le _ _)
    split at p1
    · rename_i d u el1
      unfold appT at p1
      split at p1
      · rename_i u' eu
        split at eu
        · rename_i ys
          split at eu
          · rename_i hl
            cases eu
            obtain ⟨a',ws,ev',ea',rd',_,wr⟩:=r1.wr nh el1
            rw [ev] at ev'; cases ev'
            obtain ⟨r3,w3⟩:=wr (ws ++ [y]) (ys ++ [d]) (rd'.append (.cons ry.un .nil))
            refine ⟨a,ws,y,rfl,rfl,ea',by rw [rd'.length]; exact hl,p1 .non _ (fun _=>0) h1 (.vl .non) r3 (nh.le fun b=>by show 0 + h1 b≤h1 b; omega) ?_⟩
            exact (w3.ge (g:=fun b=>g1 b + h1 b) (z_le _ _)).le fun b=>by show 0 + h1 b≤h1 b; omega
          · cases eu
        · cases eu
      · exact p1.elim
    · exact p1.elim
  · exact p.elim
def setT (t:T) (k:Int) (d:D):Option T:=match t with
  | .lst xs=>(ixN xs.length k).map fun j=>.lst (xs.set j d)
  | _=>none
def sSub (i:Nat) (J F:S→R T):S→O:=fun σ=>(eV F σ).then fun t σ1=>match t,look σ1 i with
  | .val d,some (.lst _)=>(J σ1).then fun k σ2=>(match k,look σ2 i with
    | .val (.int k),some u=>(match setT u k d with
      | some u'=>.nx (σ2.set i (some u'))
      | none=>.stuck)
    | _,_=>.stuck)
  | _,_=>.stuck
theorem evT {K:PySem.W.Frag} {α β:Type} {Rl:Hp→β→α→Fp→Prop} {F:S→R α} {k:α→S→O} {σ:S} {σv:L2.St} {H:Hp} {g h:Fp} {Dn:Ends} {P:Hp→Prop} (hP:∀ H',Stb H H'→(∀ b o,g b ≠ 0→H b = some o→H' b = some o)→P H') (own:OwnFp H g) (hs:RS K ϖ H σv σ h) (nd:Nd fun b=>g b + h b)
    (q:SPost K ϖ W kp ((F σ).then k) Dn σv H (fun b=>g b + h b)):
    tX K ϖ W Rl F σv H (fun u H2=>∃ t2 g2 σ2 h2,Rl H2 u t2 g2∧P H2∧RS K ϖ H2 σv σ2 h2∧Nd (fun b=>g b + (g2 b + h2 b))∧SPost K ϖ W kp (k t2 σ2) Dn σv H2 (fun b=>g b + (g2 b + h2 b))):=by
  refine ⟨σ,h,hs,nd.le fun b=>by show h b≤g b + h b; omega,?_⟩
  cases e:F σ with
  | stuck=>rw [e] at q; exact q
  | exc C xs σ'=>
    rw [e] at q
    exact fun d vs' H' h' a b c n w=>q d vs' σv H' h' a b c n ((w.beside (g:=g)).le fun b=>by show h' b≤g b + h' b; omega) (.refl _ _)
  | ok t2 σ2=>
    rw [e] at q
    intro v H2 g2 h2 a b n w
    have w':=w.beside (g:=g)
    have kp:∀ b o,g b ≠ 0→H b = some o→H2 b = some o:=fun b o hb e=>w.keep b o e (by have:=nd b; have:g b + h b≤1:=this; omega)
    exact ⟨t2,g2,σ2,h2,a,hP H2 w.stb kp,b,w.apart own nd n,SPost.fr q w' (.refl _ _)⟩
theorem ds_sub {o j:Expr} {i:Nat} {J:S→R T} {tpos:Pos} (ho:PE X o (tVar i)) (hj:DE X ϖ W j J) (he:DE X ϖ W e F)
    (ha:∀ v,assign (.Subscript o j tpos) X.env v = (do
      let a1 ← holding [v] (eval o X.env)
      let a2 ← holding [v,a1] (eval j X.env)
      standAt tpos
      holding [v,a1,a2] (setItem a1 a2 v)
      release [v,a1,a2] []):=by intro _; rfl)
    (hs:swapsWithSole [.Subscript o j tpos] e pos.line X.env = pure false:=by rfl) (hw:swappedStores [.Subscript o j tpos] e X.env = pure none:=by rfl) (h1:(assignEach [.Subscript o j tpos] X.env).map (·.2) = [assign (.Subscript o j tpos) X.env]:=by rfl):
    DS X ϖ W kp (.Assign [.Subscript o j tpos] e pos) (sSub i J F):=by
  refine (ps_asg (d_V he) (pg_sub ho hj set_list ha) hs hw h1).imp fun Dn σv H q=>?_
  refine (evS (Rl:=RV X.K) (F:=eV F) q).mono fun v H1 ⟨t,g,σ,h,r0,s,n,p⟩=>?_
  have r:RT X.K H1 v t g:=r0
  have nh:Nd h:=n.le (z_le _ _)
  split at p
  · rename_i d xs el
    obtain ⟨a,vs,ev,ea,rd,_,_⟩:=s.wr nh el
    refine ⟨.ref a,ev,?_⟩
    have rv:=r.un
    have eg:(fun b=>g b + h b) = fun b=>(0:Nat) + h b:=by funext b; rw [r.z b]
    rw [eg] at p
    refine (evT (W:=W) (kp:=kp) (Rl:=RV X.K) (F:=J) (g:=fun _=>0) (P:=fun H2=>RD X.K H2 v d) (fun H' st _=>rv.stb st) (fun b hb=>absurd rfl hb) s (nh.le fun b=>by show 0 + h b≤h b; omega) p).mono fun y H2 ⟨t2,g2,σ2,h2,r20,rv2,s2,n2,p2⟩=>?_
    have r2:RT X.K H2 y t2 g2:=r20
    have nh2:Nd h2:=n2.le fun b=>by show h2 b≤0 + (g2 b + h2 b); omega
    split at p2
    · rename_i k u el2
      split at p2
      · rename_i u' eu
        unfold setT at eu
        split at eu
        · rename_i ys
          obtain ⟨j,ej,e3⟩:=Option.map_eq_some_iff.mp eu
          subst e3
          obtain ⟨a',ws,ev',ea',rd',_,wr⟩:=s2.wr nh2 el2
          rw [ev] at ev'; cases ev'
          obtain ⟨r3,w3⟩:=wr (ws.set j v) (ys.set j d) (rd'.set rv2 j)
          refine ⟨a,ws,k,j,rfl,r2.int,ea',by rw [rd'.length]; exact ej,?_⟩
          exact p2 σv _ h2 r3 nh2 (w3.ge fun b=>by show h2 b≤0 + (g2 b + h2 b); omega) (.refl _ _)
        · cases eu
      · exact p2.elim
    · exact p2.elim
  · exact p.elim
def cutD (xs:List D) (lo hi:Option Int):List D:=(xs.drop (HT.sIx xs.length 0 lo)).take (HT.sIx xs.length xs.length hi - HT.sIx xs.length 0 lo)
def slT (t:T) (lo hi:Option Int):Option T:=match t with
  | .lst xs=>some (.lst (cutD xs lo hi))
  | .val (.lst xs)=>some (.lst (cutD xs lo hi))
  | .val (.tup xs)=>some (.val (.tup (cutD xs lo hi)))
  | .val (.str z)=>if z.length≤sizeLine then some (.val (.str (cutS z lo hi))) else none
  | _=>none
def DO (X:Cx) (ϖ:Pend) (W:WX) (o:Option Expr) (F:S→R (Option Int)):Prop:=PO X o (tX X.K ϖ W (fun _ x y g=>x = y∧∀ b,g b = 0) F)
theorem _root_.L2.PO.imp {o:Option Expr} {t t':TO} (h:PO X o t) (i:∀ σ H Q,t' σ H Q→t σ H Q):PO X o t':=⟨fun pins s σ H Q I w=>h.run pins s σ H Q I (i _ _ _ w)⟩
def oNo:S→R (Option Int):=fun σ=>.ok none σ
def oSo (F:S→R T):S→R (Option Int):=fun σ=>(F σ).bind fun t σ1=>match t with
  | .val (.int i)=>.ok (some i) σ1
  | _=>.stuck
theorem do_no:DO X ϖ W none oNo:=po_none.imp fun σv H Q ⟨σ,f,r,n,p⟩=>by
  have p:Post X.K ϖ W (fun _ x y g=>x = y∧∀ b,g b = 0) σv (.ok none σ) H f Q:=p
  exact p none H (fun _=>0) f ⟨rfl,fun _=>rfl⟩ r (n.le fun b=>by show 0 + f b≤f b; omega) ((Fr.refl _ _).le fun b=>by show 0 + f b≤f b; omega)
theorem do_so (h:DE X ϖ W e F):DO X ϖ W (some e) (oSo F):=by
  refine (po_some h).imp fun σv H Q q=>?_
  refine (ev0 (Rl:=RV X.K) (F:=F) q).mono fun v H1 ⟨t,g,σ,f,r0,s,n,p⟩=>?_
  have r:RT X.K H1 v t g:=r0
  split at p
  · rename_i i
    exact ⟨i,r.int,p (some i) H1 (fun _=>0) f ⟨rfl,fun _=>rfl⟩ s (n.le fun b=>by show 0 + f b≤g b + f b; omega) ((Fr.refl _ _).le fun b=>by show 0 + f b≤g b + f b; omega)⟩
  · exact p.elim
theorem cut_rd {K:PySem.W.Frag} {H:Hp} {vs:List V} {ds:List D} (h:RDs K H vs ds) (lo hi:Option Int):RDs K H (cutV vs lo hi) (cutD ds lo hi):=by
  unfold cutV cutD
  rw [h.length]
  exact (h.drop _).take _
def rSlD (K:PySem.W.Frag):V→Option Int→Option Int→Hp→VK→Prop:=fun x lo hi H Q=>rSlL K x lo hi H Q∨rSlA K x lo hi H Q∨rSlS x lo hi H Q
theorem sl_D:SlR X (rSlD X.K):=sl_list.or (sl_tupA.or sl_str)
theorem sl_of {K:PySem.W.Frag} {x:V} {t t':T} {g:Fp} {H:Hp} {Q:VK} {lo hi:Option Int} (r:RT K H x t g) (e:slT t lo hi = some t') (q:∀ z H' g,RT K H' z t' g→Nw H H' g→Q z H'):rSlD K x lo hi H Q:=by
  unfold slT at e
  split at e
  · cases e
    obtain ⟨a,vs,rfl,ea,rd,_⟩:=r.own1
    exact .inl ⟨a,vs,rfl,sqL_own ea,fun p hp=>q _ _ _ (.lst upd_same ((cut_rd rd lo hi).stb (.fresh hp)) fun _=>rfl) (Nw.laid hp)⟩
  · cases e
    cases r.un with
    | @lst a vs _ fz rd=>exact .inl ⟨a,vs,rfl,fz.sq,fun p hp=>q _ _ _ (.lst upd_same ((cut_rd rd lo hi).stb (.fresh hp)) fun _=>rfl) (Nw.laid hp)⟩
  · cases e
    obtain ⟨a,vs,rfl,sq,rd⟩:=r.tup
    refine .inr (.inl ⟨a,vs,rfl,sq,fun hw=>?_,fun _ p hp=>q _ _ _ (.vl (.tup (.of upd_same) ((cut_rd rd lo hi).stb (.fresh hp)))) (Nw.laid0 hp)⟩)
    refine q _ _ _ (.vl (.tup sq ?_)) (Nw.refl H)
    have:=cut_rd rd lo hi
    have e:cutV vs lo hi = vs:=by
      unfold cutV
      rw [hw.1,hw.2,List.drop_zero,Nat.sub_zero,List.take_length]
    rw [e] at this
    exact this
  · split at e
    · rename_i hz
      cases e
      exact .inr (.inr ⟨_,r.str,hz,q _ _ _ (.vl (.str _)) (Nw.refl H)⟩)
    · cases e
  · cases e
def heldG:G→Bool
  | .inl _=>true
  | .inr (.val _)=>true
  | _=>false
def eSl (A:S→R G) (L U:S→R (Option Int)):S→R T:=fun σ=>(A σ).bind fun x σ1=>if heldG x = true then (L σ1).bind fun l σ2=>(U σ2).bind fun u σ3=>match rdG x σ3 with
    | some t=>lift (slT t l u) σ3
    | none=>.stuck
  else .stuck
theorem d_slice {lo hi:Option Expr} {L U:S→R (Option Int)} {p2:Pos} (ha:DG X ϖ W a A) (hl:DO X ϖ W lo L) (hu:DO X ϖ W hi U):DE X ϖ W (.Subscript a (.Slice lo hi none p2) pos) (eSl A L U):=by
  refine PE.imp (pe_slice sl_D ha hl hu) fun σv H Q q=>?_
  refine (ev0 (Rl:=RO X.K σv) (Rm:=RV X.K) (F:=A) q).mono fun v H1 ⟨x,g,σ,h,r,s,n,p⟩=>?_
  by_cases hx:heldG x = true
  · rw [if_pos hx] at p
    have z:∀ b,g b = 0:=by
      cases x with
      | inl i=>
        cases r with
        | ref _ z=>exact z
      | inr t=>
        cases r with
        | tmp r=>
          cases t with
          | val d=>exact r.z
          | _=>cases hx
    have r:RO X.K σv H1 v x (fun _=>0):=by
      cases r with
      | ref e _=>exact .ref e fun _=>rfl
      | tmp r=>exact .tmp (r.congr fun b=>(z b).symm)
    have eg:(fun b=>g b + h b) = fun b=>(0:Nat) + h b:=by funext b; rw [z b]
    rw [eg] at p
    have nh:Nd h:=n.le (z_le _ _)
    refine (evP (W:=W) (Rl:=fun _ x y g=>x = y∧∀ b,g b = 0) (F:=L) (g:=fun _=>0) (P:=fun H2=>RO X.K σv H2 v x (fun _=>0)) (fun H' st k=>r.keep st k) (fun b hb=>absurd rfl hb) s (nh.le fun b=>by show 0 + h b≤h b; omega) p).mono fun l H2 ⟨l',g2,σ2,h2,⟨el,zl⟩,r2,_,s2,n2,p2⟩=>?_
    subst el
    have nh2:Nd h2:=n2.le fun b=>by show h2 b≤0 + (g2 b + h2 b); omega
    have eg2:(fun b=>(0:Nat) + (g2 b + h2 b)) = fun b=>(0:Nat) + h2 b:=by funext b; rw [zl b]; omega
    rw [eg2] at p2
    refine (evP (W:=W) (Rl:=fun _ x y g=>x = y∧∀ b,g b = 0) (F:=U) (g:=fun _=>0) (P:=fun H2=>RO X.K σv H2 v x (fun _=>0)) (fun H' st k=>r2.keep st k) (fun b hb=>absurd rfl hb) s2 (nh2.le fun b=>by show 0 + h2 b≤h2 b; omega) p2).mono fun u H3 ⟨u',g3,σ3,h3,⟨eu,zu⟩,r3,_,s3,n3,p3⟩=>?_
    subst eu
    have nh3:Nd h3:=n3.le fun b=>by show h3 b≤0 + (g3 b + h3 b); omega
    split at p3
    · rename_i t et
      obtain ⟨f1,q1⟩:=r3.rd s3 et
      unfold lift at p3
      cases e:slT t l u with
      | none=>rw [e] at p3; exact p3.elim
      | some t'=>
        rw [e] at p3
        exact sl_of q1 e fun z H' g q nw=>p3.fin nw q s3 nh3 fun b=>by show h3 b≤0 + (g3 b + h3 b); omega
    · exact p3.elim
  · rw [if_neg hx] at p; exact p.elim
def oLen:List T→Option T
  | [.val (.tup xs)]=>some (.val (.int xs.length))
  | [.val (.lst xs)]=>some (.val (.int xs.length))
  | [.lst xs]=>some (.val (.int xs.length))
  | [.ll xs]=>some (.val (.int xs.length))
  | [.val (.str z)]=>if z.length≤sizeLine then some (.val (.int z.length)) else none
  | _=>none
theorem b_len:CallT X (.builtin "len") oLen:=.of call_len fun H xs ts t g1 Q rs0 e q=>by
  unfold oLen at e
  split at e
  · cases e
    obtain ⟨v,g,rfl,r⟩:=rs0.one
    obtain ⟨a,vs,rfl,sq,rd⟩:=r.tup
    exact ⟨_,_,rfl,.inr ⟨vs,sq,rfl⟩,by rw [rd.length]; exact q _ H _ (.vl (.int _)) (Nw.refl H)⟩
  · cases e
    obtain ⟨v,g,rfl,r⟩:=rs0.one
    cases r.un with
    | lst fz rd=>exact ⟨_,_,rfl,.inl ⟨_,fz.sq,rfl⟩,by rw [rd.length]; exact q _ H _ (.vl (.int _)) (Nw.refl H)⟩
  · cases e
    obtain ⟨v,g,rfl,r⟩:=rs0.one
    obtain ⟨a,vs,rfl,ea,rd,_⟩:=r.own1
    exact ⟨_,_,rfl,.inl ⟨_,sqL_own ea,rfl⟩,by rw [rd.length]; exact q _ H _ (.vl (.int _)) (Nw.refl H)⟩
  · cases e
    obtain ⟨v,g,rfl,r⟩:=rs0.one
    cases r with
    | ll ea rl _=>exact ⟨_,_,rfl,.inl ⟨_,sqL_own ea,rfl⟩,by rw [rl.length]; exact q _ H _ (.vl (.int _)) (Nw.refl H)⟩
  · split at e
    · rename_i hz
      cases e
      obtain ⟨v,g,rfl,r⟩:=rs0.one
      have ev:=r.str
      subst ev
      exact ⟨_,_,rfl,⟨hz,rfl⟩,q _ H _ (.vl (.int _)) (Nw.refl H)⟩
    · cases e
  · cases e
def oAbs:List T→Option T
  | [.val (.int i)]=>some (.val (.int (if i < 0 then -i else i)))
  | _=>none
theorem b_abs:CallT X (.builtin "abs") oAbs:=.of call_abs fun H xs ts t g1 Q rs0 e q=>by
  unfold oAbs at e
  split at e
  · cases e
    obtain ⟨v,g,rfl,r⟩:=rs0.one
    exact ⟨_,by rw [r.int],q _ H _ (.vl (.int _)) (Nw.refl H)⟩
  · cases e
def oInt1:List T→Option T
  | [.val (.int i)]=>some (.val (.int i))
  | [.val (.bl k)]=>some (.val (.int (if k then 1 else 0)))
  | _=>none
theorem b_int:CallT X (.type "int") oInt1:=.of call_int1 fun H xs ts t g1 Q rs0 e q=>by
  unfold oInt1 at e
  split at e
  · cases e
    obtain ⟨v,g,rfl,r⟩:=rs0.one
    exact .inl ⟨_,by rw [r.int],q _ H _ (.vl (.int _)) (Nw.refl H)⟩
  · cases e
    obtain ⟨v,g,rfl,r⟩:=rs0.one
    exact .inr ⟨_,by rw [r.bl],q _ H _ (.vl (.int _)) (Nw.refl H)⟩
  · cases e
def ints?:List D→Option (List Int)
  | []=>some []
  | .int i :: r=>(ints? r).map (i :: ·)
  | _=>none
end
end DL
namespace DL
open PySem PySem.Spec PyProof.Rows L2
def T.dt:T→Option D
  | .val d=>some d
  | .lst xs=>some (.lst xs)
  | _=>none
theorem RT.dtp {K:PySem.W.Frag} {H:Hp} {v:V} {t:T} {d:D} {g:Fp} (h:RT K H v t g) (e:t.dt = some d):Dp K H v d.py:=by
  cases t with
  | val a=>cases e; exact h.un.dp
  | lst xs=>cases e; exact h.dp rfl
  | _=>cases e
def D.shows (d:D):Bool:=d.py.showable && decide (d.py.shown.length≤sizeLine) && decide (d.py.depth≤60)
def oRepr:List T→Option T
  | [t]=>t.dt.bind fun d=>if d.shows = true then some (.val (.str d.py.shown)) else none
  | _=>none
mutual
theorem D.nodict:∀ d:D,d.py.hasDict = false
  | .non=>rfl
  | .bl _=>rfl
  | .int _=>rfl
  | .str _=>rfl
  | .tup xs=>by unfold D.py PyData.hasDict; exact D.nodicts xs
  | .lst xs=>by unfold D.py PyData.hasDict; exact D.nodicts xs
theorem D.nodicts:∀ ds:List D,PyData.hasDictAll (D.pys ds) = false
  | []=>rfl
  | x :: xs=>by unfold D.pys PyData.hasDictAll; rw [D.nodict x,D.nodicts xs]; rfl
end
section
variable {X:Cx}
theorem b_repr {k:Nat} (hr:Rm k X.A):CallT X (.builtin "repr") oRepr:=by
  intro pins s σ H xs us ts t g1 Q I rv rt e q
  have hu:=hr.un
  unfold oRepr at e
  split at e
  · rename_i t0
    obtain ⟨d,e1,e2⟩:=Option.bind_eq_some_iff.mp e
    split at e2
    · rename_i hs
      cases e2
      unfold D.shows at hs
      simp only [Bool.and_eq_true,decide_eq_true_eq] at hs
      obtain ⟨⟨h1,h2⟩,h3⟩:=hs
      obtain ⟨v,g,rfl,r⟩:=rt.one
      cases rv with
      | cons ru rn=>
        rename_i u us'
        cases rn
        obtain ⟨as,rd⟩:=Dp.reads I _ v u (r.dtp e1) ru
        have fin:∀ (h':Heap) (u' tk:Tok),(∀ b o,s.heap.get? b = some o→h'.get? b = some o)→EP X pins σ Q (.str d.py.shown u') { s with heap:=h',toks:=tk }:=fun h' u' tk hk=>
          ⟨.str _,H,I.kept (t':=tk) hk,⟨_,rfl⟩,q _ H _ (.vl (.str _)) (Nw.refl H)⟩
        have fin0:∀ (u' tk:Tok),EP X pins σ Q (.str d.py.shown u') { s with toks:=tk }:=fun u' tk=>fin s.heap u' tk fun _ _ e=>e
        have big:(∃ a,u = .ref a)→wpAny (model X.prog X.w) X.A (call (.builtin "repr") [u]) (EP X pins σ Q) X.xe s:=by
          rintro ⟨a,rfl⟩
          exact repr_of_reads' rd h1 (fun h=>by rw [D.nodict] at h; cases h) hr.gd (by omega) (fun _ _ e=>e) fin h2
        have ref_of:(∃ a,v = .ref a)→∃ a,u = .ref a:=by
          rintro ⟨a,rfl⟩
          exact ⟨a,ru⟩
        cases d with
        | tup xs=>
          refine big (ref_of ?_)
          cases t0 with
          | val d'=>cases e1; obtain ⟨a,_,e,_⟩:=r.tup; exact ⟨a,e⟩
          | _=>cases e1
        | lst xs=>
          refine big (ref_of ?_)
          cases t0 with
          | val d'=>cases e1; cases r.un; exact ⟨_,rfl⟩
          | lst xs=>cases e1; obtain ⟨a,_,e,_⟩:=r.own1; exact ⟨a,e⟩
          | _=>cases e1
        | non=>
          cases t0 with
          | val d'=>
            cases e1
            cases r.un
            obtain rfl:u = Value.none:=ru
            exact PySem.P.repr_of_none (by have q:=fin0 s.toks (s.toks + 1); rwa [show (D.py .non).shown = ("None" : Str) from PyData.shown_none] at q)
          | _=>cases e1
        | bl b=>
          cases t0 with
          | val d'=>
            cases e1
            cases r.un
            obtain rfl:u = Value.bool b:=ru
            exact PySem.P.repr_of_bool (by have q:=fin0 s.toks (s.toks + 1); rwa [show (D.py (.bl b)).shown = _ from PyData.shown_bool b] at q)
          | _=>cases e1
        | int i=>
          cases t0 with
          | val d'=>
            cases e1
            cases r.un
            obtain ⟨t,rfl⟩:=(show ∃ t,u = Value.int i t from ru)
            have hz:i.natAbs.log2 < 1920:=by
              have h1:PyData.showable (.int i) = true:=h1
              simpa [PyData.showable] using h1
            exact PySem.P.repr_of_int hz (by have q:=fin0 s.toks (s.toks + 1); rwa [show (D.py (.int i)).shown = _ from PyData.shown_int i] at q)
          | _=>cases e1
        | str x=>
          cases t0 with
          | val d'=>
            cases e1
            cases r.un
            obtain ⟨t,rfl⟩:=(show ∃ t,u = Value.str x t from ru)
            have e3:(D.py (.str x)).shown = reprText x:=PyData.shown_str x
            exact PySem.P.repr_of_str (by have q:=fin0 s.toks (s.toks + 1); rwa [e3] at q) (by rw [← e3]; exact h2)
          | _=>cases e1
    · cases e2
  · cases e
end
end DL
namespace DL
open PySem PySem.Spec PyProof.Rows L2
structure KC (mg:Str→Option Value) (K:PySem.W.Frag) (x:Str) (d:D):Prop where
  ex:∃ u v,mg x = some u∧RelV v u∧∀ H,RD K H v d
theorem d_glob {X:Cx} {ϖ:Pend} {W:WX} {x:Str} {d:D} {pos:Pos} (c:KC X.mg X.K x d) (hg:Gl X x) (hd:(x == ("__debug__" : Str)) = false:=by decide):DE X ϖ W (.Name x pos) (eC d):=by
  obtain ⟨u,v,h1,h2,h3⟩:=c.ex
  exact d_const (pe_glob hg h1 h2 hd) h3
mutual
inductive KV (K:PySem.W.Frag):Value→D→Prop
  | non:KV K .none .non
  | bl (b:Bool):KV K (.bool b) (.bl b)
  | int (i:Int) (t:Tok):KV K (.int i t) (.int i)
  | str (x:Str) (t:Tok):KV K (.str x t) (.str x)
  | tup {a:Addr} {dd:Option Addr} {us:List Value} {n:Nat} {sl:Array (Option Value)} {ds:List D}:K.lookup a = some ⟨.type "tuple",dd,.seq us.toArray n,sl⟩→us.length≤sizeLine→KVs K us ds→KV K (.ref a) (.tup ds)
  | lst {a:Addr} {us:List Value} {n:Nat} {sl:Array (Option Value)} {ds:List D}:K.lookup a = some ⟨.type "list",none,.seq us.toArray n,sl⟩→us.length≤sizeLine→KVs K us ds→KV K (.ref a) (.lst ds)
inductive KVs (K:PySem.W.Frag):List Value→List D→Prop
  | nil:KVs K [] []
  | cons {u:Value} {us:List Value} {d:D} {ds:List D}:KV K u d→KVs K us ds→KVs K (u :: us) (d :: ds)
end
mutual
theorem KV.rd {K:PySem.W.Frag} {u:Value} {d:D} (h:KV K u d):∃ v,RelV v u∧∀ H,RD K H v d:=by
  cases h with
  | non=>exact ⟨.non,rfl,fun _=>.non⟩
  | bl b=>exact ⟨.bl b,rfl,fun _=>.bl b⟩
  | int i t=>exact ⟨.int i,⟨t,rfl⟩,fun _=>.int i⟩
  | str x t=>exact ⟨.str x,⟨t,rfl⟩,fun _=>.str x⟩
  | tup e hz q=>
    obtain ⟨vs,h1,h2⟩:=KVs.rd q
    exact ⟨.ref _,rfl,fun H=>.tup (.inr ⟨_,_,_,e,rfl,rfl,by rw [List.size_toArray]; exact hz,by simpa using h1⟩) (h2 H)⟩
  | lst e hz q=>
    obtain ⟨vs,h1,h2⟩:=KVs.rd q
    exact ⟨.ref _,rfl,fun H=>.lst (.inr ⟨_,_,_,e,rfl,rfl,rfl,by rw [List.size_toArray]; exact hz,by simpa using h1⟩) (h2 H)⟩
theorem KVs.rd {K:PySem.W.Frag} {us:List Value} {ds:List D} (h:KVs K us ds):∃ vs,Vals vs us∧∀ H,RDs K H vs ds:=by
  cases h with
  | nil=>exact ⟨[],.nil,fun _=>.nil⟩
  | cons q r=>
    obtain ⟨v,h1,h2⟩:=KV.rd q
    obtain ⟨vs,h3,h4⟩:=KVs.rd r
    exact ⟨v :: vs,.cons h1 h3,fun H=>.cons (h2 H) (h4 H)⟩
end
theorem kc_mk {mg:Str→Option Value} {K:PySem.W.Frag} {x:Str} {u:Value} {d:D} (h:mg x = some u) (k:KV K u d):KC mg K x d:=by
  obtain ⟨v,h1,h2⟩:=k.rd
  exact ⟨⟨u,v,h,h1,h2⟩⟩
def FunIn (K:PySem.W.Frag) (mg:Str→Option Value) (x:Str) (st:Stmt) (ps:List Str):Prop:=∃ f fd,mg x = some (.ref f)∧Fun K x x st f fd∧Binds K fd ps []
theorem dfn_mk {P:Program} {w:World} {K:PySem.W.Frag} {mg:Str→Option Value} {base:Heap} {x:Str} {st:Stmt} {N ps:List Str} {k:Nat} {kp:Nat→Bool} {g:S→O} {Ft:Fn} {f:Addr} {fd:FuncData} (F:Fun K x x st f fd) (Sc:FnScope N ps (defScope st)) (hN:ps.length≤N.length) (eF:Ft = mkFn ps.length N.length kp g)
    (hbody:∀ (f:Addr) (cdv:Value) (A:Around) (outer:List Env) (s:Shared) (H:Hp) (E:XK),Rm k (A.deeper (envOfC x (defScope st) s.heap.objs.size f cdv))→
      DSs (cxOf (L2.CX P w) P w K mg base N x (defScope st) f cdv A outer s H E) Pend.no (fun c d _ H=>E c d H) kp (defBody st) g):FnG P w K mg base (k + 1) f fd ps (spF K Ft):=by
  subst eF
  exact dl_fn F Sc hN (hbody f)
theorem df_mk {P:Program} {w:World} {K:PySem.W.Frag} {mg:Str→Option Value} {base:Heap} {x:Str} {st:Stmt} {N ps:List Str} {k:Nat} {kp:Nat→Bool} {g:S→O} {Ft:Fn} (I:FunIn K mg x st ps) (Sc:FnScope N ps (defScope st)) (hN:ps.length≤N.length) (eF:Ft = mkFn ps.length N.length kp g)
    (hbody:∀ (f:Addr) (cdv:Value) (A:Around) (outer:List Env) (s:Shared) (H:Hp) (E:XK),Rm k (A.deeper (envOfC x (defScope st) s.heap.objs.size f cdv))→
      DSs (cxOf (L2.CX P w) P w K mg base N x (defScope st) f cdv A outer s H E) Pend.no (fun c d _ H=>E c d H) kp (defBody st) g):Def P w K mg base x (k + 1) Ft:=by
  obtain ⟨f,fd,hm,F,hb⟩:=I
  subst eF
  exact ⟨⟨f,fd,ps,hm,F.kp,hb,dl_fn F Sc hN (hbody f)⟩⟩
theorem lawG {P:Program} {w:World} {K:PySem.W.Frag} {mg mb:Str→Option Value} {k:Nat} {fa a:Addr} {fd:FuncData} {x:Str} {s1:Shared} {vs:List Value} {ns:List Int} {Ft:Fn} {ps:S}
    (KX:K.In s1.heap) (hns:s1.heap.Ns mainGlobals mg) (hb:s1.heap.Ns builtinsNs mb) (hbb:∀ x:Str,x ≠ "__name__" → mb x = bootBuiltins x) (hlim:s1.heap.NoLimit) (hg:s1.gens = #[])
    (ha:s1.heap.get? a = some { cls:=.type "list",data:=.seq vs.toArray }) (hi:IntsAre vs ns) (hl:ns.length≤sizeLine) (hr:Rm k callerA)
    (F:∀ base:Heap,K.In base→base.Ns mainGlobals mg→FnG P w K mg base k fa fd [x] (spF K Ft)) (hbind:∀ (s:Shared) (u:Value),BindsTo s fd ⟨[u],[]⟩ [(x,u)])
    (hF:Ft [.val (.lst (ns.map D.int))] = .ok (.val (.bl true)) ps):
    codeAny (model P w) callerA (.call (.ref fa) ⟨[.ref a],[]⟩) (fun r s'=>r = .ok (.ret (.bool true))∧OldK s1.heap s'.heap∧s'.os = s1.os∧AllBare s'.gens) s1:=by
  have rv:=vals_ints hi
  obtain ⟨H,frz,hok,only,offK⟩:∃ H:Hp,FzL K H a (ns.map V.int)∧HOk P w H s1.heap∧(∀ b u,H b = some u→b = a∧∃ o v,u = .frz o v)∧(H a ≠ none→K.lookup a = none):=by
    cases hk:K.lookup a with
    | some o=>
      have e:=KX a o hk
      rw [ha] at e; cases e
      exact ⟨fun _=>none,.inr ⟨_,vs.toArray,_,hk,rfl,rfl,rfl,by rw [List.size_toArray,hi.length]; exact hl,by simpa using rv⟩,fun b u z=>(by cases (show (none:Option HO) = some u from z)),fun b u z=>(by cases (show (none:Option HO) = some u from z)),fun z=>absurd rfl z⟩
    | none=>
      refine ⟨fun b=>if b = a then some (.frz { cls:=.type "list",data:=.seq vs.toArray } (.lst (ns.map V.int))) else none,.inl ⟨_,if_pos rfl⟩,fun b u z=>?_,fun b u z=>?_,fun _=>rfl⟩
      · by_cases e:b = a
        · cases (if_pos e).symm.trans z
          subst e
          exact ⟨ha,(by rw [List.length_map]; exact hl),vs,_,rv,ha⟩
        · cases (if_neg e).symm.trans z
      · by_cases e:b = a
        · cases (if_pos e).symm.trans z
          exact ⟨e,_,_,rfl⟩
        · cases (if_neg e).symm.trans z
  have noD:∀ {b:Addr} {o:Obj} {es:Array DictEntry} {ep:Nat},s1.heap.get? b = some o→o.data = .dict es ep→H b = none:=fun {b o es ep} e d=>by
    cases q:H b with
    | none=>rfl
    | some u=>
      obtain ⟨e',_⟩:=only b u q
      subst e'
      rw [ha] at e; cases e
      cases (show Data.seq vs.toArray _ = Data.dict es ep from d)
  have ns_:∀ {b:Addr} {m:Str→Option Value},s1.heap.Ns b m→(hidT s1.heap H).Ns b m:=fun {b m} ⟨o,es,ep,e,d,r⟩=>⟨o,es,ep,hidT_get e (noD e d),d,r⟩
  have kb:K.In (hidT s1.heap H):=fun b o e=>hidT_get (KX b o e) (by
    cases q:H b with
    | none=>rfl
    | some u=>
      obtain ⟨e',_⟩:=only b u q
      subst e'
      rw [offK (by rw [q]; simp)] at e; cases e)
  have M:Mod K mg (hidT s1.heap H):=⟨kb,ns_ hns,⟨mb,ns_ hb,hbb⟩,let ⟨mc,h1,h2⟩:=hlim; ⟨mc,ns_ h1,h2⟩⟩
  have e0:Env0 P w K mg (hidT s1.heap H) callerA [] s1 H:=⟨rfl,M,fun b o e=>of_hidT e,Nat.le_of_eq (hidT_size _ _),trivial,fun b hb=>absurd (show b ∈ ([]:List Addr) from hb) (by simp),hok,.of_eq hg⟩
  have sp:spF K Ft [.ref a] H (fun v _=>v = .bl true) (fun _ _ _=>False):=by
    refine ⟨_,fun _=>0,.cons (.vl (.lst frz (RDs.ints ns))) (.nil (f:=fun _=>0) fun _=>rfl) fun _=>rfl,fun _=>Nat.zero_le _,?_⟩
    rw [hF]
    exact fun v H' g h r _ _ _=>r.bl
  refine codeAny_mono ((F _ kb (ns_ hns)).run callerA [] s1 H ⟨[.ref a],[]⟩ [.ref a] [.ref a] _ _ hr e0 (hbind s1 (.ref a)) (.cons rfl .nil) sp) fun r s' h=>?_
  cases r with
  | error e=>
    obtain ⟨_,_,_,_,_,_,_,_,_,_,_,_,z⟩:=(show L2.CX P w [] H s1 (fun _ _ _=>False) e s' from h)
    exact z.elim
  | ok fl=>
    cases fl with
    | next=>exact False.elim h
    | brk=>exact False.elim h
    | cont=>exact False.elim h
    | ret u=>
      obtain ⟨v,H',so,bare,un,hok',r',q⟩:=h
      have q:v = .bl true:=q
      subst q
      obtain rfl:u = .bool true:=r'
      refine ⟨rfl,OldK.of_keep fun b o e=>?_,so,bare⟩
      cases q:H b with
      | none=>exact un.keep b o e q (fun z=>absurd (show b ∈ ([]:List Addr) from z) (by simp)) (by simp)
      | some u=>
        obtain ⟨_,ob,xs,z⟩:=only b u q
        subst z
        obtain ⟨e1,_⟩:=hok b _ q
        obtain ⟨e2,_⟩:=hok' b _ (un.frzs b ob _ q)
        rw [e] at e1; cases e1
        exact e2
theorem walkG {l:PySem.W.OpenLaw} {n k:Nat} {q:Program} {loose:List Str} {XP:(Str→Option Value)→Heap→Prop} {YP:World→Heap→Prop} {d:DefRec} {K:Params→PySem.W.Frag} {x:Str}
    (hn:l.most = some n) (hn2:n≤sizeLine) (hdf:d.params.defaults = []) (hr:Rm k callerA) (hY:∀ (w:World) (h:Heap),YP w h→(K w.params).In h)
    (F:∀ (w:World) (mg:Str→Option Value) (fa:Addr) (h:Heap),(K w.params).In h→h.Ns mainGlobals mg→mg d.name = some (.ref fa)→
      ∃ (fd:FuncData) (Ft:Fn),(∀ (s:Shared) (u:Value),BindsTo s fd ⟨[u],[]⟩ [(x,u)])∧(∀ base:Heap,(K w.params).In base→base.Ns mainGlobals mg→FnG l.prog w (K w.params) mg base k fa fd [x] (spF (K w.params) Ft))∧
        ∀ ns:List Int,ns.length≤n→∃ ps,Ft [.val (.lst (ns.map D.int))] = .ok (.val (.bl true)) ps):
    PySem.W.WalkO q loose XP YP l.row.toRowW d [] (fun f us=>PySem.call f us):=by
  refine Att.attach_call hn hdf fun w s0 s₁ mg mb fa o pm cd doc a vs ns G Y ho hd hcd hmg hobj hints hlen hg=>?_
  obtain ⟨fd,Ft,hb,hF,hp⟩:=F w mg fa _ (hY w _ Y) G.T.g hmg
  obtain ⟨ps,e⟩:=hp ns hlen
  exact lawG (hY w _ Y) G.T.g G.T.b G.T.builtins G.T.nolimit hg hobj hints (Nat.le_trans hlen hn2) hr hF hb e
def paNil:Addr→List (Str×D)→Option (List D):=fun _ _=>some []
def paCons (px:PxF) (pa:Addr→List (Str×D)→Option (List D)):Addr→List (Str×D)→Option (List D):=fun C xs=>(px C xs).bind fun d=>(pa C xs).map (d :: ·)
def pxTup (pa:Addr→List (Str×D)→Option (List D)):PxF:=fun C xs=>(pa C xs).bind fun ds=>if ds.length≤sizeLine then some (.tup ds) else none
def pbIs (m:List (Addr×Bool)):Addr→Option Bool:=fun C=>m.lookup C
def suRet (px:PxF):SuF:=fun C xs σ=>match px C xs with
  | some d=>.rt (.val d) σ
  | none=>.stuck
def SupEx (P:Program) (K:PySem.W.Frag) (mg:Str→Option Value) (C:Addr) (ps:List Str):Prop:=∃ st D' fI,PySem.DLX.SupTxt P K mg st C D' fI ps
theorem ds_raiseX {X:Cx} {C:Addr} {ps:List Str} {ϖ:Pend} {W:WX} {kp:Nat→Bool} {e:Expr} {es:List Expr} {x:Str} {As:S→R (List G)} {p pos pos2:Pos} {k:Nat} (hc:X.calm = true) (T:SupEx X.prog X.K X.mg C ps) (gC:X.mg x = some (.ref C)) (hps:ps ≠ []) (hnd:(("self" : Str) :: ps).Nodup) (hne:∀ p ∈ ps,(p == ("__debug__" : Str)) = false) (hlen:ps.length≤100) (hr:Rm k X.A) (tk:Takes X W) (ha:DGs X ϖ W (e :: es) As) (hg:Gl X x)
    (hdb:(x == ("__debug__" : Str)) = false:=by decide) (he:starEach (e :: es) X.env = (false,eval e X.env) :: starEach es X.env:=by rfl) (hpl:(backTo pos (starEach es X.env)).any (·.1) = false:=by rfl):DS X ϖ W kp (.Raise (some (.Call (.Name x p) (e :: es) [] pos)) none pos2) (sRaise C ps As):=by
  obtain ⟨st,D',fI,T⟩:=T
  exact ds_raise hc T gC hps hnd hne hlen hr.rm tk ha hg hdb he hpl
theorem rm_caller {k:Nat} (h:k≤20:=by decide):Rm k callerA:=⟨Room.mono ⟨rfl,by decide,by decide⟩ h,rfl⟩
end DL
set_option exponentiation.threshold 10000
namespace DL
open PySem PySem.Spec PyProof.Rows L2
section
variable {α β:Type} {i j n:Nat} {d:D} {F C:S→R T} {A B:S→R G} {As:S→R (List G)} {P Q:S→R Bool} {σ:S} {o o':T→T→Option T} {g1 g2:S→O} {x y:G} {t:T}
@[simp] theorem q_eV:eV F σ = (F σ).bind fun t σ'=>match t.fz with
  | some d=>.ok (.val d) σ'
  | none=>.stuck:=rfl
@[simp] theorem q_eN:eN i σ = match σ[i]? with
  | some (some t)=>(match t.fz with
    | some d=>.ok (.val d) (σ.set i (some (.val d)))
    | none=>.stuck)
  | _=>.stuck:=rfl
@[simp] theorem q_eM:eM i σ = match σ[i]? with
  | some (some (.val d))=>.ok (.val d) σ
  | some (some t)=>.ok t (σ.set i none)
  | _=>.stuck:=rfl
@[simp] theorem q_fzv:(T.val d).fz = some d:=rfl
@[simp] theorem q_fzl {xs:List D}:(T.lst xs).fz = some (.lst xs):=rfl
@[simp] theorem q_eC:eC d σ = .ok (.val d) σ:=rfl
@[simp] theorem q_gN:gN i σ = match σ[i]? with
  | some (some _)=>.ok (.inl i) σ
  | _=>.stuck:=rfl
@[simp] theorem q_gE:gE F σ = (F σ).bind fun t σ1=>.ok (.inr t) σ1:=rfl
@[simp] theorem q_gNil:gNil σ = .ok [] σ:=rfl
@[simp] theorem q_gCons:gCons A As σ = (A σ).bind fun x σ1=>(As σ1).bind fun xs σ2=>.ok (x :: xs) σ2:=rfl
@[simp] theorem q_rdl:rdG (.inl i) σ = (σ[i]?).join:=by
  show look σ i = _
  unfold look
  cases σ[i]? <;> rfl
@[simp] theorem q_look:look σ i = (σ[i]?).join:=by
  unfold look
  cases σ[i]? <;> rfl
@[simp] theorem q_rdr:rdG (.inr t) σ = some t:=rfl
@[simp] theorem q_rds0:rds [] σ = some []:=rfl
@[simp] theorem q_rds {xs:List G}:rds (x :: xs) σ = match rdG x σ,rds xs σ with
  | some t,some ts=>some (t :: ts)
  | _,_=>none:=rfl
@[simp] theorem q_lift:lift (some t) σ = .ok t σ:=rfl
@[simp] theorem q_lift0:lift none σ = .stuck:=rfl
@[simp] theorem q_op1 {o:T→Option T}:op1 o x σ = match rdG x σ with
  | some t=>lift (o t) σ
  | _=>.stuck:=rfl
@[simp] theorem q_op2:op2 o x y σ = match rdG x σ,rdG y σ with
  | some t,some u=>lift (o t u) σ
  | _,_=>.stuck:=rfl
@[simp] theorem q_opL {o:List T→Option T} {xs:List G}:opL o xs σ = match rds xs σ with
  | some ts=>lift (o ts) σ
  | _=>.stuck:=rfl
@[simp] theorem q_eB:eB o A B σ = (A σ).bind fun x σ1=>(B σ1).bind fun y σ2=>op2 o x y σ2:=rfl
@[simp] theorem q_eU {o:T→Option T}:eU o A σ = (A σ).bind fun x σ1=>op1 o x σ1:=rfl
@[simp] theorem q_eCB {o:List T→Option T}:eCB o As σ = (As σ).bind fun xs σ1=>opL o xs σ1:=rfl
@[simp] theorem q_eCh {Z:S→R G}:eCh o o' A B Z σ = (A σ).bind fun x σ1=>(B σ1).bind fun y σ2=>(op2 o x y σ2).bind fun z σ3=>match z with
  | .val (.bl true)=>(Z σ3).bind fun u σ4=>op2 o' y u σ4
  | .val (.bl false)=>.ok (.val (.bl false)) σ3
  | _=>.stuck:=rfl
@[simp] theorem q_tst {b:Bool}:tst (.val (.bl b)) σ = .ok b σ:=rfl
@[simp] theorem q_bV:bV F σ = (F σ).bind tst:=rfl
@[simp] theorem q_bT:bT A σ = (A σ).bind tru:=rfl
@[simp] theorem q_tru:tru x σ = match rdG x σ with
  | some t=>(match truT t with
    | some b=>.ok b σ
    | none=>.stuck)
  | none=>.stuck:=rfl
@[simp] theorem q_bNot:bNot P σ = (P σ).bind fun b σ1=>.ok (!b) σ1:=rfl
@[simp] theorem q_bAnd:bAnd P Q σ = (P σ).bind fun b σ1=>if b = true then Q σ1 else .ok false σ1:=rfl
@[simp] theorem q_bOr:bOr P Q σ = (P σ).bind fun b σ1=>if b = true then .ok true σ1 else Q σ1:=rfl
@[simp] theorem q_eAnd:eAnd F C σ = (F σ).bind fun t σ1=>match t with
  | .val (.bl true)=>C σ1
  | .val (.bl false)=>.ok (.val (.bl false)) σ1
  | _=>.stuck:=rfl
@[simp] theorem q_eOr:eOr F C σ = (F σ).bind fun t σ1=>match t with
  | .val (.bl true)=>.ok (.val (.bl true)) σ1
  | .val (.bl false)=>C σ1
  | _=>.stuck:=rfl
@[simp] theorem q_eNot:eNot F σ = (F σ).bind fun t σ1=>match t with
  | .val (.bl b)=>.ok (.val (.bl (!b))) σ1
  | _=>.stuck:=rfl
@[simp] theorem q_eIf:eIf P F C σ = (P σ).bind fun b σ1=>if b = true then F σ1 else C σ1:=rfl
@[simp] theorem q_sNx:sNx σ = .nx σ:=rfl
@[simp] theorem q_sAsg:sAsg i F σ = (F σ).then fun t σ1=>.nx (σ1.set i (some t)):=rfl
@[simp] theorem q_sExpr:sExpr F σ = (F σ).then fun _ σ1=>.nx σ1:=rfl
@[simp] theorem q_sRet:sRet F σ = (F σ).then fun t σ1=>.rt t σ1:=rfl
@[simp] theorem q_sIf:sIf P g1 g2 σ = (P σ).then fun b σ1=>if b = true then g1 σ1 else g2 σ1:=rfl
@[simp] theorem q_sSeq:sSeq g1 g2 σ = match g1 σ with
  | .nx σ'=>g2 σ'
  | o=>o:=rfl
@[simp] theorem q_sPar:sPar i j As σ = (As σ).then fun xs σ1=>match rds xs σ1 with
  | some ts=>(match vals? ts with
    | some [d,d']=>.nx ((σ1.set i (some (.val d))).set j (some (.val d')))
    | _=>.stuck)
  | none=>.stuck:=rfl
@[simp] theorem q_v0:vals? [] = some []:=rfl
@[simp] theorem q_v1 {r:List T}:vals? (.val d :: r) = (vals? r).map (d :: ·):=rfl
@[simp] theorem q_iG {o:List T→Option (List D)}:iG o As σ = (As σ).bind fun xs σ1=>match rds xs σ1 with
  | some ts=>(match o ts with
    | some ds=>.ok ds σ1
    | none=>.stuck)
  | none=>.stuck:=rfl
@[simp] theorem q_iSeq:iSeq F σ = (F σ).bind fun t σ1=>match t with
  | .val d=>(match d.items with
    | some ds=>.ok ds σ1
    | none=>.stuck)
  | _=>.stuck:=rfl
@[simp] theorem q_sFor {I:S→R (List D)} {Tg:D→S→Option S} {gb:S→O}:sFor I Tg gb σ = (I σ).then fun ds σ1=>loopO Tg gb ds σ1:=rfl
@[simp] theorem q_tgN:tgN i d σ = some (σ.set i (some (.val d))):=rfl
@[simp] theorem q_eIs {ty:String}:eIs ty A σ = (A σ).bind fun x σ1=>match rdG x σ1 with
  | some t=>.ok (.val (.bl (isTy ty t.ty))) σ1
  | none=>.stuck:=rfl
@[simp] theorem q_eApp:eApp i F σ = match look σ i with
  | some (.lst _)=>(eV F σ).bind fun t σ1=>(match t,look σ1 i with
    | .val d,some u=>(match appT u d with
      | some u'=>.ok (.val .non) (σ1.set i (some u'))
      | none=>.stuck)
    | _,_=>.stuck)
  | _=>.stuck:=rfl
@[simp] theorem q_sSub {J:S→R T}:sSub i J F σ = (eV F σ).then fun t σ1=>match t,look σ1 i with
  | .val d,some (.lst _)=>(J σ1).then fun k σ2=>(match k,look σ2 i with
    | .val (.int k),some u=>(match setT u k d with
      | some u'=>.nx (σ2.set i (some u'))
      | none=>.stuck)
    | _,_=>.stuck)
  | _,_=>.stuck:=rfl
@[simp] theorem q_oNo:oNo σ = .ok none σ:=rfl
@[simp] theorem q_oSo:oSo F σ = (F σ).bind fun t σ1=>match t with
  | .val (.int i)=>.ok (some i) σ1
  | _=>.stuck:=rfl
@[simp] theorem q_held1:heldG (.inl i) = true:=rfl
@[simp] theorem q_held2:heldG (.inr (.val d)) = true:=rfl
@[simp] theorem q_eSl {L U:S→R (Option Int)}:eSl A L U σ = (A σ).bind fun x σ1=>if heldG x = true then (L σ1).bind fun l σ2=>(U σ2).bind fun u σ3=>match rdG x σ3 with
    | some t=>lift (slT t l u) σ3
    | none=>.stuck
  else .stuck:=rfl
@[simp] theorem q_bYes:bYes σ = .ok true σ:=rfl
@[simp] theorem q_tk0:takeG [] σ = some ([],σ):=rfl
@[simp] theorem q_tk1 {r:List G}:takeG (.inr t :: r) σ = (takeG r σ).map fun q=>(t :: q.1,q.2):=rfl
@[simp] theorem q_tk2 {r:List G}:takeG (.inl i :: r) σ = match look σ i with
  | some (.val d)=>(takeG r σ).map fun q=>(.val d :: q.1,q.2)
  | some t=>(takeG r (σ.set i none)).map fun q=>(t :: q.1,q.2)
  | none=>none:=rfl
@[simp] theorem q_bk1 {r:List G} {ps:S}:backG (.inl i :: r) (some t :: ps) σ = match σ[i]? with
  | some none=>backG r ps (σ.set i (some t))
  | _=>backG r ps σ:=rfl
@[simp] theorem q_bk2 {r:List G} {ps:S} {u:Option T}:backG (.inr t :: r) (u :: ps) σ = backG r ps σ:=by cases u <;> rfl
@[simp] theorem q_bk3 {r:List G} {ps:S}:backG (.inl i :: r) (none :: ps) σ = backG r ps σ:=rfl
@[simp] theorem q_bk4 {ps:S}:backG [] ps σ = σ:=by cases ps <;> rfl
@[simp] theorem q_bk5 {r:List G}:backG r [] σ = σ:=by
  cases r with
  | nil=>rfl
  | cons h t=>cases h <;> rfl
@[simp] theorem q_callF {Ft:Fn} {xs:List G}:callF Ft xs σ = match takeG xs σ with
  | none=>.stuck
  | some (ts,σ1)=>match Ft ts with
    | .ok t ps=>.ok t (backG xs ps σ1)
    | .exc C ys ps=>.exc C ys (backG xs ps σ1)
    | .stuck=>.stuck:=rfl
@[simp] theorem q_eCall {Ft:Fn}:eCall Ft As σ = (As σ).bind fun xs σ1=>callF Ft xs σ1:=rfl
@[simp] theorem oAdd_i (i j:Int):oAdd (.val (.int i)) (.val (.int j)) = some (.val (.int (i + j))):=rfl
@[simp] theorem oSub_i (i j:Int):oSub (.val (.int i)) (.val (.int j)) = some (.val (.int (i - j))):=rfl
@[simp] theorem oNeg_i (i:Int):oNeg (.val (.int i)) = some (.val (.int (-i))):=rfl
theorem oMul_i {i j:Int} (h:mulOk i j = true):oMul (.val (.int i)) (.val (.int j)) = some (.val (.int (i * j))):=by simp [oMul,oOr,oInt,h]
theorem oMod_i {i j:Int} (h:j ≠ 0):oMod (.val (.int i)) (.val (.int j)) = some (.val (.int (i.fmod j))):=by simp [oMod,oInt,h]
theorem oDiv_i {i j:Int} (h:divOk i j = true):oDiv (.val (.int i)) (.val (.int j)) = some (.val (.int (i.fdiv j))):=by simp [oDiv,oInt,h]
@[simp] theorem oLt_i (i j:Int):oLt (.val (.int i)) (.val (.int j)) = some (.val (.bl (decide (i < j)))):=rfl
@[simp] theorem oLe_i (i j:Int):oLe (.val (.int i)) (.val (.int j)) = some (.val (.bl (decide (i≤j)))):=rfl
@[simp] theorem oGt_i (i j:Int):oGt (.val (.int i)) (.val (.int j)) = some (.val (.bl (decide (j < i)))):=rfl
@[simp] theorem oGe_i (i j:Int):oGe (.val (.int i)) (.val (.int j)) = some (.val (.bl (decide (j≤i)))):=rfl
@[simp] theorem oInt_i (i:Int):oInt1 [.val (.int i)] = some (.val (.int i)):=rfl
@[simp] theorem oAbs_i (i:Int):oAbs [.val (.int i)] = some (.val (.int (if i < 0 then -i else i))):=rfl
@[simp] theorem oLen_l {xs:List D}:oLen [.lst xs] = some (.val (.int xs.length)):=rfl
@[simp] theorem oLen_f {xs:List D}:oLen [.val (.lst xs)] = some (.val (.int xs.length)):=rfl
@[simp] theorem oLen_t {xs:List D}:oLen [.val (.tup xs)] = some (.val (.int xs.length)):=rfl
@[simp] theorem oEq_i (i j:Int):oEq (.val (.int i)) (.val (.int j)) = some (.val (.bl (decide (i = j)))):=by
  have:D.eqv (.int i) (.int j) = decide (i = j):=by
    show PyData.eqv (.int i) (.int j) = _
    unfold PyData.eqv
    first | rfl | (simp [PyData.num?]; done) | simp
  have hd:min (D.int i).dep (D.int j).dep≤63:=Nat.le_trans (Nat.min_le_left _ _) (by show PyData.depth _≤63; simp [D.py,PyData.depth])
  simp only [oEq,if_pos hd,this]
@[simp] theorem oNe_i (i j:Int):oNe (.val (.int i)) (.val (.int j)) = some (.val (.bl (!decide (i = j)))):=by
  have:D.eqv (.int i) (.int j) = decide (i = j):=by
    show PyData.eqv (.int i) (.int j) = _
    unfold PyData.eqv
    first | rfl | (simp [PyData.num?]; done) | simp
  have hd:min (D.int i).dep (D.int j).dep≤63:=Nat.le_trans (Nat.min_le_left _ _) (by show PyData.depth _≤63; simp [D.py,PyData.depth])
  simp only [oNe,if_pos hd,this]
end
theorem atI_int {ds:List Int} {i:Int} (h0:0≤i) (h1:i < ds.length):∃ d ∈ ds,atI (ds.map D.int) i = some (.int d):=by
  have hj:i.toNat < ds.length:=by omega
  refine ⟨ds[i.toNat],List.getElem_mem _,?_⟩
  unfold atI ixN
  rw [List.length_map,if_pos h0,if_pos h1]
  simp [hj]
theorem log2_le {i:Int} {n:Nat} (h:i.natAbs < 2 ^ n) (hn:0 < n):i.natAbs.log2 < n:=by
  by_cases z:i.natAbs = 0
  · rw [z]; simpa using hn
  · exact (Nat.log2_lt z).mpr h
theorem mul_ok {i j:Int} (h1:i.natAbs < 2 ^ 4000) (h2:j.natAbs < 2 ^ 4000):mulOk i j = true:=by
  have a:=log2_le h1 (by decide)
  have b:=log2_le h2 (by decide)
  exact decide_eq_true (show _ < _ by omega)
theorem div_ok {i j:Int} (h0:j ≠ 0) (h2:j.natAbs < 2 ^ 4000):divOk i j = true:=by
  have b:=log2_le h2 (by decide)
  unfold divOk
  rw [PyProof.noPylong_of_log2 (show j.natAbs.log2 < 9000 by omega),decide_eq_true h0]; rfl
theorem sm_ok {i:Int} (h0:-(2 ^ 64)≤i) (h1:i≤2 ^ 64):i.natAbs < 2 ^ 4000:=Nat.lt_of_le_of_lt (by omega:i.natAbs≤2 ^ 64) (Nat.pow_lt_pow_right (by decide) (by decide))
theorem loop_inv {G:D→S→Option S} {body:S→O} {Inv:Nat→S→Prop}:∀ (ds:List D) (σ:S),(∀ i d σ,ds[i]? = some d→Inv i σ→∃ σ1,G d σ = some σ1∧∃ σ2,(body σ1 = .nx σ2∨body σ1 = .ct σ2)∧Inv (i + 1) σ2)→Inv 0 σ→
    ∃ σ',loopO G body ds σ = .nx σ'∧Inv ds.length σ':=by
  intro ds
  induction ds generalizing Inv with
  | nil=>exact fun σ _ h0=>⟨σ,rfl,h0⟩
  | cons d ds ih=>
    intro σ hs h0
    obtain ⟨σ1,e1,σ2,e2,h1⟩:=hs 0 d σ rfl h0
    obtain ⟨σ3,e3,h3⟩:=ih (Inv:=fun i=>Inv (i + 1)) σ2 (fun i d σ e h=>hs (i + 1) d σ (by simpa using e) h) h1
    refine ⟨σ3,?_,h3⟩
    unfold loopO
    rw [e1]
    rcases e2 with e2 | e2 <;> (simp only [e2]; exact e3)
theorem fmod_pos {a b:Int} (h:0 < b):0≤a.fmod b∧a.fmod b < b:=⟨Int.fmod_nonneg_of_pos a h,Int.fmod_lt_of_pos a h⟩
def GO (kp:Nat→Bool) (ts:List T) (P:T→S→Prop):O→Prop
  | .rt t σ=>P t (msk kp 0 ts σ)
  | .nx σ=>P (.val .non) (msk kp 0 ts σ)
  | _=>False
theorem gives {n N:Nat} {kp:Nat→Bool} {g:S→O} {ts:List T} {P:T→S→Prop} (hl:ts.length = n) (h:GO kp ts P (g (strt N ts))):∃ t ps,mkFn n N kp g ts = .ok t ps∧P t ps:=by
  unfold mkFn
  rw [if_pos hl]
  cases e:g (strt N ts) with
  | rt t σ=>rw [e] at h; exact ⟨_,_,rfl,h⟩
  | nx σ=>rw [e] at h; exact ⟨_,_,rfl,h⟩
  | _=>rw [e] at h; exact h.elim
theorem seq_nx {P:O→Prop} {g1 g2:S→O} {σ σ':S} (h:g1 σ = .nx σ') (k:P (g2 σ')):P (sSeq g1 g2 σ):=by unfold sSeq; rw [h]; exact k
theorem go_rt {kp:Nat→Bool} {ts:List T} {P:T→S→Prop} {o:O} {t:T} {σ:S} (h:o = .rt t σ) (k:P t (msk kp 0 ts σ)):GO kp ts P o:=by rw [h]; exact k
theorem for_nx {I:S→R (List D)} {Tg:D→S→Option S} {gb:S→O} {σ σ1:S} {ds:List D} {Inv:Nat→S→Prop} (hI:I σ = .ok ds σ1) (h0:Inv 0 σ1)
    (hs:∀ i d σ,ds[i]? = some d→Inv i σ→∃ σ1,Tg d σ = some σ1∧∃ σ2,(gb σ1 = .nx σ2∨gb σ1 = .ct σ2)∧Inv (i + 1) σ2):∃ σ',sFor I Tg gb σ = .nx σ'∧Inv ds.length σ':=by
  obtain ⟨σ',e,h⟩:=loop_inv (G:=Tg) (body:=gb) ds σ1 hs h0
  exact ⟨σ',by unfold sFor; rw [hI]; exact e,h⟩
theorem seq_for {P:O→Prop} {I:S→R (List D)} {Tg:D→S→Option S} {gb g2:S→O} {σ σ1:S} {ds:List D} {Inv:Nat→S→Prop} (hI:I σ = .ok ds σ1) (h0:Inv 0 σ1)
    (hs:∀ i d σ,ds[i]? = some d→Inv i σ→∃ σ1,Tg d σ = some σ1∧∃ σ2,(gb σ1 = .nx σ2∨gb σ1 = .ct σ2)∧Inv (i + 1) σ2) (k:∀ σ',Inv ds.length σ'→P (g2 σ')):P (sSeq (sFor I Tg gb) g2 σ):=by
  obtain ⟨σ',e,h⟩:=for_nx hI h0 hs
  exact seq_nx e (k σ' h)
theorem iota_at {lo:Int} {n i:Nat} {d:D} (h:(iota lo n)[i]? = some d):i < n∧d = .int (lo + i):=by
  have hi:i < n:=by
    have:=(List.getElem?_eq_some_iff.mp h).1
    rwa [iota_len] at this
  rw [iota_get lo n i hi] at h
  exact ⟨hi,(Option.some.inj h).symm⟩
end DL
namespace DL
open PySem PySem.Spec PyProof.Rows L2
def f__law_draws:S→O:=
  sSeq (sAsg 1 (eCB oLst (gNil)))
  (sSeq (sFor (iSeq (eV (eSl (gN 0) (oNo) (oSo (eC (.int 63)))))) (tgN 2) (sSeq (sAsg 3 (eCB oAbs (gCons (gN 2) (gNil))))
  (sIf (bV (eB oGe (gN 3) (gE (eB oPow (gE (eC (.int 10))) (gE (eC (.int 18))))))) (sFor (iG iRg1 (gCons (gE (eC (.int 60))) (gNil))) (tgN 4) (sIf (bV (eB oGt (gN 3) (gE (eC (.int 0))))) (sSeq (sExpr (eApp 1 (eB oMod (gE (eCB oInt1 (gCons (gN 3) (gNil)))) (gE (eC (.int 1009))))))
  (sAsg 3 (eB oDiv (gN 3) (gE (eC (.int 1009)))))) (sNx))) (sSeq (sAsg 5 (eB oMod (gE (eCB oInt1 (gCons (gE (eB oAdd (gE (eB oMul (gN 3) (gE (eC (.int 48271))))) (gE (eC (.int 11))))) (gNil)))) (gE (eC (.int 2147483647)))))
  (sFor (iG iRg1 (gCons (gE (eC (.int 12))) (gNil))) (tgN 4) (sSeq (sAsg 5 (eB oMod (gE (eCB oInt1 (gCons (gE (eB oAdd (gE (eB oAdd (gE (eB oMul (gN 5) (gE (eC (.int 16807))))) (gE (eB oMul (gE (eC (.int 69621))) (gN 4))))) (gE (eC (.int 5))))) (gNil)))) (gE (eC (.int 2147483629)))))
  (sExpr (eApp 1 (eB oDiv (gN 5) (gE (eC (.int 1009))))))))))))
  (sRet (eM 1)))
def kp__law_draws:Nat→Bool:=fun i=>([0]:List Nat).contains i
def F__law_draws:Fn:=mkFn 1 6 kp__law_draws (f__law_draws)
def f__law_more:S→O:=
  sSeq (sAsg 2 (eB oMod (gE (eCB oInt1 (gCons (gE (eB oAdd (gE (eB oAdd (gE (eB oMul (gN 1) (gE (eC (.int 48271))))) (gE (eCB oLen (gCons (gN 0) (gNil)))))) (gE (eC (.int 11))))) (gNil)))) (gE (eC (.int 2147483629)))))
  (sSeq (sFor (iG iRg1 (gCons (gE (eC (.int 3))) (gNil))) (tgN 3) (sSeq (sIf (bT (gN 0)) (sAsg 2 (eB oAdd (gN 2) (gE (eB oIx (gN 0) (gE (eB oMod (gE (eCB oInt1 (gCons (gE (eB oAdd (gE (eB oMul (gN 1) (gE (eB oAdd (gN 3) (gE (eC (.int 5))))))) (gN 3))) (gNil)))) (gE (eCB oLen (gCons (gN 0) (gNil)))))))))) (sNx))
  (sAsg 2 (eB oMod (gE (eCB oInt1 (gCons (gE (eB oAdd (gE (eB oAdd (gE (eB oMul (gN 2) (gE (eC (.int 16807))))) (gE (eB oMul (gE (eC (.int 69621))) (gN 3))))) (gE (eC (.int 5))))) (gNil)))) (gE (eC (.int 2147483629)))))))
  (sRet (eB oDiv (gN 2) (gE (eC (.int 1009))))))
def kp__law_more:Nat→Bool:=fun i=>([0,1]:List Nat).contains i
def F__law_more:Fn:=mkFn 2 4 kp__law_more (f__law_more)
def f__law_take:S→O:=
  sSeq (sAsg 3 (eB oIx (gN 1) (gE (eC (.int 0)))))
  (sSeq (sSub 1 (eC (.int 0)) (eB oAdd (gN 3) (gE (eC (.int 1)))))
  (sRet (eB oMod (gE (eCB oInt1 (gCons (gE (eIf (bV (eB oLt (gN 3) (gE (eCB oLen (gCons (gN 0) (gNil)))))) (eB oIx (gN 0) (gN 3)) (eCall F__law_more (gCons (gN 0) (gCons (gN 3) (gNil)))))) (gNil)))) (gN 2))))
def kp__law_take:Nat→Bool:=fun i=>([0,1,2]:List Nat).contains i
def F__law_take:Fn:=mkFn 3 4 kp__law_take (f__law_take)
def f__law_one:S→O:=
  sRet (eB oIx (gN 0) (gE (eCall F__law_take (gCons (gN 1) (gCons (gN 2) (gCons (gE (eCB oLen (gCons (gN 0) (gNil)))) (gNil)))))))
def kp__law_one:Nat→Bool:=fun i=>([0,1,2]:List Nat).contains i
def F__law_one:Fn:=mkFn 3 3 kp__law_one (f__law_one)
def Small (ds:List Int):Prop:=∀ d ∈ ds,0≤d∧d < 2147483648
theorem p_more {ds:List Int} {p:Int} (hd:Small ds) (h0:0≤p) (h1:p < 1000000) (hl:ds.length < 1000000):∃ t ps,F__law_more [.lst (ds.map .int),.val (.int p)] = .ok t ps∧∃ r,t = .val (.int r)∧ps = [some (.lst (ds.map .int)),some (.val (.int p))]:=by
  have m1:mulOk p 48271 = true:=mul_ok (sm_ok (by omega) (by omega)) (by decide)
  obtain ⟨b0,b1⟩:=fmod_pos (a:=p * 48271 + ds.length + 11) (b:=2147483629) (by decide)
  unfold F__law_more f__law_more
  refine gives rfl ?_
  refine seq_nx (σ':=[some (.lst (ds.map .int)),some (.val (.int p)),some (.val (.int ((p * 48271 + ds.length + 11).fmod 2147483629))),none]) (by simp [strt,oMul_i m1,oMod_i]) ?_
  refine seq_for (ds:=iota 0 3) (σ1:=[some (.lst (ds.map .int)),some (.val (.int p)),some (.val (.int ((p * 48271 + ds.length + 11).fmod 2147483629))),none])
    (Inv:=fun _ σ=>∃ m o,0≤m∧m < 2147483629∧σ = [some (.lst (ds.map .int)),some (.val (.int p)),some (.val (.int m)),o]) (by simp [iRg1,rngOk]) ⟨_,none,b0,b1,rfl⟩ ?_ ?_
  · rintro i d σ hi ⟨m,o,m0,m9,rfl⟩
    obtain ⟨hi,rfl⟩:=iota_at hi
    refine ⟨_,rfl,?_⟩
    have fin:∀ m',0≤m'→m' < 2 ^ 40→∃ σ2,((sAsg 2 (eB oMod (gE (eCB oInt1 (gCons (gE (eB oAdd (gE (eB oAdd (gE (eB oMul (gN 2) (gE (eC (.int 16807))))) (gE (eB oMul (gE (eC (.int 69621))) (gN 3))))) (gE (eC (.int 5))))) (gNil)))) (gE (eC (.int 2147483629))))) [some (.lst (ds.map .int)),some (.val (.int p)),some (.val (.int m')),some (.val (.int (0 + i)))] = O.nx σ2)∧∃ m o,0≤m∧m < 2147483629∧σ2 = [some (.lst (ds.map .int)),some (.val (.int p)),some (.val (.int m)),o]:=by
      intro m' a b
      have k1:mulOk m' 16807 = true:=mul_ok (sm_ok (by omega) (by omega)) (by decide)
      have k2:mulOk 69621 i = true:=mul_ok (by decide) (sm_ok (by omega) (by omega))
      obtain ⟨c0,c1⟩:=fmod_pos (a:=m' * 16807 + 69621 * i + 5) (b:=2147483629) (by decide)
      exact ⟨[some (.lst (ds.map .int)),some (.val (.int p)),some (.val (.int ((m' * 16807 + 69621 * i + 5).fmod 2147483629))),some (.val (.int (0 + i)))],by simp [oMul_i k1,oMul_i k2,oMod_i],_,_,c0,c1,rfl⟩
    by_cases he:ds = []
    · subst he
      obtain ⟨σ2,e2,h2⟩:=fin m m0 (by omega)
      refine ⟨σ2,.inl (seq_nx (P:=fun o=>o = O.nx σ2) (σ':=[some (.lst (([]:List Int).map .int)),some (.val (.int p)),some (.val (.int m)),some (.val (.int (0 + i)))]) (by simp [truT]) e2),h2⟩
    · have hne:0 < (ds.length:Int):=by
        have:=List.length_pos_iff.mpr he
        omega
      have k3:mulOk p (i + 5) = true:=mul_ok (sm_ok (by omega) (by omega)) (sm_ok (by omega) (by omega))
      obtain ⟨q0,q1⟩:=fmod_pos (a:=p * (i + 5) + i) hne
      obtain ⟨z,hz,ez⟩:=atI_int q0 q1
      obtain ⟨z0,z1⟩:=hd z hz
      obtain ⟨σ2,e2,h2⟩:=fin (m + z) (by omega) (by omega)
      have nl:(ds.length:Int) ≠ 0:=by omega
      refine ⟨σ2,.inl (seq_nx (P:=fun o=>o = O.nx σ2) (σ':=[some (.lst (ds.map .int)),some (.val (.int p)),some (.val (.int (m + z))),some (.val (.int (0 + i)))]) ?_ e2),h2⟩
      simp [truT,he,oMul_i k3,oMod_i nl,oIx,ez]
  · rintro σ' ⟨m,o,m0,m9,rfl⟩
    exact go_rt (t:=.val (.int (m.fdiv 1009))) (σ:=[some (.lst (ds.map .int)),some (.val (.int p)),some (.val (.int m)),o]) (by simp [oDiv_i (div_ok (by decide:(1009:Int) ≠ 0) (by decide))]) ⟨_,rfl,rfl⟩
theorem p_take {ds:List Int} {p many:Int} (hd:Small ds) (h0:0≤p) (h1:p < 1000000) (hl:ds.length < 1000000) (hm:0 < many):
    ∃ r,0≤r∧r < many∧F__law_take [.lst (ds.map .int),.lst [.int p],.val (.int many)] = .ok (.val (.int r)) [some (.lst (ds.map .int)),some (.lst [.int (p + 1)]),some (.val (.int many))]:=by
  have nm:many ≠ 0:=by omega
  have main:∃ t ps,F__law_take [.lst (ds.map .int),.lst [.int p],.val (.int many)] = .ok t ps∧∃ r,0≤r∧r < many∧t = .val (.int r)∧ps = [some (.lst (ds.map .int)),some (.lst [.int (p + 1)]),some (.val (.int many))]:=by
    unfold F__law_take f__law_take
    refine gives rfl ?_
    refine seq_nx (σ':=[some (.lst (ds.map .int)),some (.lst [.int p]),some (.val (.int many)),some (.val (.int p))]) (by simp [strt,oIx,atI,ixN]) ?_
    refine seq_nx (σ':=[some (.lst (ds.map .int)),some (.lst [.int (p + 1)]),some (.val (.int many)),some (.val (.int p))]) (by simp [setT,ixN]) ?_
    by_cases hp:p < ds.length
    · obtain ⟨z,hz,ez⟩:=atI_int h0 hp
      obtain ⟨q0,q1⟩:=fmod_pos (a:=z) hm
      exact go_rt (t:=.val (.int (z.fmod many))) (σ:=[some (.lst (ds.map .int)),some (.lst [.int (p + 1)]),some (.val (.int many)),some (.val (.int p))]) (by simp [hp,oIx,ez,oMod_i nm]) ⟨_,q0,q1,rfl,rfl⟩
    · obtain ⟨t,ps,e,r,rfl,rfl⟩:=p_more hd h0 h1 hl
      obtain ⟨q0,q1⟩:=fmod_pos (a:=r) hm
      exact go_rt (t:=.val (.int (r.fmod many))) (σ:=[some (.lst (ds.map .int)),some (.lst [.int (p + 1)]),some (.val (.int many)),some (.val (.int p))]) (by simp [hp,e,oMod_i nm]) ⟨_,q0,q1,rfl,rfl⟩
  obtain ⟨t,ps,e,r,a,b,rfl,rfl⟩:=main
  exact ⟨r,a,b,e⟩
theorem cut_len {xs:List D} {n:Nat}:(cutD xs none (some (n:Int))).length≤n:=by
  unfold cutD
  rw [HT.sIx_nat,HT.sIx_none]
  simp
  omega
theorem mem_cut {xs:List D} {lo hi:Option Int} {d:D} (h:d ∈ cutD xs lo hi):d ∈ xs:=List.mem_of_mem_drop (List.mem_of_mem_take h)
theorem p_draws (ns:List Int):∃ ds:List Int,Small ds∧ds.length < 1000000∧∃ ps,F__law_draws [.val (.lst (ns.map .int))] = .ok (.lst (ds.map .int)) ps∧ps = [some (.val (.lst (ns.map .int)))]:=by
  have main:∃ t ps,F__law_draws [.val (.lst (ns.map .int))] = .ok t ps∧∃ ds:List Int,Small ds∧ds.length < 1000000∧t = .lst (ds.map .int)∧ps = [some (.val (.lst (ns.map .int)))]:=by
    unfold F__law_draws f__law_draws
    refine gives rfl ?_
    refine seq_nx (σ':=[some (.val (.lst (ns.map .int))),some (.lst []),none,none,none,none]) (by simp [strt,oLst]) ?_
    refine seq_for (ds:=cutD (ns.map .int) none (some 63)) (σ1:=[some (.val (.lst (ns.map .int))),some (.lst []),none,none,none,none])
      (Inv:=fun i σ=>∃ (ds:List Int) (a b c e:Option T),Small ds∧ds.length≤i * 60∧σ = [some (.val (.lst (ns.map .int))),some (.lst (ds.map .int)),a,b,c,e]) (by simp [slT,D.items]) ⟨[],none,none,none,none,fun d h=>(by cases h),Nat.zero_le _,rfl⟩ ?_ ?_
    · rintro i d σ hi ⟨ds,a,b,c,e,sm,ln,rfl⟩
      have hi63:i < 63:=Nat.lt_of_lt_of_le (List.getElem?_eq_some_iff.mp hi).1 (cut_len (n:=63))
      obtain ⟨cell,_,rfl⟩:=List.mem_map.mp (mem_cut (List.mem_of_getElem? hi))
      refine ⟨_,rfl,?_⟩
      have ab:(0:Int)≤(if cell < 0 then -cell else cell):=by split <;> omega
      generalize hr:(if cell < 0 then -cell else cell) = rest at ab
      have p10:oPow (.val (.int 10)) (.val (.int 18)) = some (.val (.int 1000000000000000000)):=by simp [oPow,oInt,powOk]
      have first:sAsg 3 (eCB oAbs (gCons (gN 2) (gNil))) [some (.val (.lst (ns.map .int))),some (.lst (ds.map .int)),some (.val (.int cell)),b,c,e] = .nx [some (.val (.lst (ns.map .int))),some (.lst (ds.map .int)),some (.val (.int cell)),some (.val (.int rest)),c,e]:=by simp [hr]
      by_cases big:(1000000000000000000:Int)≤rest
      · obtain ⟨σ2,e2,ds2,u,v,sm2,ln2,rfl⟩:∃ σ2,sFor (iG iRg1 (gCons (gE (eC (.int 60))) (gNil))) (tgN 4) (sIf (bV (eB oGt (gN 3) (gE (eC (.int 0))))) (sSeq (sExpr (eApp 1 (eB oMod (gE (eCB oInt1 (gCons (gN 3) (gNil)))) (gE (eC (.int 1009))))))
          (sAsg 3 (eB oDiv (gN 3) (gE (eC (.int 1009)))))) (sNx)) [some (.val (.lst (ns.map .int))),some (.lst (ds.map .int)),some (.val (.int cell)),some (.val (.int rest)),c,e] = .nx σ2∧
          ∃ (ds2:List Int) (u v:Option T),Small ds2∧ds2.length≤ds.length + 60∧σ2 = [some (.val (.lst (ns.map .int))),some (.lst (ds2.map .int)),some (.val (.int cell)),u,v,e]:=by
          obtain ⟨σ2,e2,ds2,r2,v,sm2,ln2,rfl⟩:=for_nx (I:=iG iRg1 (gCons (gE (eC (.int 60))) (gNil))) (Tg:=tgN 4) (gb:=sIf (bV (eB oGt (gN 3) (gE (eC (.int 0))))) (sSeq (sExpr (eApp 1 (eB oMod (gE (eCB oInt1 (gCons (gN 3) (gNil)))) (gE (eC (.int 1009))))))
            (sAsg 3 (eB oDiv (gN 3) (gE (eC (.int 1009)))))) (sNx)) (σ:=[some (.val (.lst (ns.map .int))),some (.lst (ds.map .int)),some (.val (.int cell)),some (.val (.int rest)),c,e]) (ds:=iota 0 60) (σ1:=[some (.val (.lst (ns.map .int))),some (.lst (ds.map .int)),some (.val (.int cell)),some (.val (.int rest)),c,e])
            (Inv:=fun i σ=>∃ (ds2:List Int) (r:Int) (v:Option T),Small ds2∧ds2.length≤ds.length + i∧σ = [some (.val (.lst (ns.map .int))),some (.lst (ds2.map .int)),some (.val (.int cell)),some (.val (.int r)),v,e]) (by simp [iRg1,rngOk]) ⟨ds,rest,c,sm,Nat.le_refl _,rfl⟩ (by
              rintro i d σ hi ⟨ds2,r,v,sm2,ln2,rfl⟩
              obtain ⟨hi,rfl⟩:=iota_at hi
              refine ⟨_,rfl,?_⟩
              by_cases hr0:0 < r
              · obtain ⟨q0,q1⟩:=fmod_pos (a:=r) (b:=1009) (by decide)
                have hz:ds2.length < sizeLine:=Nat.lt_of_le_of_lt (by omega:ds2.length≤4000) (by decide)
                refine ⟨[some (.val (.lst (ns.map .int))),some (.lst ((ds2 ++ [r.fmod 1009]).map .int)),some (.val (.int cell)),some (.val (.int (r.fdiv 1009))),some (.val (.int (0 + i))),e],.inl (by simp [hr0,oMod_i,appT,hz,oDiv_i (div_ok (by decide:(1009:Int) ≠ 0) (by decide))]),ds2 ++ [r.fmod 1009],r.fdiv 1009,_,fun d hd=>?_,by rw [List.length_append]; simp; omega,rfl⟩
                rcases List.mem_append.mp hd with h | h
                · exact sm2 d h
                · rw [List.mem_singleton.mp h]; omega
              · exact ⟨[some (.val (.lst (ns.map .int))),some (.lst (ds2.map .int)),some (.val (.int cell)),some (.val (.int r)),some (.val (.int (0 + i))),e],.inl (by simp [hr0]),ds2,r,_,sm2,by omega,rfl⟩)
          exact ⟨_,e2,ds2,_,v,sm2,by rw [iota_len] at ln2; exact ln2,rfl⟩
        exact ⟨_,.inl (seq_nx (P:=fun o=>o = O.nx _) first (by simp only [q_sIf]; simp [p10,big]; simpa using e2)),ds2,_,_,v,e,sm2,by omega,rfl⟩
      · have rb:mulOk rest 48271 = true:=mul_ok (sm_ok (by omega) (by omega)) (by decide)
        obtain ⟨q0,q1⟩:=fmod_pos (a:=rest * 48271 + 11) (b:=2147483647) (by decide)
        obtain ⟨σ2,e2,ds2,m2,v,sm2,ln2,rfl⟩:=for_nx (I:=iG iRg1 (gCons (gE (eC (.int 12))) (gNil))) (Tg:=tgN 4) (gb:=sSeq (sAsg 5 (eB oMod (gE (eCB oInt1 (gCons (gE (eB oAdd (gE (eB oAdd (gE (eB oMul (gN 5) (gE (eC (.int 16807))))) (gE (eB oMul (gE (eC (.int 69621))) (gN 4))))) (gE (eC (.int 5))))) (gNil)))) (gE (eC (.int 2147483629)))))
          (sExpr (eApp 1 (eB oDiv (gN 5) (gE (eC (.int 1009))))))) (σ:=[some (.val (.lst (ns.map .int))),some (.lst (ds.map .int)),some (.val (.int cell)),some (.val (.int rest)),c,some (.val (.int ((rest * 48271 + 11).fmod 2147483647)))]) (ds:=iota 0 12) (σ1:=[some (.val (.lst (ns.map .int))),some (.lst (ds.map .int)),some (.val (.int cell)),some (.val (.int rest)),c,some (.val (.int ((rest * 48271 + 11).fmod 2147483647)))])
          (Inv:=fun i σ=>∃ (ds2:List Int) (m:Int) (v:Option T),(Small ds2∧0≤m∧m < 2147483648)∧ds2.length≤ds.length + i∧σ = [some (.val (.lst (ns.map .int))),some (.lst (ds2.map .int)),some (.val (.int cell)),some (.val (.int rest)),v,some (.val (.int m))]) (by simp [iRg1,rngOk]) ⟨ds,_,c,⟨sm,q0,by omega⟩,Nat.le_refl _,rfl⟩ (by
            rintro i d σ hi ⟨ds2,m,v,⟨sm2,m0,m1⟩,ln2,rfl⟩
            obtain ⟨hi,rfl⟩:=iota_at hi
            refine ⟨_,rfl,?_⟩
            have k1:mulOk m 16807 = true:=mul_ok (sm_ok (by omega) (by omega)) (by decide)
            have k2:mulOk 69621 i = true:=mul_ok (by decide) (sm_ok (by omega) (by omega))
            obtain ⟨c0,c1⟩:=fmod_pos (a:=m * 16807 + 69621 * i + 5) (b:=2147483629) (by decide)
            have hz:ds2.length < sizeLine:=Nat.lt_of_le_of_lt (by omega:ds2.length≤4000) (by decide)
            have f0:∀ x:Int,0≤x→x.fdiv 1009 = x / 1009:=fun x _=>Int.fdiv_eq_ediv_of_nonneg x (by decide)
            refine ⟨[some (.val (.lst (ns.map .int))),some (.lst ((ds2 ++ [((m * 16807 + 69621 * i + 5).fmod 2147483629).fdiv 1009]).map .int)),some (.val (.int cell)),some (.val (.int rest)),some (.val (.int (0 + i))),some (.val (.int ((m * 16807 + 69621 * i + 5).fmod 2147483629)))],
              .inl (by simp [oMul_i k1,oMul_i k2,oMod_i,appT,hz,oDiv_i (div_ok (by decide:(1009:Int) ≠ 0) (by decide))]),ds2 ++ [((m * 16807 + 69621 * i + 5).fmod 2147483629).fdiv 1009],_,_,⟨fun d hd=>?_,c0,by omega⟩,by rw [List.length_append]; simp; omega,rfl⟩
            rcases List.mem_append.mp hd with h | h
            · exact sm2 d h
            · rw [List.mem_singleton.mp h,f0 _ c0]; omega)
        rw [iota_len] at ln2
        exact ⟨_,.inl (seq_nx (P:=fun o=>o = O.nx _) first (by simp only [q_sIf]; simp [p10,big,oMul_i rb,oMod_i]; simpa using e2)),ds2,_,_,v,_,sm2.1,by omega,rfl⟩
    · rintro σ' ⟨ds,a,b,c,e,sm,ln,rfl⟩
      have:(cutD (ns.map D.int) none (some 63)).length≤63:=cut_len (n:=63)
      exact go_rt (t:=.lst (ds.map .int)) (σ:=[some (.val (.lst (ns.map .int))),none,a,b,c,e]) (by simp) ⟨ds,sm,by omega,rfl,rfl⟩
  obtain ⟨t,ps,e,ds,a,b,rfl,h⟩:=main
  exact ⟨ds,a,b,ps,e,h⟩
end DL
namespace DL
open PySem PySem.Spec PyProof.Rows L2
theorem eqv_str (s u:Str):D.eqv (.str s) (.str u) = (s == u):=by
  show PyData.eqv (.str s) (.str u) = _
  simp [PyData.eqv]
theorem dep_str (s:Str):(D.str s).dep≤63:=by
  show PyData.depth (.str s)≤63
  simp [PyData.depth]
@[simp] theorem oNe_s (s u:Str):oNe (.val (.str s)) (.val (.str u)) = some (.val (.bl (!(s == u)))):=by
  have h:min (D.str s).dep (D.str u).dep≤63:=Nat.le_trans (Nat.min_le_left _ _) (dep_str s)
  simp only [oNe,if_pos h,eqv_str]
@[simp] theorem oEq_s (s u:Str):oEq (.val (.str s)) (.val (.str u)) = some (.val (.bl (s == u))):=by
  have h:min (D.str s).dep (D.str u).dep≤63:=Nat.le_trans (Nat.min_le_left _ _) (dep_str s)
  simp only [oEq,if_pos h,eqv_str]
end DL
namespace DL
open PySem PySem.Spec PyProof.Rows L2
def keyD:D→Option Key
  | .int i=>some (.inl i)
  | .str s=>some (.inr s)
  | _=>none
section
variable {K:PySem.W.Frag} {H:Hp}
theorem RT.dict {v:V} {m:List (Key×D)} {g:Fp} (h:RT K H v (.dK m) g):∃ a l,v = .ref a∧H a = some (.dK l)∧RK K H l m∧∀ b,g b = one a b:=by
  cases h with
  | dK e q z=>exact ⟨_,_,rfl,e,q,z⟩
end
section
variable {X:Cx} {ϖ:Pend} {W:WX} {kp:Nat→Bool} {e o j:Expr} {i:Nat} {F J:S→R T} {A:S→R G} {pos:Pos}
end
end DL
namespace DL
open PySem PySem.Spec PyProof.Rows L2
section
variable {X:Cx} {ϖ:Pend} {W:WX} {a b:Expr} {As:S→R (List G)} {pos:Pos}
end
end DL
namespace DL
open PySem PySem.Spec PyProof.Rows L2
section
variable {X:Cx} {ϖ:Pend} {W:WX} {e:Expr} {F:S→R T} {A:S→R G}
end
end DL
namespace DL
open PySem PySem.Spec PyProof.Rows L2
section
variable {X:Cx} {ϖ:Pend} {kp:Nat→Bool} {W:WX} {body:List Stmt} {pos:Pos} {g:S→O}
end
end DL
namespace DLV
open PySem PySem.Spec PyProof.Rows HT
open PySem.SeqAt PySem.MeetsSeq PySem.MeetsSeq2 PySem.MeetsSeq3
section
variable {P0:Program} {w0:World} {A0:Around} {E0:Value→Shared→Prop} {sh:Shared}
end
end DLV
namespace DL
open PySem PySem.Spec PyProof.Rows L2
section
variable {X:Cx} {ϖ:Pend} {W:WX} {e:Expr} {A:S→R G}
end
end DL
namespace DL
open PySem PySem.Spec PyProof.Rows L2
def wO (l:List Nat):O→O
  | .nx σ=>.nx (wipeS σ l)
  | .bk σ=>.bk (wipeS σ l)
  | .ct σ=>.ct (wipeS σ l)
  | o=>o
def sWp (l:List Nat) (g:S→O):S→O:=fun σ=>wO l (g σ)
def sPw (l:List Nat) (g:S→O):S→O:=fun σ=>g (wipeS σ l)
section
variable {K:PySem.W.Frag} {ϖ:Pend} {W:WX} {kp:Nat→Bool}
theorem RS.wiped {σv:L2.St} {H:Hp}:∀ (l:List Nat) {σ:S} {f:Fp},RS K ϖ H σv σ f→∃ h,RS K ϖ H σv (wipeS σ l) h∧∀ b,h b≤f b
  | [],_,_,r=>⟨_,r,fun _=>Nat.le_refl _⟩
  | i :: l,_,_,r=>by
    obtain ⟨h1,r1,z1⟩:=r.drop i
    obtain ⟨h2,r2,z2⟩:=RS.wiped l r1
    exact ⟨h2,r2,fun b=>Nat.le_trans (z2 b) (z1 b)⟩
theorem SPost.unwipe {l:List Nat} {o:O} {Dn:Ends} {σv:L2.St} {H:Hp} {f:Fp} (p:SPost K ϖ W kp (wO l o) Dn σv H f):SPost K ϖ W kp o Dn σv H f:=by
  cases o with
  | nx σ=>exact fun σw H' h r n w k=>(RS.wiped l r).elim fun h' ⟨r',z⟩=>p σw H' h' r' (n.le z) (w.le z) k
  | bk σ=>exact fun σw H' h r n w k=>(RS.wiped l r).elim fun h' ⟨r',z⟩=>p σw H' h' r' (n.le z) (w.le z) k
  | ct σ=>exact fun σw H' h r n w k=>(RS.wiped l r).elim fun h' ⟨r',z⟩=>p σw H' h' r' (n.le z) (w.le z) k
  | rt t σ=>exact p
  | exc C xs σ=>exact p
  | stuck=>exact p
theorem sS.unwipe {l:List Nat} {g:S→O} {Dn:Ends} {σv:L2.St} {H:Hp} (q:sS K ϖ W kp (sWp l g) Dn σv H):sS K ϖ W kp g Dn σv H:=by
  obtain ⟨σ,f,r,n,p⟩:=q
  exact ⟨σ,f,r,n,p.unwipe⟩
theorem sS.prewipe {l:List Nat} {g:S→O} {Dn:Ends} {σv:L2.St} {H:Hp} (q:sS K ϖ W kp (sPw l g) Dn σv H):sS K ϖ W kp g Dn σv H:=by
  obtain ⟨σ,f,r,n,p⟩:=q
  obtain ⟨h,r',z⟩:=RS.wiped l r
  exact ⟨_,h,r',n.le z,SPost.fr p ((Fr.refl H f).le z) (.refl _ _)⟩
end
section
variable {X:Cx} {ϖ:Pend} {W:WX} {kp:Nat→Bool} {st:Stmt} {sts:List Stmt} {g:S→O} {l:List Nat}
theorem ds_wps (h:DSs X ϖ W kp sts g):DSs X ϖ W kp sts (sWp l g):=PSs.imp h fun _ _ _ q=>q.unwipe
theorem ds_pw1 (h:DS X ϖ W kp st g):DS X ϖ W kp st (sPw l g):=PS.imp h fun _ _ _ q=>q.prewipe
end
structure Cl where
  FrameError:Addr
  ReasonError:Addr
  CheckError:Addr
  ArgumentError:Addr
  PaperError:Addr
  TooMany:Addr
  SiteError:Addr
  TextError:Addr
  LogError:Addr
  CommandError:Addr
  m_FrameError:List (Addr×Bool)
  m_CheckError:List (Addr×Bool)
  m_ArgumentError:List (Addr×Bool)
  m_PaperError:List (Addr×Bool)
  m_TooMany:List (Addr×Bool)
  m_SiteError:List (Addr×Bool)
  m_TextError:List (Addr×Bool)
  m_LogError:List (Addr×Bool)
  m_CommandError:List (Addr×Bool)
  is_FrameError:List (Addr×Bool)
  is_CheckError:List (Addr×Bool)
  is_ArgumentError:List (Addr×Bool)
  is_PaperError:List (Addr×Bool)
  is_TooMany:List (Addr×Bool)
  is_SiteError:List (Addr×Bool)
  is_TextError:List (Addr×Bool)
  is_LogError:List (Addr×Bool)
  is_CommandError:List (Addr×Bool)
  cs_reason:List Addr
  cs_at:List Addr
  cs_number:List Addr
  cs_line:List Addr
theorem look_tab {f:Addr→Option Bool} {a:Addr} {b:Bool} (hb:f a = some b):∀ {l:List (Addr×Bool)},(∀ p ∈ l,f p.1 = some p.2)→a ∈ l.map (·.1)→l.lookup a = some b
  | [],_,hm=>by cases hm
  | (c,d) :: l,h,hm=>by
    rw [List.lookup_cons]
    cases e:a == c with
    | true=>
      have e1:=beq_iff_eq.mp e
      have e2:f c = some d:=h (c,d) List.mem_cons_self
      rw [← e1,hb] at e2
      cases e2; rfl
    | false=>
      refine look_tab hb (fun p hp=>h p (List.mem_cons_of_mem _ hp)) ?_
      rcases List.mem_cons.mp hm with z | z
      · have z:a = c:=z
        rw [z,beq_self_eq_true] at e; cases e
      · exact z
@[simp] theorem q_sWp {l:List Nat} {g:S→O} {σ:S}:sWp l g σ = wO l (g σ):=rfl
@[simp] theorem q_sPw {l:List Nat} {g:S→O} {σ:S}:sPw l g σ = g (wipeS σ l):=rfl
@[simp] theorem q_wn {l:List Nat} {σ:S}:wO l (.nx σ) = .nx (wipeS σ l):=rfl
@[simp] theorem q_wb {l:List Nat} {σ:S}:wO l (.bk σ) = .bk (wipeS σ l):=rfl
@[simp] theorem q_wc {l:List Nat} {σ:S}:wO l (.ct σ) = .ct (wipeS σ l):=rfl
@[simp] theorem q_wr {l:List Nat} {t:T} {σ:S}:wO l (.rt t σ) = .rt t σ:=rfl
@[simp] theorem q_we {l:List Nat} {C:Addr} {xs:List (Str×D)} {σ:S}:wO l (.exc C xs σ) = .exc C xs σ:=rfl
@[simp] theorem q_ws {l:List Nat}:wO l .stuck = .stuck:=rfl
@[simp] theorem q_w0 {σ:S}:wipeS σ [] = σ:=rfl
@[simp] theorem q_w1 {σ:S} {i:Nat} {l:List Nat}:wipeS σ (i :: l) = wipeS (σ.set i none) l:=rfl
end DL
namespace DL
open PySem PySem.Spec PyProof.Rows L2
def oAddB:T→T→Option T
  | .val (.bl a),.val (.int j)=>some (.val (.int ((if a = true then (1:Int) else 0) + j)))
  | _,_=>none
theorem ot_addB {X:Cx}:OpT X (binaryOp .Add) oAddB:=by
  intro pins s σ H x y v u tx ty t g1 g2 Q I rx ry r1 r2 e q
  unfold oAddB at e
  split at e
  · cases e
    cases r1.bl
    cases r2.int
    cases rx
    obtain ⟨t',rfl⟩:=ry
    exact PySem.IntBool.add_bool_int ⟨.int _,H,I.tok _,⟨_,rfl⟩,q _ H _ (.vl (.int _)) (Nw.refl H)⟩
  · cases e
def oAddA:T→T→Option T:=oOr oAdd oAddB
theorem ot_addA {X:Cx}:OpT X (binaryOp .Add) oAddA:=.or ot_add ot_addB
end DL
namespace DL
open PySem PySem.Spec PyProof.Rows L2
abbrev SuK (X:Cx) (sts:List Stmt) (ts:Su):Prop:=∀ (a:Addr) (oe:Obj) (cls:Value) (d:Option Addr) (pn:List (Addr×Obj)),Zc cls d oe→(∃ vs,oe.data = .fields vs)→PSs (X.suite a ((a,oe) :: pn)) sts (ts a cls d)
inductive Hks (X:Cx):List ExceptHandler→List (Value×Option Nat×Su)→Prop
  | nil:Hks X [] []
  | bare {x:Str} {c:Value} {ts:Su} {b:Stmt} {bs:List Stmt} {p q:Pos} {r:List ExceptHandler} {l:List (Value×Option Nat×Su)} (hc:Names X x c) (su:SuK X (b :: bs) ts) (t:Hks X r l):Hks X (.ExceptHandler (some (.Name x p)) none (b :: bs) q :: r) ((c,none,ts) :: l)
  | named {x n:Str} {i:Nat} {c:Value} {ts:Su} {b:Stmt} {bs:List Stmt} {p q:Pos} {r:List ExceptHandler} {l:List (Value×Option Nat×Su)} (hc:Names X x c) (hi:X.N[i]? = some n) (hl:X.env.kindOf n = some .local) (su:SuK X (b :: bs) ts) (t:Hks X r l):Hks X (.ExceptHandler (some (.Name x p)) (some n) (b :: bs) q :: r) ((c,some i,ts) :: l)
section
variable {X:Cx} {body:List Stmt} {h₀:ExceptHandler} {hds:List ExceptHandler} {l:List (Value×Option Nat×Su)} {pos:Pos} {tb:WX→TS} {W:WX}
theorem ps_try_n (hst:X.stack = X.env :: X.outer) (hf:X.env.frame = some X.env.locals) (hN:X.N.Nodup) (tk:Takes X W)
    (hb:∀ (W:WX) (pn:List (Addr×Obj)) (xe:Value→Shared→Prop),Takes (X.tr pn xe) W→PassesOwn (model X.prog X.w) X.A X.env xe→PSs (X.tr pn xe) body (tb W)) (hh:Hks X (h₀ :: hds) l):
    PS X (.Try body (h₀ :: hds) [] [] pos) (fun Dn σ H=>tb (wCl X.K W Dn l) Dn σ H):=by
  constructor
  intro pins s σ H Dn I h
  have ok:=I.ok
  have hA:X.A.frames = some (X.env :: X.outer):=by rw [ok.frames,hst]
  apply wpAny_Try_except
  have B0:=(hb (wCl X.K W Dn l) (X.pn ++ pins) (fun e s₁=>wpAny (model X.prog X.w) X.A (noteFrame e X.env) (fun _ s₂=>wpAny (model X.prog X.w) X.A (setFlight e none) (fun _ s₃=>wpAny (model X.prog X.w) X.A (handleBy e X.env (h₀ :: hds)) (SP X pins Dn) X.xe s₃) X.xe s₂) X.xe s₁) ?takes PassesOwn.looking).run [] s σ H Dn (I.toTry _) h
  case takes=>
    rintro u s' ⟨a,B,sI,pins',σ',H',cls,d,rfl,J',nb,up,sky,na,os,ag,w⟩
    have J:Inv X pins σ' H' sI:=J'.ofTry ok
    show wpAny (model X.prog X.w) X.A (noteFrame (.ref a) X.env) _ _ _
    refine Sky.land Zc.steady hA hf (by rw [← hst]; exact sky:Sky B (X.env :: X.outer) a (Zc cls d) X.env.locals s'.heap) fun h3 fl up3=>?_
    have J3:Inv X pins σ' H' { s' with heap:=h3 }:=J.landed nb fl.1 (up.trans up3) os ag
    obtain ⟨oe,vs,he,hz,hd⟩:=fl.there
    have far:a ∉ frs (X.env :: X.outer):=fun hm=>(fl.2.2.1.mem hm).elim fun _ q=>q.elim fun o' ⟨e',no⟩=>by
      rw [he] at e'; cases e'; exact no _ hd
    have nL:a ≠ X.env.locals:=fun z=>far (List.mem_filterMap.mpr ⟨X.env,List.mem_cons_self,by rw [hf,z]⟩)
    have nF:a ∉ X.fs:=fun hm=>(List.mem_filterMap.mp hm).elim fun e q=>far (List.mem_filterMap.mpr ⟨e,List.mem_cons_of_mem _ q.1,q.2⟩)
    have S3:=J3.suite he hd na nL nF
    have LT:PySem.W.Looks (model X.prog X.w) h3 (typeOf (.ref a)) cls:=fun A Q E s k q=>wpAny_typeOf_ref (k _ _ he) (by rw [hz.1]; exact q)
    have asked:∀ {x:Str} {c:Value} {p:Pos} {Q E:Value→Shared→Prop},Names X x c→Q c { s' with heap:=h3 }→wpAny (model X.prog X.w) (X.A.mark (some (.ref a))) (eval (.Name x p) X.env) Q E { s' with heap:=h3 }:=fun hc q=>by
      obtain ⟨hg,hdbg,hm | ⟨hm,hv,hnn⟩⟩:=hc
      · exact ld_glob (X:=X.suite a ((a,oe) :: (X.pn ++ pins))) S3 hg hm q hdbg
      · exact ld_blt (X:=X.suite a ((a,oe) :: (X.pn ++ pins))) S3 hg hm hv q hnn hdbg
    have go:∀ {r:List ExceptHandler} {m:List (Value×Option Nat×Su)},Hks X r m→wCl X.K W Dn m cls d σ' H'→wpAny (model X.prog X.w) X.A (handleBy (.ref a) X.env r) (SP X pins Dn) X.xe { s' with heap:=h3 }:=by
      intro r m hk
      induction hk with
      | nil=>
        intro w
        apply wpAny_handleBy_nil
        obtain ⟨_,_,_,_,_,T,_,_,e1,_,e3,e4,_⟩:=id fl
        unfold PySem.passOn
        refine wpAny_bind (wpAny_field e1 e3 e4 ?_)
        rw [if_neg (show ¬ ((Value.ref T == Value.none) = true) by simp)]
        have last:wpAny (model X.prog X.w) X.A (setFlight (.ref a) X.env.frame) (fun _ s4=>wpAny (model X.prog X.w) X.A (throw (.ref a):Sem Flow) (SP X pins Dn) X.xe s4) X.xe { s' with heap:=h3 }:=by
          rw [hf]
          exact HandSPX.setFlight_upZ fl fun h4 hh4 up4=>wpAny_throw (tk _ _ ⟨a,B,sI,pins,σ',H',cls,d,rfl,J,nb,(up.trans up3).trans up4,.inr (.inr (by rw [hst]; exact hh4)),na,os,ag,w⟩)
        first | exact wpAny_bind (wpAny_pure (wpAny_bind last)) | exact wpAny_bind last
      | bare hc su t ih=>
        rintro ⟨b,hb1,yes,no⟩
        refine wpAny_handleBy_cons (codeAny_handlers_test (asked hc ((PySem.W.exm_one (M:=model X.prog X.w) J3.kIn LT hb1).here ?_))) (by intro q; cases q)
        cases b with
        | false=>exact ih (no rfl)
        | true=>
          refine codeAny_handlers_suite (HandSPX.lands_againZ fl fun h4 fl4 up4=>?_)
          have J4:Inv X pins σ' H' { s' with heap:=h4 }:=J.landed nb fl4.1 ((up.trans up3).trans up4) os ag
          obtain ⟨o4,v4,he4,hz4,hd4⟩:=fl4.there
          refine wpAny_mono ((su a o4 cls d (X.pn ++ pins) hz4 ⟨_,hd4⟩).run [] _ _ H' _ (J4.suite he4 hd4 na nL nF) (yes rfl a na)) (fun f s6 z=>?_) (fun _ _ z=>False.elim z)
          cases f with
          | ret u=>exact z.elim fun v6 z=>z.elim fun σ6 z=>z.elim fun H6 ⟨S6,r6,q6⟩=>⟨_,_,_,S6.unsuite ok,r6,q6⟩
          | _=>exact z.elim fun σ6 z=>z.elim fun H6 ⟨S6,q6⟩=>⟨_,_,S6.unsuite ok,q6⟩
      | @named x n i c ts b bs p q r l hc hi hl su t ih=>
        rintro ⟨b,hb1,yes,no⟩
        refine wpAny_handleBy_cons (codeAny_handlers_test (asked hc ((PySem.W.exm_one (M:=model X.prog X.w) J3.kIn LT hb1).here ?_))) (by intro q; cases q)
        cases b with
        | false=>exact ih (no rfl)
        | true=>
          refine codeAny_handlers_suite_as (HandSPX.lands_againZ fl fun h4 fl4 up4=>?_)
          have J4:Inv X pins σ' H' { s' with heap:=h4 }:=J.landed nb fl4.1 ((up.trans up3).trans up4) os ag
          obtain ⟨o4,v4,he4,hz4,hd4⟩:=fl4.there
          refine store_ok (X:=X.suite a ((a,o4) :: (X.pn ++ pins))) (v:=.ref a) (J4.suite he4 hd4 na nL nF) hN hi (.inl hl) rfl (fun s5 S5=>?_) (.inr hl)
          refine wpAny_mono ((su a o4 cls d (X.pn ++ pins) hz4 ⟨_,hd4⟩).run [] s5 _ H' _ S5 (yes rfl a na)) (fun f s6 z=>?_) (fun _ _ z=>False.elim z)
          cases f with
          | ret u=>exact z.elim fun v6 z=>z.elim fun σ6 z=>z.elim fun H6 ⟨S6,r6,q6⟩=>gone_ok (S6.unsuite ok) hN hi hl fun s7 J7=>⟨_,_,_,J7,r6,q6⟩
          | _=>exact z.elim fun σ6 z=>z.elim fun H6 ⟨S6,q6⟩=>gone_ok (S6.unsuite ok) hN hi hl fun s7 J7=>⟨_,_,J7,q6⟩
    exact go hh w
  refine wpAny_mono B0 (fun f s1 z=>?_) (fun e s1 he=>he)
  cases f with
  | next=>exact z.elim fun σ' z=>z.elim fun H' ⟨J',q⟩=>wpAny_execs_nil ⟨σ',H',J'.ofTry ok,q⟩
  | ret u=>exact z.elim fun v z=>z.elim fun σ' z=>z.elim fun H' ⟨J',r,q⟩=>⟨v,σ',H',J'.ofTry ok,r,q⟩
  | _=>exact z.elim fun σ' z=>z.elim fun H' ⟨J',q⟩=>⟨σ',H',J'.ofTry ok,q⟩
end
section
variable {X:Cx} {ϖ:Pend} {kp:Nat→Bool} {W:WX} {body:List Stmt} {pos:Pos} {g:S→O}
inductive HksD (X:Cx) (ϖ:Pend) (kp:Nat→Bool):List ExceptHandler→List Hd→Prop
  | nil:HksD X ϖ kp [] []
  | bare {x:Str} {c:Value} {m:List (Addr×Bool)} {gs:SuF} {b:Stmt} {bs:List Stmt} {p q:Pos} {r:List ExceptHandler} {l:List Hd} (hc:Names X x c) (hm:∀ C b,m.lookup C = some b→PySem.W.exmOne X.K (.ref C) c = some b) (su:DSu X ϖ kp none (b :: bs) gs) (t:HksD X ϖ kp r l):HksD X ϖ kp (.ExceptHandler (some (.Name x p)) none (b :: bs) q :: r) (⟨m,none,gs⟩ :: l)
  | named {x n:Str} {i:Nat} {c:Value} {m:List (Addr×Bool)} {gs:SuF} {b:Stmt} {bs:List Stmt} {p q:Pos} {r:List ExceptHandler} {l:List Hd} (hc:Names X x c) (hi:X.N[i]? = some n) (hl:X.env.kindOf n = some .local) (hm:∀ C b,m.lookup C = some b→PySem.W.exmOne X.K (.ref C) c = some b) (hk:kp i = false) (su:DSu X ϖ kp (some i) (b :: bs) gs) (t:HksD X ϖ kp r l):HksD X ϖ kp (.ExceptHandler (some (.Name x p)) (some n) (b :: bs) q :: r) (⟨m,some i,gs⟩ :: l)
theorem HksD.both {hds:List ExceptHandler} {hs:List Hd} (h:HksD X ϖ kp hds hs):∃ l,Hks X hds l∧ClsF X.K ϖ kp l hs:=by
  induction h with
  | nil=>exact ⟨[],.nil,.nil⟩
  | bare hc hm su t ih=>
    obtain ⟨l,h1,h2⟩:=ih
    exact ⟨_,.bare hc su.su h1,.cons (h:=⟨_,none,_⟩) hm (fun j e=>by cases e) h2⟩
  | named hc hi hl hm hk su t ih=>
    obtain ⟨l,h1,h2⟩:=ih
    exact ⟨_,.named hc hi hl su.su h1,.cons (h:=⟨_,some _,_⟩) hm (fun j e=>by cases e; exact hk) h2⟩
theorem ds_tryN {h₀:ExceptHandler} {hds:List ExceptHandler} {hs:List Hd} (hst:X.stack = X.env :: X.outer) (hf:X.env.frame = some X.env.locals) (hN:X.N.Nodup) (tk:Takes X W)
    (hb:∀ (W:WX) (pn:List (Addr×Obj)) (xe:Value→Shared→Prop),Takes (X.tr pn xe) W→PassesOwn (model X.prog X.w) X.A X.env xe→DSs (X.tr pn xe) ϖ W kp body g)
    (hh:HksD X ϖ kp (h₀ :: hds) hs):DS X ϖ W kp (.Try body (h₀ :: hds) [] [] pos) (sTry g hs):=by
  obtain ⟨l,h1,cl⟩:=hh.both
  refine (ps_try_n (tb:=fun W=>sS X.K ϖ W kp g) hst hf hN tk hb h1).imp fun Dn σv H ⟨σ,f,r,n,p⟩=>⟨σ,f,r,n,?_⟩
  unfold sTry at p
  cases e:g σ with
  | exc C xs σ'=>rw [e] at p; exact fun d vs σw H' h ed rk r' n' w k=>go_ok cl ed rk r' n' (p.fr w k)
  | _=>rw [e] at p; exact p
end
end DL
namespace DL
open PySem PySem.Spec PyProof.Rows L2
section
variable {X:Cx} {ϖ:Pend} {W:WX}
end
end DL
namespace DL
open PySem PySem.Spec PyProof.Rows L2
abbrev Pr2:=(S→R T)×(S→R T)
inductive DPs (X:Cx) (ϖ:Pend):List (Option Expr)→List Expr→List Pr2→Prop
  | nil:DPs X ϖ [] [] []
  | cons {k v:Expr} {ks:List (Option Expr)} {vs:List Expr} {J E:S→R T} {r:List Pr2} (hk:DE X ϖ (fun _ _ _ _=>False) k J) (hv:DE X ϖ (fun _ _ _ _=>False) v E) (t:DPs X ϖ ks vs r):DPs X ϖ (some k :: ks) (v :: vs) ((J,E) :: r)
section
variable {X:Cx} {ϖ:Pend} {W:WX}
end
end DL
namespace DL
open PySem PySem.Spec PyProof.Rows L2
section
variable {X:Cx} {ϖ:Pend} {kp:Nat→Bool}
end
end DL
namespace DL
open PySem PySem.Spec PyProof.Rows L2
section
variable {X:Cx} {ϖ:Pend} {W:WX} {kp:Nat→Bool} {e:Expr} {F:S→R T} {pos:Pos}
end
end DL
namespace DL
open PySem PySem.Spec PyProof.Rows L2
section
variable {X:Cx} {ϖ:Pend} {W:WX} {a b:Expr} {As:S→R (List G)} {pos:Pos}
end
section
variable {X:Cx}
end
end DL
namespace DL
open PySem PySem.Spec PyProof.Rows L2
instance:Inhabited D:=⟨.non⟩
instance:Inhabited Str:=⟨""⟩
def eD (d:D):D:=d
def e1 {α:Type} (e:α→D) (x:α):D:=.tup [e x]
def e2 {α β:Type} (e:α→D) (f:β→D) (x:α×β):D:=.tup [e x.1,f x.2]
def e3 {α β γ:Type} (e:α→D) (f:β→D) (g:γ→D) (x:α×β×γ):D:=.tup [e x.1,f x.2.1,g x.2.2]
def e4 {α β γ δ:Type} (e:α→D) (f:β→D) (g:γ→D) (h:δ→D) (x:α×β×γ×δ):D:=.tup [e x.1,f x.2.1,g x.2.2.1,h x.2.2.2]
inductive Ec where
  | CheckError | ArgumentError | PaperError | TooMany | SiteError | TextError | LogError | CommandError
  deriving DecidableEq
def Cl.ad (C:Cl):Ec→Addr
  | .CheckError=>C.CheckError
  | .ArgumentError=>C.ArgumentError
  | .PaperError=>C.PaperError
  | .TooMany=>C.TooMany
  | .SiteError=>C.SiteError
  | .TextError=>C.TextError
  | .LogError=>C.LogError
  | .CommandError=>C.CommandError
abbrev Er:=Ec×List (Str×D)
inductive Md where
  | fn | lp | tr
inductive Lr (α ρ:Type) where
  | nx (a:α) | bk (a:α) | rt (r:Except Er ρ)
def resF {ρ:Type} (C:Cl) (en:ρ→T) (ps:ρ→S) (px:S):Except Er ρ→Rf
  | .ok r=>.ok (en r) (ps r)
  | .error e=>.exc (C.ad e.1) e.2 px
section
variable {α β γ δ ρ:Type} {i j n:Nat} {d:D} {F F':S→R T} {A B Z:S→R G} {As:S→R (List G)} {P Q:S→R Bool} {σ σ' σ1 σ2 σ3:S} {o o':T→T→Option T} {x y z:G} {t u r w:T} {xs:List G} {ts:List T} {ds:List D} {a b c:Bool}
theorem x_eC:eC d σ = .ok (.val d) σ:=rfl
theorem set_same {α:Type}:∀ {l:List α} {i:Nat} {a:α},l[i]? = some a→l.set i a = l
  | [],_,_,h=>by simp at h
  | x :: l,0,a,h=>by simp at h; subst h; rfl
  | x :: l,i + 1,a,h=>by rw [List.set_cons_succ,set_same (by simpa using h)]
theorem x_eN (h:σ[i]? = some (some (.val d))):eN i σ = .ok (.val d) σ:=by
  rw [q_eN,h]
  show R.ok (T.val d) (σ.set i (some (.val d))) = _
  rw [set_same h]
theorem x_gN (h:σ[i]? = some (some t)):gN i σ = .ok (.inl i) σ:=by rw [q_gN,h]
theorem x_gE (h:F σ = .ok t σ1):gE F σ = .ok (.inr t) σ1:=by rw [q_gE,h]; rfl
theorem x_nil:gNil σ = .ok [] σ:=rfl
theorem x_cons (h:A σ = .ok x σ1) (h':As σ1 = .ok xs σ2):gCons A As σ = .ok (x :: xs) σ2:=by rw [q_gCons,h,R.bind_ok,h']; rfl
theorem x_B (hA:A σ = .ok x σ1) (hB:B σ1 = .ok y σ2) (hx:rdG x σ2 = some t) (hy:rdG y σ2 = some u) (ho:o t u = some r):eB o A B σ = .ok r σ2:=by
  rw [q_eB,hA,R.bind_ok,hB,R.bind_ok,q_op2,hx,hy]
  show lift (o t u) σ2 = _
  rw [ho]; rfl
theorem x_U {o:T→Option T} (hA:A σ = .ok x σ1) (hx:rdG x σ1 = some t) (ho:o t = some r):eU o A σ = .ok r σ1:=by
  rw [q_eU,hA,R.bind_ok,q_op1,hx]
  show lift (o t) σ1 = _
  rw [ho]; rfl
theorem x_CB {o:List T→Option T} (hA:As σ = .ok xs σ1) (hx:rds xs σ1 = some ts) (ho:o ts = some r):eCB o As σ = .ok r σ1:=by
  rw [q_eCB,hA,R.bind_ok,q_opL,hx]
  show lift (o ts) σ1 = _
  rw [ho]; rfl
theorem x_bV (h:F σ = .ok (.val (.bl b)) σ1):bV F σ = .ok b σ1:=by rw [q_bV,h]; rfl
theorem x_bNot (h:P σ = .ok b σ1):bNot P σ = .ok (!b) σ1:=by rw [q_bNot,h]; rfl
theorem x_eIf {e:β→T} {s:γ→S} {p q:β} {g h:γ} (hc:P σ = .ok c σ1) (h1:c = true→F σ1 = .ok (e p) (s g)) (h2:c = false→F' σ1 = .ok (e q) (s h)):eIf P F F' σ = .ok (e (if c = true then p else q)) (s (if c = true then g else h)):=by
  rw [q_eIf,hc,R.bind_ok]
  cases c with
  | true=>exact h1 rfl
  | false=>exact h2 rfl
theorem x_eVv (h:F σ = .ok (.val d) σ1):eV F σ = .ok (.val d) σ1:=by rw [q_eV,h]; rfl
theorem x_call {Ft:Fn} {ps:S} (hA:As σ = .ok xs σ1) (ht:takeG xs σ1 = some (ts,σ2)) (hF:Ft ts = .ok t ps) (hb:backG xs ps σ2 = σ3):eCall Ft As σ = .ok t σ3:=by
  rw [q_eCall,hA,R.bind_ok,q_callF,ht]
  dsimp only
  rw [hF,← hb]
theorem x_call0 {Ft:Fn} {ps:S} (hF:Ft [] = .ok t ps):callF Ft [] σ = .ok t σ:=by
  rw [q_callF,q_tk0]
  dsimp only
  rw [hF]
  dsimp only
  rw [q_bk4]
theorem x_iG {o:List T→Option (List D)} (hA:As σ = .ok xs σ1) (hx:rds xs σ1 = some ts) (ho:o ts = some ds):iG o As σ = .ok ds σ1:=by
  rw [q_iG,hA,R.bind_ok,hx]
  dsimp only
  rw [ho]
end
theorem lc_run {δ:Type} {vs:List Nat} {G:D→S→Option S} {B:S→R Bool} {E:S→R T} {σw:S} {ed:δ→D} {sd:δ→S} {p:δ→Bool} {f:δ→D} (hT:∀ d,G (ed d) σw = some (sd d)) (hl:∀ d,(sd d).length = σw.length) (hw:∀ d,wipeS (sd d) vs = σw):
    ∀ (ds:List δ) (acc:List D),(∀ d ∈ ds,B (sd d) = .ok (p d) (sd d)∧(p d = true→eV E (sd d) = .ok (.val (f d)) (sd d)))→acc.length + ds.length≤sizeLine→lcLoop vs G B E (ds.map ed) acc σw = .ok (acc ++ (ds.filter p).map f) σw
  | [],acc,_,_=>by simp [lcLoop]
  | d :: ds,acc,h,hz=>by
    obtain ⟨h1,h2⟩:=h d List.mem_cons_self
    rw [List.map_cons]
    unfold lcLoop
    rw [hT d]
    dsimp only
    rw [if_pos (hl d),h1]
    rw [List.length_cons] at hz
    cases hp:p d with
    | false=>
      show lcLoop vs G B E (ds.map ed) acc (wipeS (sd d) vs) = _
      rw [hw d,lc_run hT hl hw ds acc (fun d hd=>h d (List.mem_cons_of_mem _ hd)) (by omega),List.filter_cons_of_neg (by simp [hp])]
    | true=>
      show ((eV E (sd d)).nox.bind _) = _
      rw [h2 hp]
      show (if acc.length < sizeLine then lcLoop vs G B E (ds.map ed) (acc ++ [f d]) (wipeS (sd d) vs) else R.stuck) = _
      rw [if_pos (by omega),hw d,lc_run hT hl hw ds (acc ++ [f d]) (fun d hd=>h d (List.mem_cons_of_mem _ hd)) (by rw [List.length_append,List.length_singleton]; omega),List.filter_cons_of_pos hp,List.map_cons,List.append_assoc,List.singleton_append]
theorem x_LC {δ:Type} {vs:List Nat} {I:S→R (List D)} {G:D→S→Option S} {B:S→R Bool} {E:S→R T} {σ σ1 σ2:S} {ds:List δ} (ed:δ→D) (σw:S) (sd:δ→S) (p:δ→Bool) (f:δ→D) (hI:I σ = .ok (ds.map ed) σ1) (h0:wipeS σ1 vs = σw) (hT:∀ d,G (ed d) σw = some (sd d)) (hl:∀ d,(sd d).length = σw.length) (hw:∀ d,wipeS (sd d) vs = σw)
    (hE:∀ d ∈ ds,B (sd d) = .ok (p d) (sd d)∧(p d = true→eV E (sd d) = .ok (.val (f d)) (sd d))) (hz:ds.length≤sizeLine) (hk:keepS σ1 vs (wipeS σw vs) = σ2):eLC vs I G B E σ = .ok (.lst ((ds.filter p).map f)) σ2:=by
  unfold eLC
  rw [hI,R.bind_ok,h0,lc_run hT hl hw ds [] hE (by simpa using hz),List.nil_append]
  show R.ok (T.lst _) (keepS σ1 vs (wipeS σw vs)) = _
  rw [hk]
theorem x_LCf {δ β:Type} {vs:List Nat} {I:S→R (List D)} {G:D→S→Option S} {B:S→R Bool} {E:S→R T} {σ σ1 σ2:S} {ds:List δ} (ed:δ→D) (σw:S) (sd:δ→S) (p:δ→Bool) (f:δ→β) (e:β→D) (hI:I σ = .ok (ds.map ed) σ1) (h0:wipeS σ1 vs = σw) (hT:∀ d,G (ed d) σw = some (sd d)) (hl:∀ d,(sd d).length = σw.length) (hw:∀ d,wipeS (sd d) vs = σw)
    (hE:∀ d ∈ ds,B (sd d) = .ok (p d) (sd d)∧(p d = true→eV E (sd d) = .ok (.val (e (f d))) (sd d))) (hz:ds.length≤sizeLine) (hk:keepS σ1 vs (wipeS σw vs) = σ2):eLC vs I G B E σ = .ok (.lst (((ds.filter p).map f).map e)) σ2:=by
  rw [List.map_map]
  exact x_LC ed σw sd p (fun d=>e (f d)) hI h0 hT hl hw hE hz hk
theorem x_LCm {δ β:Type} {vs:List Nat} {I:S→R (List D)} {G:D→S→Option S} {E:S→R T} {σ σ1 σ2:S} {ds:List δ} (ed:δ→D) (σw:S) (sd:δ→S) (f:δ→β) (e:β→D) (hI:I σ = .ok (ds.map ed) σ1) (h0:wipeS σ1 vs = σw) (hT:∀ d,G (ed d) σw = some (sd d)) (hl:∀ d,(sd d).length = σw.length) (hw:∀ d,wipeS (sd d) vs = σw)
    (hE:∀ d ∈ ds,eV E (sd d) = .ok (.val (e (f d))) (sd d)) (hz:ds.length≤sizeLine) (hk:keepS σ1 vs (wipeS σw vs) = σ2):eLC vs I G bYes E σ = .ok (.lst ((ds.map f).map e)) σ2:=by
  have:=x_LCf (B:=bYes) ed σw sd (fun _=>true) f e hI h0 hT hl hw (fun d hd=>⟨rfl,fun _=>hE d hd⟩) hz hk
  rwa [List.filter_eq_self.mpr (fun _ _=>rfl)] at this
section
variable {α β γ δ ρ:Type} (C:Cl) (en:ρ→T) (P:ρ→S→Prop) (X:S→Prop) (N:S→α→Prop) (fl:Md)
def Oqr:O→Lr α ρ→Prop
  | .nx σ,.nx a=>N σ a
  | .ct σ,.nx a=>fl = .lp∧N σ a
  | .bk σ,.bk a=>fl = .lp∧N σ a
  | .rt t σ,.rt (.ok r)=>t = en r∧P r σ
  | .nx σ,.rt (.ok r)=>fl = .fn∧T.val .non = en r∧P r σ
  | .exc A xs σ,.rt (.error e)=>A = C.ad e.1∧xs = e.2∧X σ
  | _,_=>False
structure Oq (o:O) (r:Lr α ρ):Prop where
  h:Oqr C en P X N fl o r
end
section
variable {α β γ δ ρ:Type} {C:Cl} {en:ρ→T} {P:ρ→S→Prop} {X:S→Prop} {N:S→α→Prop} {fl:Md} {g g1 g2 g3:S→O} {F:S→R T} {B:S→R Bool} {As:S→R (List G)} {xs:List G} {ts:List T} {σ σ1 σ2 σ3:S} {t u:T} {i j:Nat} {l:List Nat} {r:Lr α ρ} {c:Bool} {ds:List D} {d:D}
theorem oq_asg (hF:F σ = .ok t σ1) (h:Oq C en P X N fl (g (σ1.set i (some t))) r):Oq C en P X N fl (sSeq (sAsg i F) g σ) r:=by
  unfold sSeq sAsg
  rw [hF]; exact h
theorem oq_ret {r:ρ} (hF:F σ = .ok t σ1) (he:t = en r) (hP:P r σ1):Oq C en P X N fl (sRet F σ) (.rt (.ok r)):=by
  unfold sRet
  rw [hF]; exact ⟨⟨he,hP⟩⟩
theorem oq_if {r1 r2:β} (w:β→Lr α ρ) (hB:B σ = .ok c σ1) (h1:c = true→Oq C en P X N fl (g1 σ1) (w r1)) (h2:c = false→Oq C en P X N fl (g2 σ1) (w r2)):Oq C en P X N fl (sIf B g1 g2 σ) (w (if c = true then r1 else r2)):=by
  unfold sIf
  rw [hB]
  cases c with
  | true=>exact h1 rfl
  | false=>exact h2 rfl
theorem oq_seqIf (h:Oq C en P X N fl (sIf B (sSeq g1 g) (sSeq g2 g) σ) r):Oq C en P X N fl (sSeq (sIf B g1 g2) g σ) r:=by
  have e:sSeq (sIf B g1 g2) g σ = sIf B (sSeq g1 g) (sSeq g2 g) σ:=by
    unfold sSeq sIf
    cases B σ with
    | ok b σ1=>cases b <;> rfl
    | exc _ _ _=>rfl
    | stuck=>rfl
  rw [e]; exact h
theorem oq_snx (h:Oq C en P X N fl (g σ) r):Oq C en P X N fl (sSeq sNx g σ) r:=h
theorem oq_seqRet {F:S→R T} (h:Oq C en P X N fl (sRet F σ) r):Oq C en P X N fl (sSeq (sRet F) g σ) r:=by
  have e:sSeq (sRet F) g σ = sRet F σ:=by
    unfold sSeq sRet
    cases F σ <;> rfl
  rw [e]; exact h
theorem oq_seqRaise {A:Addr} {ps:List Str} (h:Oq C en P X N fl (sRaise A ps As σ) r):Oq C en P X N fl (sSeq (sRaise A ps As) g σ) r:=by
  have e:sSeq (sRaise A ps As) g σ = sRaise A ps As σ:=by
    unfold sSeq sRaise
    cases As σ with
    | ok xs σ1=>
      show (match (match rds xs σ1 with
        | some ts=>(match vals? ts with
          | some ds=>if ds.length = ps.length then O.exc A (ps.zip ds).reverse σ1 else .stuck
          | none=>.stuck)
        | none=>.stuck) with
        | .nx σ'=>g σ'
        | o=>o) = match rds xs σ1 with
        | some ts=>(match vals? ts with
          | some ds=>if ds.length = ps.length then O.exc A (ps.zip ds).reverse σ1 else .stuck
          | none=>.stuck)
        | none=>.stuck
      cases rds xs σ1 with
      | none=>rfl
      | some ts=>
        dsimp only
        cases vals? ts with
        | none=>rfl
        | some ds=>
          dsimp only
          by_cases hl:ds.length = ps.length
          · rw [if_pos hl]
          · rw [if_neg hl]
    | exc _ _ _=>rfl
    | stuck=>rfl
  rw [e]; exact h
theorem oq_raise {k:Ec} {ps:List Str} {ys:List (Str×D)} (hA:As σ = .ok xs σ1) (hx:rds xs σ1 = some ts) (hv:vals? ts = some ds) (hl:ds.length = ps.length) (he:(ps.zip ds).reverse = ys) (hX:X σ1):Oq C en P X N fl (sRaise (C.ad k) ps As σ) (.rt (.error (k,ys))):=by
  unfold sRaise
  rw [hA,R.then_ok,hx]
  dsimp only
  rw [hv]
  dsimp only
  rw [if_pos hl,he]
  exact ⟨⟨rfl,rfl,hX⟩⟩
theorem oq_body {st:α→S} (h:Oq C en P X (fun σ a=>wipeS σ l = st a) .lp (g σ) r):Oq C en P X (fun σ a=>σ = st a) .lp (sWp l g σ) r:=by
  have h:=h.h
  refine ⟨?_⟩
  unfold sWp
  cases e:g σ with
  | nx s=>
    rw [e] at h
    cases r with
    | nx a=>exact h
    | bk a=>exact h
    | rt q=>
      cases q with
      | ok q=>exact absurd h.1 (by intro z; cases z)
      | error q=>exact h
  | ct s=>
    rw [e] at h
    cases r with
    | nx a=>exact h
    | bk a=>exact h
    | rt q=>cases q <;> exact h
  | bk s=>
    rw [e] at h
    cases r with
    | nx a=>exact h
    | bk a=>exact h
    | rt q=>cases q <;> exact h
  | rt t s=>
    rw [e] at h
    cases r with
    | nx a=>exact h
    | bk a=>exact h
    | rt q=>cases q <;> exact h
  | exc _ _ s=>
    rw [e] at h
    cases r with
    | nx a=>exact h
    | bk a=>exact h
    | rt q=>cases q <;> exact h
  | stuck=>
    rw [e] at h
    cases r with
    | nx a=>exact h
    | bk a=>exact h
    | rt q=>cases q <;> exact h
theorem oq_end {a:α} (h:N σ a):Oq C en P X N fl (sNx σ) (.nx a):=⟨h⟩
def loopT (tb:γ→δ→Lr γ ρ):List δ→γ→Lr γ ρ
  | [],a=>.nx a
  | d :: ds,a=>match tb a d with
    | .nx a'=>loopT tb ds a'
    | .bk a'=>.bk a'
    | .rt r=>.rt r
def okLoop (tb:γ→δ→Lr γ ρ) (okb:γ→δ→Prop):List δ→γ→Prop
  | [],_=>True
  | d :: ds,a=>okb a d∧∀ a',tb a d = .nx a'→okLoop tb okb ds a'
def Lr.after (r:Lr γ ρ) (k:γ→Lr α ρ):Lr α ρ:=match r with
  | .nx a=>k a
  | .bk a=>k a
  | .rt r=>.rt r
theorem loop_run {st:γ→S} {Tg:D→S→Option S} {body:S→O} {ed:δ→D} {sb:γ→δ→S} {tb:γ→δ→Lr γ ρ} {okb:γ→δ→Prop} {k:γ→Lr α ρ} (hT:∀ a d,okb a d→Tg (ed d) (st a) = some (sb a d))
    (hb:∀ a d,okb a d→Oq C en P X (fun σ (a:γ)=>σ = st a) .lp (body (sb a d)) (tb a d)) (r0:Lr γ ρ) (hk:∀ a,(r0 = .nx a∨r0 = .bk a)→Oq C en P X N fl (g (st a)) (k a)):∀ (ds:List δ) (a:γ),loopT tb ds a = r0→okLoop tb okb ds a→
    Oq C en P X N fl (match loopO Tg body (ds.map ed) (st a) with | .nx σ'=>g σ' | o=>o) ((loopT tb ds a).after k)
  | [],a,e0,_=>hk a (.inl e0.symm)
  | d :: ds,a,e0,⟨h1,h2⟩=>by
    have h:=(hb a d h1).h
    unfold loopT at e0
    rw [List.map_cons]
    unfold loopO loopT
    rw [hT a d h1]
    dsimp only
    cases et:tb a d with
    | nx a'=>
      rw [et] at h
      rw [et] at e0
      have rest:=loop_run hT hb r0 hk ds a' e0 (h2 a' et)
      cases e:body (sb a d) with
      | nx s=>rw [e] at h; have h:s = st a':=h; subst h; exact rest
      | ct s=>rw [e] at h; have h:s = st a':=h.2; subst h; exact rest
      | bk s=>rw [e] at h; exact h.elim
      | rt t s=>rw [e] at h; exact h.elim
      | exc _ _ s=>rw [e] at h; exact h.elim
      | stuck=>rw [e] at h; exact h.elim
    | bk a'=>
      rw [et] at h e0
      cases e:body (sb a d) with
      | bk s=>rw [e] at h; have h:s = st a':=h.2; subst h; exact hk a' (.inr e0.symm)
      | nx s=>rw [e] at h; exact h.elim
      | ct s=>rw [e] at h; exact h.elim
      | rt t s=>rw [e] at h; exact h.elim
      | exc _ _ s=>rw [e] at h; exact h.elim
      | stuck=>rw [e] at h; exact h.elim
    | rt q=>
      rw [et] at h
      cases e:body (sb a d) with
      | nx s=>
        rw [e] at h
        cases q with
        | ok q=>exact absurd h.1 (by intro z; cases z)
        | error q=>exact h.elim
      | ct s=>rw [e] at h; cases q <;> exact h.elim
      | bk s=>rw [e] at h; cases q <;> exact h.elim
      | rt t s=>rw [e] at h; cases q with
        | ok q=>exact ⟨h⟩
        | error q=>exact h.elim
      | exc _ _ s=>rw [e] at h; cases q with
        | ok q=>exact h.elim
        | error q=>exact ⟨h⟩
      | stuck=>rw [e] at h; cases q <;> exact h.elim
def onL {β:Type} (r:Lr γ ρ) (k:γ→β) (er:Except Er ρ→β):β:=match r with
  | .nx a=>k a
  | .bk a=>k a
  | .rt r=>er r
theorem oq_loop {β:Type} {I:S→R (List D)} {Tg:D→S→Option S} {body:S→O} {ds:List δ} {a0:γ} {k:γ→β} (w:β→Lr α ρ) (er:Except Er ρ→β) (hw:∀ q,w (er q) = .rt q) (ed:δ→D) (st:γ→S) (sb:γ→δ→S) (tb:γ→δ→Lr γ ρ) (okb:γ→δ→Prop) (hI:I σ = .ok (ds.map ed) σ1) (h0:σ1 = st a0) (hT:∀ a d,okb a d→Tg (ed d) (st a) = some (sb a d))
    (hb:∀ a d,okb a d→Oq C en P X (fun σ (a:γ)=>σ = st a) .lp (body (sb a d)) (tb a d)) (ok:okLoop tb okb ds a0) (hk:∀ a,(loopT tb ds a0 = .nx a∨loopT tb ds a0 = .bk a)→Oq C en P X N fl (g (st a)) (w (k a))):Oq C en P X N fl (sSeq (sFor I Tg body) g σ) (w (onL (loopT tb ds a0) k er)):=by
  have:=loop_run (C:=C) (en:=en) (P:=P) (X:=X) (N:=N) (fl:=fl) (g:=g) (k:=fun a=>w (k a)) hT hb (loopT tb ds a0) hk ds a0 rfl ok
  have e:(loopT tb ds a0).after (fun a=>w (k a)) = w (onL (loopT tb ds a0) k er):=by
    cases loopT tb ds a0 with
    | nx a=>rfl
    | bk a=>rfl
    | rt q=>exact (hw q).symm
  unfold sSeq sFor
  rw [hI,R.then_ok,h0,← e]
  exact this
def onE {ρ' β:Type} (q:Except Er ρ') (k:ρ'→β) (er:Er→β):β:=match q with
  | .ok v=>k v
  | .error e=>er e
section
variable {Ft:Fn} {ρ':Type} {en':ρ'→T} {ps:ρ'→S} {px:S} {q:Except Er ρ'}
def exR (C:Cl) (en':ρ'→T) (ps:ρ'→S) (px:S) (q:Except Er ρ') (k:S→S):R T:=match q with
  | .ok v=>.ok (en' v) (k (ps v))
  | .error e=>.exc (C.ad e.1) e.2 (k px)
theorem call_run (hA:As σ = .ok xs σ1) (ht:takeG xs σ1 = some (ts,σ2)) (hF:Ft ts = resF C en' ps px q):eCall Ft As σ = exR C en' ps px q fun p=>backG xs p σ2:=by
  rw [q_eCall,hA,R.bind_ok,q_callF,ht]
  dsimp only
  rw [hF]
  cases q <;> rfl
theorem oq_exprC {β:Type} {k:ρ'→β} (w:β→Lr α ρ) (er:Er→β) (hw:∀ e,w (er e) = .rt (.error e)) (hA:As σ = .ok xs σ1) (ht:takeG xs σ1 = some (ts,σ2)) (hF:Ft ts = resF C en' ps px q) (hX:X (backG xs px σ2)) (hk:∀ v,q = .ok v→Oq C en P X N fl (g (backG xs (ps v) σ2)) (w (k v))):
    Oq C en P X N fl (sSeq (sExpr (eCall Ft As)) g σ) (w (onE q k er)):=by
  unfold sSeq sExpr
  rw [call_run hA ht hF]
  cases q with
  | ok v=>exact hk v rfl
  | error e=>show Oq C en P X N fl _ (w (er e)); rw [hw e]; exact ⟨⟨rfl,rfl,hX⟩⟩
end
theorem oq_par {d':D} (hA:As σ = .ok xs σ1) (hx:rds xs σ1 = some ts) (hv:vals? ts = some [d,d']) (h:Oq C en P X N fl (g ((σ1.set i (some (.val d))).set j (some (.val d')))) r):Oq C en P X N fl (sSeq (sPar i j As) g σ) r:=by
  have e:sPar i j As σ = .nx ((σ1.set i (some (.val d))).set j (some (.val d'))):=by
    rw [q_sPar,hA,R.then_ok,hx]
    dsimp only
    rw [hv]
  unfold sSeq
  rw [e]; exact h
theorem oq_last (h:Oq C en P X N fl (sSeq g sNx σ) r):Oq C en P X N fl (g σ) r:=by
  have e:sSeq g sNx σ = g σ:=by
    unfold sSeq
    cases g σ <;> rfl
  rw [← e]; exact h
end
def onT {ρ β:Type} (rb:Lr Unit ρ) (kn:β) (kr:ρ→β) (kh:Er→β):β:=match rb with
  | .nx _=>kn
  | .bk _=>kn
  | .rt (.ok r)=>kr r
  | .rt (.error e)=>kh e
def hS (hds:List Hd) (A:Addr) (xs:List (Str×D)) (g:S→O) (σ:S):O:=match hGo hds A xs σ with
  | .nx s=>g s
  | o=>o
def entS (oi:Option Nat) (σ:S):S:=match oi with
  | none=>σ
  | some i=>σ.set i none
section
variable {α β γ δ ρ:Type} {C:Cl} {en:ρ→T} {P:ρ→S→Prop} {X:S→Prop} {N:S→α→Prop} {fl:Md} {g:S→O} {σ σx σn:S} {r:Lr α ρ} {hds:List Hd} {m:List (Addr×Bool)} {oi:Option Nat} {A:Addr} {xs:List (Str×D)}
theorem oq_try {body:S→O} {rb:Lr Unit ρ} {kn:β} {kr:ρ→β} {kh:Er→β} (w:β→Lr α ρ) (hw:∀ r,w (kr r) = .rt (.ok r)) (hb:Oq (α:=Unit) C en P (fun s=>s = σx) (fun s _=>s = σn) .tr (body σ) rb) (hk:rb = .nx ()→Oq C en P X N fl (g σn) (w kn))
    (hh:∀ e,rb = .rt (.error e)→Oq C en P X N fl (hS hds (C.ad e.1) e.2 g σx) (w (kh e))):Oq C en P X N fl (sSeq (sTry body hds) g σ) (w (onT rb kn kr kh)):=by
  have h:=hb.h
  unfold sSeq sTry
  cases e:body σ with
  | nx s=>
    rw [e] at h
    cases rb with
    | nx a=>have h:s = σn:=h; subst h; exact hk rfl
    | bk a=>exact h.elim
    | rt q=>cases q with
      | ok q=>exact absurd h.1 (by intro z; cases z)
      | error q=>exact h.elim
  | ct s=>
    rw [e] at h
    cases rb with
    | nx a=>exact absurd h.1 (by intro z; cases z)
    | bk a=>exact h.elim
    | rt q=>cases q <;> exact h.elim
  | bk s=>
    rw [e] at h
    cases rb with
    | nx a=>exact h.elim
    | bk a=>exact absurd h.1 (by intro z; cases z)
    | rt q=>cases q <;> exact h.elim
  | rt t s=>
    rw [e] at h
    cases rb with
    | nx a=>exact h.elim
    | bk a=>exact h.elim
    | rt q=>cases q with
      | ok q=>show Oq C en P X N fl (.rt t s) (w (kr q)); rw [hw q]; exact ⟨h⟩
      | error q=>exact h.elim
  | exc A ys s=>
    rw [e] at h
    cases rb with
    | nx a=>exact h.elim
    | bk a=>exact h.elim
    | rt q=>cases q with
      | ok q=>exact h.elim
      | error q=>
        obtain ⟨h1,h2,h3⟩:=h
        subst h1; subst h2; subst h3
        exact hh q rfl
  | stuck=>
    rw [e] at h
    cases rb with
    | nx a=>exact h.elim
    | bk a=>exact h.elim
    | rt q=>cases q <;> exact h.elim
theorem oq_hret {px:PxF} {r:ρ} {d:D} (hl:m.lookup A = some true) (hi:∀ i,oi = some i→i < σ.length) (hp:px A xs = some d) (he:T.val d = en r) (hP:P r (entS oi σ)):Oq C en P X N fl (hS (⟨m,oi,suRet px⟩ :: hds) A xs g σ) (.rt (.ok r)):=by
  have e:hGo (⟨m,oi,suRet px⟩ :: hds) A xs σ = .rt (.val d) (entS oi σ):=by
    unfold hGo
    rw [hl]
    show finO oi (noX (entO oi σ (suRet px A xs))) = _
    cases oi with
    | none=>
      show noX (suRet px A xs σ) = _
      unfold suRet
      rw [hp]; rfl
    | some i=>
      show finO (some i) (noX (if i < σ.length then suRet px A xs (σ.set i none) else .stuck)) = _
      rw [if_pos (hi i rfl)]
      unfold suRet
      rw [hp]; rfl
  unfold hS
  rw [e]
  exact ⟨⟨he,hP⟩⟩
theorem oq_hskip {gs:SuF} (hl:m.lookup A = some false) (h:Oq C en P X N fl (hS hds A xs g σ) r):Oq C en P X N fl (hS (⟨m,oi,gs⟩ :: hds) A xs g σ) r:=by
  have e:hGo (⟨m,oi,gs⟩ :: hds) A xs σ = hGo hds A xs σ:=by
    show (match m.lookup A with | some true=>_ | some false=>hGo hds A xs σ | none=>O.stuck) = _
    rw [hl]
  unfold hS at h ⊢
  rw [e]; exact h
theorem oq_hnil {e:Er} (hX:X σ):Oq C en P X N fl (hS [] (C.ad e.1) e.2 g σ) (.rt (.error e)):=⟨⟨rfl,rfl,hX⟩⟩
theorem oq_ite {c:Bool} {o:O} {r1 r2:β} (w:β→Lr α ρ) (h1:c = true→Oq C en P X N fl o (w r1)) (h2:c = false→Oq C en P X N fl o (w r2)):Oq C en P X N fl o (w (if c = true then r1 else r2)):=by
  cases c with
  | true=>exact h1 rfl
  | false=>exact h2 rfl
end
section
variable {m:List (Addr×Bool)} {A:Addr} {xs:List (Str×D)} {cs:List Addr} {f:Str} {px py:PxF} {pa:Addr→List (Str×D)→Option (List D)} {d:D} {ds:List D} {n:Nat}
theorem px_at (hc:cs.contains A = true) (h:(xs.lookup f).isSome = true):pxAttr cs f A xs = some ((xs.lookup f).getD .non):=by
  unfold pxAttr
  rw [if_pos hc]
  obtain ⟨x,hx⟩:=Option.isSome_iff_exists.mp h
  rw [hx]; rfl
theorem pa_c (hp:px A xs = some d) (h:pa A xs = some ds):paCons px pa A xs = some (d :: ds):=by
  unfold paCons
  rw [hp,Option.bind_some,h]; rfl
theorem px_tp (hp:pa A xs = some ds) (hl:ds.length = n) (hn:n≤sizeLine):pxTup pa A xs = some (.tup ds):=by
  unfold pxTup
  rw [hp,Option.bind_some,if_pos (by omega)]
end
theorem fn_res {ρ:Type} {C:Cl} {en:ρ→T} {ps:ρ→S} {px:S} {n N:Nat} {kp:Nat→Bool} {g:S→O} {ts:List T} {q:Except Er ρ} (hl:ts.length = n) (h:Oq (α:=Unit) C en (fun r σ=>msk kp 0 ts σ = ps r) (fun σ=>msk kp 0 ts σ = px) (fun _ _=>False) .fn (g (strt N ts)) (.rt q)):mkFn n N kp g ts = resF C en ps px q:=by
  have h:=h.h
  unfold mkFn
  rw [if_pos hl]
  cases e:g (strt N ts) with
  | rt t σ=>
    rw [e] at h
    cases q with
    | ok r=>obtain ⟨h1,h2⟩:=h; show Rf.ok t (msk kp 0 ts σ) = Rf.ok (en r) (ps r); rw [h1,h2]
    | error q=>exact h.elim
  | nx σ=>
    rw [e] at h
    cases q with
    | ok r=>obtain ⟨_,h1,h2⟩:=h; show Rf.ok (.val .non) (msk kp 0 ts σ) = Rf.ok (en r) (ps r); rw [h1,h2]
    | error q=>exact h.elim
  | exc A xs σ=>
    rw [e] at h
    cases q with
    | ok r=>exact h.elim
    | error q=>obtain ⟨h1,h2,h3⟩:=h; show Rf.exc A xs (msk kp 0 ts σ) = Rf.exc (C.ad q.1) q.2 px; rw [h1,h2,h3]
  | bk σ=>rw [e] at h; cases q <;> exact h.elim
  | ct σ=>rw [e] at h; cases q <;> exact h.elim
  | stuck=>rw [e] at h; cases q <;> exact h.elim
end DL
namespace DL
open PySem PySem.Spec PyProof.Rows L2
def dc1 {α:Type} (f:D→Option α):D→Option α
  | .tup [a]=>f a
  | _=>none
def dc2 {α β:Type} (f:D→Option α) (g:D→Option β):D→Option (α×β)
  | .tup [a,b]=>(f a).bind fun x=>(g b).map fun y=>(x,y)
  | _=>none
def dc3 {α β γ:Type} (f:D→Option α) (g:D→Option β) (h:D→Option γ):D→Option (α×β×γ)
  | .tup [a,b,c]=>(f a).bind fun x=>(g b).bind fun y=>(h c).map fun z=>(x,y,z)
  | _=>none
def dc4 {α β γ δ:Type} (f:D→Option α) (g:D→Option β) (h:D→Option γ) (i:D→Option δ):D→Option (α×β×γ×δ)
  | .tup [a,b,c,d]=>(f a).bind fun x=>(g b).bind fun y=>(h c).bind fun z=>(i d).map fun w=>(x,y,z,w)
  | _=>none
section
variable {α β γ δ:Type} {f:D→Option α} {e:α→D} {g:D→Option β} {e':β→D} {h:D→Option γ} {e'':γ→D} {i:D→Option δ} {e3':δ→D}
end
section
variable {x:G} {σ σ1:S} {d d':D} {F:S→R T}
end
def ixB (n:Nat) (i:Int):Bool:=(ixN n i).isSome
def ati {α:Type} [Inhabited α] (xs:List α) (i:Int):α:=((ixN xs.length i).bind fun j=>xs[j]?).getD default
theorem ixN_lt {n:Nat} {i:Int} {j:Nat} (h:ixN n i = some j):j < n:=by
  unfold ixN at h
  split at h
  · split at h
    · cases h; omega
    · cases h
  · split at h
    · cases h; omega
    · cases h
section
variable {α β γ:Type} [Inhabited α] {e:α→D} {xs ys:List α} {i:Int} {t u:T}
theorem atI_map (h:ixB xs.length i = true):atI (xs.map e) i = some (e (ati xs i)):=by
  obtain ⟨j,hj⟩:=Option.isSome_iff_exists.mp h
  unfold atI ati
  rw [List.length_map,hj,Option.bind_some,Option.bind_some,List.getElem?_map]
  have:j < xs.length:=ixN_lt hj
  rw [List.getElem?_eq_getElem this]
  rfl
theorem t_ixO (h:ixB xs.length i = true):oIx (.lst (xs.map e)) (.val (.int i)) = some (.val (e (ati xs i))):=by
  show (atI (xs.map e) i).map T.val = _
  rw [atI_map h]; rfl
end
section
variable {α β γ:Type} {e:α→D} {xs ys:List α} {i:Int} {t u:T} {lo hi:Option Int}
theorem t_lenO:oLen [.lst (xs.map e)] = some (.val (.int xs.length)):=by show some (T.val (.int _)) = _; rw [List.length_map]
theorem t_addL (hx:t.ls = some (xs.map e)) (hy:u.ls = some (ys.map e)) (h:xs.length + ys.length≤sizeLine):oAdd t u = some (.lst ((xs ++ ys).map e)):=by
  have main:oCatL t u = some (.lst ((xs ++ ys).map e)):=by
    unfold oCatL
    rw [hx,hy]
    dsimp only
    rw [if_pos (by rw [List.length_map,List.length_map]; exact h),List.map_append]
  cases t with
  | lst as=>exact main
  | val d=>
    cases d with
    | lst as=>cases u <;> exact main
    | _=>cases hx
  | _=>cases hx
end
theorem addA_of {t u r:T} (h:oAdd t u = some r):oAddA t u = some r:=by
  unfold oAddA oOr
  rw [h]
theorem t_eqD {a b:D} (h:min a.dep b.dep≤63):oEq (.val a) (.val b) = some (.val (.bl (D.eqv a b))):=if_pos h
theorem t_neD {a b:D} (h:min a.dep b.dep≤63):oNe (.val a) (.val b) = some (.val (.bl (!D.eqv a b))):=if_pos h
theorem t_neO {t u:T} {xs ys:List D} (hx:t.ls = some xs) (hy:u.ls = some ys) (h:min (D.lst xs).dep (D.lst ys).dep≤63):oNe t u = some (.val (.bl (!D.eqv (.lst xs) (.lst ys)))):=by
  have fin:∀ t u:T,t.ls = some xs→u.ls = some ys→(∀ a b,¬ (t = .val a∧u = .val b))→oNe t u = some (.val (.bl (!D.eqv (.lst xs) (.lst ys)))):=fun t u h1 h2 h3=>by
    unfold oNe
    split
    · rename_i a b; exact absurd ⟨rfl,rfl⟩ (h3 a b)
    · rw [h1,h2]; exact if_pos h
  cases t with
  | val a=>
    cases a with
    | lst as=>
      cases hx
      cases u with
      | val b=>
        cases b with
        | lst bs=>cases hy; exact if_pos h
        | _=>cases hy
      | lst bs=>exact fin _ _ rfl hy fun a b z=>by cases z.2
      | _=>cases hy
    | _=>cases hx
  | lst as=>exact fin _ _ hx hy fun a b z=>by cases z.1
  | _=>cases hx
theorem dep_sm (s:Str):(D.str s).dep = 0:=by show PyData.depth _ = 0; simp [D.py,PyData.depth]
theorem t_eqI (i j:Int):oEq (.val (.int i)) (.val (.int j)) = some (.val (.bl (decide (i = j)))):=oEq_i i j
theorem t_eqS (i j:Str):oEq (.val (.str i)) (.val (.str j)) = some (.val (.bl (i == j))):=by
  rw [t_eqD (by rw [dep_sm]; exact Nat.le_trans (Nat.min_le_left _ _) (by omega))]
  show some (T.val (.bl (PyData.eqv (.str i) (.str j)))) = _
  first | rfl | (unfold PyData.eqv; simp [PyData.num?])
theorem t_neS (i j:Str):oNe (.val (.str i)) (.val (.str j)) = some (.val (.bl (!(i == j)))):=by
  have:=t_eqS i j
  rw [t_eqD (by rw [dep_sm]; exact Nat.le_trans (Nat.min_le_left _ _) (by omega))] at this
  rw [t_neD (by rw [dep_sm]; exact Nat.le_trans (Nat.min_le_left _ _) (by omega))]
  injection this with this
  injection this with this
  injection this with this
  rw [this]
theorem ints_map:∀ xs:List Int,ints? (xs.map D.int) = some xs
  | []=>rfl
  | x :: xs=>by
    show (ints? (xs.map D.int)).map (x :: ·) = _
    rw [ints_map xs]; rfl
def rp (d:D):Str:=d.py.shown
theorem t_repr {d:D} (h:d.shows = true):oRepr [.val d] = some (.val (.str (rp d))):=by
  show (if d.shows = true then some (T.val (.str d.py.shown)) else none) = _
  rw [if_pos h]; rfl
theorem t_reprO {xs:List D} (h:(D.lst xs).shows = true):oRepr [.lst xs] = some (.val (.str (rp (.lst xs)))):=by
  show (if (D.lst xs).shows = true then some (T.val (.str (D.lst xs).py.shown)) else none) = _
  rw [if_pos h]; rfl
def rng (lo:Int):Nat→List Int
  | 0=>[]
  | n + 1=>lo :: rng (lo + 1) n
theorem iota_rng:∀ (lo:Int) (n:Nat),iota lo n = (rng lo n).map D.int
  | _,0=>rfl
  | lo,n + 1=>by unfold iota rng; rw [iota_rng (lo + 1) n,List.map_cons]
theorem t_rg1 {j:Int} (h:rngOk j = true):iRg1 [.val (.int j)] = some ((rng 0 j.toNat).map D.int):=by
  show (if rngOk j = true then some (iota 0 j.toNat) else none) = _
  rw [if_pos h,iota_rng]
structure DrOk (ds:List Int) (p:Int):Prop where
  sm:Small ds
  len:ds.length < 1000000
  p0:0≤p
  p1:p < 1000000
def rd (ds:List Int) (p m:Int):Int:=match F__law_take [.lst (ds.map .int),.lst [.int p],.val (.int m)] with
  | .ok (.val (.int r)) _=>r
  | _=>0
theorem rd_all {ds:List Int} {p m:Int} (h:DrOk ds p) (hm:0 < m):0≤rd ds p m∧rd ds p m < m∧F__law_take [.lst (ds.map .int),.lst [.int p],.val (.int m)] = .ok (.val (.int (rd ds p m))) [some (.lst (ds.map .int)),some (.lst [.int (p + 1)]),some (.val (.int m))]:=by
  obtain ⟨r,r0,r1,e⟩:=p_take h.sm h.p0 h.p1 h.len hm
  have:rd ds p m = r:=by unfold rd; rw [e]
  rw [this]
  exact ⟨r0,r1,e⟩
theorem y_take {ds:List Int} {p m:Int} (h:DrOk ds p) (hm:0 < m):F__law_take [.lst (ds.map .int),.lst [.int p],.val (.int m)] = .ok (.val (.int (rd ds p m))) [some (.lst (ds.map .int)),some (.lst [.int (p + 1)]),some (.val (.int m))]:=(rd_all h hm).2.2
theorem rd_ix {α:Type} [Inhabited α] {xs:List α} {ds:List Int} {p:Int} (h:DrOk ds p) (hx:xs ≠ []):ixB xs.length (rd ds p xs.length) = true:=by
  have hlen:0 < (xs.length:Int):=by have:=List.length_pos_iff.mpr hx; omega
  obtain ⟨a,b,_⟩:=rd_all h hlen
  unfold ixB ixN
  rw [if_pos a,if_pos b]; rfl
def drw (ns:List Int):List Int:=match F__law_draws [.val (.lst (ns.map .int))] with
  | .ok (.lst ds) _=>(ints? ds).getD []
  | _=>[]
theorem drw_all (ns:List Int):Small (drw ns)∧(drw ns).length < 1000000∧F__law_draws [.val (.lst (ns.map .int))] = .ok (.lst ((drw ns).map .int)) [some (.val (.lst (ns.map .int)))]:=by
  obtain ⟨ds,h1,h2,ps,e,hps⟩:=p_draws ns
  have:drw ns = ds:=by
    unfold drw
    rw [e]
    dsimp only
    rw [show ints? (ds.map D.int) = some ds from ints_map ds]; rfl
  rw [this]
  exact ⟨h1,h2,by rw [e,hps]⟩
theorem y_draws (ns:List Int):F__law_draws [.val (.lst (ns.map .int))] = .ok (.lst ((drw ns).map .int)) [some (.val (.lst (ns.map .int)))]:=(drw_all ns).2.2
def pick {α:Type} [Inhabited α] (xs:List α) (ds:List Int) (p:Int):α:=ati xs (rd ds p xs.length)
section
variable {α:Type} [Inhabited α] {e:α→D} {xs:List α} {ds:List Int} {p:Int}
theorem one_run {t:T} (hl:oLen [t] = some (.val (.int xs.length))) (hi:oIx t (.val (.int (rd ds p xs.length))) = some (.val (e (ati xs (rd ds p xs.length))))) (hv:∀ u,t ≠ .ll u) (h:DrOk ds p) (hx:xs ≠ []):
    F__law_one [t,.lst (ds.map .int),.lst [.int p]] = .ok (.val (e (ati xs (rd ds p xs.length)))) [some t,some (.lst (ds.map .int)),some (.lst [.int (p + 1)])]:=by
  have hlen:0 < (xs.length:Int):=by have:=List.length_pos_iff.mpr hx; omega
  have er:=y_take h hlen
  obtain ⟨t',ps,e1,rfl,rfl⟩:∃ t' ps,F__law_one [t,.lst (ds.map .int),.lst [.int p]] = .ok t' ps∧t' = .val (e (ati xs (rd ds p xs.length)))∧ps = [some t,some (.lst (ds.map .int)),some (.lst [.int (p + 1)])]:=by
    unfold F__law_one f__law_one
    refine gives rfl ?_
    exact go_rt (t:=.val (e (ati xs (rd ds p xs.length)))) (σ:=[some t,some (.lst (ds.map .int)),some (.lst [.int (p + 1)])]) (by simp [strt,hl,er,hi]) ⟨rfl,rfl⟩
  exact e1
theorem y_oneO (h:DrOk ds p) (hx:xs ≠ []):F__law_one [.lst (xs.map e),.lst (ds.map .int),.lst [.int p]] = .ok (.val (e (pick xs ds p))) [some (.lst (xs.map e)),some (.lst (ds.map .int)),some (.lst [.int (p + 1)])]:=
  one_run t_lenO (t_ixO (rd_ix h hx)) (fun u z=>by cases z) h hx
end
theorem ati_mem {α:Type} [Inhabited α] {xs:List α} {i:Int} (h:ixB xs.length i = true):ati xs i ∈ xs:=by
  obtain ⟨j,hj⟩:=Option.isSome_iff_exists.mp h
  unfold ati
  rw [hj,Option.bind_some,List.getElem?_eq_getElem (ixN_lt hj),Option.getD_some]
  exact List.getElem_mem _
theorem pick_mem {α:Type} [Inhabited α] {xs:List α} {ds:List Int} {p:Int} (h:DrOk ds p) (hx:xs ≠ []):pick xs ds p ∈ xs:=ati_mem (rd_ix h hx)
end DL
namespace DL
open PySem PySem.Spec PyProof.Rows L2
instance:Inhabited Key:=⟨.inl 0⟩
instance:Inhabited Cl:=⟨⟨0,0,0,0,0,0,0,0,0,0,[],[],[],[],[],[],[],[],[],[],[],[],[],[],[],[],[],[],[],[],[],[]⟩⟩
theorem t_tup {ts:List T} {ds:List D} {n:Nat} (hv:vals? ts = some ds) (hl:ds.length = n) (hn:n≤sizeLine):oTup ts = some (.val (.tup ds)):=by
  unfold oTup
  rw [hv]
  dsimp only
  rw [if_pos (by omega)]
theorem t_lst {ts:List T} {ds:List D} {n:Nat} (hv:vals? ts = some ds) (hl:ds.length = n) (hn:n≤sizeLine):oLst ts = some (.lst ds):=by
  unfold oLst
  rw [hv]
  dsimp only
  rw [if_pos (by omega)]
section
variable {α β:Type} {e:α→D} {xs:List α} {x:α} {σ σ1 σ2:S} {F J:S→R T} {ds ds' ys:List D} {d:D} {i:Nat}
end
end DL
set_option maxHeartbeats 1000000
namespace DL
open PySem PySem.Spec PyProof.Rows L2
inductive DpX {β:Type} (e:β→D):List Pr2→S→List (Key×β)→S→Prop
  | nil {σ:S}:DpX e [] σ [] σ
  | cons {J E:S→R T} {r:List Pr2} {σ σ1 σ2 σ3:S} {y:D} {k:Key} {x:β} {m:List (Key×β)} (h1:eV J σ = .ok (.val y) σ1) (hk:keyD y = some k) (h2:eV E σ1 = .ok (.val (e x)) σ2) (t:DpX e r σ2 m σ3):DpX e ((J,E) :: r) σ ((k,x) :: m) σ3
section
variable {σ σ1:S} {F J:S→R T} {i:Nat}
end
end DL
namespace DL
open PySem PySem.Spec PyProof.Rows L2
theorem oq_seqPwS {α ρ:Type} {C:Cl} {en:ρ→T} {P:ρ→S→Prop} {X:S→Prop} {N:S→α→Prop} {fl:Md} {g1 g:S→O} {l:List Nat} {σ σ1:S} {r:Lr α ρ} (h0:wipeS σ l = σ1) (h:Oq C en P X N fl (sSeq g1 g σ1) r):Oq C en P X N fl (sSeq (sPw l g1) g σ) r:=by
  subst h0
  exact h
end DL
namespace DL
open PySem PySem.Spec PyProof.Rows L2
section
variable {X:Cx} {ϖ:Pend} {W:WX} {kp:Nat→Bool}
theorem pb_isB {e:Expr} {i:Nat} {pos:Pos} {cn:Str} {p1 p2:Pos} {T:String} (m:List (Addr×Bool)) (hm:∀ C b,m.lookup C = some b→ExcC X.K C∧PySem.W.kitOne X.K (.ref C) (.type T) = some b) (he:∀ a pn,PE (X.suite a pn) e (tVar i)) (gC:Gl X cn) (mC:X.mg cn = none) (bC:bootBuiltins cn = some (.type T)) (hg:Gl X "isinstance") (hmg:X.mg "isinstance" = none) (hn:cn ≠ "__name__" := by decide)
    (hdb:(cn == ("__debug__" : Str)) = false:=by decide) (hs:starEach [e,.Name cn p1] X.env = (false,eval e X.env) :: starEach [.Name cn p1] X.env:=by rfl) (hs1:starEach [.Name cn p1] X.env = (false,eval (.Name cn p1) X.env) :: starEach [] X.env:=by rfl) (hpl:(backTo pos (starEach [.Name cn p1] X.env)).any (·.1) = false:=by rfl):
    DPb X (some i) (.Call (.Name "isinstance" p2) [e,.Name cn p1] [] pos) (fun C=>m.lookup C):=fun a oe C dd pn hz hf=>by
  cases e1:m.lookup C with
  | none=>exact ⟨fun pins s σ H Q I ⟨_,vs,xs,x,_,_,e,_⟩=>by
    have e:m.lookup C = some x:=e
    rw [e1] at e; cases e⟩
  | some b=>
    obtain ⟨T0,hk⟩:=hm C b e1
    refine PT.imp (pt_val (pe_callB (X:=X.suite a ((a,oe) :: pn)) (x := "isinstance") (id := "isinstance") (call_isD T0 hz hf) hg hmg rfl (L2.pa_cons (he a _) (L2.pa_cons (pe_bltn (X:=X.suite a ((a,oe) :: pn)) (v:=.ty T) gC mC bC rfl hn hdb) L2.pa_nil hs1) hs) (by decide) (by decide) hs hpl)) fun σv H Q q=>?_
    obtain ⟨ha,vs,xs,x,ed,rk,e,q⟩:=q
    have e:m.lookup C = some x:=e
    rw [e1] at e; cases e
    exact ⟨.ref a,ha i rfl,⟨vs,ed⟩,.ty T,.type T,b,rfl,fun u r=>r,hk,b,rfl,q⟩
end
def spI (K:PySem.W.Frag) (F:Fn):Sp:=fun vs H Q E=>∃ v0 ws,vs = v0 :: ws∧spF K F ws H Q E∧∀ ts t ps,F ts ≠ .ok t ps
structure Clm (P:Program) (w:World) (K:PySem.W.Frag) (mg:Str→Option Value) (base:Heap) (x:Str) (k:Nat) (F:Fn):Prop where
  ex:∃ (C f:Addr) (fd:FuncData) (ps:List Str),mg x = some (.ref C)∧Mk K C f∧Binds K fd ps []∧FnG P w K mg base k f fd ps (spI K F)∧∀ ts t ps,F ts ≠ .ok t ps
theorem Clm.mono {P:Program} {w:World} {K:PySem.W.Frag} {mg:Str→Option Value} {base:Heap} {x:Str} {j k:Nat} {F:Fn} (h:Clm P w K mg base x j F) (l:j≤k):Clm P w K mg base x k F:=by
  obtain ⟨C,f,fd,ps,a,b,c,d,e⟩:=h.ex
  exact ⟨C,f,fd,ps,a,b,c,d.mono l,e⟩
section
variable {X:Cx} {ϖ:Pend} {W:WX} {e:Expr} {es:List Expr} {As:S→R (List G)} {pos:Pos}
end
section
variable {n N:Nat} {kp:Nat→Bool} {F:S→R T} {A:Addr} {xs:List (Str×D)} {ts:List T} {σ1:S}
theorem hd_c {Ft:Fn} {As:S→R (List G)} {σ:S} {xs':List G} {ts:List T} {ps:S} (hA:As σ = .ok xs' σ) (ht:takeG xs' σ = some (ts,σ)) (hF:Ft ts = .exc A xs ps) (hb:backG xs' ps σ = σ):eCall Ft As σ = .exc A xs σ:=by
  unfold eCall callF; rw [hA]; show (match takeG xs' σ with | none=>_ | some (ts,σ1)=>_) = _; rw [ht]; show (match Ft ts with | .ok t ps=>_ | .exc C ys ps=>_ | .stuck=>_) = _; rw [hF]; show R.exc A xs (backG xs' ps σ) = _; rw [hb]
end
end DL
namespace DL
open PySem PySem.Spec PyProof.Rows L2
abbrev Mute:CXT:=fun _ _ _ _ _ _=>False
structure FnX (P:Program) (w:World) (K:PySem.W.Frag) (mg:Str→Option Value) (base:Heap) (k:Nat) (f:Addr) (fd:FuncData) (ps:List Str) (sp:Addr×Obj→Sp):Prop where
  len:∀ (p:Addr×Obj) (vs:List V) (H:Hp) (Q:VK) (E:XK),sp p vs H Q E→ps.length = vs.length
  run:∀ (p:Addr×Obj) (outer:List Env) (A:Around) (H:Hp) (s:Shared) (vs:List V) (us:List Value) (args:Args) (E:XK) (Q:VK),L2H.RoomH k A→L2H.PinOk outer H s p→Env0 P w K mg base A outer s H→BindsTo s fd args (ps.zip us)→
    Vals vs us→sp p vs H Q E→codeAny (model P w) A (.call (.ref f) args) (CR Mute outer P w H s Q E) s
theorem fnx_of {P:Program} {w:World} {K:PySem.W.Frag} {mg:Str→Option Value} {base:Heap} {k:Nat} {f:Addr} {nm qual:Str} {prm:Arguments} {body:List Stmt} {sc:Scope} {dV kV dc pm cdv ct oc:Value} {an od:Option Addr} {osl:Array (Option Value)} {N ps:List Str} {sp:Addr×Obj→Sp}
    (lk:K.lookup f = some ⟨oc,od,.func (PySem.W.fnOf nm qual prm body sc dV kV dc pm an cdv ct),osl⟩) (hcd:PySem.W.codeIn K cdv qual = true) (T:FnScope N ps sc) (len:∀ (p:Addr×Obj) (vs:List V) (H:Hp) (Q:VK) (E:XK),sp p vs H Q E→ps.length = vs.length)
    (hb:∀ (p:Addr×Obj) (A:Around) (outer:List Env) (s:Shared) (H:Hp) (vs:List V) (Q:VK) (E:XK),L2H.RoomH k (A.deeper (envOfC qual sc s.heap.objs.size f cdv))→sp p vs H Q E→
      ∃ t,PSs (L2H.cxH Mute P w K mg base N qual sc f cdv A outer s H E p) body t∧t { nx:=fun _ H'=>Q .non H',rt:=Q } (L2.start N vs) H):
    FnX P w K mg base (k + 1) f (PySem.W.fnOf nm qual prm body sc dV kV dc pm an cdv ct) ps sp:=by
  refine ⟨len,fun p outer A H s vs us args E Q rm pk en bd rv hsp=>?_⟩
  have kIn:K.In s.heap:=en.mod.kin.keeps fun b o e=>(en.bs b o e).1
  have loc:∀ y ∈ ps.zip us,sc.names.lookup y.1 = some .local∨(sc.names.lookup y.1 = some .cell∧((cellsFrom (s.heap.objs.size + 1) sc.names []).lookup y.1).isSome = true):=fun ⟨n,v⟩ hy=>
    (T.par n (List.of_mem_zip hy).1).imp id fun q=>⟨q,PySem.W.cellsFrom_some _ _ _ (.inl q)⟩
  refine codeAny_call_function rm.depth (kIn _ _ lk) rfl T.co T.gen rfl (PySem.W.codeRec_of kIn hcd) (bd _ _ _ _ (wpAny_newFunctionEnv_cells T.kind loc fun env he s1 x=>?_))
  subst he
  refine ⟨(en.mod.nolimit.keeps fun b o e=>(en.bs b o e).1).keeps x.toInCall.keep,codeAny_func ?_⟩
  obtain ⟨t,ht,hq⟩:=hb p A outer s H vs Q E (rm.deeper _) hsp
  refine wpAny_mono (ht.run [] s1 (L2.start N vs) H _ (L2H.inv_startH T pk en (len _ _ _ _ _ hsp).symm rv x) hq) (fun fl s' hs=>?_) fun e s' hs=>hs
  cases fl with
  | ret u=>obtain ⟨v,σ',H',J,r,q⟩:=hs; exact ⟨v,H',J.os,J.bare,J.base,J.hok,r,q⟩
  | next=>obtain ⟨σ',H',J,q⟩:=hs; exact ⟨V.non,H',J.os,J.bare,J.base,J.hok,rfl,q⟩
  | brk=>obtain ⟨_,_,_,q⟩:=hs; exact q.elim
  | cont=>obtain ⟨_,_,_,q⟩:=hs; exact q.elim
def tbl:List (List (Addr×Bool))→Addr→Option (List Bool)
  | [],_=>some []
  | m :: r,C=>(m.lookup C).bind fun b=>(tbl r C).map (b :: ·)
def spK (ms:List (List (Addr×Bool))):Addr×Obj→Sp:=fun p vs H Q _=>∃ C dd fs bs,vs = [.ref p.1]∧Zc (.ref C) (some dd) p.2∧(∃ vs,p.2.data = .fields vs)∧H dd = some (.xd fs)∧tbl ms C = some bs∧
  ∀ l H',H' l = some (.lst (bs.map V.bl))→Nw H H' (one l)→Q (.ref l) H'
structure DefK (P:Program) (w:World) (K:PySem.W.Frag) (mg:Str→Option Value) (base:Heap) (x:Str) (k:Nat) (ms:List (List (Addr×Bool))):Prop where
  ex:∃ (f:Addr) (fd:FuncData) (ps:List Str),mg x = some (.ref f)∧PySem.W.keepIn K (.ref f) = true∧Binds K fd ps []∧FnX P w K mg base k f fd ps (spK ms)
theorem call_isP {X:Cx} {a B dd:Addr} {oe:Obj} (hp:(a,oe) ∈ X.pn) (C:ExcC X.K B) (hz:Zc (.ref B) (some dd) oe) (hf:∃ vs,oe.data = .fields vs):CallR X (.builtin "isinstance") (fun xs H Q=>(∃ fs,H dd = some (.xd fs))∧rIsE X.K B a xs H Q):=by
  intro pins s σ H xs us Q I r ⟨⟨fs,hfs⟩,c,cv,bb,ex,hcv,e,q⟩
  subst ex
  match r with
  | .cons rx (.cons rt .nil)=>
    cases rx
    cases hcv _ rt
    obtain ⟨hget,_⟩:=I.pin (a,oe) (List.mem_append_left _ hp)
    obtain ⟨vs,hv⟩:=hf
    have hx:ObjOk X.prog X.w H s.heap dd (.xd fs):=I.hok dd _ hfs
    obtain ⟨mA,hns,hr⟩:=hx
    obtain ⟨od,ho,hl⟩:=lookIn_ns hns
    have J:PySem.W.InstAt s.heap a oe B (some od):=⟨hget,hz.1,by unfold PySem.W.notCls; rw [hv] <;> rfl,by rw [hz.2]; exact ho⟩
    exact PySem.W.kia_one (PySem.DLI.kit_own C) I.kIn ⟨_,J⟩ e (fun z=>nomatch z) fun tk=>⟨.bl bb,H,I.kept (t':=tk) fun _ _ z=>z,rfl,q⟩
def tIsE (a dd:Addr) (b:Bool):TE:=fun σ H Q=>σ[0]? = some (some (.ref a))∧(∃ fs,H dd = some (.xd fs))∧Q (.bl b) H
def tIsL (a dd:Addr) (bs:List Bool):TA:=fun σ H Q=>σ[0]? = some (some (.ref a))∧(∃ fs,H dd = some (.xd fs))∧Q (bs.map V.bl) H
section
variable {X:Cx} {a B dd:Addr} {oe:Obj} {e:Expr} {es:List Expr} {bs:List Bool} {b:Bool}
def AsksX (X:Cx) (a:Addr) (oe:Obj) (e:Expr) (m:List (Addr×Bool)):Prop:=∀ (B dd:Addr) (b:Bool),Zc (.ref B) (some dd) oe→(∃ vs,oe.data = .fields vs)→m.lookup B = some b→PE X e (tIsE a dd b)
theorem asks_one {cn:Str} {c:Addr} {p1 p2 pos:Pos} (m:List (Addr×Bool)) (hp:(a,oe) ∈ X.pn) (hm:∀ C b,m.lookup C = some b→ExcC X.K C∧PySem.W.kitOne X.K (.ref C) (.ref c) = some b) (he:PE X e (tVar 0)) (gC:Gl X cn) (mC:X.mg cn = some (.ref c)) (hg:Gl X "isinstance") (hmg:X.mg "isinstance" = none)
    (hdb:(cn == ("__debug__" : Str)) = false:=by decide) (hs:starEach [e,.Name cn p1] X.env = (false,eval e X.env) :: starEach [.Name cn p1] X.env:=by rfl) (hs1:starEach [.Name cn p1] X.env = (false,eval (.Name cn p1) X.env) :: starEach [] X.env:=by rfl) (hpl:(backTo pos (starEach [.Name cn p1] X.env)).any (·.1) = false:=by rfl):
    AsksX X a oe (.Call (.Name "isinstance" p2) [e,.Name cn p1] [] pos) m:=fun B dd b hz hf e1=>by
  obtain ⟨T,hk⟩:=hm B b e1
  refine (pe_callB (X:=X) (x := "isinstance") (id := "isinstance") (call_isP hp T hz hf) hg hmg rfl (L2.pa_cons he (L2.pa_cons (pe_glob (X:=X) (v:=.ref c) gC mC rfl hdb) L2.pa_nil hs1) hs) (by decide) (by decide) hs hpl).imp fun σv H Q ⟨h0,hx,q⟩=>?_
  exact ⟨.ref a,h0,hx,.ref c,.ref c,b,rfl,fun u r=>r,hk,q⟩
inductive AsksL (X:Cx) (a:Addr) (oe:Obj):List Expr→List (List (Addr×Bool))→Prop
  | nil:AsksL X a oe [] []
  | cons {e:Expr} {es:List Expr} {m:List (Addr×Bool)} {ms:List (List (Addr×Bool))} (h:AsksX X a oe e m) (r:AsksL X a oe es ms) (hs:starEach (e :: es) X.env = (false,eval e X.env) :: starEach es X.env:=by rfl):AsksL X a oe (e :: es) (m :: ms)
theorem AsksL.pa {ms:List (List (Addr×Bool))} (h:AsksL X a oe es ms) (hz:Zc (.ref B) (some dd) oe) (hf:∃ vs,oe.data = .fields vs):∀ {bs:List Bool},tbl ms B = some bs→PA X es (tIsL a dd bs):=by
  induction h with
  | nil=>intro bs e; cases e; exact (L2.pa_nil).imp fun σ H Q ⟨_,_,q⟩=>q
  | cons h r hs ih=>
    intro bs e
    obtain ⟨b,e1,e2⟩:=Option.bind_eq_some_iff.mp e
    obtain ⟨cs,e3,e4⟩:=Option.map_eq_some_iff.mp e2
    subst e4
    exact (L2.pa_cons (h B dd b hz hf e1) (ih e3) hs).imp fun σ H Q ⟨h0,hx,q⟩=>⟨h0,hx,h0,hx,q⟩
theorem tbl_app {ms ns:List (List (Addr×Bool))} {C:Addr}:∀ {bs:List Bool},tbl (ms ++ ns) C = some bs→∃ b1 b2,tbl ms C = some b1∧tbl ns C = some b2∧bs = b1 ++ b2:=by
  induction ms with
  | nil=>intro bs e; exact ⟨[],bs,rfl,e,rfl⟩
  | cons m r ih=>
    intro bs e
    obtain ⟨b,e1,e2⟩:=Option.bind_eq_some_iff.mp e
    obtain ⟨cs,e3,e4⟩:=Option.map_eq_some_iff.mp e2
    obtain ⟨b1,b2,h1,h2,h3⟩:=ih e3
    exact ⟨b :: b1,b2,by unfold tbl; rw [e1,h1]; rfl,h2,by rw [← e4,h3]; rfl⟩
theorem pss_asks {es1 es2:List Expr} {ms ns:List (List (Addr×Bool))} {x:Str} {ex:Expr} {pos pos1 pos2 pos3 pos4 pos':Pos} {H:Hp} {Q:VK} {v1:Option V} (hN:X.N.Nodup) (hi:X.N[1]? = some x) (hx:Loc X.env.scope x) (h1:AsksL X a oe es1 ms) (h2:AsksL X a oe es2 ns) (hv:PE X ex (tVar 1)) (hz:Zc (.ref B) (some dd) oe) (hf:∃ vs,oe.data = .fields vs)
    {fs:List (Str×V)} (hd:H dd = some (.xd fs)) (hb:tbl (ms ++ ns) B = some bs) (hl:ms.length + ns.length≤sizeLine) (hq:∀ l H',H' l = some (.lst (bs.map V.bl))→Nw H H' (one l)→Q (.ref l) H')
    (hs:swapsWith (.List es1 pos1) (some (.Name x pos')) pos.line X.env = pure false:=by rfl) (hfn:X.fn x = true∨X.env.scope.names.lookup x = some .local:=by first | exact .inl rfl | exact .inr rfl):
    ∃ t,PSs X [.Assign [.Name x pos'] (.List es1 pos1) pos,.Return (some (.BinOp ex .Add (.List es2 pos2) pos3)) pos4] t∧t { nx:=fun _ H'=>Q .non H',rt:=Q } [some (.ref a),v1] H:=by
  obtain ⟨b1,b2,e1,e2,rfl⟩:=tbl_app hb
  have ln:∀ {ms:List (List (Addr×Bool))} {bs:List Bool},tbl ms B = some bs→bs.length = ms.length:=by
    intro ms
    induction ms with
    | nil=>intro bs e; cases e; rfl
    | cons m r ih=>
      intro bs e
      obtain ⟨b,e1,e2⟩:=Option.bind_eq_some_iff.mp e
      obtain ⟨cs,e3,e4⟩:=Option.map_eq_some_iff.mp e2
      subst e4
      rw [List.length_cons,List.length_cons,ih e3]
  refine ⟨_,pss_cons (ps_set hN hi hx (pe_lst (h1.pa hz hf e1)) hs hfn) (pss_one (ps_ret (pe_op op_catS hv (pe_lst (h2.pa hz hf e2))))),?_⟩
  refine ⟨rfl,⟨_,hd⟩,by rw [List.length_map,ln e1]; omega,fun p hp=>?_⟩
  have n1:Nw H (upd H p (.lst (b1.map V.bl))) (one p):=.laid hp
  refine ⟨.ref p,rfl,rfl,⟨_,n1.same _ _ hd⟩,by rw [List.length_map,ln e2]; omega,fun q hq1=>?_⟩
  have pq:p ≠ q:=fun z=>by subst z; rw [upd_same] at hq1; cases hq1
  have n2:Nw (upd H p (.lst (b1.map V.bl))) (upd (upd H p (.lst (b1.map V.bl))) q (.lst (b2.map V.bl))) (one q):=.laid hq1
  refine ⟨p,q,b1.map V.bl,b2.map V.bl,rfl,rfl,.of (by rw [upd_ne pq]; exact upd_same),.of upd_same,by rw [List.length_map,List.length_map,ln e1,ln e2]; exact hl,fun l hl1=>?_⟩
  have n3:=Nw.laid (o:=.lst (b1.map V.bl ++ b2.map V.bl)) hl1
  refine hq l _ (by rw [upd_same,List.map_append]) ⟨fun b o e=>n3.same _ _ (n2.same _ _ (n1.same _ _ e)),fun b hb=>?_,n3.nd⟩
  rw [of_one hb]
  cases e:H l with
  | none=>rfl
  | some o=>
    have:=n2.same _ _ (n1.same _ _ e)
    rw [this] at hl1; cases hl1
end
theorem dk_mk {P:Program} {w:World} {K:PySem.W.Frag} {mg:Str→Option Value} {base:Heap} {x:Str} {st:Stmt} {N ps:List Str} {k:Nat} {ms:List (List (Addr×Bool))} (I:FunIn K mg x st ps) (Sc:FnScope N ps (defScope st)) (h1:ps.length = 1) (h2:N.length = 2)
    (hbody:∀ (f:Addr) (cdv:Value) (p:Addr×Obj) (A:Around) (outer:List Env) (s:Shared) (H:Hp) (E:XK) (C dd:Addr) (bs:List Bool) (fs:List (Str×V)) (Q:VK),Zc (.ref C) (some dd) p.2→(∃ vs,p.2.data = .fields vs)→H dd = some (.xd fs)→tbl ms C = some bs→(∀ l H',H' l = some (.lst (bs.map V.bl))→Nw H H' (one l)→Q (.ref l) H')→
      ∃ t,PSs (L2H.cxH Mute P w K mg base N x (defScope st) f cdv A outer s H E p) (defBody st) t∧t { nx:=fun _ H'=>Q .non H',rt:=Q } [some (.ref p.1),none] H):DefK P w K mg base x (k + 1) ms:=by
  obtain ⟨f,fd,hm,F,hb⟩:=I
  have kp:=F.kp
  obtain ⟨_,_,_,_,_,_,cdv,_,_,rfl,lk,hcd⟩:=F.ex
  refine ⟨⟨f,_,ps,hm,kp,hb,fnx_of lk hcd Sc (fun p vs H Q E ⟨C,dd,fs,bs,ev,_⟩=>by rw [ev,h1]; rfl) fun p A outer s H vs Q E hr ⟨C,dd,fs,bs,ev,hz,hf,hd,ht,hq⟩=>?_⟩⟩
  subst ev
  have e:L2.start N [.ref p.1] = [some (.ref p.1),none]:=by unfold L2.start; rw [h2]; rfl
  rw [e]
  exact hbody f cdv p A outer s H E C dd bs fs Q hz hf hd ht hq
section
variable {X:Cx} {ϖ:Pend} {kp:Nat→Bool} {c e:Expr} {x:Str} {i k:Nat} {ms:List (List (Addr×Bool))} {pb:Addr→Option Bool} {q pos pos1 pos2 pos3:Pos}
def tAsk (a dd C:Addr) (i:Nat) (ms:List (List (Addr×Bool))):TE:=fun σ H Q=>σ[i]? = some (some (.ref a))∧(∃ fs,H dd = some (.xd fs))∧∃ bs,tbl ms C = some bs∧∀ l H',H' l = some (.lst (bs.map V.bl))→Nw H H' (one l)→Q (.ref l) H'
theorem pe_ask {a dd C:Addr} {oe:Obj} {pn:List (Addr×Obj)} (G:DefK X.prog X.w X.K X.mg X.base x k ms) (hr:Rm k X.A) (hg:Gl X x) (he:PE (X.suite a ((a,oe) :: pn)) e (tVar i)) (hz:Zc (.ref C) (some dd) oe) (hf:∃ vs,oe.data = .fields vs) (hdb:(x == ("__debug__" : Str)) = false:=by decide)
    (hs:starEach [e] X.env = (false,eval e X.env) :: starEach [] X.env:=by rfl) (hpl:(backTo q (starEach [] X.env)).any (·.1) = false:=by rfl):PE (X.suite a ((a,oe) :: pn)) (.Call (.Name x pos) [e] [] q) (tAsk a dd C i ms):=by
  obtain ⟨f,fd,ps,hm,hk,hb,hF⟩:=G.ex
  refine ⟨fun pins s σ H Q I ⟨hi,⟨fs,hd⟩,bs,ht,hq⟩=>?_⟩
  refine wpAny_Call_Name_kw (ld_glob (X:=X.suite a ((a,oe) :: pn)) I hg hm ?_ hdb)
  have ha:PA (X.suite a ((a,oe) :: pn)) [e] _:=L2.pa_cons he L2.pa_nil hs
  refine PySem.W.callWith_K (h₀:=X.base) I.ok.mod.kin hk (thn (ha.run q pins s σ H (fun vs H'=>vs = [.ref a]∧H' = H) I ⟨.ref a,hi,rfl,rfl⟩) fun us s1 ⟨vs,H1,J,r,e1,e2⟩=>⟨J.kIn,?_⟩) hs hpl
  subst e1; subst e2
  have sp:spK ms (a,oe) [.ref a] H1 Q (fun _ _ _=>False):=⟨C,dd,fs,bs,rfl,hz,hf,hd,ht,hq⟩
  have pin:=J.pin (a,oe) (List.mem_append_left _ List.mem_cons_self)
  have pk:L2H.PinOk X.stack H1 s1 (a,oe):=⟨pin.1,pin.2.1,fun hm=>(List.mem_cons.mp (J.stkSub a hm)).elim pin.2.2.1 pin.2.2.2.1,pin.2.2.2.2⟩
  have bd:=hb s1 us J.kIn (by rw [List.append_nil,hF.len _ _ _ _ _ sp,← r.length])
  rw [List.append_nil] at bd
  have room:L2H.RoomH k (X.A.mark (some (.ref a))):=⟨hr.rm.dp,hr.rm.un⟩
  refine wpAny_call (codeAny_mono (hF.run (a,oe) X.stack (X.A.mark (some (.ref a))) H1 s1 [.ref a] us ⟨us,[]⟩ _ Q room pk J.env0 bd r sp) fun o s' hq=>?_)
  cases o with
  | error e=>exact hq.elim
  | ok fl=>
    cases fl with
    | ret u=>exact J.after hq
    | next=>exact hq.elim
    | brk=>exact hq.elim
    | cont=>exact hq.elim
def suAsk (pb:Addr→Option Bool) (ms:List (List (Addr×Bool))):SuF:=fun C _ σ=>match pb C with
  | some true=>(match tbl ms C with
    | some bs=>.rt (.lst (bs.map D.bl)) σ
    | none=>.stuck)
  | some false=>.rt (.lst []) σ
  | none=>.stuck
theorem rds_bls {K:PySem.W.Frag} {H:Hp}:∀ (bs:List Bool),RDs K H (bs.map V.bl) (bs.map D.bl)
  | []=>.nil
  | b :: r=>.cons (.bl b) (rds_bls r)
theorem su_ask (G:DefK X.prog X.w X.K X.mg X.base x k ms) (hr:Rm k X.A) (hg:Gl X x) (hc:DPb X (some i) c pb) (he:∀ a pn,PE (X.suite a pn) e (tVar i)) (hdb:(x == ("__debug__" : Str)) = false:=by decide)
    (hs:starEach [e] X.env = (false,eval e X.env) :: starEach [] X.env:=by rfl) (hpl:(backTo q (starEach [] X.env)).any (·.1) = false:=by rfl):
    DSu X ϖ kp (some i) [.Return (some (.IfExp c (.Call (.Name x pos) [e] [] q) (.List [] pos1) pos2)) pos3] (suAsk pb ms):=fun a oe C dd pn hz hf=>
  pss_one ((ps_ret (pe_ifExp (hc a oe C dd pn hz hf) (pe_ask (pn:=pn) G hr hg (he a _) hz hf hdb hs hpl) (pe_lst L2.pa_nil))).imp fun Dn σv H ⟨vs,xs,σ,f,ha,ed,rk,r,n,p⟩=>by
    have fin:∀ (l:Addr) (H':Hp) (bs:List Bool),(suAsk pb ms C xs σ = .rt (.lst (bs.map D.bl)) σ)→H' l = some (.lst (bs.map V.bl))→Nw H H' (one l)→Dn.rt (.ref l) H':=fun l H' bs e hl nw=>by
      rw [e] at p
      exact p _ σv H' (one l) f (.lst hl (rds_bls bs) fun _=>rfl) (nw.rs r) (nw.ndw r.own n) (nw.fr fun _=>Nat.le_refl _) (.refl _ _)
    cases e1:pb C with
    | none=>unfold suAsk at p; rw [e1] at p; exact p.elim
    | some t=>
      cases t with
      | true=>
        cases e2:tbl ms C with
        | none=>unfold suAsk at p; simp only [e1,e2] at p; exact p.elim
        | some bs=>exact ⟨ha,vs,xs,true,ed,rk,rfl,ha i rfl,⟨_,ed⟩,bs,e2,fun l H' hl nw=>fin l H' bs (by unfold suAsk; simp only [e1,e2]) hl nw⟩
      | false=>
        exact ⟨ha,vs,xs,false,ed,rk,rfl,show (0:Nat)≤sizeLine from Nat.zero_le _,fun l hl=>fin l _ [] (by unfold suAsk; simp only [e1]; rfl) upd_same (.laid hl)⟩)
end
end DL
set_option maxHeartbeats 8200000
set_option pp.maxSteps 200
set_option pp.deepTerms false
namespace K00
open PySem PySem.Spec PyProof.Rows L2 DL
def top (i:Nat):Stmt:=PySem.Challenge.pw_standsfirm_k00_errors_and_limits.main.body.getD i (.Pass ⟨0,0,0,0⟩)
abbrev s__law_draws:Stmt:=top 40
abbrev s__law_limits_right:Stmt:=top 44
abbrev s__law_more:Stmt:=top 41
abbrev s__law_take:Stmt:=top 42
abbrev s__law_one:Stmt:=top 43
abbrev s__law_raise:Stmt:=top 45
abbrev s__law_kinds:Stmt:=top 46
abbrev s__law_caught:Stmt:=top 47
abbrev s__law_fields:Stmt:=top 48
abbrev s_law:Stmt:=top 49
def c_MAX_JOINTS:D:=(.int 12)
def c_MAX_BARS:D:=(.int 30)
def c_MAX_PLACE:D:=(.int 1000)
def c_MAX_NAME:D:=(.int 12)
def c_MAX_FORCE:D:=(.int 1000000)
def c_MAX_TEXT:D:=(.int 6000)
def c_MAX_NUMBER:D:=(.int 1000000000)
def c_MAX_ROWS:D:=(.int 12)
def c_MAX_COST:D:=(.int 1000000)
def c_MAX_CASES:D:=(.int 8)
def c_MAX_KEPT:D:=(.int 8)
def c_MAX_AWAY:D:=(.int 3)
def c_MAX_STRONG:D:=(.int 12)
def c_MAX_LINES:D:=(.int 12)
def c_MAX_BRACES:D:=(.int 60)
def c_MAX_PROPS:D:=(.int 3)
def c_MAX_BLOCKS:D:=(.int 12)
def c_MAX_JOBS:D:=(.int 10)
def c_MAX_PIECES:D:=(.int 20)
def c_MAX_LENGTH:D:=(.int 200)
def c_MAX_LOG:D:=(.int 200)
def c_MAX_SIDE:D:=(.int 3)
def c_MAX_DEPTH:D:=(.int 100)
def c_MAX_DIGITS:D:=(.int 60)
def c_MAX_CRANES:D:=(.int 8)
def c_MAX_LIFTS:D:=(.int 8)
def c_MAX_VAULT:D:=(.int 8)
def c_MAX_LOADS:D:=(.int 12)
abbrev ps_CommandError:List Str:=["line"]
abbrev ps_ArgumentError:List Str:=["reason"]
abbrev ps_CheckError:List Str:=["reason"]
abbrev ps_PaperError:List Str:=["reason"]
abbrev ps_SiteError:List Str:=["reason"]
abbrev ps_TooMany:List Str:=["reason"]
abbrev ps_TextError:List Str:=["at"]
abbrev ps_LogError:List Str:=["number","reason"]
structure CF (C:Cl):Prop where
  m_FrameError_CommandError:C.m_FrameError.lookup C.CommandError = some true
  m_FrameError_ArgumentError:C.m_FrameError.lookup C.ArgumentError = some true
  m_FrameError_CheckError:C.m_FrameError.lookup C.CheckError = some true
  m_FrameError_PaperError:C.m_FrameError.lookup C.PaperError = some true
  m_FrameError_SiteError:C.m_FrameError.lookup C.SiteError = some true
  m_FrameError_TooMany:C.m_FrameError.lookup C.TooMany = some true
  m_FrameError_TextError:C.m_FrameError.lookup C.TextError = some true
  m_FrameError_LogError:C.m_FrameError.lookup C.LogError = some true
  m_ArgumentError_CommandError:C.m_ArgumentError.lookup C.CommandError = some false
  m_ArgumentError_ArgumentError:C.m_ArgumentError.lookup C.ArgumentError = some true
  m_ArgumentError_CheckError:C.m_ArgumentError.lookup C.CheckError = some false
  m_ArgumentError_PaperError:C.m_ArgumentError.lookup C.PaperError = some false
  m_ArgumentError_SiteError:C.m_ArgumentError.lookup C.SiteError = some false
  m_ArgumentError_TooMany:C.m_ArgumentError.lookup C.TooMany = some false
  m_ArgumentError_TextError:C.m_ArgumentError.lookup C.TextError = some false
  m_ArgumentError_LogError:C.m_ArgumentError.lookup C.LogError = some false
  m_CheckError_CommandError:C.m_CheckError.lookup C.CommandError = some false
  m_CheckError_ArgumentError:C.m_CheckError.lookup C.ArgumentError = some false
  m_CheckError_CheckError:C.m_CheckError.lookup C.CheckError = some true
  m_CheckError_PaperError:C.m_CheckError.lookup C.PaperError = some false
  m_CheckError_SiteError:C.m_CheckError.lookup C.SiteError = some false
  m_CheckError_TooMany:C.m_CheckError.lookup C.TooMany = some false
  m_CheckError_TextError:C.m_CheckError.lookup C.TextError = some false
  m_CheckError_LogError:C.m_CheckError.lookup C.LogError = some false
  m_PaperError_CommandError:C.m_PaperError.lookup C.CommandError = some false
  m_PaperError_ArgumentError:C.m_PaperError.lookup C.ArgumentError = some false
  m_PaperError_CheckError:C.m_PaperError.lookup C.CheckError = some false
  m_PaperError_PaperError:C.m_PaperError.lookup C.PaperError = some true
  m_PaperError_SiteError:C.m_PaperError.lookup C.SiteError = some false
  m_PaperError_TooMany:C.m_PaperError.lookup C.TooMany = some false
  m_PaperError_TextError:C.m_PaperError.lookup C.TextError = some false
  m_PaperError_LogError:C.m_PaperError.lookup C.LogError = some false
  m_SiteError_CommandError:C.m_SiteError.lookup C.CommandError = some false
  m_SiteError_ArgumentError:C.m_SiteError.lookup C.ArgumentError = some false
  m_SiteError_CheckError:C.m_SiteError.lookup C.CheckError = some false
  m_SiteError_PaperError:C.m_SiteError.lookup C.PaperError = some false
  m_SiteError_SiteError:C.m_SiteError.lookup C.SiteError = some true
  m_SiteError_TooMany:C.m_SiteError.lookup C.TooMany = some false
  m_SiteError_TextError:C.m_SiteError.lookup C.TextError = some false
  m_SiteError_LogError:C.m_SiteError.lookup C.LogError = some false
  m_TooMany_CommandError:C.m_TooMany.lookup C.CommandError = some false
  m_TooMany_ArgumentError:C.m_TooMany.lookup C.ArgumentError = some false
  m_TooMany_CheckError:C.m_TooMany.lookup C.CheckError = some false
  m_TooMany_PaperError:C.m_TooMany.lookup C.PaperError = some false
  m_TooMany_SiteError:C.m_TooMany.lookup C.SiteError = some false
  m_TooMany_TooMany:C.m_TooMany.lookup C.TooMany = some true
  m_TooMany_TextError:C.m_TooMany.lookup C.TextError = some false
  m_TooMany_LogError:C.m_TooMany.lookup C.LogError = some false
  m_TextError_CommandError:C.m_TextError.lookup C.CommandError = some false
  m_TextError_ArgumentError:C.m_TextError.lookup C.ArgumentError = some false
  m_TextError_CheckError:C.m_TextError.lookup C.CheckError = some false
  m_TextError_PaperError:C.m_TextError.lookup C.PaperError = some false
  m_TextError_SiteError:C.m_TextError.lookup C.SiteError = some false
  m_TextError_TooMany:C.m_TextError.lookup C.TooMany = some false
  m_TextError_TextError:C.m_TextError.lookup C.TextError = some true
  m_TextError_LogError:C.m_TextError.lookup C.LogError = some false
  m_LogError_CommandError:C.m_LogError.lookup C.CommandError = some false
  m_LogError_ArgumentError:C.m_LogError.lookup C.ArgumentError = some false
  m_LogError_CheckError:C.m_LogError.lookup C.CheckError = some false
  m_LogError_PaperError:C.m_LogError.lookup C.PaperError = some false
  m_LogError_SiteError:C.m_LogError.lookup C.SiteError = some false
  m_LogError_TooMany:C.m_LogError.lookup C.TooMany = some false
  m_LogError_TextError:C.m_LogError.lookup C.TextError = some false
  m_LogError_LogError:C.m_LogError.lookup C.LogError = some true
  m_CommandError_CommandError:C.m_CommandError.lookup C.CommandError = some true
  m_CommandError_ArgumentError:C.m_CommandError.lookup C.ArgumentError = some false
  m_CommandError_CheckError:C.m_CommandError.lookup C.CheckError = some false
  m_CommandError_PaperError:C.m_CommandError.lookup C.PaperError = some false
  m_CommandError_SiteError:C.m_CommandError.lookup C.SiteError = some false
  m_CommandError_TooMany:C.m_CommandError.lookup C.TooMany = some false
  m_CommandError_TextError:C.m_CommandError.lookup C.TextError = some false
  m_CommandError_LogError:C.m_CommandError.lookup C.LogError = some false
  is_ArgumentError_CommandError:C.is_ArgumentError.lookup C.CommandError = some false
  is_ArgumentError_ArgumentError:C.is_ArgumentError.lookup C.ArgumentError = some true
  is_ArgumentError_CheckError:C.is_ArgumentError.lookup C.CheckError = some false
  is_ArgumentError_PaperError:C.is_ArgumentError.lookup C.PaperError = some false
  is_ArgumentError_SiteError:C.is_ArgumentError.lookup C.SiteError = some false
  is_ArgumentError_TooMany:C.is_ArgumentError.lookup C.TooMany = some false
  is_ArgumentError_TextError:C.is_ArgumentError.lookup C.TextError = some false
  is_ArgumentError_LogError:C.is_ArgumentError.lookup C.LogError = some false
  is_CheckError_CommandError:C.is_CheckError.lookup C.CommandError = some false
  is_CheckError_ArgumentError:C.is_CheckError.lookup C.ArgumentError = some false
  is_CheckError_CheckError:C.is_CheckError.lookup C.CheckError = some true
  is_CheckError_PaperError:C.is_CheckError.lookup C.PaperError = some false
  is_CheckError_SiteError:C.is_CheckError.lookup C.SiteError = some false
  is_CheckError_TooMany:C.is_CheckError.lookup C.TooMany = some false
  is_CheckError_TextError:C.is_CheckError.lookup C.TextError = some false
  is_CheckError_LogError:C.is_CheckError.lookup C.LogError = some false
  is_PaperError_CommandError:C.is_PaperError.lookup C.CommandError = some false
  is_PaperError_ArgumentError:C.is_PaperError.lookup C.ArgumentError = some false
  is_PaperError_CheckError:C.is_PaperError.lookup C.CheckError = some false
  is_PaperError_PaperError:C.is_PaperError.lookup C.PaperError = some true
  is_PaperError_SiteError:C.is_PaperError.lookup C.SiteError = some false
  is_PaperError_TooMany:C.is_PaperError.lookup C.TooMany = some false
  is_PaperError_TextError:C.is_PaperError.lookup C.TextError = some false
  is_PaperError_LogError:C.is_PaperError.lookup C.LogError = some false
  is_SiteError_CommandError:C.is_SiteError.lookup C.CommandError = some false
  is_SiteError_ArgumentError:C.is_SiteError.lookup C.ArgumentError = some false
  is_SiteError_CheckError:C.is_SiteError.lookup C.CheckError = some false
  is_SiteError_PaperError:C.is_SiteError.lookup C.PaperError = some false
  is_SiteError_SiteError:C.is_SiteError.lookup C.SiteError = some true
  is_SiteError_TooMany:C.is_SiteError.lookup C.TooMany = some false
  is_SiteError_TextError:C.is_SiteError.lookup C.TextError = some false
  is_SiteError_LogError:C.is_SiteError.lookup C.LogError = some false
  is_TooMany_CommandError:C.is_TooMany.lookup C.CommandError = some false
  is_TooMany_ArgumentError:C.is_TooMany.lookup C.ArgumentError = some false
  is_TooMany_CheckError:C.is_TooMany.lookup C.CheckError = some false
  is_TooMany_PaperError:C.is_TooMany.lookup C.PaperError = some false
  is_TooMany_SiteError:C.is_TooMany.lookup C.SiteError = some false
  is_TooMany_TooMany:C.is_TooMany.lookup C.TooMany = some true
  is_TooMany_TextError:C.is_TooMany.lookup C.TextError = some false
  is_TooMany_LogError:C.is_TooMany.lookup C.LogError = some false
  is_TextError_CommandError:C.is_TextError.lookup C.CommandError = some false
  is_TextError_ArgumentError:C.is_TextError.lookup C.ArgumentError = some false
  is_TextError_CheckError:C.is_TextError.lookup C.CheckError = some false
  is_TextError_PaperError:C.is_TextError.lookup C.PaperError = some false
  is_TextError_SiteError:C.is_TextError.lookup C.SiteError = some false
  is_TextError_TooMany:C.is_TextError.lookup C.TooMany = some false
  is_TextError_TextError:C.is_TextError.lookup C.TextError = some true
  is_TextError_LogError:C.is_TextError.lookup C.LogError = some false
  is_LogError_CommandError:C.is_LogError.lookup C.CommandError = some false
  is_LogError_ArgumentError:C.is_LogError.lookup C.ArgumentError = some false
  is_LogError_CheckError:C.is_LogError.lookup C.CheckError = some false
  is_LogError_PaperError:C.is_LogError.lookup C.PaperError = some false
  is_LogError_SiteError:C.is_LogError.lookup C.SiteError = some false
  is_LogError_TooMany:C.is_LogError.lookup C.TooMany = some false
  is_LogError_TextError:C.is_LogError.lookup C.TextError = some false
  is_LogError_LogError:C.is_LogError.lookup C.LogError = some true
  is_CommandError_CommandError:C.is_CommandError.lookup C.CommandError = some true
  is_CommandError_ArgumentError:C.is_CommandError.lookup C.ArgumentError = some false
  is_CommandError_CheckError:C.is_CommandError.lookup C.CheckError = some false
  is_CommandError_PaperError:C.is_CommandError.lookup C.PaperError = some false
  is_CommandError_SiteError:C.is_CommandError.lookup C.SiteError = some false
  is_CommandError_TooMany:C.is_CommandError.lookup C.TooMany = some false
  is_CommandError_TextError:C.is_CommandError.lookup C.TextError = some false
  is_CommandError_LogError:C.is_CommandError.lookup C.LogError = some false
  is_FrameError_CommandError:C.is_FrameError.lookup C.CommandError = some true
  is_FrameError_ArgumentError:C.is_FrameError.lookup C.ArgumentError = some true
  is_FrameError_CheckError:C.is_FrameError.lookup C.CheckError = some true
  is_FrameError_PaperError:C.is_FrameError.lookup C.PaperError = some true
  is_FrameError_SiteError:C.is_FrameError.lookup C.SiteError = some true
  is_FrameError_TooMany:C.is_FrameError.lookup C.TooMany = some true
  is_FrameError_TextError:C.is_FrameError.lookup C.TextError = some true
  is_FrameError_LogError:C.is_FrameError.lookup C.LogError = some true
  cs_reason_ArgumentError:C.cs_reason.contains C.ArgumentError = true
  cs_reason_CheckError:C.cs_reason.contains C.CheckError = true
  cs_reason_PaperError:C.cs_reason.contains C.PaperError = true
  cs_reason_SiteError:C.cs_reason.contains C.SiteError = true
  cs_reason_TooMany:C.cs_reason.contains C.TooMany = true
  cs_reason_LogError:C.cs_reason.contains C.LogError = true
  cs_at_TextError:C.cs_at.contains C.TextError = true
  cs_number_LogError:C.cs_number.contains C.LogError = true
  cs_line_CommandError:C.cs_line.contains C.CommandError = true
def N__law_draws:List Str:=["script","draws","cell","rest","k","mixed"]
def S4_f__law_limits_right:S→O:=
  sRet (eB oEq (gE (eCB oRepr (gCons (gN 0) (gNil)))) (gE (eCB oRepr (gCons (gN 1) (gNil)))))
def S3_f__law_limits_right:S→O:=
  sSeq (sAsg 1 (eCB oLst (gCons (gE (eC (.int 12))) (gCons (gE (eC (.int 30))) (gCons (gE (eC (.int 1000))) (gCons (gE (eC (.int 12))) (gCons (gE (eC (.int 1000000))) (gCons (gE (eC (.int 6000))) (gCons (gE (eC (.int 1000000000))) (gCons (gE (eC (.int 12))) (gCons (gE (eC (.int 1000000))) (gCons (gE (eC (.int 8))) (gCons (gE (eC (.int 8))) (gCons (gE (eC (.int 3))) (gCons (gE (eC (.int 12))) (gCons (gE (eC (.int 12))) (gCons (gE (eC (.int 60))) (gCons (gE (eC (.int 3))) (gCons (gE (eC (.int 12))) (gCons (gE (eC (.int 10))) (gCons (gE (eC (.int 20))) (gCons (gE (eC (.int 200))) (gCons (gE (eC (.int 200))) (gCons (gE (eC (.int 3))) (gCons (gE (eC (.int 100))) (gCons (gE (eC (.int 60))) (gCons (gE (eC (.int 8))) (gCons (gE (eC (.int 8))) (gCons (gE (eC (.int 8))) (gCons (gE (eC (.int 12))) (gNil)))))))))))))))))))))))))))))))
  (S4_f__law_limits_right)
def S2_f__law_limits_right:S→O:=
  sSeq (sAsg 0 (eB oAddA (gN 0) (gE (eCB oLst (gCons (gE (eC c_MAX_LOG)) (gCons (gE (eC c_MAX_SIDE)) (gCons (gE (eC c_MAX_DEPTH)) (gCons (gE (eC c_MAX_DIGITS)) (gCons (gE (eC c_MAX_CRANES)) (gCons (gE (eC c_MAX_LIFTS)) (gCons (gE (eC c_MAX_VAULT)) (gCons (gE (eC c_MAX_LOADS)) (gNil)))))))))))))
  (S3_f__law_limits_right)
def S1_f__law_limits_right:S→O:=
  sSeq (sAsg 0 (eB oAddA (gN 0) (gE (eCB oLst (gCons (gE (eC c_MAX_KEPT)) (gCons (gE (eC c_MAX_AWAY)) (gCons (gE (eC c_MAX_STRONG)) (gCons (gE (eC c_MAX_LINES)) (gCons (gE (eC c_MAX_BRACES)) (gCons (gE (eC c_MAX_PROPS)) (gCons (gE (eC c_MAX_BLOCKS)) (gCons (gE (eC c_MAX_JOBS)) (gCons (gE (eC c_MAX_PIECES)) (gCons (gE (eC c_MAX_LENGTH)) (gNil)))))))))))))))
  (S2_f__law_limits_right)
def f__law_limits_right:S→O:=
  sSeq (sAsg 0 (eCB oLst (gCons (gE (eC c_MAX_JOINTS)) (gCons (gE (eC c_MAX_BARS)) (gCons (gE (eC c_MAX_PLACE)) (gCons (gE (eC c_MAX_NAME)) (gCons (gE (eC c_MAX_FORCE)) (gCons (gE (eC c_MAX_TEXT)) (gCons (gE (eC c_MAX_NUMBER)) (gCons (gE (eC c_MAX_ROWS)) (gCons (gE (eC c_MAX_COST)) (gCons (gE (eC c_MAX_CASES)) (gNil)))))))))))))
  (S1_f__law_limits_right)
def N__law_limits_right:List Str:=["told","due"]
def kp__law_limits_right:Nat→Bool:=fun i=>([]:List Nat).contains i
def F__law_limits_right:Fn:=mkFn 0 2 kp__law_limits_right (f__law_limits_right)
def N__law_more:List Str:=["draws","place","mixed","k"]
def N__law_take:List Str:=["draws","at","many","place"]
def N__law_one:List Str:=["rows","draws","at"]
def f__law_raise (C:Cl):S→O:=
  sSeq (sIf (bV (eB oEq (gN 0) (gE (eC (.int 0))))) (sRaise C.ArgumentError (ps_ArgumentError) (gCons (gE (eN 1)) (gNil))) (sNx))
  (sSeq (sIf (bV (eB oEq (gN 0) (gE (eC (.int 1))))) (sRaise C.CheckError (ps_CheckError) (gCons (gE (eN 1)) (gNil))) (sNx))
  (sSeq (sIf (bV (eB oEq (gN 0) (gE (eC (.int 2))))) (sRaise C.PaperError (ps_PaperError) (gCons (gE (eN 1)) (gNil))) (sNx))
  (sSeq (sIf (bV (eB oEq (gN 0) (gE (eC (.int 3))))) (sRaise C.SiteError (ps_SiteError) (gCons (gE (eN 1)) (gNil))) (sNx))
  (sSeq (sIf (bV (eB oEq (gN 0) (gE (eC (.int 4))))) (sRaise C.TooMany (ps_TooMany) (gCons (gE (eN 1)) (gNil))) (sNx))
  (sSeq (sIf (bV (eB oEq (gN 0) (gE (eC (.int 5))))) (sRaise C.TextError (ps_TextError) (gCons (gE (eN 1)) (gNil))) (sNx))
  (sSeq (sIf (bV (eB oEq (gN 0) (gE (eC (.int 6))))) (sRaise C.LogError (ps_LogError) (gCons (gE (eN 1)) (gCons (gE (eN 2)) (gNil)))) (sNx))
  (sRaise C.CommandError (ps_CommandError) (gCons (gE (eN 1)) (gNil)))))))))
def N__law_raise:List Str:=["k","one","other"]
def kp__law_raise:Nat→Bool:=fun i=>([0,1,2]:List Nat).contains i
def F__law_raise (C:Cl):Fn:=mkFn 3 3 kp__law_raise (f__law_raise C)
def N__law_kinds:List Str:=["e","plain"]
def F__law_kinds (C:Cl):List (List (Addr×Bool)):=[C.is_ArgumentError,C.is_CheckError,C.is_PaperError,C.is_SiteError,C.is_TooMany,C.is_TextError,C.is_LogError,C.is_CommandError]
def S1_f__law_caught (C:Cl):S→O:=
  sRet (eCB oLst (gNil))
def f__law_caught (C:Cl):S→O:=
  sSeq (sTry (sExpr (eCall (F__law_raise C) (gCons (gN 0) (gCons (gN 1) (gCons (gN 2) (gNil)))))) (⟨C.m_FrameError,(some 3),suAsk (pbIs C.is_FrameError) (F__law_kinds C)⟩ :: []))
  ((S1_f__law_caught C))
def N__law_caught:List Str:=["k","one","other","e"]
def kp__law_caught:Nat→Bool:=fun i=>([0,1,2]:List Nat).contains i
def F__law_caught (C:Cl):Fn:=mkFn 3 4 kp__law_caught (f__law_caught C)
def S1_f__law_fields (C:Cl):S→O:=
  sRet (eC .non)
def f__law_fields (C:Cl):S→O:=
  sSeq (sTry (sExpr (eCall (F__law_raise C) (gCons (gN 0) (gCons (gN 1) (gCons (gN 2) (gNil)))))) (⟨C.m_ArgumentError,(some 3),suRet (pxTup (paCons (pxAttr C.cs_reason "reason") (paNil)))⟩ :: ⟨C.m_CheckError,(some 3),suRet (pxTup (paCons (pxAttr C.cs_reason "reason") (paNil)))⟩ :: ⟨C.m_PaperError,(some 3),suRet (pxTup (paCons (pxAttr C.cs_reason "reason") (paNil)))⟩ :: ⟨C.m_SiteError,(some 3),suRet (pxTup (paCons (pxAttr C.cs_reason "reason") (paNil)))⟩ :: ⟨C.m_TooMany,(some 3),suRet (pxTup (paCons (pxAttr C.cs_reason "reason") (paNil)))⟩ :: ⟨C.m_TextError,(some 3),suRet (pxTup (paCons (pxAttr C.cs_at "at") (paNil)))⟩ :: ⟨C.m_LogError,(some 3),suRet (pxTup (paCons (pxAttr C.cs_number "number") (paCons (pxAttr C.cs_reason "reason") (paNil))))⟩ :: ⟨C.m_CommandError,(some 3),suRet (pxTup (paCons (pxAttr C.cs_line "line") (paNil)))⟩ :: []))
  ((S1_f__law_fields C))
def N__law_fields:List Str:=["k","one","other","e"]
def kp__law_fields:Nat→Bool:=fun i=>([0,1,2]:List Nat).contains i
def F__law_fields (C:Cl):Fn:=mkFn 3 4 kp__law_fields (f__law_fields C)
def E1_law (C:Cl):S→R T:=
  eB oEq (gN 7) (gN 4)
def K1_law (C:Cl):S→R T:=
  eLC [7] (iG iRg1 (gCons (gE (eC (.int 8))) (gNil))) (tgN 7) (bYes) ((E1_law C))
def S1_L1_law (C:Cl):S→O:=
  sSeq (sIf (bV (eB oNe (gE (eCall (F__law_caught C) (gCons (gN 4) (gCons (gN 5) (gCons (gN 6) (gNil)))))) (gE ((K1_law C))))) (sRet (eC (.bl false))) (sNx))
  (sIf (bV (eB oNe (gE (eCB oRepr (gCons (gE (eCall (F__law_fields C) (gCons (gN 4) (gCons (gN 5) (gCons (gN 6) (gNil)))))) (gNil)))) (gE (eCB oRepr (gCons (gE (eIf (bV (eB oEq (gN 4) (gE (eC (.int 6))))) (eCB oTup (gCons (gE (eN 5)) (gCons (gE (eN 6)) (gNil)))) (eCB oTup (gCons (gE (eN 5)) (gNil))))) (gNil)))))) (sRet (eC (.bl false))) (sNx))
def L1_law (C:Cl):S→O:=
  sWp [4,5,6] (sSeq (sPar 5 6 (gCons (gE (eV (eCall F__law_one (gCons (gN 3) (gCons (gN 1) (gCons (gN 2) (gNil))))))) (gCons (gE (eV (eCall F__law_one (gCons (gN 3) (gCons (gN 1) (gCons (gN 2) (gNil))))))) (gNil))))
  ((S1_L1_law C)))
def S5_f_law (C:Cl):S→O:=
  sRet (eC (.bl true))
def S4_f_law (C:Cl):S→O:=
  sSeq (sPw [4,5,6] (sFor (iG iRg1 (gCons (gE (eC (.int 8))) (gNil))) (tgN 4) ((L1_law C))))
  ((S5_f_law C))
def S2_f_law (C:Cl):S→O:=
  sSeq (sIf (bNot (bV (fun σ=>callF F__law_limits_right [] σ))) (sRet (eC (.bl false))) (sNx))
  (sSeq (sAsg 3 (eCB oLst (gCons (gE (eC (.str "load"))) (gCons (gE (eC (.str ""))) (gCons (gE (eC (.str "form"))) (gCons (gE (eC (.int 0))) (gCons (gE (eC (.int 17))) (gCons (gE (eU oNeg (gE (eC (.int 3))))) (gCons (gE (eC .non)) (gCons (gE (eCB oTup (gCons (gE (eC (.str "a"))) (gCons (gE (eC (.int 5))) (gNil))))) (gCons (gE (eC (.str "a line"))) (gCons (gE (eC (.bl true))) (gNil)))))))))))))
  ((S4_f_law C)))
def S1_f_law (C:Cl):S→O:=
  sSeq (sAsg 2 (eCB oLst (gCons (gE (eC (.int 0))) (gNil))))
  ((S2_f_law C))
def f_law (C:Cl):S→O:=
  sSeq (sAsg 1 (eCall F__law_draws (gCons (gN 0) (gNil))))
  ((S1_f_law C))
def N_law:List Str:=["script","draws","at","values","k","one","other","j"]
def kp_law:Nat→Bool:=fun i=>([0]:List Nat).contains i
def F_law (C:Cl):Fn:=mkFn 1 8 kp_law (f_law C)
structure Gs (mg:Str→Option Value) (K:PySem.W.Frag) (P:Program) (C:Cl):Prop where
  n_ValueError:mg "ValueError" = none
  n_abs:mg "abs" = none
  n_int:mg "int" = none
  n_isinstance:mg "isinstance" = none
  n_len:mg "len" = none
  n_range:mg "range" = none
  n_repr:mg "repr" = none
  c_MAX_JOINTS:KC mg K "MAX_JOINTS" c_MAX_JOINTS
  c_MAX_BARS:KC mg K "MAX_BARS" c_MAX_BARS
  c_MAX_PLACE:KC mg K "MAX_PLACE" c_MAX_PLACE
  c_MAX_NAME:KC mg K "MAX_NAME" c_MAX_NAME
  c_MAX_FORCE:KC mg K "MAX_FORCE" c_MAX_FORCE
  c_MAX_TEXT:KC mg K "MAX_TEXT" c_MAX_TEXT
  c_MAX_NUMBER:KC mg K "MAX_NUMBER" c_MAX_NUMBER
  c_MAX_ROWS:KC mg K "MAX_ROWS" c_MAX_ROWS
  c_MAX_COST:KC mg K "MAX_COST" c_MAX_COST
  c_MAX_CASES:KC mg K "MAX_CASES" c_MAX_CASES
  c_MAX_KEPT:KC mg K "MAX_KEPT" c_MAX_KEPT
  c_MAX_AWAY:KC mg K "MAX_AWAY" c_MAX_AWAY
  c_MAX_STRONG:KC mg K "MAX_STRONG" c_MAX_STRONG
  c_MAX_LINES:KC mg K "MAX_LINES" c_MAX_LINES
  c_MAX_BRACES:KC mg K "MAX_BRACES" c_MAX_BRACES
  c_MAX_PROPS:KC mg K "MAX_PROPS" c_MAX_PROPS
  c_MAX_BLOCKS:KC mg K "MAX_BLOCKS" c_MAX_BLOCKS
  c_MAX_JOBS:KC mg K "MAX_JOBS" c_MAX_JOBS
  c_MAX_PIECES:KC mg K "MAX_PIECES" c_MAX_PIECES
  c_MAX_LENGTH:KC mg K "MAX_LENGTH" c_MAX_LENGTH
  c_MAX_LOG:KC mg K "MAX_LOG" c_MAX_LOG
  c_MAX_SIDE:KC mg K "MAX_SIDE" c_MAX_SIDE
  c_MAX_DEPTH:KC mg K "MAX_DEPTH" c_MAX_DEPTH
  c_MAX_DIGITS:KC mg K "MAX_DIGITS" c_MAX_DIGITS
  c_MAX_CRANES:KC mg K "MAX_CRANES" c_MAX_CRANES
  c_MAX_LIFTS:KC mg K "MAX_LIFTS" c_MAX_LIFTS
  c_MAX_VAULT:KC mg K "MAX_VAULT" c_MAX_VAULT
  c_MAX_LOADS:KC mg K "MAX_LOADS" c_MAX_LOADS
  k_FrameError:mg "FrameError" = some (.ref C.FrameError)
  k_CheckError:mg "CheckError" = some (.ref C.CheckError)
  k_ArgumentError:mg "ArgumentError" = some (.ref C.ArgumentError)
  k_PaperError:mg "PaperError" = some (.ref C.PaperError)
  k_TooMany:mg "TooMany" = some (.ref C.TooMany)
  k_SiteError:mg "SiteError" = some (.ref C.SiteError)
  k_TextError:mg "TextError" = some (.ref C.TextError)
  k_LogError:mg "LogError" = some (.ref C.LogError)
  k_CommandError:mg "CommandError" = some (.ref C.CommandError)
  t_CommandError:SupEx P K mg C.CommandError ps_CommandError
  t_ArgumentError:SupEx P K mg C.ArgumentError ps_ArgumentError
  t_CheckError:SupEx P K mg C.CheckError ps_CheckError
  t_PaperError:SupEx P K mg C.PaperError ps_PaperError
  t_SiteError:SupEx P K mg C.SiteError ps_SiteError
  t_TooMany:SupEx P K mg C.TooMany ps_TooMany
  t_TextError:SupEx P K mg C.TextError ps_TextError
  t_LogError:SupEx P K mg C.LogError ps_LogError
  m_FrameError:∀ B b,C.m_FrameError.lookup B = some b→PySem.W.exmOne K (.ref B) (.ref C.FrameError) = some b
  m_ArgumentError:∀ B b,C.m_ArgumentError.lookup B = some b→PySem.W.exmOne K (.ref B) (.ref C.ArgumentError) = some b
  m_CheckError:∀ B b,C.m_CheckError.lookup B = some b→PySem.W.exmOne K (.ref B) (.ref C.CheckError) = some b
  m_PaperError:∀ B b,C.m_PaperError.lookup B = some b→PySem.W.exmOne K (.ref B) (.ref C.PaperError) = some b
  m_SiteError:∀ B b,C.m_SiteError.lookup B = some b→PySem.W.exmOne K (.ref B) (.ref C.SiteError) = some b
  m_TooMany:∀ B b,C.m_TooMany.lookup B = some b→PySem.W.exmOne K (.ref B) (.ref C.TooMany) = some b
  m_TextError:∀ B b,C.m_TextError.lookup B = some b→PySem.W.exmOne K (.ref B) (.ref C.TextError) = some b
  m_LogError:∀ B b,C.m_LogError.lookup B = some b→PySem.W.exmOne K (.ref B) (.ref C.LogError) = some b
  m_CommandError:∀ B b,C.m_CommandError.lookup B = some b→PySem.W.exmOne K (.ref B) (.ref C.CommandError) = some b
  i_ArgumentError:∀ B b,C.is_ArgumentError.lookup B = some b→ExcC K B∧PySem.W.kitOne K (.ref B) (.ref C.ArgumentError) = some b
  i_CheckError:∀ B b,C.is_CheckError.lookup B = some b→ExcC K B∧PySem.W.kitOne K (.ref B) (.ref C.CheckError) = some b
  i_PaperError:∀ B b,C.is_PaperError.lookup B = some b→ExcC K B∧PySem.W.kitOne K (.ref B) (.ref C.PaperError) = some b
  i_SiteError:∀ B b,C.is_SiteError.lookup B = some b→ExcC K B∧PySem.W.kitOne K (.ref B) (.ref C.SiteError) = some b
  i_TooMany:∀ B b,C.is_TooMany.lookup B = some b→ExcC K B∧PySem.W.kitOne K (.ref B) (.ref C.TooMany) = some b
  i_TextError:∀ B b,C.is_TextError.lookup B = some b→ExcC K B∧PySem.W.kitOne K (.ref B) (.ref C.TextError) = some b
  i_LogError:∀ B b,C.is_LogError.lookup B = some b→ExcC K B∧PySem.W.kitOne K (.ref B) (.ref C.LogError) = some b
  i_CommandError:∀ B b,C.is_CommandError.lookup B = some b→ExcC K B∧PySem.W.kitOne K (.ref B) (.ref C.CommandError) = some b
  i_FrameError:∀ B b,C.is_FrameError.lookup B = some b→ExcC K B∧PySem.W.kitOne K (.ref B) (.ref C.FrameError) = some b
  iv_ValueError:∀ B b,C.is_FrameError.lookup B = some b→ExcC K B∧PySem.W.kitOne K (.ref B) (.type "ValueError") = some b
  x_reason:∀ B ∈ C.cs_reason,XfC K B∧PySem.W.findIn K (.ref B) "reason" = some none
  x_at:∀ B ∈ C.cs_at,XfC K B∧PySem.W.findIn K (.ref B) "at" = some none
  x_number:∀ B ∈ C.cs_number,XfC K B∧PySem.W.findIn K (.ref B) "number" = some none
  x_line:∀ B ∈ C.cs_line,XfC K B∧PySem.W.findIn K (.ref B) "line" = some none
section
variable {P:Program} {w:World} {K:PySem.W.Frag} {mg:Str→Option Value} {base:Heap} {C:Cl}
theorem sc__law_draws:FnScope N__law_draws ["script"] (defScope s__law_draws):=⟨rfl,rfl,rfl,by decide +kernel,rfl,by decide +kernel,by decide +kernel⟩
theorem d__law_draws (g:Gs mg K P C) (I:FunIn K mg "_law_draws" s__law_draws ["script"])  : Def P w K mg base "_law_draws" 1 F__law_draws:=
  df_mk I sc__law_draws (by decide) (kp:=kp__law_draws) (g:=f__law_draws) rfl fun f cdv A outer s H E hr=>
  ds_cons (ds_set (i:=1) sc__law_draws.nd rfl (.inl rfl) (d_lst (gs_nil)))
  (ds_cons (ds_for (passes_of rfl) rfl (di_seq (d_V (d_slice (g_name (pv 0)) (do_no) (do_so (d_const pe_int fun _=>.int _))))) (tg_name (i:=2) sc__law_draws.nd rfl (.inl rfl)) (ds_cons (ds_set (i:=3) sc__law_draws.nd rfl (.inl rfl) (d_callB (b_abs) rfl g.n_abs rfl (gs_cons (g_name (pv 2)) (gs_nil))))
  (ds_one (ds_if (d_cmpT ot_ge (g_name (pv 3)) (g_e (d_bin ot_pow (g_e (d_const pe_int fun _=>.int _)) (g_e (d_const pe_int fun _=>.int _))))) (ds_one (ds_for (passes_of rfl) rfl (di_range1 rfl g.n_range (gs_cons (g_e (d_const pe_int fun _=>.int _)) (gs_nil))) (tg_name (i:=4) sc__law_draws.nd rfl (.inl rfl)) (ds_one (ds_if (d_cmpT ot_gt (g_name (pv 3)) (g_e (d_const pe_int fun _=>.int _))) (ds_cons (ds_expr (d_app (pv 1) (d_bin ot_mod (g_e (d_callTy (b_int) rfl g.n_int rfl (gs_cons (g_name (pv 3)) (gs_nil)))) (g_e (d_const pe_int fun _=>.int _)))))
  (ds_one (ds_set (i:=3) sc__law_draws.nd rfl (.inl rfl) (d_bin ot_div (g_name (pv 3)) (g_e (d_const pe_int fun _=>.int _)))))) (ds_nil))))) (ds_cons (ds_set (i:=5) sc__law_draws.nd rfl (.inl rfl) (d_bin ot_mod (g_e (d_callTy (b_int) rfl g.n_int rfl (gs_cons (g_e (d_bin ot_add (g_e (d_bin ot_mul (g_name (pv 3)) (g_e (d_const pe_int fun _=>.int _)))) (g_e (d_const pe_int fun _=>.int _)))) (gs_nil)))) (g_e (d_const pe_int fun _=>.int _))))
  (ds_one (ds_for (passes_of rfl) rfl (di_range1 rfl g.n_range (gs_cons (g_e (d_const pe_int fun _=>.int _)) (gs_nil))) (tg_name (i:=4) sc__law_draws.nd rfl (.inl rfl)) (ds_cons (ds_set (i:=5) sc__law_draws.nd rfl (.inl rfl) (d_bin ot_mod (g_e (d_callTy (b_int) rfl g.n_int rfl (gs_cons (g_e (d_bin ot_add (g_e (d_bin ot_add (g_e (d_bin ot_mul (g_name (pv 5)) (g_e (d_const pe_int fun _=>.int _)))) (g_e (d_bin ot_mul (g_e (d_const pe_int fun _=>.int _)) (g_name (pv 4)))))) (g_e (d_const pe_int fun _=>.int _)))) (gs_nil)))) (g_e (d_const pe_int fun _=>.int _))))
  (ds_one (ds_expr (d_app (pv 1) (d_bin ot_div (g_name (pv 5)) (g_e (d_const pe_int fun _=>.int _))))))))))))))
  (ds_one (ds_ret (d_mv (pv 1)))))
theorem sc__law_limits_right:FnScope N__law_limits_right [] (defScope s__law_limits_right):=⟨rfl,rfl,rfl,by decide +kernel,rfl,by decide +kernel,by decide +kernel⟩
theorem d__law_limits_right (g:Gs mg K P C) (I:FunIn K mg "_law_limits_right" s__law_limits_right [])  : Def P w K mg base "_law_limits_right" 1 F__law_limits_right:=
  df_mk I sc__law_limits_right (by decide) (kp:=kp__law_limits_right) (g:=f__law_limits_right) rfl fun f cdv A outer s H E hr=>
  ds_cons (ds_set (i:=0) sc__law_limits_right.nd rfl (.inl rfl) (d_lst (gs_cons (g_e (d_glob g.c_MAX_JOINTS rfl)) (gs_cons (g_e (d_glob g.c_MAX_BARS rfl)) (gs_cons (g_e (d_glob g.c_MAX_PLACE rfl)) (gs_cons (g_e (d_glob g.c_MAX_NAME rfl)) (gs_cons (g_e (d_glob g.c_MAX_FORCE rfl)) (gs_cons (g_e (d_glob g.c_MAX_TEXT rfl)) (gs_cons (g_e (d_glob g.c_MAX_NUMBER rfl)) (gs_cons (g_e (d_glob g.c_MAX_ROWS rfl)) (gs_cons (g_e (d_glob g.c_MAX_COST rfl)) (gs_cons (g_e (d_glob g.c_MAX_CASES rfl)) (gs_nil)))))))))))))
  (ds_cons (ds_set (i:=0) sc__law_limits_right.nd rfl (.inl rfl) (d_bin ot_addA (g_name (pv 0)) (g_e (d_lst (gs_cons (g_e (d_glob g.c_MAX_KEPT rfl)) (gs_cons (g_e (d_glob g.c_MAX_AWAY rfl)) (gs_cons (g_e (d_glob g.c_MAX_STRONG rfl)) (gs_cons (g_e (d_glob g.c_MAX_LINES rfl)) (gs_cons (g_e (d_glob g.c_MAX_BRACES rfl)) (gs_cons (g_e (d_glob g.c_MAX_PROPS rfl)) (gs_cons (g_e (d_glob g.c_MAX_BLOCKS rfl)) (gs_cons (g_e (d_glob g.c_MAX_JOBS rfl)) (gs_cons (g_e (d_glob g.c_MAX_PIECES rfl)) (gs_cons (g_e (d_glob g.c_MAX_LENGTH rfl)) (gs_nil)))))))))))))))
  (ds_cons (ds_set (i:=0) sc__law_limits_right.nd rfl (.inl rfl) (d_bin ot_addA (g_name (pv 0)) (g_e (d_lst (gs_cons (g_e (d_glob g.c_MAX_LOG rfl)) (gs_cons (g_e (d_glob g.c_MAX_SIDE rfl)) (gs_cons (g_e (d_glob g.c_MAX_DEPTH rfl)) (gs_cons (g_e (d_glob g.c_MAX_DIGITS rfl)) (gs_cons (g_e (d_glob g.c_MAX_CRANES rfl)) (gs_cons (g_e (d_glob g.c_MAX_LIFTS rfl)) (gs_cons (g_e (d_glob g.c_MAX_VAULT rfl)) (gs_cons (g_e (d_glob g.c_MAX_LOADS rfl)) (gs_nil)))))))))))))
  (ds_cons (ds_set (i:=1) sc__law_limits_right.nd rfl (.inl rfl) (d_lst (gs_cons (g_e (d_const pe_int fun _=>.int _)) (gs_cons (g_e (d_const pe_int fun _=>.int _)) (gs_cons (g_e (d_const pe_int fun _=>.int _)) (gs_cons (g_e (d_const pe_int fun _=>.int _)) (gs_cons (g_e (d_const pe_int fun _=>.int _)) (gs_cons (g_e (d_const pe_int fun _=>.int _)) (gs_cons (g_e (d_const pe_int fun _=>.int _)) (gs_cons (g_e (d_const pe_int fun _=>.int _)) (gs_cons (g_e (d_const pe_int fun _=>.int _)) (gs_cons (g_e (d_const pe_int fun _=>.int _)) (gs_cons (g_e (d_const pe_int fun _=>.int _)) (gs_cons (g_e (d_const pe_int fun _=>.int _)) (gs_cons (g_e (d_const pe_int fun _=>.int _)) (gs_cons (g_e (d_const pe_int fun _=>.int _)) (gs_cons (g_e (d_const pe_int fun _=>.int _)) (gs_cons (g_e (d_const pe_int fun _=>.int _)) (gs_cons (g_e (d_const pe_int fun _=>.int _)) (gs_cons (g_e (d_const pe_int fun _=>.int _)) (gs_cons (g_e (d_const pe_int fun _=>.int _)) (gs_cons (g_e (d_const pe_int fun _=>.int _)) (gs_cons (g_e (d_const pe_int fun _=>.int _)) (gs_cons (g_e (d_const pe_int fun _=>.int _)) (gs_cons (g_e (d_const pe_int fun _=>.int _)) (gs_cons (g_e (d_const pe_int fun _=>.int _)) (gs_cons (g_e (d_const pe_int fun _=>.int _)) (gs_cons (g_e (d_const pe_int fun _=>.int _)) (gs_cons (g_e (d_const pe_int fun _=>.int _)) (gs_cons (g_e (d_const pe_int fun _=>.int _)) (gs_nil)))))))))))))))))))))))))))))))
  (ds_one (ds_ret (d_cmp (ot_eq hr.un) (g_e (d_callB (b_repr hr) rfl g.n_repr rfl (gs_cons (g_name (pv 0)) (gs_nil)))) (g_e (d_callB (b_repr hr) rfl g.n_repr rfl (gs_cons (g_name (pv 1)) (gs_nil))))))))))
theorem sc__law_more:FnScope N__law_more ["draws","place"] (defScope s__law_more):=⟨rfl,rfl,rfl,by decide +kernel,rfl,by decide +kernel,by decide +kernel⟩
theorem d__law_more (g:Gs mg K P C) (I:FunIn K mg "_law_more" s__law_more ["draws","place"])  : Def P w K mg base "_law_more" 1 F__law_more:=
  df_mk I sc__law_more (by decide) (kp:=kp__law_more) (g:=f__law_more) rfl fun f cdv A outer s H E hr=>
  ds_cons (ds_set (i:=2) sc__law_more.nd rfl (.inl rfl) (d_bin ot_mod (g_e (d_callTy (b_int) rfl g.n_int rfl (gs_cons (g_e (d_bin ot_add (g_e (d_bin ot_add (g_e (d_bin ot_mul (g_name (pv 1)) (g_e (d_const pe_int fun _=>.int _)))) (g_e (d_callB (b_len) rfl g.n_len rfl (gs_cons (g_name (pv 0)) (gs_nil)))))) (g_e (d_const pe_int fun _=>.int _)))) (gs_nil)))) (g_e (d_const pe_int fun _=>.int _))))
  (ds_cons (ds_for (passes_of rfl) rfl (di_range1 rfl g.n_range (gs_cons (g_e (d_const pe_int fun _=>.int _)) (gs_nil))) (tg_name (i:=3) sc__law_more.nd rfl (.inl rfl)) (ds_cons (ds_if (d_truth (g_name (pv 0))) (ds_one (ds_set (i:=2) sc__law_more.nd rfl (.inl rfl) (d_bin ot_add (g_name (pv 2)) (g_e (d_ix (g_name (pv 0)) (g_e (d_bin ot_mod (g_e (d_callTy (b_int) rfl g.n_int rfl (gs_cons (g_e (d_bin ot_add (g_e (d_bin ot_mul (g_name (pv 1)) (g_e (d_bin ot_add (g_name (pv 3)) (g_e (d_const pe_int fun _=>.int _)))))) (g_name (pv 3)))) (gs_nil)))) (g_e (d_callB (b_len) rfl g.n_len rfl (gs_cons (g_name (pv 0)) (gs_nil))))))))))) (ds_nil))
  (ds_one (ds_set (i:=2) sc__law_more.nd rfl (.inl rfl) (d_bin ot_mod (g_e (d_callTy (b_int) rfl g.n_int rfl (gs_cons (g_e (d_bin ot_add (g_e (d_bin ot_add (g_e (d_bin ot_mul (g_name (pv 2)) (g_e (d_const pe_int fun _=>.int _)))) (g_e (d_bin ot_mul (g_e (d_const pe_int fun _=>.int _)) (g_name (pv 3)))))) (g_e (d_const pe_int fun _=>.int _)))) (gs_nil)))) (g_e (d_const pe_int fun _=>.int _)))))))
  (ds_one (ds_ret (d_bin ot_div (g_name (pv 2)) (g_e (d_const pe_int fun _=>.int _))))))
theorem sc__law_take:FnScope N__law_take ["draws","at","many"] (defScope s__law_take):=⟨rfl,rfl,rfl,by decide +kernel,rfl,by decide +kernel,by decide +kernel⟩
theorem d__law_take (g:Gs mg K P C) (I:FunIn K mg "_law_take" s__law_take ["draws","at","many"]) (d__law_more:Def P w K mg base "_law_more" 1 F__law_more):Def P w K mg base "_law_take" 2 F__law_take:=
  df_mk I sc__law_take (by decide) (kp:=kp__law_take) (g:=f__law_take) rfl fun f cdv A outer s H E hr=>
  ds_cons (ds_set (i:=3) sc__law_take.nd rfl (.inl rfl) (d_ix (g_name (pv 1)) (g_e (d_const pe_int fun _=>.int _))))
  (ds_cons (ds_sub (pv 1) (d_const pe_int fun _=>.int _) (d_bin ot_add (g_name (pv 3)) (g_e (d_const pe_int fun _=>.int _))))
  (ds_one (ds_ret (d_bin ot_mod (g_e (d_callTy (b_int) rfl g.n_int rfl (gs_cons (g_e (d_ifE (d_cmpT ot_lt (g_name (pv 3)) (g_e (d_callB (b_len) rfl g.n_len rfl (gs_cons (g_name (pv 0)) (gs_nil))))) (d_ix (g_name (pv 0)) (g_name (pv 3))) (d_call (d__law_more.mono (by decide)) hr rfl (takes_of rfl rfl rfl rfl) (gs_cons (g_name (pv 0)) (gs_cons (g_name (pv 3)) (gs_nil)))))) (gs_nil)))) (g_name (pv 2))))))
theorem sc__law_one:FnScope N__law_one ["rows","draws","at"] (defScope s__law_one):=⟨rfl,rfl,rfl,by decide +kernel,rfl,by decide +kernel,by decide +kernel⟩
theorem d__law_one (g:Gs mg K P C) (I:FunIn K mg "_law_one" s__law_one ["rows","draws","at"]) (d__law_take:Def P w K mg base "_law_take" 2 F__law_take):Def P w K mg base "_law_one" 3 F__law_one:=
  df_mk I sc__law_one (by decide) (kp:=kp__law_one) (g:=f__law_one) rfl fun f cdv A outer s H E hr=>
  ds_one (ds_ret (d_ix (g_name (pv 0)) (g_e (d_call (d__law_take.mono (by decide)) hr rfl (takes_of rfl rfl rfl rfl) (gs_cons (g_name (pv 1)) (gs_cons (g_name (pv 2)) (gs_cons (g_e (d_callB (b_len) rfl g.n_len rfl (gs_cons (g_name (pv 0)) (gs_nil)))) (gs_nil))))))))
theorem sc__law_raise:FnScope N__law_raise ["k","one","other"] (defScope s__law_raise):=⟨rfl,rfl,rfl,by decide +kernel,rfl,by decide +kernel,by decide +kernel⟩
theorem d__law_raise (g:Gs mg K P C) (I:FunIn K mg "_law_raise" s__law_raise ["k","one","other"])  : Def P w K mg base "_law_raise" 1 (F__law_raise C):=
  df_mk I sc__law_raise (by decide) (kp:=kp__law_raise) (g:=f__law_raise C) rfl fun f cdv A outer s H E hr=>
  ds_cons (ds_if (d_cmpT (ot_eq hr.un) (g_name (pv 0)) (g_e (d_const pe_int fun _=>.int _))) (ds_one (ds_raiseX rfl g.t_ArgumentError g.k_ArgumentError (by decide) (by decide +kernel) (by decide +kernel) (by decide) hr (takes_of rfl rfl rfl rfl) (gs_cons (g_e (d_var (pv 1))) (gs_nil)) rfl)) (ds_nil))
  (ds_cons (ds_if (d_cmpT (ot_eq hr.un) (g_name (pv 0)) (g_e (d_const pe_int fun _=>.int _))) (ds_one (ds_raiseX rfl g.t_CheckError g.k_CheckError (by decide) (by decide +kernel) (by decide +kernel) (by decide) hr (takes_of rfl rfl rfl rfl) (gs_cons (g_e (d_var (pv 1))) (gs_nil)) rfl)) (ds_nil))
  (ds_cons (ds_if (d_cmpT (ot_eq hr.un) (g_name (pv 0)) (g_e (d_const pe_int fun _=>.int _))) (ds_one (ds_raiseX rfl g.t_PaperError g.k_PaperError (by decide) (by decide +kernel) (by decide +kernel) (by decide) hr (takes_of rfl rfl rfl rfl) (gs_cons (g_e (d_var (pv 1))) (gs_nil)) rfl)) (ds_nil))
  (ds_cons (ds_if (d_cmpT (ot_eq hr.un) (g_name (pv 0)) (g_e (d_const pe_int fun _=>.int _))) (ds_one (ds_raiseX rfl g.t_SiteError g.k_SiteError (by decide) (by decide +kernel) (by decide +kernel) (by decide) hr (takes_of rfl rfl rfl rfl) (gs_cons (g_e (d_var (pv 1))) (gs_nil)) rfl)) (ds_nil))
  (ds_cons (ds_if (d_cmpT (ot_eq hr.un) (g_name (pv 0)) (g_e (d_const pe_int fun _=>.int _))) (ds_one (ds_raiseX rfl g.t_TooMany g.k_TooMany (by decide) (by decide +kernel) (by decide +kernel) (by decide) hr (takes_of rfl rfl rfl rfl) (gs_cons (g_e (d_var (pv 1))) (gs_nil)) rfl)) (ds_nil))
  (ds_cons (ds_if (d_cmpT (ot_eq hr.un) (g_name (pv 0)) (g_e (d_const pe_int fun _=>.int _))) (ds_one (ds_raiseX rfl g.t_TextError g.k_TextError (by decide) (by decide +kernel) (by decide +kernel) (by decide) hr (takes_of rfl rfl rfl rfl) (gs_cons (g_e (d_var (pv 1))) (gs_nil)) rfl)) (ds_nil))
  (ds_cons (ds_if (d_cmpT (ot_eq hr.un) (g_name (pv 0)) (g_e (d_const pe_int fun _=>.int _))) (ds_one (ds_raiseX rfl g.t_LogError g.k_LogError (by decide) (by decide +kernel) (by decide +kernel) (by decide) hr (takes_of rfl rfl rfl rfl) (gs_cons (g_e (d_var (pv 1))) (gs_cons (g_e (d_var (pv 2))) (gs_nil))) rfl)) (ds_nil))
  (ds_one (ds_raiseX rfl g.t_CommandError g.k_CommandError (by decide) (by decide +kernel) (by decide +kernel) (by decide) hr (takes_of rfl rfl rfl rfl) (gs_cons (g_e (d_var (pv 1))) (gs_nil)) rfl))))))))
theorem sc__law_kinds:FnScope N__law_kinds ["e"] (defScope s__law_kinds):=⟨rfl,rfl,rfl,by decide +kernel,rfl,by decide +kernel,by decide +kernel⟩
theorem d__law_kinds (g:Gs mg K P C) (I:FunIn K mg "_law_kinds" s__law_kinds ["e"])  : DefK P w K mg base "_law_kinds" 1 (F__law_kinds C):=
  dk_mk I sc__law_kinds rfl rfl fun f cdv p A outer s H E B dd bs fs Q hz hf hd ht hq=>
  pss_asks sc__law_kinds.nd rfl (.inl rfl) (.cons (asks_one C.is_ArgumentError List.mem_cons_self g.i_ArgumentError (pv 0) rfl g.k_ArgumentError rfl g.n_isinstance) (.cons (asks_one C.is_CheckError List.mem_cons_self g.i_CheckError (pv 0) rfl g.k_CheckError rfl g.n_isinstance) (.cons (asks_one C.is_PaperError List.mem_cons_self g.i_PaperError (pv 0) rfl g.k_PaperError rfl g.n_isinstance) (.cons (asks_one C.is_SiteError List.mem_cons_self g.i_SiteError (pv 0) rfl g.k_SiteError rfl g.n_isinstance) (.cons (asks_one C.is_TooMany List.mem_cons_self g.i_TooMany (pv 0) rfl g.k_TooMany rfl g.n_isinstance) .nil))))) (.cons (asks_one C.is_TextError List.mem_cons_self g.i_TextError (pv 0) rfl g.k_TextError rfl g.n_isinstance) (.cons (asks_one C.is_LogError List.mem_cons_self g.i_LogError (pv 0) rfl g.k_LogError rfl g.n_isinstance) (.cons (asks_one C.is_CommandError List.mem_cons_self g.i_CommandError (pv 0) rfl g.k_CommandError rfl g.n_isinstance) .nil))) (pv 1) hz hf hd ht (by show 5 + 3≤sizeLine; decide) hq
theorem sc__law_caught:FnScope N__law_caught ["k","one","other"] (defScope s__law_caught):=⟨rfl,rfl,rfl,by decide +kernel,rfl,by decide +kernel,by decide +kernel⟩
theorem d__law_caught (g:Gs mg K P C) (I:FunIn K mg "_law_caught" s__law_caught ["k","one","other"]) (d__law_raise:Def P w K mg base "_law_raise" 1 (F__law_raise C)) (d__law_kinds:DefK P w K mg base "_law_kinds" 1 (F__law_kinds C)):Def P w K mg base "_law_caught" 2 (F__law_caught C):=
  df_mk I sc__law_caught (by decide) (kp:=kp__law_caught) (g:=f__law_caught C) rfl fun f cdv A outer s H E hr=>
  ds_cons (ds_try1 (i:=3) (m:=C.m_FrameError) rfl rfl sc__law_caught.nd rfl rfl ⟨rfl,by decide,.inl g.k_FrameError⟩ (takes_of rfl rfl rfl rfl) g.m_FrameError (fun W pn xe tk po=>ds_one (ds_expr (d_call (d__law_raise.mono (by decide)) hr rfl tk (gs_cons (g_name (pv 0)) (gs_cons (g_name (pv 1)) (gs_cons (g_name (pv 2)) (gs_nil))))))) (su_ask d__law_kinds hr rfl (pb_isB C.is_FrameError g.iv_ValueError (fun _ _=>pv 3) rfl g.n_ValueError rfl rfl g.n_isinstance) (fun _ _=>pv 3)))
  (ds_one (ds_ret (d_lst (gs_nil))))
theorem sc__law_fields:FnScope N__law_fields ["k","one","other"] (defScope s__law_fields):=⟨rfl,rfl,rfl,by decide +kernel,rfl,by decide +kernel,by decide +kernel⟩
theorem d__law_fields (g:Gs mg K P C) (I:FunIn K mg "_law_fields" s__law_fields ["k","one","other"]) (d__law_raise:Def P w K mg base "_law_raise" 1 (F__law_raise C)):Def P w K mg base "_law_fields" 2 (F__law_fields C):=
  df_mk I sc__law_fields (by decide) (kp:=kp__law_fields) (g:=f__law_fields C) rfl fun f cdv A outer s H E hr=>
  ds_cons (ds_tryN rfl rfl sc__law_fields.nd (takes_of rfl rfl rfl rfl) (fun W pn xe tk po=>ds_one (ds_expr (d_call (d__law_raise.mono (by decide)) hr rfl tk (gs_cons (g_name (pv 0)) (gs_cons (g_name (pv 1)) (gs_cons (g_name (pv 2)) (gs_nil))))))) (.named (i:=3) (m:=C.m_ArgumentError) ⟨rfl,by decide,.inl g.k_ArgumentError⟩ rfl rfl g.m_ArgumentError rfl (su_ret (px_tup (pa_cons (px_attr C.cs_reason g.x_reason (fun _ _=>pv 3)) (pa_nil)))) (.named (i:=3) (m:=C.m_CheckError) ⟨rfl,by decide,.inl g.k_CheckError⟩ rfl rfl g.m_CheckError rfl (su_ret (px_tup (pa_cons (px_attr C.cs_reason g.x_reason (fun _ _=>pv 3)) (pa_nil)))) (.named (i:=3) (m:=C.m_PaperError) ⟨rfl,by decide,.inl g.k_PaperError⟩ rfl rfl g.m_PaperError rfl (su_ret (px_tup (pa_cons (px_attr C.cs_reason g.x_reason (fun _ _=>pv 3)) (pa_nil)))) (.named (i:=3) (m:=C.m_SiteError) ⟨rfl,by decide,.inl g.k_SiteError⟩ rfl rfl g.m_SiteError rfl (su_ret (px_tup (pa_cons (px_attr C.cs_reason g.x_reason (fun _ _=>pv 3)) (pa_nil)))) (.named (i:=3) (m:=C.m_TooMany) ⟨rfl,by decide,.inl g.k_TooMany⟩ rfl rfl g.m_TooMany rfl (su_ret (px_tup (pa_cons (px_attr C.cs_reason g.x_reason (fun _ _=>pv 3)) (pa_nil)))) (.named (i:=3) (m:=C.m_TextError) ⟨rfl,by decide,.inl g.k_TextError⟩ rfl rfl g.m_TextError rfl (su_ret (px_tup (pa_cons (px_attr C.cs_at g.x_at (fun _ _=>pv 3)) (pa_nil)))) (.named (i:=3) (m:=C.m_LogError) ⟨rfl,by decide,.inl g.k_LogError⟩ rfl rfl g.m_LogError rfl (su_ret (px_tup (pa_cons (px_attr C.cs_number g.x_number (fun _ _=>pv 3)) (pa_cons (px_attr C.cs_reason g.x_reason (fun _ _=>pv 3)) (pa_nil))))) (.named (i:=3) (m:=C.m_CommandError) ⟨rfl,by decide,.inl g.k_CommandError⟩ rfl rfl g.m_CommandError rfl (su_ret (px_tup (pa_cons (px_attr C.cs_line g.x_line (fun _ _=>pv 3)) (pa_nil)))) .nil)))))))))
  (ds_one (ds_ret (d_const pe_non fun _=>.non)))
theorem sc_law:FnScope N_law ["script"] (defScope s_law):=⟨rfl,rfl,rfl,by decide +kernel,rfl,by decide +kernel,by decide +kernel⟩
theorem fn_law (g:Gs mg K P C) {f:Addr} {fd:FuncData} (I:Fun K "law" "law" s_law f fd) (d__law_draws:Def P w K mg base "_law_draws" 1 F__law_draws) (d__law_limits_right:Def P w K mg base "_law_limits_right" 1 F__law_limits_right) (d__law_one:Def P w K mg base "_law_one" 3 F__law_one) (d__law_caught:Def P w K mg base "_law_caught" 2 (F__law_caught C)) (d__law_fields:Def P w K mg base "_law_fields" 2 (F__law_fields C)):FnG P w K mg base 4 f fd ["script"] (spF K (F_law C)):=
  dfn_mk I sc_law (by decide) (kp:=kp_law) (g:=f_law C) rfl fun f cdv A outer s H E hr=>
  ds_cons (ds_set (i:=1) sc_law.nd rfl (.inl rfl) (d_call (d__law_draws.mono (by decide)) hr rfl (takes_of rfl rfl rfl rfl) (gs_cons (g_name (pv 0)) (gs_nil))))
  (ds_cons (ds_set (i:=2) sc_law.nd rfl (.inl rfl) (d_lst (gs_cons (g_e (d_const pe_int fun _=>.int _)) (gs_nil))))
  (ds_cons (ds_if (d_not (d_val (d_call0 (d__law_limits_right.mono (by decide)) hr rfl (takes_of rfl rfl rfl rfl)))) (ds_one (ds_ret (d_const pe_bl fun _=>.bl _))) (ds_nil))
  (ds_cons (ds_set (i:=3) sc_law.nd rfl (.inl rfl) (d_lst (gs_cons (g_e (d_const pe_str fun _=>.str _)) (gs_cons (g_e (d_const pe_str fun _=>.str _)) (gs_cons (g_e (d_const pe_str fun _=>.str _)) (gs_cons (g_e (d_const pe_int fun _=>.int _)) (gs_cons (g_e (d_const pe_int fun _=>.int _)) (gs_cons (g_e (d_un ut_neg (g_e (d_const pe_int fun _=>.int _)))) (gs_cons (g_e (d_const pe_non fun _=>.non)) (gs_cons (g_e (d_tup (gs_cons (g_e (d_const pe_str fun _=>.str _)) (gs_cons (g_e (d_const pe_int fun _=>.int _)) (gs_nil))))) (gs_cons (g_e (d_const pe_str fun _=>.str _)) (gs_cons (g_e (d_const pe_bl fun _=>.bl _)) (gs_nil)))))))))))))
  (ds_cons (ds_pw1 (ds_for (passes_of rfl) rfl (di_range1 rfl g.n_range (gs_cons (g_e (d_const pe_int fun _=>.int _)) (gs_nil))) (tg_name (i:=4) sc_law.nd rfl (.inr rfl)) (ds_wps (ds_cons (ds_par (i:=5) (j:=6) rfl sc_law.nd rfl rfl (by decide) rfl rfl (gs_cons (g_e (d_V (d_call (d__law_one.mono (by decide)) hr rfl (takes_of rfl rfl rfl rfl) (gs_cons (g_name (pv 3)) (gs_cons (g_name (pv 1)) (gs_cons (g_name (pv 2)) (gs_nil))))))) (gs_cons (g_e (d_V (d_call (d__law_one.mono (by decide)) hr rfl (takes_of rfl rfl rfl rfl) (gs_cons (g_name (pv 3)) (gs_cons (g_name (pv 1)) (gs_cons (g_name (pv 2)) (gs_nil))))))) (gs_nil))) rfl)
  (ds_cons (ds_if (d_cmpT (ot_ne hr.un) (g_e (d_call (d__law_caught.mono (by decide)) hr rfl (takes_of rfl rfl rfl rfl) (gs_cons (g_name (pv 4)) (gs_cons (g_name (pv 5)) (gs_cons (g_name (pv 6)) (gs_nil)))))) (g_e (d_lc rfl sc_law.nd (di_range1 rfl g.n_range (gs_cons (g_e (d_const pe_int fun _=>.int _)) (gs_nil))) (blkOk_by (N:=N_law) (sc:=defScope s_law) (own:=[(("j" : Str),7)]) (by decide +kernel)) rfl (fun s H C cl fp=>tg_name (i:=7) sc_law.nd rfl (.inl rfl)) (fun s H C cl fp=>ts_nil) (fun s H C cl fp=>d_cmp (ot_eq hr.un) (g_name (pv 7)) (g_name (pv 4)))))) (ds_one (ds_ret (d_const pe_bl fun _=>.bl _))) (ds_nil))
  (ds_one (ds_if (d_cmpT (ot_ne hr.un) (g_e (d_callB (b_repr hr) rfl g.n_repr rfl (gs_cons (g_e (d_call (d__law_fields.mono (by decide)) hr rfl (takes_of rfl rfl rfl rfl) (gs_cons (g_name (pv 4)) (gs_cons (g_name (pv 5)) (gs_cons (g_name (pv 6)) (gs_nil)))))) (gs_nil)))) (g_e (d_callB (b_repr hr) rfl g.n_repr rfl (gs_cons (g_e (d_ifE (d_cmpT (ot_eq hr.un) (g_name (pv 4)) (g_e (d_const pe_int fun _=>.int _))) (d_tup (gs_cons (g_e (d_var (pv 5))) (gs_cons (g_e (d_var (pv 6))) (gs_nil)))) (d_tup (gs_cons (g_e (d_var (pv 5))) (gs_nil))))) (gs_nil))))) (ds_one (ds_ret (d_const pe_bl fun _=>.bl _))) (ds_nil))))))))
  (ds_one (ds_ret (d_const pe_bl fun _=>.bl _)))))))
end
end K00
namespace DL
open PySem PySem.Spec PyProof.Rows L2
end DL
set_option maxHeartbeats 1000000
set_option pp.maxSteps 300
namespace K00
open PySem PySem.Spec PyProof.Rows L2 DL
def Rs:List Ec:=[.CommandError,.ArgumentError,.CheckError,.PaperError,.SiteError,.TooMany,.TextError,.LogError]
def hit_ArgumentError:Ec→Bool:=fun k=>[Ec.ArgumentError].contains k
theorem hm_ArgumentError {C:Cl} (hC:CF C) (k:Ec) (h:k ∈ Rs):C.m_ArgumentError.lookup (C.ad k) = some (hit_ArgumentError k):=by
  simp only [Rs,List.mem_cons,List.not_mem_nil,or_false] at h
  rcases h with rfl | rfl | rfl | rfl | rfl | rfl | rfl | rfl
  all_goals first | exact hC.m_ArgumentError_CommandError | exact hC.m_ArgumentError_ArgumentError | exact hC.m_ArgumentError_CheckError | exact hC.m_ArgumentError_PaperError | exact hC.m_ArgumentError_SiteError | exact hC.m_ArgumentError_TooMany | exact hC.m_ArgumentError_TextError | exact hC.m_ArgumentError_LogError
def hit_CheckError:Ec→Bool:=fun k=>[Ec.CheckError].contains k
theorem hm_CheckError {C:Cl} (hC:CF C) (k:Ec) (h:k ∈ Rs):C.m_CheckError.lookup (C.ad k) = some (hit_CheckError k):=by
  simp only [Rs,List.mem_cons,List.not_mem_nil,or_false] at h
  rcases h with rfl | rfl | rfl | rfl | rfl | rfl | rfl | rfl
  all_goals first | exact hC.m_CheckError_CommandError | exact hC.m_CheckError_ArgumentError | exact hC.m_CheckError_CheckError | exact hC.m_CheckError_PaperError | exact hC.m_CheckError_SiteError | exact hC.m_CheckError_TooMany | exact hC.m_CheckError_TextError | exact hC.m_CheckError_LogError
def hit_CommandError:Ec→Bool:=fun k=>[Ec.CommandError].contains k
theorem hm_CommandError {C:Cl} (hC:CF C) (k:Ec) (h:k ∈ Rs):C.m_CommandError.lookup (C.ad k) = some (hit_CommandError k):=by
  simp only [Rs,List.mem_cons,List.not_mem_nil,or_false] at h
  rcases h with rfl | rfl | rfl | rfl | rfl | rfl | rfl | rfl
  all_goals first | exact hC.m_CommandError_CommandError | exact hC.m_CommandError_ArgumentError | exact hC.m_CommandError_CheckError | exact hC.m_CommandError_PaperError | exact hC.m_CommandError_SiteError | exact hC.m_CommandError_TooMany | exact hC.m_CommandError_TextError | exact hC.m_CommandError_LogError
def hit_LogError:Ec→Bool:=fun k=>[Ec.LogError].contains k
theorem hm_LogError {C:Cl} (hC:CF C) (k:Ec) (h:k ∈ Rs):C.m_LogError.lookup (C.ad k) = some (hit_LogError k):=by
  simp only [Rs,List.mem_cons,List.not_mem_nil,or_false] at h
  rcases h with rfl | rfl | rfl | rfl | rfl | rfl | rfl | rfl
  all_goals first | exact hC.m_LogError_CommandError | exact hC.m_LogError_ArgumentError | exact hC.m_LogError_CheckError | exact hC.m_LogError_PaperError | exact hC.m_LogError_SiteError | exact hC.m_LogError_TooMany | exact hC.m_LogError_TextError | exact hC.m_LogError_LogError
def hit_PaperError:Ec→Bool:=fun k=>[Ec.PaperError].contains k
theorem hm_PaperError {C:Cl} (hC:CF C) (k:Ec) (h:k ∈ Rs):C.m_PaperError.lookup (C.ad k) = some (hit_PaperError k):=by
  simp only [Rs,List.mem_cons,List.not_mem_nil,or_false] at h
  rcases h with rfl | rfl | rfl | rfl | rfl | rfl | rfl | rfl
  all_goals first | exact hC.m_PaperError_CommandError | exact hC.m_PaperError_ArgumentError | exact hC.m_PaperError_CheckError | exact hC.m_PaperError_PaperError | exact hC.m_PaperError_SiteError | exact hC.m_PaperError_TooMany | exact hC.m_PaperError_TextError | exact hC.m_PaperError_LogError
def hit_SiteError:Ec→Bool:=fun k=>[Ec.SiteError].contains k
theorem hm_SiteError {C:Cl} (hC:CF C) (k:Ec) (h:k ∈ Rs):C.m_SiteError.lookup (C.ad k) = some (hit_SiteError k):=by
  simp only [Rs,List.mem_cons,List.not_mem_nil,or_false] at h
  rcases h with rfl | rfl | rfl | rfl | rfl | rfl | rfl | rfl
  all_goals first | exact hC.m_SiteError_CommandError | exact hC.m_SiteError_ArgumentError | exact hC.m_SiteError_CheckError | exact hC.m_SiteError_PaperError | exact hC.m_SiteError_SiteError | exact hC.m_SiteError_TooMany | exact hC.m_SiteError_TextError | exact hC.m_SiteError_LogError
def hit_TextError:Ec→Bool:=fun k=>[Ec.TextError].contains k
theorem hm_TextError {C:Cl} (hC:CF C) (k:Ec) (h:k ∈ Rs):C.m_TextError.lookup (C.ad k) = some (hit_TextError k):=by
  simp only [Rs,List.mem_cons,List.not_mem_nil,or_false] at h
  rcases h with rfl | rfl | rfl | rfl | rfl | rfl | rfl | rfl
  all_goals first | exact hC.m_TextError_CommandError | exact hC.m_TextError_ArgumentError | exact hC.m_TextError_CheckError | exact hC.m_TextError_PaperError | exact hC.m_TextError_SiteError | exact hC.m_TextError_TooMany | exact hC.m_TextError_TextError | exact hC.m_TextError_LogError
def hit_TooMany:Ec→Bool:=fun k=>[Ec.TooMany].contains k
theorem hm_TooMany {C:Cl} (hC:CF C) (k:Ec) (h:k ∈ Rs):C.m_TooMany.lookup (C.ad k) = some (hit_TooMany k):=by
  simp only [Rs,List.mem_cons,List.not_mem_nil,or_false] at h
  rcases h with rfl | rfl | rfl | rfl | rfl | rfl | rfl | rfl
  all_goals first | exact hC.m_TooMany_CommandError | exact hC.m_TooMany_ArgumentError | exact hC.m_TooMany_CheckError | exact hC.m_TooMany_PaperError | exact hC.m_TooMany_SiteError | exact hC.m_TooMany_TooMany | exact hC.m_TooMany_TextError | exact hC.m_TooMany_LogError
theorem hc_at_TextError {C:Cl} (hC:CF C) (k:Ec) (h:k ∈ Rs) (hh:hit_TextError k = true):C.cs_at.contains (C.ad k) = true:=by
  simp only [Rs,List.mem_cons,List.not_mem_nil,or_false] at h
  rcases h with rfl | rfl | rfl | rfl | rfl | rfl | rfl | rfl
  all_goals first | exact hC.cs_at_TextError | cases hh
theorem hc_line_CommandError {C:Cl} (hC:CF C) (k:Ec) (h:k ∈ Rs) (hh:hit_CommandError k = true):C.cs_line.contains (C.ad k) = true:=by
  simp only [Rs,List.mem_cons,List.not_mem_nil,or_false] at h
  rcases h with rfl | rfl | rfl | rfl | rfl | rfl | rfl | rfl
  all_goals first | exact hC.cs_line_CommandError | cases hh
theorem hc_number_LogError {C:Cl} (hC:CF C) (k:Ec) (h:k ∈ Rs) (hh:hit_LogError k = true):C.cs_number.contains (C.ad k) = true:=by
  simp only [Rs,List.mem_cons,List.not_mem_nil,or_false] at h
  rcases h with rfl | rfl | rfl | rfl | rfl | rfl | rfl | rfl
  all_goals first | exact hC.cs_number_LogError | cases hh
theorem hc_reason_ArgumentError {C:Cl} (hC:CF C) (k:Ec) (h:k ∈ Rs) (hh:hit_ArgumentError k = true):C.cs_reason.contains (C.ad k) = true:=by
  simp only [Rs,List.mem_cons,List.not_mem_nil,or_false] at h
  rcases h with rfl | rfl | rfl | rfl | rfl | rfl | rfl | rfl
  all_goals first | exact hC.cs_reason_ArgumentError | exact hC.cs_reason_CheckError | exact hC.cs_reason_PaperError | exact hC.cs_reason_SiteError | exact hC.cs_reason_TooMany | exact hC.cs_reason_LogError | cases hh
theorem hc_reason_CheckError {C:Cl} (hC:CF C) (k:Ec) (h:k ∈ Rs) (hh:hit_CheckError k = true):C.cs_reason.contains (C.ad k) = true:=by
  simp only [Rs,List.mem_cons,List.not_mem_nil,or_false] at h
  rcases h with rfl | rfl | rfl | rfl | rfl | rfl | rfl | rfl
  all_goals first | exact hC.cs_reason_ArgumentError | exact hC.cs_reason_CheckError | exact hC.cs_reason_PaperError | exact hC.cs_reason_SiteError | exact hC.cs_reason_TooMany | exact hC.cs_reason_LogError | cases hh
theorem hc_reason_LogError {C:Cl} (hC:CF C) (k:Ec) (h:k ∈ Rs) (hh:hit_LogError k = true):C.cs_reason.contains (C.ad k) = true:=by
  simp only [Rs,List.mem_cons,List.not_mem_nil,or_false] at h
  rcases h with rfl | rfl | rfl | rfl | rfl | rfl | rfl | rfl
  all_goals first | exact hC.cs_reason_ArgumentError | exact hC.cs_reason_CheckError | exact hC.cs_reason_PaperError | exact hC.cs_reason_SiteError | exact hC.cs_reason_TooMany | exact hC.cs_reason_LogError | cases hh
theorem hc_reason_PaperError {C:Cl} (hC:CF C) (k:Ec) (h:k ∈ Rs) (hh:hit_PaperError k = true):C.cs_reason.contains (C.ad k) = true:=by
  simp only [Rs,List.mem_cons,List.not_mem_nil,or_false] at h
  rcases h with rfl | rfl | rfl | rfl | rfl | rfl | rfl | rfl
  all_goals first | exact hC.cs_reason_ArgumentError | exact hC.cs_reason_CheckError | exact hC.cs_reason_PaperError | exact hC.cs_reason_SiteError | exact hC.cs_reason_TooMany | exact hC.cs_reason_LogError | cases hh
theorem hc_reason_SiteError {C:Cl} (hC:CF C) (k:Ec) (h:k ∈ Rs) (hh:hit_SiteError k = true):C.cs_reason.contains (C.ad k) = true:=by
  simp only [Rs,List.mem_cons,List.not_mem_nil,or_false] at h
  rcases h with rfl | rfl | rfl | rfl | rfl | rfl | rfl | rfl
  all_goals first | exact hC.cs_reason_ArgumentError | exact hC.cs_reason_CheckError | exact hC.cs_reason_PaperError | exact hC.cs_reason_SiteError | exact hC.cs_reason_TooMany | exact hC.cs_reason_LogError | cases hh
theorem hc_reason_TooMany {C:Cl} (hC:CF C) (k:Ec) (h:k ∈ Rs) (hh:hit_TooMany k = true):C.cs_reason.contains (C.ad k) = true:=by
  simp only [Rs,List.mem_cons,List.not_mem_nil,or_false] at h
  rcases h with rfl | rfl | rfl | rfl | rfl | rfl | rfl | rfl
  all_goals first | exact hC.cs_reason_ArgumentError | exact hC.cs_reason_CheckError | exact hC.cs_reason_PaperError | exact hC.cs_reason_SiteError | exact hC.cs_reason_TooMany | exact hC.cs_reason_LogError | cases hh
def t4_f__law_limits_right (h_:(List Int)) (n_:(List Int)):Bool:=
  ((rp (D.lst (h_.map D.int))) == (rp (D.lst (n_.map D.int))))
def o4_f__law_limits_right (h_:(List Int)) (n_:(List Int)):Prop:=
  ((D.lst (h_.map D.int)).shows = true)∧((D.lst (n_.map D.int)).shows = true)
abbrev qK3:=(fun (r:Bool)=>(T.val (D.bl r)))
abbrev qK4:=(fun (r:Bool) σ=>msk kp__law_limits_right 0 [] σ = [])
abbrev qK6:=(fun σ=>msk kp__law_limits_right 0 [] σ = [])
theorem x4_f__law_limits_right (C:Cl) (h_:(List Int)) (n_:(List Int)) (h:o4_f__law_limits_right h_ n_):Oq (α:=Unit) C qK3 qK4 qK6 (fun _ _=>False) Md.fn (S4_f__law_limits_right [some (T.lst (h_.map D.int)),some (T.lst (n_.map D.int))]) ((fun r=>Lr.rt (Except.ok r)) (t4_f__law_limits_right h_ n_)):=by
  exact (oq_last (oq_seqRet (oq_ret (σ1:=[some (T.lst (h_.map D.int)),some (T.lst (n_.map D.int))]) (r:=((rp (D.lst (h_.map D.int))) == (rp (D.lst (n_.map D.int))))) (x_B (t:=(T.val (D.str (rp (D.lst (h_.map D.int)))))) (u:=(T.val (D.str (rp (D.lst (n_.map D.int)))))) (x_gE (x_CB (ts:=[(T.lst (h_.map D.int))]) (x_cons (x_gN (t:=(T.lst (h_.map D.int))) rfl) x_nil) rfl (t_reprO h.1))) (x_gE (x_CB (ts:=[(T.lst (n_.map D.int))]) (x_cons (x_gN (t:=(T.lst (n_.map D.int))) rfl) x_nil) rfl (t_reprO h.2))) rfl rfl (t_eqS _ _)) rfl rfl)))
def t3_f__law_limits_right (h_:(List Int)):Bool:=
  (t4_f__law_limits_right h_ [(12:Int),(30:Int),(1000:Int),(12:Int),(1000000:Int),(6000:Int),(1000000000:Int),(12:Int),(1000000:Int),(8:Int),(8:Int),(3:Int),(12:Int),(12:Int),(60:Int),(3:Int),(12:Int),(10:Int),(20:Int),(200:Int),(200:Int),(3:Int),(100:Int),(60:Int),(8:Int),(8:Int),(8:Int),(12:Int)])
def o3_f__law_limits_right (h_:(List Int)):Prop:=
  o4_f__law_limits_right h_ [(12:Int),(30:Int),(1000:Int),(12:Int),(1000000:Int),(6000:Int),(1000000000:Int),(12:Int),(1000000:Int),(8:Int),(8:Int),(3:Int),(12:Int),(12:Int),(60:Int),(3:Int),(12:Int),(10:Int),(20:Int),(200:Int),(200:Int),(3:Int),(100:Int),(60:Int),(8:Int),(8:Int),(8:Int),(12:Int)]
theorem x3_f__law_limits_right (C:Cl) (h_:(List Int)) (i_:Option T) (h:o3_f__law_limits_right h_):Oq (α:=Unit) C qK3 qK4 qK6 (fun _ _=>False) Md.fn (S3_f__law_limits_right [some (T.lst (h_.map D.int)),i_]) ((fun r=>Lr.rt (Except.ok r)) (t3_f__law_limits_right h_)):=by
  exact (oq_asg (t:=(T.lst [(D.int (12:Int)),(D.int (30:Int)),(D.int (1000:Int)),(D.int (12:Int)),(D.int (1000000:Int)),(D.int (6000:Int)),(D.int (1000000000:Int)),(D.int (12:Int)),(D.int (1000000:Int)),(D.int (8:Int)),(D.int (8:Int)),(D.int (3:Int)),(D.int (12:Int)),(D.int (12:Int)),(D.int (60:Int)),(D.int (3:Int)),(D.int (12:Int)),(D.int (10:Int)),(D.int (20:Int)),(D.int (200:Int)),(D.int (200:Int)),(D.int (3:Int)),(D.int (100:Int)),(D.int (60:Int)),(D.int (8:Int)),(D.int (8:Int)),(D.int (8:Int)),(D.int (12:Int))])) (σ1:=[some (T.lst (h_.map D.int)),i_]) (x_CB (ts:=[(T.val (D.int (12:Int))),(T.val (D.int (30:Int))),(T.val (D.int (1000:Int))),(T.val (D.int (12:Int))),(T.val (D.int (1000000:Int))),(T.val (D.int (6000:Int))),(T.val (D.int (1000000000:Int))),(T.val (D.int (12:Int))),(T.val (D.int (1000000:Int))),(T.val (D.int (8:Int))),(T.val (D.int (8:Int))),(T.val (D.int (3:Int))),(T.val (D.int (12:Int))),(T.val (D.int (12:Int))),(T.val (D.int (60:Int))),(T.val (D.int (3:Int))),(T.val (D.int (12:Int))),(T.val (D.int (10:Int))),(T.val (D.int (20:Int))),(T.val (D.int (200:Int))),(T.val (D.int (200:Int))),(T.val (D.int (3:Int))),(T.val (D.int (100:Int))),(T.val (D.int (60:Int))),(T.val (D.int (8:Int))),(T.val (D.int (8:Int))),(T.val (D.int (8:Int))),(T.val (D.int (12:Int)))]) (x_cons (x_gE x_eC) (x_cons (x_gE x_eC) (x_cons (x_gE x_eC) (x_cons (x_gE x_eC) (x_cons (x_gE x_eC) (x_cons (x_gE x_eC) (x_cons (x_gE x_eC) (x_cons (x_gE x_eC) (x_cons (x_gE x_eC) (x_cons (x_gE x_eC) (x_cons (x_gE x_eC) (x_cons (x_gE x_eC) (x_cons (x_gE x_eC) (x_cons (x_gE x_eC) (x_cons (x_gE x_eC) (x_cons (x_gE x_eC) (x_cons (x_gE x_eC) (x_cons (x_gE x_eC) (x_cons (x_gE x_eC) (x_cons (x_gE x_eC) (x_cons (x_gE x_eC) (x_cons (x_gE x_eC) (x_cons (x_gE x_eC) (x_cons (x_gE x_eC) (x_cons (x_gE x_eC) (x_cons (x_gE x_eC) (x_cons (x_gE x_eC) (x_cons (x_gE x_eC) x_nil)))))))))))))))))))))))))))) rfl (t_lst (n:=28) (ds:=[(D.int (12:Int)),(D.int (30:Int)),(D.int (1000:Int)),(D.int (12:Int)),(D.int (1000000:Int)),(D.int (6000:Int)),(D.int (1000000000:Int)),(D.int (12:Int)),(D.int (1000000:Int)),(D.int (8:Int)),(D.int (8:Int)),(D.int (3:Int)),(D.int (12:Int)),(D.int (12:Int)),(D.int (60:Int)),(D.int (3:Int)),(D.int (12:Int)),(D.int (10:Int)),(D.int (20:Int)),(D.int (200:Int)),(D.int (200:Int)),(D.int (3:Int)),(D.int (100:Int)),(D.int (60:Int)),(D.int (8:Int)),(D.int (8:Int)),(D.int (8:Int)),(D.int (12:Int))]) rfl rfl (by decide))) (by have w:=x4_f__law_limits_right C h_ [(12:Int),(30:Int),(1000:Int),(12:Int),(1000000:Int),(6000:Int),(1000000000:Int),(12:Int),(1000000:Int),(8:Int),(8:Int),(3:Int),(12:Int),(12:Int),(60:Int),(3:Int),(12:Int),(10:Int),(20:Int),(200:Int),(200:Int),(3:Int),(100:Int),(60:Int),(8:Int),(8:Int),(8:Int),(12:Int)] h; exact w))
def t2_f__law_limits_right (h_:(List Int)):Bool:=
  (t3_f__law_limits_right (h_ ++ [(200:Int),(3:Int),(100:Int),(60:Int),(8:Int),(8:Int),(8:Int),(12:Int)]))
def o2_f__law_limits_right (h_:(List Int)):Prop:=
  (h_.length + [(200:Int),(3:Int),(100:Int),(60:Int),(8:Int),(8:Int),(8:Int),(12:Int)].length≤sizeLine)∧(o3_f__law_limits_right (h_ ++ [(200:Int),(3:Int),(100:Int),(60:Int),(8:Int),(8:Int),(8:Int),(12:Int)]))
theorem x2_f__law_limits_right (C:Cl) (h_:(List Int)) (i_:Option T) (h:o2_f__law_limits_right h_):Oq (α:=Unit) C qK3 qK4 qK6 (fun _ _=>False) Md.fn (S2_f__law_limits_right [some (T.lst (h_.map D.int)),i_]) ((fun r=>Lr.rt (Except.ok r)) (t2_f__law_limits_right h_)):=by
  exact (oq_asg (t:=(T.lst ((h_ ++ [(200:Int),(3:Int),(100:Int),(60:Int),(8:Int),(8:Int),(8:Int),(12:Int)]).map D.int))) (σ1:=[some (T.lst (h_.map D.int)),i_]) (x_B (t:=(T.lst (h_.map D.int))) (u:=(T.lst [(D.int (200:Int)),(D.int (3:Int)),(D.int (100:Int)),(D.int (60:Int)),(D.int (8:Int)),(D.int (8:Int)),(D.int (8:Int)),(D.int (12:Int))])) (x_gN (t:=(T.lst (h_.map D.int))) rfl) (x_gE (x_CB (ts:=[(T.val (D.int (200:Int))),(T.val (D.int (3:Int))),(T.val (D.int (100:Int))),(T.val (D.int (60:Int))),(T.val (D.int (8:Int))),(T.val (D.int (8:Int))),(T.val (D.int (8:Int))),(T.val (D.int (12:Int)))]) (x_cons (x_gE x_eC) (x_cons (x_gE x_eC) (x_cons (x_gE x_eC) (x_cons (x_gE x_eC) (x_cons (x_gE x_eC) (x_cons (x_gE x_eC) (x_cons (x_gE x_eC) (x_cons (x_gE x_eC) x_nil)))))))) rfl (t_lst (n:=8) (ds:=[(D.int (200:Int)),(D.int (3:Int)),(D.int (100:Int)),(D.int (60:Int)),(D.int (8:Int)),(D.int (8:Int)),(D.int (8:Int)),(D.int (12:Int))]) rfl rfl (by decide)))) rfl rfl (addA_of (t_addL (e:=D.int) (xs:=h_) (ys:=[(200:Int),(3:Int),(100:Int),(60:Int),(8:Int),(8:Int),(8:Int),(12:Int)]) rfl rfl h.1))) (by have w:=x3_f__law_limits_right C (h_ ++ [(200:Int),(3:Int),(100:Int),(60:Int),(8:Int),(8:Int),(8:Int),(12:Int)]) i_ h.2; exact w))
def t1_f__law_limits_right (h_:(List Int)):Bool:=
  (t2_f__law_limits_right (h_ ++ [(8:Int),(3:Int),(12:Int),(12:Int),(60:Int),(3:Int),(12:Int),(10:Int),(20:Int),(200:Int)]))
def o1_f__law_limits_right (h_:(List Int)):Prop:=
  (h_.length + [(8:Int),(3:Int),(12:Int),(12:Int),(60:Int),(3:Int),(12:Int),(10:Int),(20:Int),(200:Int)].length≤sizeLine)∧(o2_f__law_limits_right (h_ ++ [(8:Int),(3:Int),(12:Int),(12:Int),(60:Int),(3:Int),(12:Int),(10:Int),(20:Int),(200:Int)]))
abbrev qK8 (h_:(List Int)):=(h_ ++ [(8:Int),(3:Int),(12:Int),(12:Int),(60:Int),(3:Int),(12:Int),(10:Int),(20:Int),(200:Int)])
theorem x1_f__law_limits_right (C:Cl) (h_:(List Int)) (i_:Option T) (h:o1_f__law_limits_right h_):Oq (α:=Unit) C qK3 qK4 qK6 (fun _ _=>False) Md.fn (S1_f__law_limits_right [some (T.lst (h_.map D.int)),i_]) ((fun r=>Lr.rt (Except.ok r)) (t1_f__law_limits_right h_)):=by
  exact (oq_asg (t:=(T.lst ((qK8 h_).map D.int))) (σ1:=[some (T.lst (h_.map D.int)),i_]) (x_B (t:=(T.lst (h_.map D.int))) (u:=(T.lst [(D.int (8:Int)),(D.int (3:Int)),(D.int (12:Int)),(D.int (12:Int)),(D.int (60:Int)),(D.int (3:Int)),(D.int (12:Int)),(D.int (10:Int)),(D.int (20:Int)),(D.int (200:Int))])) (x_gN (t:=(T.lst (h_.map D.int))) rfl) (x_gE (x_CB (ts:=[(T.val (D.int (8:Int))),(T.val (D.int (3:Int))),(T.val (D.int (12:Int))),(T.val (D.int (12:Int))),(T.val (D.int (60:Int))),(T.val (D.int (3:Int))),(T.val (D.int (12:Int))),(T.val (D.int (10:Int))),(T.val (D.int (20:Int))),(T.val (D.int (200:Int)))]) (x_cons (x_gE x_eC) (x_cons (x_gE x_eC) (x_cons (x_gE x_eC) (x_cons (x_gE x_eC) (x_cons (x_gE x_eC) (x_cons (x_gE x_eC) (x_cons (x_gE x_eC) (x_cons (x_gE x_eC) (x_cons (x_gE x_eC) (x_cons (x_gE x_eC) x_nil)))))))))) rfl (t_lst (n:=10) (ds:=[(D.int (8:Int)),(D.int (3:Int)),(D.int (12:Int)),(D.int (12:Int)),(D.int (60:Int)),(D.int (3:Int)),(D.int (12:Int)),(D.int (10:Int)),(D.int (20:Int)),(D.int (200:Int))]) rfl rfl (by decide)))) rfl rfl (addA_of (t_addL (e:=D.int) (xs:=h_) (ys:=[(8:Int),(3:Int),(12:Int),(12:Int),(60:Int),(3:Int),(12:Int),(10:Int),(20:Int),(200:Int)]) rfl rfl h.1))) (by have w:=x2_f__law_limits_right C (qK8 h_) i_ h.2; exact w))
def t_f__law_limits_right  : Bool:=
  (t1_f__law_limits_right [(12:Int),(30:Int),(1000:Int),(12:Int),(1000000:Int),(6000:Int),(1000000000:Int),(12:Int),(1000000:Int),(8:Int)])
def o_f__law_limits_right  : Prop:=
  o1_f__law_limits_right [(12:Int),(30:Int),(1000:Int),(12:Int),(1000000:Int),(6000:Int),(1000000000:Int),(12:Int),(1000000:Int),(8:Int)]
theorem x_f__law_limits_right (C:Cl)  (h:o_f__law_limits_right ):Oq (α:=Unit) C qK3 qK4 qK6 (fun _ _=>False) Md.fn (f__law_limits_right [none,none]) ((fun r=>Lr.rt (Except.ok r)) (t_f__law_limits_right )):=by
  exact (oq_asg (t:=(T.lst [(D.int (12:Int)),(D.int (30:Int)),(D.int (1000:Int)),(D.int (12:Int)),(D.int (1000000:Int)),(D.int (6000:Int)),(D.int (1000000000:Int)),(D.int (12:Int)),(D.int (1000000:Int)),(D.int (8:Int))])) (σ1:=[none,none]) (x_CB (ts:=[(T.val (D.int (12:Int))),(T.val (D.int (30:Int))),(T.val (D.int (1000:Int))),(T.val (D.int (12:Int))),(T.val (D.int (1000000:Int))),(T.val (D.int (6000:Int))),(T.val (D.int (1000000000:Int))),(T.val (D.int (12:Int))),(T.val (D.int (1000000:Int))),(T.val (D.int (8:Int)))]) (x_cons (x_gE x_eC) (x_cons (x_gE x_eC) (x_cons (x_gE x_eC) (x_cons (x_gE x_eC) (x_cons (x_gE x_eC) (x_cons (x_gE x_eC) (x_cons (x_gE x_eC) (x_cons (x_gE x_eC) (x_cons (x_gE x_eC) (x_cons (x_gE x_eC) x_nil)))))))))) rfl (t_lst (n:=10) (ds:=[(D.int (12:Int)),(D.int (30:Int)),(D.int (1000:Int)),(D.int (12:Int)),(D.int (1000000:Int)),(D.int (6000:Int)),(D.int (1000000000:Int)),(D.int (12:Int)),(D.int (1000000:Int)),(D.int (8:Int))]) rfl rfl (by decide))) (by have w:=x1_f__law_limits_right C [(12:Int),(30:Int),(1000:Int),(12:Int),(1000000:Int),(6000:Int),(1000000000:Int),(12:Int),(1000000:Int),(8:Int)] none h; exact w))
def t__law_limits_right  : Bool:=t_f__law_limits_right
def o__law_limits_right  : Prop:=o_f__law_limits_right
theorem y__law_limits_right  (h:o__law_limits_right ):F__law_limits_right [] = .ok (qK3 (t__law_limits_right )) ((fun (r:Bool)=>([]:S)) (t__law_limits_right )):=
  fn_res (ts:=[]) (en:=qK3) (ps:=(fun (r:Bool)=>([]:S))) (px:=[]) (kp:=kp__law_limits_right) (N:=2) (g:=f__law_limits_right) (C:=default) (q:=.ok (t__law_limits_right )) rfl (x_f__law_limits_right default  h)
def t_f__law_raise (b_:Int) (a_:D) (d_:D):Except Er Unit:=
  (if (decide (b_ = (0:Int))) = true then (Except.error (Ec.ArgumentError,[("reason",a_)])) else (if (decide (b_ = (1:Int))) = true then (Except.error (Ec.CheckError,[("reason",a_)])) else (if (decide (b_ = (2:Int))) = true then (Except.error (Ec.PaperError,[("reason",a_)])) else (if (decide (b_ = (3:Int))) = true then (Except.error (Ec.SiteError,[("reason",a_)])) else (if (decide (b_ = (4:Int))) = true then (Except.error (Ec.TooMany,[("reason",a_)])) else (if (decide (b_ = (5:Int))) = true then (Except.error (Ec.TextError,[("at",a_)])) else (if (decide (b_ = (6:Int))) = true then (Except.error (Ec.LogError,[("reason",d_),("number",a_)])) else (Except.error (Ec.CommandError,[("line",a_)])))))))))
abbrev qK2 (b_:Int) (a_:D) (d_:D):S:=[some (T.val (D.int b_)),some (T.val a_),some (T.val d_)]
abbrev qK5 (b_:Int) (a_:D) (d_:D):=[(T.val (D.int b_)),(T.val a_),(T.val d_)]
theorem x_f__law_raise (C:Cl) (b_:Int) (a_:D) (d_:D):Oq (α:=Unit) C (fun (r:Unit)=>(T.val D.non)) (fun (r:Unit) σ=>msk kp__law_raise 0 (qK5 b_ a_ d_) σ = (qK2 b_ a_ d_)) (fun σ=>msk kp__law_raise 0 (qK5 b_ a_ d_) σ = (qK2 b_ a_ d_)) (fun _ _=>False) Md.fn ((f__law_raise C) (qK2 b_ a_ d_)) (Lr.rt (t_f__law_raise b_ a_ d_)):=by
  exact (oq_seqIf (oq_if Lr.rt (x_bV (x_B (t:=(T.val (D.int b_))) (u:=(T.val (D.int (0:Int)))) (x_gN (t:=(T.val (D.int b_))) rfl) (x_gE x_eC) rfl rfl (t_eqI _ _))) (fun hc1=>(oq_seqRaise (oq_raise (k:=Ec.ArgumentError) (ts:=[(T.val a_)]) (ds:=[a_]) (x_cons (x_gE (x_eN (d:=a_) rfl)) x_nil) rfl rfl rfl rfl rfl))) (fun hc2=>(oq_snx (oq_seqIf (oq_if Lr.rt (x_bV (x_B (t:=(T.val (D.int b_))) (u:=(T.val (D.int (1:Int)))) (x_gN (t:=(T.val (D.int b_))) rfl) (x_gE x_eC) rfl rfl (t_eqI _ _))) (fun hc3=>(oq_seqRaise (oq_raise (k:=Ec.CheckError) (ts:=[(T.val a_)]) (ds:=[a_]) (x_cons (x_gE (x_eN (d:=a_) rfl)) x_nil) rfl rfl rfl rfl rfl))) (fun hc4=>(oq_snx (oq_seqIf (oq_if Lr.rt (x_bV (x_B (t:=(T.val (D.int b_))) (u:=(T.val (D.int (2:Int)))) (x_gN (t:=(T.val (D.int b_))) rfl) (x_gE x_eC) rfl rfl (t_eqI _ _))) (fun hc5=>(oq_seqRaise (oq_raise (k:=Ec.PaperError) (ts:=[(T.val a_)]) (ds:=[a_]) (x_cons (x_gE (x_eN (d:=a_) rfl)) x_nil) rfl rfl rfl rfl rfl))) (fun hc6=>(oq_snx (oq_seqIf (oq_if Lr.rt (x_bV (x_B (t:=(T.val (D.int b_))) (u:=(T.val (D.int (3:Int)))) (x_gN (t:=(T.val (D.int b_))) rfl) (x_gE x_eC) rfl rfl (t_eqI _ _))) (fun hc7=>(oq_seqRaise (oq_raise (k:=Ec.SiteError) (ts:=[(T.val a_)]) (ds:=[a_]) (x_cons (x_gE (x_eN (d:=a_) rfl)) x_nil) rfl rfl rfl rfl rfl))) (fun hc8=>(oq_snx (oq_seqIf (oq_if Lr.rt (x_bV (x_B (t:=(T.val (D.int b_))) (u:=(T.val (D.int (4:Int)))) (x_gN (t:=(T.val (D.int b_))) rfl) (x_gE x_eC) rfl rfl (t_eqI _ _))) (fun hc9=>(oq_seqRaise (oq_raise (k:=Ec.TooMany) (ts:=[(T.val a_)]) (ds:=[a_]) (x_cons (x_gE (x_eN (d:=a_) rfl)) x_nil) rfl rfl rfl rfl rfl))) (fun hc10=>(oq_snx (oq_seqIf (oq_if Lr.rt (x_bV (x_B (t:=(T.val (D.int b_))) (u:=(T.val (D.int (5:Int)))) (x_gN (t:=(T.val (D.int b_))) rfl) (x_gE x_eC) rfl rfl (t_eqI _ _))) (fun hc11=>(oq_seqRaise (oq_raise (k:=Ec.TextError) (ts:=[(T.val a_)]) (ds:=[a_]) (x_cons (x_gE (x_eN (d:=a_) rfl)) x_nil) rfl rfl rfl rfl rfl))) (fun hc12=>(oq_snx (oq_seqIf (oq_if Lr.rt (x_bV (x_B (t:=(T.val (D.int b_))) (u:=(T.val (D.int (6:Int)))) (x_gN (t:=(T.val (D.int b_))) rfl) (x_gE x_eC) rfl rfl (t_eqI _ _))) (fun hc13=>(oq_seqRaise (oq_raise (k:=Ec.LogError) (ts:=[(T.val a_),(T.val d_)]) (ds:=[a_,d_]) (x_cons (x_gE (x_eN (d:=a_) rfl)) (x_cons (x_gE (x_eN (d:=d_) rfl)) x_nil)) rfl rfl rfl rfl rfl))) (fun hc14=>(oq_snx (oq_last (oq_seqRaise (oq_raise (k:=Ec.CommandError) (ts:=[(T.val a_)]) (ds:=[a_]) (x_cons (x_gE (x_eN (d:=a_) rfl)) x_nil) rfl rfl rfl rfl rfl)))))))))))))))))))))))))))))))
def t__law_raise (b_:Int) (a_:D) (d_:D):Except Er Unit:=t_f__law_raise b_ a_ d_
theorem y__law_raise (C:Cl) (b_:Int) (a_:D) (d_:D):(F__law_raise C) (qK5 b_ a_ d_) = resF C (fun (r:Unit)=>(T.val D.non)) (fun (r:Unit)=>((qK2 b_ a_ d_):S)) (qK2 b_ a_ d_) (t__law_raise b_ a_ d_):=
  fn_res (ts:=(qK5 b_ a_ d_)) (en:=(fun (r:Unit)=>(T.val D.non))) (ps:=(fun (r:Unit)=>((qK2 b_ a_ d_):S))) (px:=(qK2 b_ a_ d_)) (kp:=kp__law_raise) (N:=3) (g:=(f__law_raise C)) rfl (x_f__law_raise C b_ a_ d_)
def t__law_caught (b_:Int) (_one _other:D):List Bool:=(rng 0 8).map fun j=>decide (j = b_)
def o__law_caught (b_:Int) (_one _other:D):Prop:=0≤b_∧b_ < 8
theorem caught_of {C:Cl} {k:Int} {one other:D} {c:Ec} {fs:List (Str×D)} {bs:List Bool} (hr:t__law_raise k one other = .error (c,fs)) (hm:C.m_FrameError.lookup (C.ad c) = some true) (hi:C.is_FrameError.lookup (C.ad c) = some true) (ht:tbl (F__law_kinds C) (C.ad c) = some bs):
    F__law_caught C [(T.val (D.int k)),(T.val one),(T.val other)] = .ok (T.lst (bs.map D.bl)) [some (T.val (D.int k)),some (T.val one),some (T.val other)]:=by
  have r:=y__law_raise C k one other
  rw [hr] at r
  have e:eCall (F__law_raise C) (gCons (gN 0) (gCons (gN 1) (gCons (gN 2) (gNil)))) [some (T.val (D.int k)),some (T.val one),some (T.val other),none] = .exc (C.ad c) fs [some (T.val (D.int k)),some (T.val one),some (T.val other),none]:=
    hd_c (xs':=[.inl 0,.inl 1,.inl 2]) rfl rfl r rfl
  have s:sExpr (eCall (F__law_raise C) (gCons (gN 0) (gCons (gN 1) (gCons (gN 2) (gNil))))) [some (T.val (D.int k)),some (T.val one),some (T.val other),none] = .exc (C.ad c) fs [some (T.val (D.int k)),some (T.val one),some (T.val other),none]:=by
    unfold sExpr; rw [e]; rfl
  have a:suAsk (pbIs C.is_FrameError) (F__law_kinds C) (C.ad c) fs [some (T.val (D.int k)),some (T.val one),some (T.val other),none] = .rt (T.lst (bs.map D.bl)) [some (T.val (D.int k)),some (T.val one),some (T.val other),none]:=by
    unfold suAsk pbIs; simp only [hi,ht]
  have g:f__law_caught C [some (T.val (D.int k)),some (T.val one),some (T.val other),none] = .rt (T.lst (bs.map D.bl)) [some (T.val (D.int k)),some (T.val one),some (T.val other),none]:=by
    unfold f__law_caught sSeq sTry
    rw [s]
    simp only [hGo,hm,entO,finO]
    rw [if_pos (show 3 < ([some (T.val (D.int k)),some (T.val one),some (T.val other),none]:S).length from (by decide:3 < 4)),show ([some (T.val (D.int k)),some (T.val one),some (T.val other),none]:S).set 3 none = [some (T.val (D.int k)),some (T.val one),some (T.val other),none] from rfl,a]
    rfl
  unfold F__law_caught mkFn
  rw [if_pos (show ([(T.val (D.int k)),(T.val one),(T.val other)]:List T).length = 3 from rfl),show strt 4 [(T.val (D.int k)),(T.val one),(T.val other)] = [some (T.val (D.int k)),some (T.val one),some (T.val other),none] from rfl,g]
  rfl
theorem y__law_caught (C:Cl) (hC:CF C) (b_:Int) (a_ d_:D) (h:o__law_caught b_ a_ d_):F__law_caught C [(T.val (D.int b_)),(T.val a_),(T.val d_)] = .ok (T.lst ((t__law_caught b_ a_ d_).map D.bl)) [some (T.val (D.int b_)),some (T.val a_),some (T.val d_)]:=by
  obtain ⟨n,rfl⟩:∃ n:Nat,b_ = n:=⟨b_.toNat,by have:=h.1; omega⟩
  have hn:n < 8:=by have:=h.2; omega
  have tb:∀ {c:Ec} {b0 b1 b2 b3 b4 b5 b6 b7:Bool},C.is_ArgumentError.lookup (C.ad c) = some b0→C.is_CheckError.lookup (C.ad c) = some b1→C.is_PaperError.lookup (C.ad c) = some b2→C.is_SiteError.lookup (C.ad c) = some b3→
      C.is_TooMany.lookup (C.ad c) = some b4→C.is_TextError.lookup (C.ad c) = some b5→C.is_LogError.lookup (C.ad c) = some b6→C.is_CommandError.lookup (C.ad c) = some b7→tbl (F__law_kinds C) (C.ad c) = some [b0,b1,b2,b3,b4,b5,b6,b7]:=by
    intro c b0 b1 b2 b3 b4 b5 b6 b7 h0 h1 h2 h3 h4 h5 h6 h7
    unfold F__law_kinds
    simp only [tbl,h0,h1,h2,h3,h4,h5,h6,h7,Option.bind_some,Option.map_some]
  match n,hn with
  | 0,_=>exact caught_of (c:=.ArgumentError) (fs:=[("reason",a_)]) rfl hC.m_FrameError_ArgumentError hC.is_FrameError_ArgumentError (tb hC.is_ArgumentError_ArgumentError hC.is_CheckError_ArgumentError hC.is_PaperError_ArgumentError hC.is_SiteError_ArgumentError hC.is_TooMany_ArgumentError hC.is_TextError_ArgumentError hC.is_LogError_ArgumentError hC.is_CommandError_ArgumentError)
  | 1,_=>exact caught_of (c:=.CheckError) (fs:=[("reason",a_)]) rfl hC.m_FrameError_CheckError hC.is_FrameError_CheckError (tb hC.is_ArgumentError_CheckError hC.is_CheckError_CheckError hC.is_PaperError_CheckError hC.is_SiteError_CheckError hC.is_TooMany_CheckError hC.is_TextError_CheckError hC.is_LogError_CheckError hC.is_CommandError_CheckError)
  | 2,_=>exact caught_of (c:=.PaperError) (fs:=[("reason",a_)]) rfl hC.m_FrameError_PaperError hC.is_FrameError_PaperError (tb hC.is_ArgumentError_PaperError hC.is_CheckError_PaperError hC.is_PaperError_PaperError hC.is_SiteError_PaperError hC.is_TooMany_PaperError hC.is_TextError_PaperError hC.is_LogError_PaperError hC.is_CommandError_PaperError)
  | 3,_=>exact caught_of (c:=.SiteError) (fs:=[("reason",a_)]) rfl hC.m_FrameError_SiteError hC.is_FrameError_SiteError (tb hC.is_ArgumentError_SiteError hC.is_CheckError_SiteError hC.is_PaperError_SiteError hC.is_SiteError_SiteError hC.is_TooMany_SiteError hC.is_TextError_SiteError hC.is_LogError_SiteError hC.is_CommandError_SiteError)
  | 4,_=>exact caught_of (c:=.TooMany) (fs:=[("reason",a_)]) rfl hC.m_FrameError_TooMany hC.is_FrameError_TooMany (tb hC.is_ArgumentError_TooMany hC.is_CheckError_TooMany hC.is_PaperError_TooMany hC.is_SiteError_TooMany hC.is_TooMany_TooMany hC.is_TextError_TooMany hC.is_LogError_TooMany hC.is_CommandError_TooMany)
  | 5,_=>exact caught_of (c:=.TextError) (fs:=[("at",a_)]) rfl hC.m_FrameError_TextError hC.is_FrameError_TextError (tb hC.is_ArgumentError_TextError hC.is_CheckError_TextError hC.is_PaperError_TextError hC.is_SiteError_TextError hC.is_TooMany_TextError hC.is_TextError_TextError hC.is_LogError_TextError hC.is_CommandError_TextError)
  | 6,_=>exact caught_of (c:=.LogError) (fs:=[("reason",d_),("number",a_)]) rfl hC.m_FrameError_LogError hC.is_FrameError_LogError (tb hC.is_ArgumentError_LogError hC.is_CheckError_LogError hC.is_PaperError_LogError hC.is_SiteError_LogError hC.is_TooMany_LogError hC.is_TextError_LogError hC.is_LogError_LogError hC.is_CommandError_LogError)
  | 7,_=>exact caught_of (c:=.CommandError) (fs:=[("line",a_)]) rfl hC.m_FrameError_CommandError hC.is_FrameError_CommandError (tb hC.is_ArgumentError_CommandError hC.is_CheckError_CommandError hC.is_PaperError_CommandError hC.is_SiteError_CommandError hC.is_TooMany_CommandError hC.is_TextError_CommandError hC.is_LogError_CommandError hC.is_CommandError_CommandError)
def t1_f__law_fields (b_:Int) (a_:D) (d_:D):Except Er D:=
  (Except.ok D.non)
theorem x1_f__law_fields (C:Cl) (hC:CF C) (b_:Int) (a_:D) (d_:D) (j_:Option T):Oq (α:=Unit) C (fun (r:D)=>(T.val r)) (fun (r:D) σ=>msk kp__law_fields 0 (qK5 b_ a_ d_) σ = (qK2 b_ a_ d_)) (fun σ=>msk kp__law_fields 0 (qK5 b_ a_ d_) σ = (qK2 b_ a_ d_)) (fun _ _=>False) Md.fn ((S1_f__law_fields C) [some (T.val (D.int b_)),some (T.val a_),some (T.val d_),j_]) (Lr.rt (t1_f__law_fields b_ a_ d_)):=by
  exact (oq_last (oq_seqRet (oq_ret (σ1:=[some (T.val (D.int b_)),some (T.val a_),some (T.val d_),j_]) (r:=D.non) x_eC rfl rfl)))
def t_f__law_fields (b_:Int) (a_:D) (d_:D):Except Er D:=
  (onT ((onE (t__law_raise b_ a_ d_) (fun _=>(Lr.nx ())) (fun e=>Lr.rt (Except.error e))):Lr Unit D) (t1_f__law_fields b_ a_ d_) (fun r=>Except.ok r) (fun e=>(if hit_ArgumentError e.1 = true then (Except.ok (D.tup [((e.2.lookup ("reason" : Str)).getD .non)])) else (if hit_CheckError e.1 = true then (Except.ok (D.tup [((e.2.lookup ("reason" : Str)).getD .non)])) else (if hit_PaperError e.1 = true then (Except.ok (D.tup [((e.2.lookup ("reason" : Str)).getD .non)])) else (if hit_SiteError e.1 = true then (Except.ok (D.tup [((e.2.lookup ("reason" : Str)).getD .non)])) else (if hit_TooMany e.1 = true then (Except.ok (D.tup [((e.2.lookup ("reason" : Str)).getD .non)])) else (if hit_TextError e.1 = true then (Except.ok (D.tup [((e.2.lookup ("at" : Str)).getD .non)])) else (if hit_LogError e.1 = true then (Except.ok (D.tup [((e.2.lookup ("number" : Str)).getD .non),((e.2.lookup ("reason" : Str)).getD .non)])) else (if hit_CommandError e.1 = true then (Except.ok (D.tup [((e.2.lookup ("line" : Str)).getD .non)])) else (Except.error e)))))))))))
def o_f__law_fields (b_:Int) (a_:D) (d_:D):Prop:=
  ∀ e:Er,((onE (t__law_raise b_ a_ d_) (fun _=>(Lr.nx ())) (fun e=>Lr.rt (Except.error e))):Lr Unit D) = Lr.rt (Except.error e)→((e.1 ∈ Rs)∧(hit_ArgumentError e.1 = true→((e.2.lookup ("reason" : Str)).isSome = true))∧(hit_CheckError e.1 = true→((e.2.lookup ("reason" : Str)).isSome = true))∧(hit_PaperError e.1 = true→((e.2.lookup ("reason" : Str)).isSome = true))∧(hit_SiteError e.1 = true→((e.2.lookup ("reason" : Str)).isSome = true))∧(hit_TooMany e.1 = true→((e.2.lookup ("reason" : Str)).isSome = true))∧(hit_TextError e.1 = true→((e.2.lookup ("at" : Str)).isSome = true))∧(hit_LogError e.1 = true→(((e.2.lookup ("number" : Str)).isSome = true)∧((e.2.lookup ("reason" : Str)).isSome = true)))∧(hit_CommandError e.1 = true→((e.2.lookup ("line" : Str)).isSome = true)))
theorem x_f__law_fields (C:Cl) (hC:CF C) (b_:Int) (a_:D) (d_:D) (h:o_f__law_fields b_ a_ d_):Oq (α:=Unit) C (fun (r:D)=>(T.val r)) (fun (r:D) σ=>msk kp__law_fields 0 (qK5 b_ a_ d_) σ = (qK2 b_ a_ d_)) (fun σ=>msk kp__law_fields 0 (qK5 b_ a_ d_) σ = (qK2 b_ a_ d_)) (fun _ _=>False) Md.fn ((f__law_fields C) [some (T.val (D.int b_)),some (T.val a_),some (T.val d_),none]) (Lr.rt (t_f__law_fields b_ a_ d_)):=by
  exact (oq_try (σx:=[some (T.val (D.int b_)),some (T.val a_),some (T.val d_),none]) (σn:=[some (T.val (D.int b_)),some (T.val a_),some (T.val d_),none]) Lr.rt (fun _=>rfl) (oq_last (oq_exprC (fun r=>r) (fun e=>Lr.rt (Except.error e)) (fun _=>rfl) (x_cons (x_gN (t:=(T.val (D.int b_))) rfl) (x_cons (x_gN (t:=(T.val a_)) rfl) (x_cons (x_gN (t:=(T.val d_)) rfl) x_nil))) rfl (y__law_raise C b_ a_ d_) rfl (fun v15 hv16=>(oq_end rfl)))) (fun hk17=>(by have w:=x1_f__law_fields C hC b_ a_ d_ none; exact w)) (fun e he18=>(oq_ite Lr.rt (fun hh19=>oq_hret (by rw [hm_ArgumentError hC e.1 (h e he18).1,hh19]) (fun i z=>by cases z; exact Nat.lt_of_lt_of_eq (by decide:3 < 4) rfl) (px_tp (n:=1) (pa_c (d:=((e.2.lookup ("reason" : Str)).getD .non)) (px_at (hc_reason_ArgumentError hC e.1 (h e he18).1 hh19) ((h e he18).2.1 hh19)) rfl) rfl (by decide)) rfl rfl) (fun hm=>oq_hskip (by rw [hm_ArgumentError hC e.1 (h e he18).1,hm]) (oq_ite Lr.rt (fun hh20=>oq_hret (by rw [hm_CheckError hC e.1 (h e he18).1,hh20]) (fun i z=>by cases z; exact Nat.lt_of_lt_of_eq (by decide:3 < 4) rfl) (px_tp (n:=1) (pa_c (d:=((e.2.lookup ("reason" : Str)).getD .non)) (px_at (hc_reason_CheckError hC e.1 (h e he18).1 hh20) ((h e he18).2.2.1 hh20)) rfl) rfl (by decide)) rfl rfl) (fun hm=>oq_hskip (by rw [hm_CheckError hC e.1 (h e he18).1,hm]) (oq_ite Lr.rt (fun hh21=>oq_hret (by rw [hm_PaperError hC e.1 (h e he18).1,hh21]) (fun i z=>by cases z; exact Nat.lt_of_lt_of_eq (by decide:3 < 4) rfl) (px_tp (n:=1) (pa_c (d:=((e.2.lookup ("reason" : Str)).getD .non)) (px_at (hc_reason_PaperError hC e.1 (h e he18).1 hh21) ((h e he18).2.2.2.1 hh21)) rfl) rfl (by decide)) rfl rfl) (fun hm=>oq_hskip (by rw [hm_PaperError hC e.1 (h e he18).1,hm]) (oq_ite Lr.rt (fun hh22=>oq_hret (by rw [hm_SiteError hC e.1 (h e he18).1,hh22]) (fun i z=>by cases z; exact Nat.lt_of_lt_of_eq (by decide:3 < 4) rfl) (px_tp (n:=1) (pa_c (d:=((e.2.lookup ("reason" : Str)).getD .non)) (px_at (hc_reason_SiteError hC e.1 (h e he18).1 hh22) ((h e he18).2.2.2.2.1 hh22)) rfl) rfl (by decide)) rfl rfl) (fun hm=>oq_hskip (by rw [hm_SiteError hC e.1 (h e he18).1,hm]) (oq_ite Lr.rt (fun hh23=>oq_hret (by rw [hm_TooMany hC e.1 (h e he18).1,hh23]) (fun i z=>by cases z; exact Nat.lt_of_lt_of_eq (by decide:3 < 4) rfl) (px_tp (n:=1) (pa_c (d:=((e.2.lookup ("reason" : Str)).getD .non)) (px_at (hc_reason_TooMany hC e.1 (h e he18).1 hh23) ((h e he18).2.2.2.2.2.1 hh23)) rfl) rfl (by decide)) rfl rfl) (fun hm=>oq_hskip (by rw [hm_TooMany hC e.1 (h e he18).1,hm]) (oq_ite Lr.rt (fun hh24=>oq_hret (by rw [hm_TextError hC e.1 (h e he18).1,hh24]) (fun i z=>by cases z; exact Nat.lt_of_lt_of_eq (by decide:3 < 4) rfl) (px_tp (n:=1) (pa_c (d:=((e.2.lookup ("at" : Str)).getD .non)) (px_at (hc_at_TextError hC e.1 (h e he18).1 hh24) ((h e he18).2.2.2.2.2.2.1 hh24)) rfl) rfl (by decide)) rfl rfl) (fun hm=>oq_hskip (by rw [hm_TextError hC e.1 (h e he18).1,hm]) (oq_ite Lr.rt (fun hh25=>oq_hret (by rw [hm_LogError hC e.1 (h e he18).1,hh25]) (fun i z=>by cases z; exact Nat.lt_of_lt_of_eq (by decide:3 < 4) rfl) (px_tp (n:=2) (pa_c (d:=((e.2.lookup ("number" : Str)).getD .non)) (px_at (hc_number_LogError hC e.1 (h e he18).1 hh25) ((h e he18).2.2.2.2.2.2.2.1 hh25).1) (pa_c (d:=((e.2.lookup ("reason" : Str)).getD .non)) (px_at (hc_reason_LogError hC e.1 (h e he18).1 hh25) ((h e he18).2.2.2.2.2.2.2.1 hh25).2) rfl)) rfl (by decide)) rfl rfl) (fun hm=>oq_hskip (by rw [hm_LogError hC e.1 (h e he18).1,hm]) (oq_ite Lr.rt (fun hh26=>oq_hret (by rw [hm_CommandError hC e.1 (h e he18).1,hh26]) (fun i z=>by cases z; exact Nat.lt_of_lt_of_eq (by decide:3 < 4) rfl) (px_tp (n:=1) (pa_c (d:=((e.2.lookup ("line" : Str)).getD .non)) (px_at (hc_line_CommandError hC e.1 (h e he18).1 hh26) ((h e he18).2.2.2.2.2.2.2.2 hh26)) rfl) rfl (by decide)) rfl rfl) (fun hm=>oq_hskip (by rw [hm_CommandError hC e.1 (h e he18).1,hm]) (oq_hnil rfl)))))))))))))))))))
def t__law_fields (b_:Int) (a_:D) (d_:D):Except Er D:=t_f__law_fields b_ a_ d_
def o__law_fields (b_:Int) (a_:D) (d_:D):Prop:=o_f__law_fields b_ a_ d_
def v__law_fields (b_:Int) (a_:D) (d_:D):D:=match t__law_fields b_ a_ d_ with
  | .ok r=>r
  | .error _=>default
def no__law_fields (b_:Int) (a_:D) (d_:D):Prop:=o__law_fields b_ a_ d_∧(t__law_fields b_ a_ d_).isOk = true
theorem y__law_fields (C:Cl) (hC:CF C) (b_:Int) (a_:D) (d_:D) (h:no__law_fields b_ a_ d_):(F__law_fields C) (qK5 b_ a_ d_) = .ok ((fun (r:D)=>(T.val r)) (v__law_fields b_ a_ d_)) ((fun (r:D)=>((qK2 b_ a_ d_):S)) (v__law_fields b_ a_ d_)):=by
  have e:=fn_res (ts:=(qK5 b_ a_ d_)) (en:=(fun (r:D)=>(T.val r))) (ps:=(fun (r:D)=>((qK2 b_ a_ d_):S))) (px:=(qK2 b_ a_ d_)) (kp:=kp__law_fields) (N:=4) (g:=(f__law_fields C)) (C:=C) rfl (x_f__law_fields C hC b_ a_ d_ h.1)
  have hq:=h.2
  unfold v__law_fields
  generalize hz:t__law_fields b_ a_ d_ = q at hq e ⊢
  rw [show t_f__law_fields b_ a_ d_ = q from hz] at e
  cases q with
  | ok r=>exact e
  | error _=>cases hq
def t1_L1_law (c_:(List Int)) (e_:(List Int)) (f_:Int) (g_:(List D)) (b_:Int) (a_:D) (d_:D):Lr (Int) Bool:=
  (if (!(D.eqv (D.lst ((t__law_caught b_ a_ d_).map D.bl)) (D.lst (((rng 0 (8:Int).toNat).map fun (d29:Int)=>(decide (d29 = b_))).map D.bl)))) = true then (Lr.rt (Except.ok false)) else (if (!((rp (v__law_fields b_ a_ d_)) == (rp (if (decide (b_ = (6:Int))) = true then (D.tup [a_,d_]) else (D.tup [a_]))))) = true then (Lr.rt (Except.ok false)) else (Lr.nx f_)))
def o1_L1_law (c_:(List Int)) (e_:(List Int)) (f_:Int) (g_:(List D)) (b_:Int) (a_:D) (d_:D):Prop:=
  (o__law_caught b_ a_ d_)∧((rng 0 (8:Int).toNat).length≤sizeLine)∧(min (D.dep (D.lst ((t__law_caught b_ a_ d_).map D.bl))) (D.dep (D.lst (((rng 0 (8:Int).toNat).map fun (d29:Int)=>(decide (d29 = b_))).map D.bl)))≤63)∧((!(D.eqv (D.lst ((t__law_caught b_ a_ d_).map D.bl)) (D.lst (((rng 0 (8:Int).toNat).map fun (d29:Int)=>(decide (d29 = b_))).map D.bl)))) = false→((no__law_fields b_ a_ d_)∧((v__law_fields b_ a_ d_).shows = true)∧((if (decide (b_ = (6:Int))) = true then (D.tup [a_,d_]) else (D.tup [a_])).shows = true)))
abbrev qK1 (c_:(List Int)):=(T.val (D.lst (c_.map D.int)))
abbrev qK9 (c_:(List Int)) (e_:(List Int)) (f_:Int) (g_:(List D)) (b_:Int) (a_:D) (d_:D):S:=[some (qK1 c_),some (T.lst (e_.map D.int)),some (T.lst [D.int f_]),some (T.lst (g_.map eD)),some (T.val (D.int b_)),some (T.val a_),some (T.val d_),none]
abbrev qK10 (c_:(List Int)):=(fun (r:Bool) σ=>msk kp_law 0 [(qK1 c_)] σ = [some (qK1 c_)])
abbrev qK11 (c_:(List Int)):=(fun σ=>msk kp_law 0 [(qK1 c_)] σ = [some (qK1 c_)])
theorem x1_L1_law (C:Cl) (hC:CF C) (c_:(List Int)) (e_:(List Int)) (f_:Int) (g_:(List D)) (b_:Int) (a_:D) (d_:D) (h:o1_L1_law c_ e_ f_ g_ b_ a_ d_):Oq C qK3 (qK10 c_) (qK11 c_) (fun σ (a:Int)=>wipeS σ [4,5,6] = [some (qK1 c_),some (T.lst (e_.map D.int)),some (T.lst [D.int a]),some (T.lst (g_.map eD)),none,none,none,none]) Md.lp ((S1_L1_law C) (qK9 c_ e_ f_ g_ b_ a_ d_)) ((fun r=>r) (t1_L1_law c_ e_ f_ g_ b_ a_ d_)):=by
  exact (oq_seqIf (oq_if (fun r=>r) (x_bV (x_B (t:=(T.lst ((t__law_caught b_ a_ d_).map D.bl))) (u:=(T.lst (((rng 0 (8:Int).toNat).map fun (d29:Int)=>(decide (d29 = b_))).map D.bl))) (x_gE (x_call (t:=(T.lst ((t__law_caught b_ a_ d_).map D.bl))) (x_cons (x_gN (t:=(T.val (D.int b_))) rfl) (x_cons (x_gN (t:=(T.val a_)) rfl) (x_cons (x_gN (t:=(T.val d_)) rfl) x_nil))) rfl (y__law_caught C hC b_ a_ d_ h.1) rfl)) (x_gE (x_LCm (ds:=(rng 0 (8:Int).toNat)) (σ2:=(qK9 c_ e_ f_ g_ b_ a_ d_)) D.int (qK9 c_ e_ f_ g_ b_ a_ d_) (fun (d29:Int)=>[some (qK1 c_),some (T.lst (e_.map D.int)),some (T.lst [D.int f_]),some (T.lst (g_.map eD)),some (T.val (D.int b_)),some (T.val a_),some (T.val d_),some (T.val (D.int d29))]) (fun (d29:Int)=>(decide (d29 = b_))) D.bl (x_iG (ts:=[(T.val (D.int (8:Int)))]) (x_cons (x_gE x_eC) x_nil) rfl (t_rg1 (by decide))) rfl (fun _=>rfl) (fun _=>rfl) (fun _=>rfl) (fun d29 hd31=>(x_eVv (x_B (t:=(T.val (D.int d29))) (u:=(T.val (D.int b_))) (x_gN (t:=(T.val (D.int d29))) rfl) (x_gN (t:=(T.val (D.int b_))) rfl) rfl rfl (t_eqI _ _)))) h.2.1 rfl)) rfl rfl (t_neO rfl rfl h.2.2.1))) (fun hc33=>(oq_seqRet (oq_ret (σ1:=(qK9 c_ e_ f_ g_ b_ a_ d_)) (r:=false) x_eC rfl rfl))) (fun hc34=>(oq_snx (oq_last (oq_seqIf (oq_if (fun r=>r) (x_bV (x_B (t:=(T.val (D.str (rp (v__law_fields b_ a_ d_))))) (u:=(T.val (D.str (rp (if (decide (b_ = (6:Int))) = true then (D.tup [a_,d_]) else (D.tup [a_])))))) (x_gE (x_CB (ts:=[(T.val (v__law_fields b_ a_ d_))]) (x_cons (x_gE (x_call (t:=(T.val (v__law_fields b_ a_ d_))) (x_cons (x_gN (t:=(T.val (D.int b_))) rfl) (x_cons (x_gN (t:=(T.val a_)) rfl) (x_cons (x_gN (t:=(T.val d_)) rfl) x_nil))) rfl (y__law_fields C hC b_ a_ d_ (h.2.2.2 hc34).1) rfl)) x_nil) rfl (t_repr (h.2.2.2 hc34).2.1))) (x_gE (x_CB (ts:=[(T.val (if (decide (b_ = (6:Int))) = true then (D.tup [a_,d_]) else (D.tup [a_])))]) (x_cons (x_gE (x_eIf (e:=fun (z:D)=>(T.val z)) (p:=(D.tup [a_,d_])) (q:=(D.tup [a_])) (s:=fun _=>(qK9 c_ e_ f_ g_ b_ a_ d_)) (g:=()) (h:=()) (x_bV (x_B (t:=(T.val (D.int b_))) (u:=(T.val (D.int (6:Int)))) (x_gN (t:=(T.val (D.int b_))) rfl) (x_gE x_eC) rfl rfl (t_eqI _ _))) (fun hc35=>(x_CB (ts:=[(T.val a_),(T.val d_)]) (x_cons (x_gE (x_eN (d:=a_) rfl)) (x_cons (x_gE (x_eN (d:=d_) rfl)) x_nil)) rfl (t_tup (n:=2) (ds:=[a_,d_]) rfl rfl (by decide)))) (fun hc36=>(x_CB (ts:=[(T.val a_)]) (x_cons (x_gE (x_eN (d:=a_) rfl)) x_nil) rfl (t_tup (n:=1) (ds:=[a_]) rfl rfl (by decide)))))) x_nil) rfl (t_repr (h.2.2.2 hc34).2.2))) rfl rfl (t_neS _ _))) (fun hc37=>(oq_seqRet (oq_ret (σ1:=(qK9 c_ e_ f_ g_ b_ a_ d_)) (r:=false) x_eC rfl rfl))) (fun hc38=>(oq_snx (oq_end rfl))))))))))
def t_L1_law (c_:(List Int)) (e_:(List Int)) (g_:(List D)) (f_:Int) (b_:Int):Lr (Int) Bool:=
  (t1_L1_law c_ e_ ((f_ + 1) + 1) g_ b_ (pick g_ e_ f_) (pick g_ e_ (f_ + 1)))
def o_L1_law (c_:(List Int)) (e_:(List Int)) (g_:(List D)) (f_:Int) (b_:Int):Prop:=
  (g_ ≠ [])∧(DrOk e_ f_)∧(g_ ≠ [])∧(DrOk e_ (f_ + 1))∧(o1_L1_law c_ e_ ((f_ + 1) + 1) g_ b_ (pick g_ e_ f_) (pick g_ e_ (f_ + 1)))
theorem x_L1_law (C:Cl) (hC:CF C) (c_:(List Int)) (e_:(List Int)) (g_:(List D)) (f_:Int) (b_:Int) (h:o_L1_law c_ e_ g_ f_ b_):Oq C qK3 (qK10 c_) (qK11 c_) (fun σ (a:Int)=>σ = [some (qK1 c_),some (T.lst (e_.map D.int)),some (T.lst [D.int a]),some (T.lst (g_.map eD)),none,none,none,none]) Md.lp ((L1_law C) [some (qK1 c_),some (T.lst (e_.map D.int)),some (T.lst [D.int f_]),some (T.lst (g_.map eD)),some (T.val (D.int b_)),none,none,none]) ((fun r=>r) (t_L1_law c_ e_ g_ f_ b_)):=by
  exact oq_body (oq_par (ts:=[(T.val (pick g_ e_ f_)),(T.val (pick g_ e_ (f_ + 1)))]) (σ1:=[some (qK1 c_),some (T.lst (e_.map D.int)),some (T.lst [D.int ((f_ + 1) + 1)]),some (T.lst (g_.map eD)),some (T.val (D.int b_)),none,none,none]) (d:=(pick g_ e_ f_)) (d':=(pick g_ e_ (f_ + 1))) (x_cons (x_gE (x_eVv (x_call (t:=(T.val (pick g_ e_ f_))) (σ3:=[some (qK1 c_),some (T.lst (e_.map D.int)),some (T.lst [D.int (f_ + 1)]),some (T.lst (g_.map eD)),some (T.val (D.int b_)),none,none,none]) (x_cons (x_gN (t:=(T.lst (g_.map eD))) rfl) (x_cons (x_gN (t:=(T.lst (e_.map D.int))) rfl) (x_cons (x_gN (t:=(T.lst [D.int f_])) rfl) x_nil))) rfl (y_oneO (e:=eD) (xs:=g_) h.2.1 h.1) rfl))) (x_cons (x_gE (x_eVv (x_call (t:=(T.val (pick g_ e_ (f_ + 1)))) (σ3:=[some (qK1 c_),some (T.lst (e_.map D.int)),some (T.lst [D.int ((f_ + 1) + 1)]),some (T.lst (g_.map eD)),some (T.val (D.int b_)),none,none,none]) (x_cons (x_gN (t:=(T.lst (g_.map eD))) rfl) (x_cons (x_gN (t:=(T.lst (e_.map D.int))) rfl) (x_cons (x_gN (t:=(T.lst [D.int (f_ + 1)])) rfl) x_nil))) rfl (y_oneO (e:=eD) (xs:=g_) h.2.2.2.1 h.2.2.1) rfl))) x_nil)) rfl rfl (by have w:=x1_L1_law C hC c_ e_ ((f_ + 1) + 1) g_ b_ (pick g_ e_ f_) (pick g_ e_ (f_ + 1)) h.2.2.2.2; exact w))
def t5_f_law (c_:(List Int)):Except Er Bool:=
  (Except.ok true)
theorem x5_f_law (C:Cl) (hC:CF C) (c_:(List Int)) (i_:Option T) (o_:Option T) (j_:Option T) (k_:Option T) (l_:Option T) (m_:Option T):Oq (α:=Unit) C qK3 (qK10 c_) (qK11 c_) (fun _ _=>False) Md.fn ((S5_f_law C) [some (qK1 c_),i_,o_,j_,k_,l_,m_,none]) (Lr.rt (t5_f_law c_)):=by
  exact (oq_last (oq_seqRet (oq_ret (σ1:=[some (qK1 c_),i_,o_,j_,k_,l_,m_,none]) (r:=true) x_eC rfl rfl)))
def t4_f_law (c_:(List Int)) (e_:(List Int)) (f_:Int) (g_:(List D)):Except Er Bool:=
  (onL (loopT (fun (a:Int) (d:Int)=>t_L1_law c_ e_ g_ a d) (rng 0 (8:Int).toNat) f_) (fun a39=>(t5_f_law c_)) id)
def o4_f_law (c_:(List Int)) (e_:(List Int)) (f_:Int) (g_:(List D)):Prop:=
  okLoop (fun (a:Int) (d:Int)=>t_L1_law c_ e_ g_ a d) (fun (a:Int) (d:Int)=>o_L1_law c_ e_ g_ a d) (rng 0 (8:Int).toNat) f_
theorem x4_f_law (C:Cl) (hC:CF C) (c_:(List Int)) (e_:(List Int)) (f_:Int) (g_:(List D)) (k_:Option T) (l_:Option T) (m_:Option T) (h:o4_f_law c_ e_ f_ g_):Oq (α:=Unit) C qK3 (qK10 c_) (qK11 c_) (fun _ _=>False) Md.fn ((S4_f_law C) [some (qK1 c_),some (T.lst (e_.map D.int)),some (T.lst [D.int f_]),some (T.lst (g_.map eD)),k_,l_,m_,none]) (Lr.rt (t4_f_law c_ e_ f_ g_)):=by
  exact (oq_seqPwS (σ1:=[some (qK1 c_),some (T.lst (e_.map D.int)),some (T.lst [D.int f_]),some (T.lst (g_.map eD)),none,none,none,none]) rfl (oq_loop (ds:=(rng 0 (8:Int).toNat)) (a0:=f_) Lr.rt id (fun _=>rfl) D.int (fun a=>[some (qK1 c_),some (T.lst (e_.map D.int)),some (T.lst [D.int a]),some (T.lst (g_.map eD)),none,none,none,none]) (fun a d=>[some (qK1 c_),some (T.lst (e_.map D.int)),some (T.lst [D.int a]),some (T.lst (g_.map eD)),some (T.val (D.int d)),none,none,none]) (fun (a:Int) (d:Int)=>t_L1_law c_ e_ g_ a d) (fun (a:Int) (d:Int)=>o_L1_law c_ e_ g_ a d) (x_iG (ts:=[(T.val (D.int (8:Int)))]) (x_cons (x_gE x_eC) x_nil) rfl (t_rg1 (by decide))) rfl (fun _ _ _=>rfl) (fun a d h=>x_L1_law C hC c_ e_ g_ a d h) h (fun a39 ha40=>(by have w:=x5_f_law C hC c_ (some (T.lst (e_.map D.int))) (some (T.lst [D.int a39])) (some (T.lst (g_.map eD))) none none none; exact w))))
def t2_f_law (c_:(List Int)) (e_:(List Int)) (f_:Int):Except Er Bool:=
  (if (!(t__law_limits_right)) = true then (Except.ok false) else (t4_f_law c_ e_ f_ [(D.str ("load" : Str)),(D.str ("" : Str)),(D.str ("form" : Str)),(D.int (0:Int)),(D.int (17:Int)),(D.int (-(3:Int))),D.non,(D.tup [(D.str ("a" : Str)),(D.int (5:Int))]),(D.str ("a line" : Str)),(D.bl true)]))
def o2_f_law (c_:(List Int)) (e_:(List Int)) (f_:Int):Prop:=
  (o__law_limits_right )∧((!(t__law_limits_right)) = false→(o4_f_law c_ e_ f_ [(D.str ("load" : Str)),(D.str ("" : Str)),(D.str ("form" : Str)),(D.int (0:Int)),(D.int (17:Int)),(D.int (-(3:Int))),D.non,(D.tup [(D.str ("a" : Str)),(D.int (5:Int))]),(D.str ("a line" : Str)),(D.bl true)]))
abbrev qK7:=(D.tup [(D.str ("a" : Str)),(D.int (5:Int))])
theorem x2_f_law (C:Cl) (hC:CF C) (c_:(List Int)) (e_:(List Int)) (f_:Int) (j_:Option T) (k_:Option T) (l_:Option T) (m_:Option T) (h:o2_f_law c_ e_ f_):Oq (α:=Unit) C qK3 (qK10 c_) (qK11 c_) (fun _ _=>False) Md.fn ((S2_f_law C) [some (qK1 c_),some (T.lst (e_.map D.int)),some (T.lst [D.int f_]),j_,k_,l_,m_,none]) (Lr.rt (t2_f_law c_ e_ f_)):=by
  exact (oq_seqIf (oq_if Lr.rt (x_bNot (x_bV (x_call0 (y__law_limits_right  h.1)))) (fun hc27=>(oq_seqRet (oq_ret (σ1:=[some (qK1 c_),some (T.lst (e_.map D.int)),some (T.lst [D.int f_]),j_,k_,l_,m_,none]) (r:=false) x_eC rfl rfl))) (fun hc28=>(oq_snx (oq_asg (t:=(T.lst [(D.str ("load" : Str)),(D.str ("" : Str)),(D.str ("form" : Str)),(D.int (0:Int)),(D.int (17:Int)),(D.int (-(3:Int))),D.non,qK7,(D.str ("a line" : Str)),(D.bl true)])) (σ1:=[some (qK1 c_),some (T.lst (e_.map D.int)),some (T.lst [D.int f_]),j_,k_,l_,m_,none]) (x_CB (ts:=[(T.val (D.str ("load" : Str))),(T.val (D.str ("" : Str))),(T.val (D.str ("form" : Str))),(T.val (D.int (0:Int))),(T.val (D.int (17:Int))),(T.val (D.int (-(3:Int)))),(T.val D.non),(T.val qK7),(T.val (D.str ("a line" : Str))),(T.val (D.bl true))]) (x_cons (x_gE x_eC) (x_cons (x_gE x_eC) (x_cons (x_gE x_eC) (x_cons (x_gE x_eC) (x_cons (x_gE x_eC) (x_cons (x_gE (x_U (t:=(T.val (D.int (3:Int)))) (x_gE x_eC) rfl (oNeg_i _))) (x_cons (x_gE x_eC) (x_cons (x_gE (x_CB (ts:=[(T.val (D.str ("a" : Str))),(T.val (D.int (5:Int)))]) (x_cons (x_gE x_eC) (x_cons (x_gE x_eC) x_nil)) rfl (t_tup (n:=2) (ds:=[(D.str ("a" : Str)),(D.int (5:Int))]) rfl rfl (by decide)))) (x_cons (x_gE x_eC) (x_cons (x_gE x_eC) x_nil)))))))))) rfl (t_lst (n:=10) (ds:=[(D.str ("load" : Str)),(D.str ("" : Str)),(D.str ("form" : Str)),(D.int (0:Int)),(D.int (17:Int)),(D.int (-(3:Int))),D.non,qK7,(D.str ("a line" : Str)),(D.bl true)]) rfl rfl (by decide))) (by have w:=x4_f_law C hC c_ e_ f_ [(D.str ("load" : Str)),(D.str ("" : Str)),(D.str ("form" : Str)),(D.int (0:Int)),(D.int (17:Int)),(D.int (-(3:Int))),D.non,qK7,(D.str ("a line" : Str)),(D.bl true)] k_ l_ m_ (h.2 hc28); exact w))))))
def t1_f_law (c_:(List Int)) (e_:(List Int)):Except Er Bool:=
  (t2_f_law c_ e_ (0:Int))
def o1_f_law (c_:(List Int)) (e_:(List Int)):Prop:=
  o2_f_law c_ e_ (0:Int)
theorem x1_f_law (C:Cl) (hC:CF C) (c_:(List Int)) (e_:(List Int)) (o_:Option T) (j_:Option T) (k_:Option T) (l_:Option T) (m_:Option T) (h:o1_f_law c_ e_):Oq (α:=Unit) C qK3 (qK10 c_) (qK11 c_) (fun _ _=>False) Md.fn ((S1_f_law C) [some (qK1 c_),some (T.lst (e_.map D.int)),o_,j_,k_,l_,m_,none]) (Lr.rt (t1_f_law c_ e_)):=by
  exact (oq_asg (t:=(T.lst [D.int (0:Int)])) (σ1:=[some (qK1 c_),some (T.lst (e_.map D.int)),o_,j_,k_,l_,m_,none]) (x_CB (ts:=[(T.val (D.int (0:Int)))]) (x_cons (x_gE x_eC) x_nil) rfl (t_lst (n:=1) (ds:=[(D.int (0:Int))]) rfl rfl (by decide))) (by have w:=x2_f_law C hC c_ e_ (0:Int) j_ k_ l_ m_ h; exact w))
def t_f_law (c_:(List Int)):Except Er Bool:=
  (t1_f_law c_ (drw c_))
def o_f_law (c_:(List Int)):Prop:=
  o1_f_law c_ (drw c_)
theorem x_f_law (C:Cl) (hC:CF C) (c_:(List Int)) (h:o_f_law c_):Oq (α:=Unit) C qK3 (qK10 c_) (qK11 c_) (fun _ _=>False) Md.fn ((f_law C) [some (qK1 c_),none,none,none,none,none,none,none]) (Lr.rt (t_f_law c_)):=by
  exact (oq_asg (t:=(T.lst ((drw c_).map D.int))) (σ1:=[some (qK1 c_),none,none,none,none,none,none,none]) (x_call (t:=(T.lst ((drw c_).map D.int))) (x_cons (x_gN (t:=(qK1 c_)) rfl) x_nil) rfl (y_draws _) rfl) (by have w:=x1_f_law C hC c_ (drw c_) none none none none none h; exact w))
def t_law (c_:(List Int)):Except Er Bool:=t_f_law c_
def o_law (c_:(List Int)):Prop:=o_f_law c_
def v_law (c_:(List Int)):Bool:=match t_law c_ with
  | .ok r=>r
  | .error _=>default
def no_law (c_:(List Int)):Prop:=o_law c_∧(t_law c_).isOk = true
theorem y_law (C:Cl) (hC:CF C) (c_:(List Int)) (h:no_law c_):(F_law C) [(qK1 c_)] = .ok (qK3 (v_law c_)) ((fun (r:Bool)=>([some (qK1 c_)]:S)) (v_law c_)):=by
  have e:=fn_res (ts:=[(qK1 c_)]) (en:=qK3) (ps:=(fun (r:Bool)=>([some (qK1 c_)]:S))) (px:=[some (qK1 c_)]) (kp:=kp_law) (N:=8) (g:=(f_law C)) (C:=C) rfl (x_f_law C hC c_ h.1)
  have hq:=h.2
  unfold v_law
  generalize hz:t_law c_ = q at hq e ⊢
  rw [show t_f_law c_ = q from hz] at e
  cases q with
  | ok r=>exact e
  | error _=>cases hq
end K00
namespace K00
open PySem PySem.Spec PyProof.Rows L2 DL
theorem loop_rng {γ ρ:Type} {tb:γ→Int→Lr γ ρ} {okb:γ→Int→Prop} (I:Nat→γ→Prop):∀ (n lo:Nat) (a:γ),(∀ i a,lo≤i→i < lo + n→I i a→okb a (i:Int)∧∃ a',tb a (i:Int) = .nx a'∧I (i + 1) a')→I lo a→okLoop tb okb (rng (lo:Int) n) a∧∃ a',loopT tb (rng (lo:Int) n) a = .nx a'∧I (lo + n) a'
  | 0,lo,a,_,h0=>⟨True.intro,a,rfl,h0⟩
  | n + 1,lo,a,h,h0=>by
    obtain ⟨h1,b,e,h2⟩:=h lo a (Nat.le_refl _) (by omega) h0
    have w:=loop_rng I n (lo + 1) b (fun i a q1 q2=>h i a (by omega) (by omega)) h2
    rw [show ((lo + 1:Nat):Int) = (lo:Int) + 1 by omega,show lo + 1 + n = lo + (n + 1) by omega] at w
    refine ⟨⟨h1,fun a' e'=>?_⟩,?_⟩
    · rw [e] at e'
      cases e'
      exact w.1
    · show ∃ a',loopT tb ((lo:Int) :: rng ((lo:Int) + 1) n) a = .nx a'∧_
      unfold loopT
      rw [e]
      exact w.2
abbrev vals10:List D:=[(D.str ("load" : Str)),(D.str ("" : Str)),(D.str ("form" : Str)),(D.int (0:Int)),(D.int (17:Int)),(D.int (-(3:Int))),D.non,(D.tup [(D.str ("a" : Str)),(D.int (5:Int))]),(D.str ("a line" : Str)),(D.bl true)]
theorem shows_all:(vals10.all fun x=>(D.tup [x]).shows && vals10.all fun y=>(D.tup [x,y]).shows) = true:=by decide +kernel
theorem shows1 {x:D} (h:x ∈ vals10):(D.tup [x]).shows = true:=by
  have:=List.all_eq_true.mp shows_all x h
  exact (Bool.and_eq_true_iff.mp this).1
theorem shows2 {x y:D} (h:x ∈ vals10) (hy:y ∈ vals10):(D.tup [x,y]).shows = true:=by
  have:=List.all_eq_true.mp shows_all x h
  exact List.all_eq_true.mp (Bool.and_eq_true_iff.mp this).2 y hy
theorem eqv_all:((List.range 8).all fun n=>decide (min (D.dep (D.lst ((t__law_caught (n:Int) .non .non).map D.bl))) (D.dep (D.lst (((rng 0 (8:Int).toNat).map fun (d29:Int)=>(decide (d29 = (n:Int)))).map D.bl)))≤63) && D.eqv (D.lst ((t__law_caught (n:Int) .non .non).map D.bl)) (D.lst (((rng 0 (8:Int).toNat).map fun (d29:Int)=>(decide (d29 = (n:Int)))).map D.bl))) = true:=by decide +kernel
theorem fields_eq (n:Nat) (hn:n < 8) (one other:D):no__law_fields (n:Int) one other∧v__law_fields (n:Int) one other = (if (decide ((n:Int) = (6:Int))) = true then (D.tup [one,other]) else (D.tup [one])):=by
  have key:∀ {c:Ec} {fs:List (Str×D)} {r:D},t__law_raise (n:Int) one other = .error (c,fs)→(o_f__law_fields (n:Int) one other)→t__law_fields (n:Int) one other = .ok r→no__law_fields (n:Int) one other∧v__law_fields (n:Int) one other = r:=fun h1 h2 h3=>by
    refine ⟨⟨h2,by rw [h3]; rfl⟩,?_⟩
    unfold v__law_fields
    rw [h3]
  have ok:∀ {c:Ec} {fs:List (Str×D)},t__law_raise (n:Int) one other = .error (c,fs)→((c ∈ Rs)∧(hit_ArgumentError c = true→((fs.lookup ("reason" : Str)).isSome = true))∧(hit_CheckError c = true→((fs.lookup ("reason" : Str)).isSome = true))∧(hit_PaperError c = true→((fs.lookup ("reason" : Str)).isSome = true))∧(hit_SiteError c = true→((fs.lookup ("reason" : Str)).isSome = true))∧(hit_TooMany c = true→((fs.lookup ("reason" : Str)).isSome = true))∧(hit_TextError c = true→((fs.lookup ("at" : Str)).isSome = true))∧(hit_LogError c = true→(((fs.lookup ("number" : Str)).isSome = true)∧((fs.lookup ("reason" : Str)).isSome = true)))∧(hit_CommandError c = true→((fs.lookup ("line" : Str)).isSome = true)))→o_f__law_fields (n:Int) one other:=by
    intro c fs h w e he
    rw [h] at he
    have:e = (c,fs):=by
      unfold onE at he
      cases he
      rfl
    subst this
    exact w
  match n,hn with
  | 0,_=>exact key (c:=.ArgumentError) rfl (ok (c:=.ArgumentError) rfl (by refine ⟨by decide,fun _=>rfl,?_,?_,?_,?_,?_,?_,?_⟩ <;> exact fun z=>by cases z)) rfl
  | 1,_=>exact key (c:=.CheckError) rfl (ok (c:=.CheckError) rfl (by refine ⟨by decide,?_,fun _=>rfl,?_,?_,?_,?_,?_,?_⟩ <;> exact fun z=>by cases z)) rfl
  | 2,_=>exact key (c:=.PaperError) rfl (ok (c:=.PaperError) rfl (by refine ⟨by decide,?_,?_,fun _=>rfl,?_,?_,?_,?_,?_⟩ <;> exact fun z=>by cases z)) rfl
  | 3,_=>exact key (c:=.SiteError) rfl (ok (c:=.SiteError) rfl (by refine ⟨by decide,?_,?_,?_,fun _=>rfl,?_,?_,?_,?_⟩ <;> exact fun z=>by cases z)) rfl
  | 4,_=>exact key (c:=.TooMany) rfl (ok (c:=.TooMany) rfl (by refine ⟨by decide,?_,?_,?_,?_,fun _=>rfl,?_,?_,?_⟩ <;> exact fun z=>by cases z)) rfl
  | 5,_=>exact key (c:=.TextError) rfl (ok (c:=.TextError) rfl (by refine ⟨by decide,?_,?_,?_,?_,?_,fun _=>rfl,?_,?_⟩ <;> exact fun z=>by cases z)) rfl
  | 6,_=>exact key (c:=.LogError) rfl (ok (c:=.LogError) rfl (by refine ⟨by decide,?_,?_,?_,?_,?_,?_,fun _=>⟨rfl,rfl⟩,?_⟩ <;> exact fun z=>by cases z)) rfl
  | 7,_=>exact key (c:=.CommandError) rfl (ok (c:=.CommandError) rfl (by refine ⟨by decide,?_,?_,?_,?_,?_,?_,?_,fun _=>rfl⟩ <;> exact fun z=>by cases z)) rfl
theorem turn {sc ds:List Int} (h1:Small ds) (h2:ds.length < 1000000) (n:Nat) (hn:n < 8) (p:Int) (hp:p = 2 * n):o_L1_law sc ds vals10 p (n:Int)∧t_L1_law sc ds vals10 p (n:Int) = .nx (p + 1 + 1):=by
  have d1:DrOk ds p:=⟨h1,h2,by omega,by omega⟩
  have d2:DrOk ds (p + 1):=⟨h1,h2,by omega,by omega⟩
  have m1:=pick_mem (xs:=vals10) d1 (List.cons_ne_nil _ _)
  have m2:=pick_mem (xs:=vals10) d2 (List.cons_ne_nil _ _)
  unfold o_L1_law t_L1_law
  generalize pick vals10 ds p = one at *
  generalize pick vals10 ds (p + 1) = other at *
  have a:=List.all_eq_true.mp eqv_all n (List.mem_range.mpr hn)
  obtain ⟨a1,a2⟩:=Bool.and_eq_true_iff.mp a
  have a1:min (D.dep (D.lst ((t__law_caught (n:Int) one other).map D.bl))) (D.dep (D.lst (((rng 0 (8:Int).toNat).map fun (d29:Int)=>(decide (d29 = (n:Int)))).map D.bl)))≤63:=of_decide_eq_true a1
  have a2:D.eqv (D.lst ((t__law_caught (n:Int) one other).map D.bl)) (D.lst (((rng 0 (8:Int).toNat).map fun (d29:Int)=>(decide (d29 = (n:Int)))).map D.bl)) = true:=a2
  obtain ⟨f1,f2⟩:=fields_eq n hn one other
  have sh:(if (decide ((n:Int) = (6:Int))) = true then (D.tup [one,other]) else (D.tup [one])).shows = true:=by
    by_cases e:(n:Int) = 6
    · rw [if_pos (decide_eq_true e)]; exact shows2 m1 m2
    · rw [if_neg (by rw [decide_eq_true_eq]; exact e)]; exact shows1 m1
  refine ⟨⟨List.cons_ne_nil _ _,d1,List.cons_ne_nil _ _,d2,⟨by omega,by omega⟩,by decide,a1,fun _=>⟨f1,by rw [f2]; exact sh,sh⟩⟩,?_⟩
  unfold t1_L1_law
  rw [a2,f2]
  simp only [Bool.not_true,Bool.false_eq_true,if_false,beq_self_eq_true]
theorem limits:o__law_limits_right∧t__law_limits_right = true:=by
  refine ⟨?_,by decide +kernel⟩
  unfold o__law_limits_right o_f__law_limits_right o1_f__law_limits_right o2_f__law_limits_right o3_f__law_limits_right o4_f__law_limits_right
  exact ⟨by decide,by decide,by decide +kernel,by decide +kernel⟩
theorem lw {sc ds:List Int} (h1:Small ds) (h2:ds.length < 1000000) (e:drw sc = ds):o_law sc∧t_law sc = .ok true:=by
  obtain ⟨l1,l2⟩:=loop_rng (tb:=fun (a:Int) (d:Int)=>t_L1_law sc ds vals10 a d) (okb:=fun (a:Int) (d:Int)=>o_L1_law sc ds vals10 a d) (fun n a=>a = 2 * (n:Int)) 8 0 0 (fun n a _ hn hI=>by
    obtain ⟨w1,w2⟩:=turn (sc:=sc) h1 h2 n (by omega) a hI
    exact ⟨w1,_,w2,by omega⟩) rfl
  obtain ⟨a',l2,_⟩:=l2
  unfold o_law o_f_law o1_f_law o2_f_law t_law t_f_law t1_f_law t2_f_law
  rw [e,limits.2]
  refine ⟨⟨limits.1,fun _=>l1⟩,?_⟩
  show (onL (loopT (fun (a:Int) (d:Int)=>t_L1_law sc ds vals10 a d) (rng (0:Nat) 8) 0) (fun a39=>(t5_f_law sc)) id) = _
  rw [l2]
  rfl
theorem law_true (sc:List Int):no_law sc∧v_law sc = true:=by
  obtain ⟨a,b,_⟩:=drw_all sc
  obtain ⟨o,e⟩:=lw a b rfl
  refine ⟨⟨o,by rw [e]; rfl⟩,?_⟩
  unfold v_law
  rw [e]
end K00
set_option maxHeartbeats 8200000
namespace K00
open PySem PySem.Spec PyProof.Rows L2 DL
def bodyOf (s:Stmt):List Stmt:=match s with
  | .ClassDef _ _ _ b _ _ _ _ _ _ _=>b
  | _=>[]
abbrev st_CommandError:Stmt:=(bodyOf (top 10)).getD 0 (.Pass ⟨0,0,0,0⟩)
theorem ini_CommandError:PySem.DLX.Init st_CommandError ["line"]:=by
  refine ⟨⟨_,[_],_,_,_,_,_,[_],[(_,_,_,_)],rfl,rfl,rfl,rfl,fun env=>⟨_,rfl⟩,fun env=>rfl⟩,rfl,rfl,rfl,by decide +kernel,rfl,by decide +kernel,rfl,rfl⟩
abbrev st_ReasonError:Stmt:=(bodyOf (top 2)).getD 0 (.Pass ⟨0,0,0,0⟩)
theorem ini_ReasonError:PySem.DLX.Init st_ReasonError ["reason"]:=by
  refine ⟨⟨_,[_],_,_,_,_,_,[_],[(_,_,_,_)],rfl,rfl,rfl,rfl,fun env=>⟨_,rfl⟩,fun env=>rfl⟩,rfl,rfl,rfl,by decide +kernel,rfl,by decide +kernel,rfl,rfl⟩
abbrev st_TextError:Stmt:=(bodyOf (top 8)).getD 0 (.Pass ⟨0,0,0,0⟩)
theorem ini_TextError:PySem.DLX.Init st_TextError ["at"]:=by
  refine ⟨⟨_,[_],_,_,_,_,_,[_],[(_,_,_,_)],rfl,rfl,rfl,rfl,fun env=>⟨_,rfl⟩,fun env=>rfl⟩,rfl,rfl,rfl,by decide +kernel,rfl,by decide +kernel,rfl,rfl⟩
abbrev st_LogError:Stmt:=(bodyOf (top 9)).getD 0 (.Pass ⟨0,0,0,0⟩)
theorem ini_LogError:PySem.DLX.Init st_LogError ["number","reason"]:=by
  refine ⟨⟨_,[_,_],_,_,_,_,_,[_,_],[(_,_,_,_),(_,_,_,_)],rfl,rfl,rfl,rfl,fun env=>⟨_,rfl⟩,fun env=>rfl⟩,rfl,rfl,rfl,by decide +kernel,rfl,by decide +kernel,rfl,rfl⟩
theorem tnil {α:Type} {P:α→Prop}:∀ p ∈ ([]:List α),P p:=fun _ h=>by cases h
theorem tcons {α:Type} {P:α→Prop} {a:α} {l:List α} (h:P a) (h':∀ p ∈ l,P p):∀ p ∈ a :: l,P p:=List.forall_mem_cons.mpr ⟨h,h'⟩
theorem tab_all {P:Addr→Bool→Prop}:∀ {l:List (Addr×Bool)},(∀ p ∈ l,P p.1 p.2)→∀ B b,l.lookup B = some b→P B b
  | [],_,_,_,e=>by cases e
  | (c,d) :: l,h,B,b,e=>by
    rw [List.lookup_cons] at e
    cases q:B == c with
    | true=>
      rw [q] at e
      cases e
      rw [beq_iff_eq.mp q]
      exact h (c,d) List.mem_cons_self
    | false=>
      rw [q] at e
      exact tab_all (fun p hp=>h p (List.mem_cons_of_mem _ hp)) B b e
theorem mem_all {P:Addr→Prop} {l:List Addr} (h:∀ p ∈ l,P p):∀ B ∈ l,P B:=h
def mkC (A_FrameError A_CheckError A_ArgumentError A_PaperError A_TooMany A_SiteError A_TextError A_LogError A_CommandError:Addr):Cl:={ FrameError:=A_FrameError,ReasonError:=0,CheckError:=A_CheckError,ArgumentError:=A_ArgumentError,PaperError:=A_PaperError,TooMany:=A_TooMany,SiteError:=A_SiteError,TextError:=A_TextError,LogError:=A_LogError,CommandError:=A_CommandError,m_FrameError:=[(A_CommandError,true),(A_ArgumentError,true),(A_CheckError,true),(A_PaperError,true),(A_SiteError,true),(A_TooMany,true),(A_TextError,true),(A_LogError,true)],is_FrameError:=[(A_CommandError,true),(A_ArgumentError,true),(A_CheckError,true),(A_PaperError,true),(A_SiteError,true),(A_TooMany,true),(A_TextError,true),(A_LogError,true)],m_CheckError:=[(A_CommandError,false),(A_ArgumentError,false),(A_CheckError,true),(A_PaperError,false),(A_SiteError,false),(A_TooMany,false),(A_TextError,false),(A_LogError,false)],is_CheckError:=[(A_CommandError,false),(A_ArgumentError,false),(A_CheckError,true),(A_PaperError,false),(A_SiteError,false),(A_TooMany,false),(A_TextError,false),(A_LogError,false)],m_ArgumentError:=[(A_CommandError,false),(A_ArgumentError,true),(A_CheckError,false),(A_PaperError,false),(A_SiteError,false),(A_TooMany,false),(A_TextError,false),(A_LogError,false)],is_ArgumentError:=[(A_CommandError,false),(A_ArgumentError,true),(A_CheckError,false),(A_PaperError,false),(A_SiteError,false),(A_TooMany,false),(A_TextError,false),(A_LogError,false)],m_PaperError:=[(A_CommandError,false),(A_ArgumentError,false),(A_CheckError,false),(A_PaperError,true),(A_SiteError,false),(A_TooMany,false),(A_TextError,false),(A_LogError,false)],is_PaperError:=[(A_CommandError,false),(A_ArgumentError,false),(A_CheckError,false),(A_PaperError,true),(A_SiteError,false),(A_TooMany,false),(A_TextError,false),(A_LogError,false)],m_TooMany:=[(A_CommandError,false),(A_ArgumentError,false),(A_CheckError,false),(A_PaperError,false),(A_SiteError,false),(A_TooMany,true),(A_TextError,false),(A_LogError,false)],is_TooMany:=[(A_CommandError,false),(A_ArgumentError,false),(A_CheckError,false),(A_PaperError,false),(A_SiteError,false),(A_TooMany,true),(A_TextError,false),(A_LogError,false)],m_SiteError:=[(A_CommandError,false),(A_ArgumentError,false),(A_CheckError,false),(A_PaperError,false),(A_SiteError,true),(A_TooMany,false),(A_TextError,false),(A_LogError,false)],is_SiteError:=[(A_CommandError,false),(A_ArgumentError,false),(A_CheckError,false),(A_PaperError,false),(A_SiteError,true),(A_TooMany,false),(A_TextError,false),(A_LogError,false)],m_TextError:=[(A_CommandError,false),(A_ArgumentError,false),(A_CheckError,false),(A_PaperError,false),(A_SiteError,false),(A_TooMany,false),(A_TextError,true),(A_LogError,false)],is_TextError:=[(A_CommandError,false),(A_ArgumentError,false),(A_CheckError,false),(A_PaperError,false),(A_SiteError,false),(A_TooMany,false),(A_TextError,true),(A_LogError,false)],m_LogError:=[(A_CommandError,false),(A_ArgumentError,false),(A_CheckError,false),(A_PaperError,false),(A_SiteError,false),(A_TooMany,false),(A_TextError,false),(A_LogError,true)],is_LogError:=[(A_CommandError,false),(A_ArgumentError,false),(A_CheckError,false),(A_PaperError,false),(A_SiteError,false),(A_TooMany,false),(A_TextError,false),(A_LogError,true)],m_CommandError:=[(A_CommandError,true),(A_ArgumentError,false),(A_CheckError,false),(A_PaperError,false),(A_SiteError,false),(A_TooMany,false),(A_TextError,false),(A_LogError,false)],is_CommandError:=[(A_CommandError,true),(A_ArgumentError,false),(A_CheckError,false),(A_PaperError,false),(A_SiteError,false),(A_TooMany,false),(A_TextError,false),(A_LogError,false)],cs_reason:=[A_ArgumentError,A_CheckError,A_PaperError,A_SiteError,A_TooMany,A_LogError],cs_at:=[A_TextError],cs_number:=[A_LogError],cs_line:=[A_CommandError] }
theorem law_ok (C:Cl) (hC:CF C) (ns:List Int) (_:ns.length≤63):∃ ps,F_law C [.val (.lst (ns.map D.int))] = .ok (.val (.bl true)) ps:=by
  have w:=y_law C hC ns (law_true ns).1
  rw [(law_true ns).2] at w
  exact ⟨_,w⟩
theorem all_mk {P:Program} {w:World} {K:PySem.W.Frag} {h:Heap} {mg:Str→Option Value} {fa:Addr} (X:K.In h) (G:h.Ns mainGlobals mg) (hfa:mg "law" = some (.ref fa))
    {f0 f1 f2 f3 f4 f5 f6 f7 f8 f9 A_FrameError A_CheckError A_ArgumentError A_PaperError A_TooMany A_SiteError A_TextError A_LogError A_CommandError A_ReasonError N_CommandError fi_CommandError icc_CommandError icd_CommandError N_ArgumentError fi_ArgumentError icc_ArgumentError icd_ArgumentError N_CheckError fi_CheckError icc_CheckError icd_CheckError N_PaperError fi_PaperError icc_PaperError icd_PaperError N_SiteError fi_SiteError icc_SiteError icd_SiteError N_TooMany fi_TooMany icc_TooMany icd_TooMany N_TextError fi_TextError icc_TextError icd_TextError N_LogError fi_LogError icc_LogError icd_LogError:Addr}
    {oc0 kV0 dc0 pm0 cd0 ct0 oc1 kV1 dc1 pm1 cd1 ct1 oc2 kV2 dc2 pm2 cd2 ct2 oc3 kV3 dc3 pm3 cd3 ct3 oc4 kV4 dc4 pm4 cd4 ct4 oc5 kV5 dc5 pm5 cd5 ct5 oc6 kV6 dc6 pm6 cd6 ct6 oc7 kV7 dc7 pm7 cd7 ct7 oc8 kV8 dc8 pm8 cd8 ct8 oc9 kV9 dc9 pm9 cd9 ct9 ioc_CommandError ikV_CommandError idc_CommandError ipm_CommandError ict_CommandError jc_CommandError kc_CommandError ioc_ArgumentError ikV_ArgumentError idc_ArgumentError ipm_ArgumentError ict_ArgumentError jc_ArgumentError kc_ArgumentError ioc_CheckError ikV_CheckError idc_CheckError ipm_CheckError ict_CheckError jc_CheckError kc_CheckError ioc_PaperError ikV_PaperError idc_PaperError ipm_PaperError ict_PaperError jc_PaperError kc_PaperError ioc_SiteError ikV_SiteError idc_SiteError ipm_SiteError ict_SiteError jc_SiteError kc_SiteError ioc_TooMany ikV_TooMany idc_TooMany ipm_TooMany ict_TooMany jc_TooMany kc_TooMany ioc_TextError ikV_TextError idc_TextError ipm_TextError ict_TextError jc_TextError kc_TextError ioc_LogError ikV_LogError idc_LogError ipm_LogError ict_LogError jc_LogError kc_LogError:Value}
    {od0 an0 od1 an1 od2 an2 od3 an3 od4 an4 od5 an5 od6 an6 od7 an7 od8 an8 od9 an9 dd_CommandError iod_CommandError ian_CommandError jd_CommandError kd_CommandError dd_ArgumentError iod_ArgumentError ian_ArgumentError jd_ArgumentError kd_ArgumentError dd_CheckError iod_CheckError ian_CheckError jd_CheckError kd_CheckError dd_PaperError iod_PaperError ian_PaperError jd_PaperError kd_PaperError dd_SiteError iod_SiteError ian_SiteError jd_SiteError kd_SiteError dd_TooMany iod_TooMany ian_TooMany jd_TooMany kd_TooMany dd_TextError iod_TextError ian_TextError jd_TextError kd_TextError dd_LogError iod_LogError ian_LogError jd_LogError kd_LogError:Option Addr}
    {sl0 sl1 sl2 sl3 sl4 sl5 sl6 sl7 sl8 sl9 isl_CommandError js_CommandError ks_CommandError isl_ArgumentError js_ArgumentError ks_ArgumentError isl_CheckError js_CheckError ks_CheckError isl_PaperError js_PaperError ks_PaperError isl_SiteError js_SiteError ks_SiteError isl_TooMany js_TooMany ks_TooMany isl_TextError js_TextError ks_TextError isl_LogError js_LogError ks_LogError:Array (Option Value)}
    {nm_CommandError q_CommandError iq_CommandError jf_CommandError nm_ArgumentError q_ArgumentError iq_ArgumentError jf_ArgumentError nm_CheckError q_CheckError iq_CheckError jf_CheckError nm_PaperError q_PaperError iq_PaperError jf_PaperError nm_SiteError q_SiteError iq_SiteError jf_SiteError nm_TooMany q_TooMany iq_TooMany jf_TooMany nm_TextError q_TextError iq_TextError jf_TextError nm_LogError q_LogError iq_LogError jf_LogError:Str}
    {bs_CommandError bm_CommandError sub_CommandError bs_ArgumentError bm_ArgumentError sub_ArgumentError bs_CheckError bm_CheckError sub_CheckError bs_PaperError bm_PaperError sub_PaperError bs_SiteError bm_SiteError sub_SiteError bs_TooMany bm_TooMany sub_TooMany bs_TextError bm_TextError sub_TextError bs_LogError bm_LogError sub_LogError:List Value}
    {sn_CommandError sn_ArgumentError sn_CheckError sn_PaperError sn_SiteError sn_TooMany sn_TextError sn_LogError:List Str}
    {ab_CommandError ab_ArgumentError ab_CheckError ab_PaperError ab_SiteError ab_TooMany ab_TextError ab_LogError:Bool}
    {col_CommandError col_ArgumentError col_CheckError col_PaperError col_SiteError col_TooMany col_TextError col_LogError:Option Bool}
    {m0_CommandError m1_CommandError m2_CommandError m3_CommandError m5_CommandError m0_ArgumentError m1_ArgumentError m2_ArgumentError m3_ArgumentError m5_ArgumentError m0_CheckError m1_CheckError m2_CheckError m3_CheckError m5_CheckError m0_PaperError m1_PaperError m2_PaperError m3_PaperError m5_PaperError m0_SiteError m1_SiteError m2_SiteError m3_SiteError m5_SiteError m0_TooMany m1_TooMany m2_TooMany m3_TooMany m5_TooMany m0_TextError m1_TextError m2_TextError m3_TextError m5_TextError m0_LogError m1_LogError m2_LogError m3_LogError m5_LogError:Option Value}
    {jv_CommandError jv_ArgumentError jv_CheckError jv_PaperError jv_SiteError jv_TooMany jv_TextError jv_LogError:Array Value}
    {jt_CommandError jt_ArgumentError jt_CheckError jt_PaperError jt_SiteError jt_TooMany jt_TextError jt_LogError gt_MAX_JOINTS gt_MAX_BARS gt_MAX_PLACE gt_MAX_NAME gt_MAX_FORCE gt_MAX_TEXT gt_MAX_NUMBER gt_MAX_ROWS gt_MAX_COST gt_MAX_CASES gt_MAX_KEPT gt_MAX_AWAY gt_MAX_STRONG gt_MAX_LINES gt_MAX_BRACES gt_MAX_PROPS gt_MAX_BLOCKS gt_MAX_JOBS gt_MAX_PIECES gt_MAX_LENGTH gt_MAX_LOG gt_MAX_SIDE gt_MAX_DEPTH gt_MAX_DIGITS gt_MAX_CRANES gt_MAX_LIFTS gt_MAX_VAULT gt_MAX_LOADS:Tok}
    (a0:PySem.W.nsIn K mainGlobals "_law_draws" = some (some (.ref f0)))
    (l0:K.lookup f0 = some ⟨oc0,od0,.func (PySem.W.fnOf "_law_draws" "_law_draws" (defArgs s__law_draws) (defBody s__law_draws) (defScope s__law_draws) .none kV0 dc0 pm0 an0 cd0 ct0),sl0⟩)
    (c0:PySem.W.codeIn K cd0 "_law_draws" = true)
    (k0:PySem.W.keepIn K (.ref f0) = true)
    (a1:PySem.W.nsIn K mainGlobals "_law_limits_right" = some (some (.ref f1)))
    (l1:K.lookup f1 = some ⟨oc1,od1,.func (PySem.W.fnOf "_law_limits_right" "_law_limits_right" (defArgs s__law_limits_right) (defBody s__law_limits_right) (defScope s__law_limits_right) .none kV1 dc1 pm1 an1 cd1 ct1),sl1⟩)
    (c1:PySem.W.codeIn K cd1 "_law_limits_right" = true)
    (k1:PySem.W.keepIn K (.ref f1) = true)
    (a2:PySem.W.nsIn K mainGlobals "_law_more" = some (some (.ref f2)))
    (l2:K.lookup f2 = some ⟨oc2,od2,.func (PySem.W.fnOf "_law_more" "_law_more" (defArgs s__law_more) (defBody s__law_more) (defScope s__law_more) .none kV2 dc2 pm2 an2 cd2 ct2),sl2⟩)
    (c2:PySem.W.codeIn K cd2 "_law_more" = true)
    (k2:PySem.W.keepIn K (.ref f2) = true)
    (a3:PySem.W.nsIn K mainGlobals "_law_take" = some (some (.ref f3)))
    (l3:K.lookup f3 = some ⟨oc3,od3,.func (PySem.W.fnOf "_law_take" "_law_take" (defArgs s__law_take) (defBody s__law_take) (defScope s__law_take) .none kV3 dc3 pm3 an3 cd3 ct3),sl3⟩)
    (c3:PySem.W.codeIn K cd3 "_law_take" = true)
    (k3:PySem.W.keepIn K (.ref f3) = true)
    (a4:PySem.W.nsIn K mainGlobals "_law_one" = some (some (.ref f4)))
    (l4:K.lookup f4 = some ⟨oc4,od4,.func (PySem.W.fnOf "_law_one" "_law_one" (defArgs s__law_one) (defBody s__law_one) (defScope s__law_one) .none kV4 dc4 pm4 an4 cd4 ct4),sl4⟩)
    (c4:PySem.W.codeIn K cd4 "_law_one" = true)
    (k4:PySem.W.keepIn K (.ref f4) = true)
    (a5:PySem.W.nsIn K mainGlobals "_law_raise" = some (some (.ref f5)))
    (l5:K.lookup f5 = some ⟨oc5,od5,.func (PySem.W.fnOf "_law_raise" "_law_raise" (defArgs s__law_raise) (defBody s__law_raise) (defScope s__law_raise) .none kV5 dc5 pm5 an5 cd5 ct5),sl5⟩)
    (c5:PySem.W.codeIn K cd5 "_law_raise" = true)
    (k5:PySem.W.keepIn K (.ref f5) = true)
    (a6:PySem.W.nsIn K mainGlobals "_law_kinds" = some (some (.ref f6)))
    (l6:K.lookup f6 = some ⟨oc6,od6,.func (PySem.W.fnOf "_law_kinds" "_law_kinds" (defArgs s__law_kinds) (defBody s__law_kinds) (defScope s__law_kinds) .none kV6 dc6 pm6 an6 cd6 ct6),sl6⟩)
    (c6:PySem.W.codeIn K cd6 "_law_kinds" = true)
    (k6:PySem.W.keepIn K (.ref f6) = true)
    (a7:PySem.W.nsIn K mainGlobals "_law_caught" = some (some (.ref f7)))
    (l7:K.lookup f7 = some ⟨oc7,od7,.func (PySem.W.fnOf "_law_caught" "_law_caught" (defArgs s__law_caught) (defBody s__law_caught) (defScope s__law_caught) .none kV7 dc7 pm7 an7 cd7 ct7),sl7⟩)
    (c7:PySem.W.codeIn K cd7 "_law_caught" = true)
    (k7:PySem.W.keepIn K (.ref f7) = true)
    (a8:PySem.W.nsIn K mainGlobals "_law_fields" = some (some (.ref f8)))
    (l8:K.lookup f8 = some ⟨oc8,od8,.func (PySem.W.fnOf "_law_fields" "_law_fields" (defArgs s__law_fields) (defBody s__law_fields) (defScope s__law_fields) .none kV8 dc8 pm8 an8 cd8 ct8),sl8⟩)
    (c8:PySem.W.codeIn K cd8 "_law_fields" = true)
    (k8:PySem.W.keepIn K (.ref f8) = true)
    (a9:PySem.W.nsIn K mainGlobals "law" = some (some (.ref f9)))
    (l9:K.lookup f9 = some ⟨oc9,od9,.func (PySem.W.fnOf "law" "law" (defArgs s_law) (defBody s_law) (defScope s_law) .none kV9 dc9 pm9 an9 cd9 ct9),sl9⟩)
    (c9:PySem.W.codeIn K cd9 "law" = true)
    (k9:PySem.W.keepIn K (.ref f9) = true)
    (aC_FrameError:PySem.W.nsIn K mainGlobals "FrameError" = some (some (.ref A_FrameError)))
    (aC_CheckError:PySem.W.nsIn K mainGlobals "CheckError" = some (some (.ref A_CheckError)))
    (aC_ArgumentError:PySem.W.nsIn K mainGlobals "ArgumentError" = some (some (.ref A_ArgumentError)))
    (aC_PaperError:PySem.W.nsIn K mainGlobals "PaperError" = some (some (.ref A_PaperError)))
    (aC_TooMany:PySem.W.nsIn K mainGlobals "TooMany" = some (some (.ref A_TooMany)))
    (aC_SiteError:PySem.W.nsIn K mainGlobals "SiteError" = some (some (.ref A_SiteError)))
    (aC_TextError:PySem.W.nsIn K mainGlobals "TextError" = some (some (.ref A_TextError)))
    (aC_LogError:PySem.W.nsIn K mainGlobals "LogError" = some (some (.ref A_LogError)))
    (aC_CommandError:PySem.W.nsIn K mainGlobals "CommandError" = some (some (.ref A_CommandError)))
    (aC_ReasonError:PySem.W.nsIn K mainGlobals "ReasonError" = some (some (.ref A_ReasonError)))
    (xL_CommandError:K.lookup A_CommandError = some (PySem.excClassObj nm_CommandError q_CommandError A_CommandError N_CommandError bs_CommandError bm_CommandError true sn_CommandError sub_CommandError ab_CommandError col_CommandError dd_CommandError m0_CommandError m1_CommandError m2_CommandError m3_CommandError m5_CommandError "ValueError.__new__"))
    (xR_CommandError:PySem.HandSPX.refsVE bm_CommandError = true)
    (xS_CommandError:PySem.W.findIn K (.ref A_CommandError) "__setattr__" = some (some (.builtin "object.__setattr__")))
    (xG_CommandError:PySem.W.findIn K (.ref A_CommandError) "__getattribute__" = some (some (.builtin "BaseException.__getattribute__")))
    (xH_CommandError:PySem.W.findIn K (.ref A_CommandError) "__getattr__" = some none)
    (xN_CommandError_line:PySem.W.findIn K (.ref A_CommandError) "line" = some none)
    (xI_CommandError:PySem.W.findIn K (.ref A_CommandError) "__init__" = some (some (.ref fi_CommandError)))
    (xT_CommandError:PySem.W.typeIn K (.ref fi_CommandError) = some (.type "function"))
    (xK_CommandError:PySem.W.keepIn K (.ref A_CommandError) = true)
    (xE_CommandError:PySem.W.subIn K (.ref A_CommandError) (.type "BaseException") = some true)
    (xV_CommandError:PySem.W.subIn K (.ref A_CommandError) (.type "ValueError") = some true)
    (xY_CommandError:PySem.W.typeIn K (.ref A_CommandError) = some (.type "type"))
    (xD_CommandError:PySem.W.hasDictIn K A_CommandError = true)
    (xU_CommandError:PySem.W.ks_superIn K A_CommandError A_CommandError "__init__" = some (some (.builtin "ValueError.__init__")))
    (xM_CommandError:PySem.W.mroIn K A_CommandError (.ref A_CommandError) = some true)
    (yL_CommandError:K.lookup fi_CommandError = some ⟨ioc_CommandError,iod_CommandError,.func (PySem.W.fnX "__init__" iq_CommandError (defArgs st_CommandError) (defBody st_CommandError) (defScope st_CommandError) [("__class__",icc_CommandError)] .none ikV_CommandError idc_CommandError ipm_CommandError ian_CommandError (.ref icd_CommandError) ict_CommandError),isl_CommandError⟩)
    (yC_CommandError:PySem.W.codeIn K (.ref icd_CommandError) iq_CommandError = true)
    (yD_CommandError:K.lookup icd_CommandError = some ⟨jc_CommandError,jd_CommandError,.fields jv_CommandError,js_CommandError⟩)
    (yF_CommandError:jv_CommandError[2]? = some (.str jf_CommandError jt_CommandError))
    (yP_CommandError:((P.main.file:Str) == jf_CommandError) = true)
    (yK_CommandError:K.lookup icc_CommandError = some ⟨kc_CommandError,kd_CommandError,.cell (some (.ref A_CommandError)),ks_CommandError⟩)
    (hA_CommandError:PySem.W.findIn K (.ref A_CommandError) "__class__" = some (some (.builtin "object.__class__")))
    (hM_CommandError:PySem.W.mroIn K A_CommandError (.type "object") = some true)
    (xL_ArgumentError:K.lookup A_ArgumentError = some (PySem.excClassObj nm_ArgumentError q_ArgumentError A_ArgumentError N_ArgumentError bs_ArgumentError bm_ArgumentError true sn_ArgumentError sub_ArgumentError ab_ArgumentError col_ArgumentError dd_ArgumentError m0_ArgumentError m1_ArgumentError m2_ArgumentError m3_ArgumentError m5_ArgumentError "ValueError.__new__"))
    (xR_ArgumentError:PySem.HandSPX.refsVE bm_ArgumentError = true)
    (xS_ArgumentError:PySem.W.findIn K (.ref A_ArgumentError) "__setattr__" = some (some (.builtin "object.__setattr__")))
    (xG_ArgumentError:PySem.W.findIn K (.ref A_ArgumentError) "__getattribute__" = some (some (.builtin "BaseException.__getattribute__")))
    (xH_ArgumentError:PySem.W.findIn K (.ref A_ArgumentError) "__getattr__" = some none)
    (xN_ArgumentError_reason:PySem.W.findIn K (.ref A_ArgumentError) "reason" = some none)
    (xI_ArgumentError:PySem.W.findIn K (.ref A_ArgumentError) "__init__" = some (some (.ref fi_ArgumentError)))
    (xT_ArgumentError:PySem.W.typeIn K (.ref fi_ArgumentError) = some (.type "function"))
    (xK_ArgumentError:PySem.W.keepIn K (.ref A_ArgumentError) = true)
    (xE_ArgumentError:PySem.W.subIn K (.ref A_ArgumentError) (.type "BaseException") = some true)
    (xV_ArgumentError:PySem.W.subIn K (.ref A_ArgumentError) (.type "ValueError") = some true)
    (xY_ArgumentError:PySem.W.typeIn K (.ref A_ArgumentError) = some (.type "type"))
    (xD_ArgumentError:PySem.W.hasDictIn K A_ArgumentError = true)
    (xU_ArgumentError:PySem.W.ks_superIn K A_ArgumentError A_ReasonError "__init__" = some (some (.builtin "ValueError.__init__")))
    (xM_ArgumentError:PySem.W.mroIn K A_ArgumentError (.ref A_ReasonError) = some true)
    (yL_ArgumentError:K.lookup fi_ArgumentError = some ⟨ioc_ArgumentError,iod_ArgumentError,.func (PySem.W.fnX "__init__" iq_ArgumentError (defArgs st_ReasonError) (defBody st_ReasonError) (defScope st_ReasonError) [("__class__",icc_ArgumentError)] .none ikV_ArgumentError idc_ArgumentError ipm_ArgumentError ian_ArgumentError (.ref icd_ArgumentError) ict_ArgumentError),isl_ArgumentError⟩)
    (yC_ArgumentError:PySem.W.codeIn K (.ref icd_ArgumentError) iq_ArgumentError = true)
    (yD_ArgumentError:K.lookup icd_ArgumentError = some ⟨jc_ArgumentError,jd_ArgumentError,.fields jv_ArgumentError,js_ArgumentError⟩)
    (yF_ArgumentError:jv_ArgumentError[2]? = some (.str jf_ArgumentError jt_ArgumentError))
    (yP_ArgumentError:((P.main.file:Str) == jf_ArgumentError) = true)
    (yK_ArgumentError:K.lookup icc_ArgumentError = some ⟨kc_ArgumentError,kd_ArgumentError,.cell (some (.ref A_ReasonError)),ks_ArgumentError⟩)
    (hA_ArgumentError:PySem.W.findIn K (.ref A_ArgumentError) "__class__" = some (some (.builtin "object.__class__")))
    (hM_ArgumentError:PySem.W.mroIn K A_ArgumentError (.type "object") = some true)
    (xL_CheckError:K.lookup A_CheckError = some (PySem.excClassObj nm_CheckError q_CheckError A_CheckError N_CheckError bs_CheckError bm_CheckError true sn_CheckError sub_CheckError ab_CheckError col_CheckError dd_CheckError m0_CheckError m1_CheckError m2_CheckError m3_CheckError m5_CheckError "ValueError.__new__"))
    (xR_CheckError:PySem.HandSPX.refsVE bm_CheckError = true)
    (xS_CheckError:PySem.W.findIn K (.ref A_CheckError) "__setattr__" = some (some (.builtin "object.__setattr__")))
    (xG_CheckError:PySem.W.findIn K (.ref A_CheckError) "__getattribute__" = some (some (.builtin "BaseException.__getattribute__")))
    (xH_CheckError:PySem.W.findIn K (.ref A_CheckError) "__getattr__" = some none)
    (xN_CheckError_reason:PySem.W.findIn K (.ref A_CheckError) "reason" = some none)
    (xI_CheckError:PySem.W.findIn K (.ref A_CheckError) "__init__" = some (some (.ref fi_CheckError)))
    (xT_CheckError:PySem.W.typeIn K (.ref fi_CheckError) = some (.type "function"))
    (xK_CheckError:PySem.W.keepIn K (.ref A_CheckError) = true)
    (xE_CheckError:PySem.W.subIn K (.ref A_CheckError) (.type "BaseException") = some true)
    (xV_CheckError:PySem.W.subIn K (.ref A_CheckError) (.type "ValueError") = some true)
    (xY_CheckError:PySem.W.typeIn K (.ref A_CheckError) = some (.type "type"))
    (xD_CheckError:PySem.W.hasDictIn K A_CheckError = true)
    (xU_CheckError:PySem.W.ks_superIn K A_CheckError A_ReasonError "__init__" = some (some (.builtin "ValueError.__init__")))
    (xM_CheckError:PySem.W.mroIn K A_CheckError (.ref A_ReasonError) = some true)
    (yL_CheckError:K.lookup fi_CheckError = some ⟨ioc_CheckError,iod_CheckError,.func (PySem.W.fnX "__init__" iq_CheckError (defArgs st_ReasonError) (defBody st_ReasonError) (defScope st_ReasonError) [("__class__",icc_CheckError)] .none ikV_CheckError idc_CheckError ipm_CheckError ian_CheckError (.ref icd_CheckError) ict_CheckError),isl_CheckError⟩)
    (yC_CheckError:PySem.W.codeIn K (.ref icd_CheckError) iq_CheckError = true)
    (yD_CheckError:K.lookup icd_CheckError = some ⟨jc_CheckError,jd_CheckError,.fields jv_CheckError,js_CheckError⟩)
    (yF_CheckError:jv_CheckError[2]? = some (.str jf_CheckError jt_CheckError))
    (yP_CheckError:((P.main.file:Str) == jf_CheckError) = true)
    (yK_CheckError:K.lookup icc_CheckError = some ⟨kc_CheckError,kd_CheckError,.cell (some (.ref A_ReasonError)),ks_CheckError⟩)
    (hA_CheckError:PySem.W.findIn K (.ref A_CheckError) "__class__" = some (some (.builtin "object.__class__")))
    (hM_CheckError:PySem.W.mroIn K A_CheckError (.type "object") = some true)
    (xL_PaperError:K.lookup A_PaperError = some (PySem.excClassObj nm_PaperError q_PaperError A_PaperError N_PaperError bs_PaperError bm_PaperError true sn_PaperError sub_PaperError ab_PaperError col_PaperError dd_PaperError m0_PaperError m1_PaperError m2_PaperError m3_PaperError m5_PaperError "ValueError.__new__"))
    (xR_PaperError:PySem.HandSPX.refsVE bm_PaperError = true)
    (xS_PaperError:PySem.W.findIn K (.ref A_PaperError) "__setattr__" = some (some (.builtin "object.__setattr__")))
    (xG_PaperError:PySem.W.findIn K (.ref A_PaperError) "__getattribute__" = some (some (.builtin "BaseException.__getattribute__")))
    (xH_PaperError:PySem.W.findIn K (.ref A_PaperError) "__getattr__" = some none)
    (xN_PaperError_reason:PySem.W.findIn K (.ref A_PaperError) "reason" = some none)
    (xI_PaperError:PySem.W.findIn K (.ref A_PaperError) "__init__" = some (some (.ref fi_PaperError)))
    (xT_PaperError:PySem.W.typeIn K (.ref fi_PaperError) = some (.type "function"))
    (xK_PaperError:PySem.W.keepIn K (.ref A_PaperError) = true)
    (xE_PaperError:PySem.W.subIn K (.ref A_PaperError) (.type "BaseException") = some true)
    (xV_PaperError:PySem.W.subIn K (.ref A_PaperError) (.type "ValueError") = some true)
    (xY_PaperError:PySem.W.typeIn K (.ref A_PaperError) = some (.type "type"))
    (xD_PaperError:PySem.W.hasDictIn K A_PaperError = true)
    (xU_PaperError:PySem.W.ks_superIn K A_PaperError A_ReasonError "__init__" = some (some (.builtin "ValueError.__init__")))
    (xM_PaperError:PySem.W.mroIn K A_PaperError (.ref A_ReasonError) = some true)
    (yL_PaperError:K.lookup fi_PaperError = some ⟨ioc_PaperError,iod_PaperError,.func (PySem.W.fnX "__init__" iq_PaperError (defArgs st_ReasonError) (defBody st_ReasonError) (defScope st_ReasonError) [("__class__",icc_PaperError)] .none ikV_PaperError idc_PaperError ipm_PaperError ian_PaperError (.ref icd_PaperError) ict_PaperError),isl_PaperError⟩)
    (yC_PaperError:PySem.W.codeIn K (.ref icd_PaperError) iq_PaperError = true)
    (yD_PaperError:K.lookup icd_PaperError = some ⟨jc_PaperError,jd_PaperError,.fields jv_PaperError,js_PaperError⟩)
    (yF_PaperError:jv_PaperError[2]? = some (.str jf_PaperError jt_PaperError))
    (yP_PaperError:((P.main.file:Str) == jf_PaperError) = true)
    (yK_PaperError:K.lookup icc_PaperError = some ⟨kc_PaperError,kd_PaperError,.cell (some (.ref A_ReasonError)),ks_PaperError⟩)
    (hA_PaperError:PySem.W.findIn K (.ref A_PaperError) "__class__" = some (some (.builtin "object.__class__")))
    (hM_PaperError:PySem.W.mroIn K A_PaperError (.type "object") = some true)
    (xL_SiteError:K.lookup A_SiteError = some (PySem.excClassObj nm_SiteError q_SiteError A_SiteError N_SiteError bs_SiteError bm_SiteError true sn_SiteError sub_SiteError ab_SiteError col_SiteError dd_SiteError m0_SiteError m1_SiteError m2_SiteError m3_SiteError m5_SiteError "ValueError.__new__"))
    (xR_SiteError:PySem.HandSPX.refsVE bm_SiteError = true)
    (xS_SiteError:PySem.W.findIn K (.ref A_SiteError) "__setattr__" = some (some (.builtin "object.__setattr__")))
    (xG_SiteError:PySem.W.findIn K (.ref A_SiteError) "__getattribute__" = some (some (.builtin "BaseException.__getattribute__")))
    (xH_SiteError:PySem.W.findIn K (.ref A_SiteError) "__getattr__" = some none)
    (xN_SiteError_reason:PySem.W.findIn K (.ref A_SiteError) "reason" = some none)
    (xI_SiteError:PySem.W.findIn K (.ref A_SiteError) "__init__" = some (some (.ref fi_SiteError)))
    (xT_SiteError:PySem.W.typeIn K (.ref fi_SiteError) = some (.type "function"))
    (xK_SiteError:PySem.W.keepIn K (.ref A_SiteError) = true)
    (xE_SiteError:PySem.W.subIn K (.ref A_SiteError) (.type "BaseException") = some true)
    (xV_SiteError:PySem.W.subIn K (.ref A_SiteError) (.type "ValueError") = some true)
    (xY_SiteError:PySem.W.typeIn K (.ref A_SiteError) = some (.type "type"))
    (xD_SiteError:PySem.W.hasDictIn K A_SiteError = true)
    (xU_SiteError:PySem.W.ks_superIn K A_SiteError A_ReasonError "__init__" = some (some (.builtin "ValueError.__init__")))
    (xM_SiteError:PySem.W.mroIn K A_SiteError (.ref A_ReasonError) = some true)
    (yL_SiteError:K.lookup fi_SiteError = some ⟨ioc_SiteError,iod_SiteError,.func (PySem.W.fnX "__init__" iq_SiteError (defArgs st_ReasonError) (defBody st_ReasonError) (defScope st_ReasonError) [("__class__",icc_SiteError)] .none ikV_SiteError idc_SiteError ipm_SiteError ian_SiteError (.ref icd_SiteError) ict_SiteError),isl_SiteError⟩)
    (yC_SiteError:PySem.W.codeIn K (.ref icd_SiteError) iq_SiteError = true)
    (yD_SiteError:K.lookup icd_SiteError = some ⟨jc_SiteError,jd_SiteError,.fields jv_SiteError,js_SiteError⟩)
    (yF_SiteError:jv_SiteError[2]? = some (.str jf_SiteError jt_SiteError))
    (yP_SiteError:((P.main.file:Str) == jf_SiteError) = true)
    (yK_SiteError:K.lookup icc_SiteError = some ⟨kc_SiteError,kd_SiteError,.cell (some (.ref A_ReasonError)),ks_SiteError⟩)
    (hA_SiteError:PySem.W.findIn K (.ref A_SiteError) "__class__" = some (some (.builtin "object.__class__")))
    (hM_SiteError:PySem.W.mroIn K A_SiteError (.type "object") = some true)
    (xL_TooMany:K.lookup A_TooMany = some (PySem.excClassObj nm_TooMany q_TooMany A_TooMany N_TooMany bs_TooMany bm_TooMany true sn_TooMany sub_TooMany ab_TooMany col_TooMany dd_TooMany m0_TooMany m1_TooMany m2_TooMany m3_TooMany m5_TooMany "ValueError.__new__"))
    (xR_TooMany:PySem.HandSPX.refsVE bm_TooMany = true)
    (xS_TooMany:PySem.W.findIn K (.ref A_TooMany) "__setattr__" = some (some (.builtin "object.__setattr__")))
    (xG_TooMany:PySem.W.findIn K (.ref A_TooMany) "__getattribute__" = some (some (.builtin "BaseException.__getattribute__")))
    (xH_TooMany:PySem.W.findIn K (.ref A_TooMany) "__getattr__" = some none)
    (xN_TooMany_reason:PySem.W.findIn K (.ref A_TooMany) "reason" = some none)
    (xI_TooMany:PySem.W.findIn K (.ref A_TooMany) "__init__" = some (some (.ref fi_TooMany)))
    (xT_TooMany:PySem.W.typeIn K (.ref fi_TooMany) = some (.type "function"))
    (xK_TooMany:PySem.W.keepIn K (.ref A_TooMany) = true)
    (xE_TooMany:PySem.W.subIn K (.ref A_TooMany) (.type "BaseException") = some true)
    (xV_TooMany:PySem.W.subIn K (.ref A_TooMany) (.type "ValueError") = some true)
    (xY_TooMany:PySem.W.typeIn K (.ref A_TooMany) = some (.type "type"))
    (xD_TooMany:PySem.W.hasDictIn K A_TooMany = true)
    (xU_TooMany:PySem.W.ks_superIn K A_TooMany A_ReasonError "__init__" = some (some (.builtin "ValueError.__init__")))
    (xM_TooMany:PySem.W.mroIn K A_TooMany (.ref A_ReasonError) = some true)
    (yL_TooMany:K.lookup fi_TooMany = some ⟨ioc_TooMany,iod_TooMany,.func (PySem.W.fnX "__init__" iq_TooMany (defArgs st_ReasonError) (defBody st_ReasonError) (defScope st_ReasonError) [("__class__",icc_TooMany)] .none ikV_TooMany idc_TooMany ipm_TooMany ian_TooMany (.ref icd_TooMany) ict_TooMany),isl_TooMany⟩)
    (yC_TooMany:PySem.W.codeIn K (.ref icd_TooMany) iq_TooMany = true)
    (yD_TooMany:K.lookup icd_TooMany = some ⟨jc_TooMany,jd_TooMany,.fields jv_TooMany,js_TooMany⟩)
    (yF_TooMany:jv_TooMany[2]? = some (.str jf_TooMany jt_TooMany))
    (yP_TooMany:((P.main.file:Str) == jf_TooMany) = true)
    (yK_TooMany:K.lookup icc_TooMany = some ⟨kc_TooMany,kd_TooMany,.cell (some (.ref A_ReasonError)),ks_TooMany⟩)
    (hA_TooMany:PySem.W.findIn K (.ref A_TooMany) "__class__" = some (some (.builtin "object.__class__")))
    (hM_TooMany:PySem.W.mroIn K A_TooMany (.type "object") = some true)
    (xL_TextError:K.lookup A_TextError = some (PySem.excClassObj nm_TextError q_TextError A_TextError N_TextError bs_TextError bm_TextError true sn_TextError sub_TextError ab_TextError col_TextError dd_TextError m0_TextError m1_TextError m2_TextError m3_TextError m5_TextError "ValueError.__new__"))
    (xR_TextError:PySem.HandSPX.refsVE bm_TextError = true)
    (xS_TextError:PySem.W.findIn K (.ref A_TextError) "__setattr__" = some (some (.builtin "object.__setattr__")))
    (xG_TextError:PySem.W.findIn K (.ref A_TextError) "__getattribute__" = some (some (.builtin "BaseException.__getattribute__")))
    (xH_TextError:PySem.W.findIn K (.ref A_TextError) "__getattr__" = some none)
    (xN_TextError_at:PySem.W.findIn K (.ref A_TextError) "at" = some none)
    (xI_TextError:PySem.W.findIn K (.ref A_TextError) "__init__" = some (some (.ref fi_TextError)))
    (xT_TextError:PySem.W.typeIn K (.ref fi_TextError) = some (.type "function"))
    (xK_TextError:PySem.W.keepIn K (.ref A_TextError) = true)
    (xE_TextError:PySem.W.subIn K (.ref A_TextError) (.type "BaseException") = some true)
    (xV_TextError:PySem.W.subIn K (.ref A_TextError) (.type "ValueError") = some true)
    (xY_TextError:PySem.W.typeIn K (.ref A_TextError) = some (.type "type"))
    (xD_TextError:PySem.W.hasDictIn K A_TextError = true)
    (xU_TextError:PySem.W.ks_superIn K A_TextError A_TextError "__init__" = some (some (.builtin "ValueError.__init__")))
    (xM_TextError:PySem.W.mroIn K A_TextError (.ref A_TextError) = some true)
    (yL_TextError:K.lookup fi_TextError = some ⟨ioc_TextError,iod_TextError,.func (PySem.W.fnX "__init__" iq_TextError (defArgs st_TextError) (defBody st_TextError) (defScope st_TextError) [("__class__",icc_TextError)] .none ikV_TextError idc_TextError ipm_TextError ian_TextError (.ref icd_TextError) ict_TextError),isl_TextError⟩)
    (yC_TextError:PySem.W.codeIn K (.ref icd_TextError) iq_TextError = true)
    (yD_TextError:K.lookup icd_TextError = some ⟨jc_TextError,jd_TextError,.fields jv_TextError,js_TextError⟩)
    (yF_TextError:jv_TextError[2]? = some (.str jf_TextError jt_TextError))
    (yP_TextError:((P.main.file:Str) == jf_TextError) = true)
    (yK_TextError:K.lookup icc_TextError = some ⟨kc_TextError,kd_TextError,.cell (some (.ref A_TextError)),ks_TextError⟩)
    (hA_TextError:PySem.W.findIn K (.ref A_TextError) "__class__" = some (some (.builtin "object.__class__")))
    (hM_TextError:PySem.W.mroIn K A_TextError (.type "object") = some true)
    (xL_LogError:K.lookup A_LogError = some (PySem.excClassObj nm_LogError q_LogError A_LogError N_LogError bs_LogError bm_LogError true sn_LogError sub_LogError ab_LogError col_LogError dd_LogError m0_LogError m1_LogError m2_LogError m3_LogError m5_LogError "ValueError.__new__"))
    (xR_LogError:PySem.HandSPX.refsVE bm_LogError = true)
    (xS_LogError:PySem.W.findIn K (.ref A_LogError) "__setattr__" = some (some (.builtin "object.__setattr__")))
    (xG_LogError:PySem.W.findIn K (.ref A_LogError) "__getattribute__" = some (some (.builtin "BaseException.__getattribute__")))
    (xH_LogError:PySem.W.findIn K (.ref A_LogError) "__getattr__" = some none)
    (xN_LogError_number:PySem.W.findIn K (.ref A_LogError) "number" = some none)
    (xN_LogError_reason:PySem.W.findIn K (.ref A_LogError) "reason" = some none)
    (xI_LogError:PySem.W.findIn K (.ref A_LogError) "__init__" = some (some (.ref fi_LogError)))
    (xT_LogError:PySem.W.typeIn K (.ref fi_LogError) = some (.type "function"))
    (xK_LogError:PySem.W.keepIn K (.ref A_LogError) = true)
    (xE_LogError:PySem.W.subIn K (.ref A_LogError) (.type "BaseException") = some true)
    (xV_LogError:PySem.W.subIn K (.ref A_LogError) (.type "ValueError") = some true)
    (xY_LogError:PySem.W.typeIn K (.ref A_LogError) = some (.type "type"))
    (xD_LogError:PySem.W.hasDictIn K A_LogError = true)
    (xU_LogError:PySem.W.ks_superIn K A_LogError A_LogError "__init__" = some (some (.builtin "ValueError.__init__")))
    (xM_LogError:PySem.W.mroIn K A_LogError (.ref A_LogError) = some true)
    (yL_LogError:K.lookup fi_LogError = some ⟨ioc_LogError,iod_LogError,.func (PySem.W.fnX "__init__" iq_LogError (defArgs st_LogError) (defBody st_LogError) (defScope st_LogError) [("__class__",icc_LogError)] .none ikV_LogError idc_LogError ipm_LogError ian_LogError (.ref icd_LogError) ict_LogError),isl_LogError⟩)
    (yC_LogError:PySem.W.codeIn K (.ref icd_LogError) iq_LogError = true)
    (yD_LogError:K.lookup icd_LogError = some ⟨jc_LogError,jd_LogError,.fields jv_LogError,js_LogError⟩)
    (yF_LogError:jv_LogError[2]? = some (.str jf_LogError jt_LogError))
    (yP_LogError:((P.main.file:Str) == jf_LogError) = true)
    (yK_LogError:K.lookup icc_LogError = some ⟨kc_LogError,kd_LogError,.cell (some (.ref A_LogError)),ks_LogError⟩)
    (hA_LogError:PySem.W.findIn K (.ref A_LogError) "__class__" = some (some (.builtin "object.__class__")))
    (hM_LogError:PySem.W.mroIn K A_LogError (.type "object") = some true)
    (opq:PySem.W.nsIn K cStatics "thirdparty.any" = some none)
    (zsup:PySem.W.nsIn K mainGlobals "super" = some none)
    (ptop:(P.main.scope.names.lookup ("super" : Str)).isSome = false)
    (hN:PySem.W.specialIn K (.builtin "object.__class__") "__get__" = some (some (.builtin "getset_descriptor.__get__")))
    (hT:PySem.W.takesIn K (.builtin "object.__class__") = some true)
    (clD_CommandError:PySem.W.isClsIn K A_CommandError = true)
    (clD_ReasonError:PySem.W.isClsIn K A_ReasonError = true)
    (clD_TextError:PySem.W.isClsIn K A_TextError = true)
    (clD_LogError:PySem.W.isClsIn K A_LogError = true)
    (xE_FrameError:PySem.W.subIn K (.ref A_FrameError) (.type "BaseException") = some true)
    (xY_FrameError:PySem.W.typeIn K (.ref A_FrameError) = some (.type "type"))
    (xD_FrameError:PySem.W.hasDictIn K A_FrameError = true)
    (s_CommandError_FrameError:PySem.W.subIn K (.ref A_CommandError) (.ref A_FrameError) = some true)
    (s_ArgumentError_FrameError:PySem.W.subIn K (.ref A_ArgumentError) (.ref A_FrameError) = some true)
    (s_CheckError_FrameError:PySem.W.subIn K (.ref A_CheckError) (.ref A_FrameError) = some true)
    (s_PaperError_FrameError:PySem.W.subIn K (.ref A_PaperError) (.ref A_FrameError) = some true)
    (s_SiteError_FrameError:PySem.W.subIn K (.ref A_SiteError) (.ref A_FrameError) = some true)
    (s_TooMany_FrameError:PySem.W.subIn K (.ref A_TooMany) (.ref A_FrameError) = some true)
    (s_TextError_FrameError:PySem.W.subIn K (.ref A_TextError) (.ref A_FrameError) = some true)
    (s_LogError_FrameError:PySem.W.subIn K (.ref A_LogError) (.ref A_FrameError) = some true)
    (s_CommandError_ArgumentError:PySem.W.subIn K (.ref A_CommandError) (.ref A_ArgumentError) = some false)
    (s_ArgumentError_ArgumentError:PySem.W.subIn K (.ref A_ArgumentError) (.ref A_ArgumentError) = some true)
    (s_CheckError_ArgumentError:PySem.W.subIn K (.ref A_CheckError) (.ref A_ArgumentError) = some false)
    (s_PaperError_ArgumentError:PySem.W.subIn K (.ref A_PaperError) (.ref A_ArgumentError) = some false)
    (s_SiteError_ArgumentError:PySem.W.subIn K (.ref A_SiteError) (.ref A_ArgumentError) = some false)
    (s_TooMany_ArgumentError:PySem.W.subIn K (.ref A_TooMany) (.ref A_ArgumentError) = some false)
    (s_TextError_ArgumentError:PySem.W.subIn K (.ref A_TextError) (.ref A_ArgumentError) = some false)
    (s_LogError_ArgumentError:PySem.W.subIn K (.ref A_LogError) (.ref A_ArgumentError) = some false)
    (s_CommandError_CheckError:PySem.W.subIn K (.ref A_CommandError) (.ref A_CheckError) = some false)
    (s_ArgumentError_CheckError:PySem.W.subIn K (.ref A_ArgumentError) (.ref A_CheckError) = some false)
    (s_CheckError_CheckError:PySem.W.subIn K (.ref A_CheckError) (.ref A_CheckError) = some true)
    (s_PaperError_CheckError:PySem.W.subIn K (.ref A_PaperError) (.ref A_CheckError) = some false)
    (s_SiteError_CheckError:PySem.W.subIn K (.ref A_SiteError) (.ref A_CheckError) = some false)
    (s_TooMany_CheckError:PySem.W.subIn K (.ref A_TooMany) (.ref A_CheckError) = some false)
    (s_TextError_CheckError:PySem.W.subIn K (.ref A_TextError) (.ref A_CheckError) = some false)
    (s_LogError_CheckError:PySem.W.subIn K (.ref A_LogError) (.ref A_CheckError) = some false)
    (s_CommandError_PaperError:PySem.W.subIn K (.ref A_CommandError) (.ref A_PaperError) = some false)
    (s_ArgumentError_PaperError:PySem.W.subIn K (.ref A_ArgumentError) (.ref A_PaperError) = some false)
    (s_CheckError_PaperError:PySem.W.subIn K (.ref A_CheckError) (.ref A_PaperError) = some false)
    (s_PaperError_PaperError:PySem.W.subIn K (.ref A_PaperError) (.ref A_PaperError) = some true)
    (s_SiteError_PaperError:PySem.W.subIn K (.ref A_SiteError) (.ref A_PaperError) = some false)
    (s_TooMany_PaperError:PySem.W.subIn K (.ref A_TooMany) (.ref A_PaperError) = some false)
    (s_TextError_PaperError:PySem.W.subIn K (.ref A_TextError) (.ref A_PaperError) = some false)
    (s_LogError_PaperError:PySem.W.subIn K (.ref A_LogError) (.ref A_PaperError) = some false)
    (s_CommandError_SiteError:PySem.W.subIn K (.ref A_CommandError) (.ref A_SiteError) = some false)
    (s_ArgumentError_SiteError:PySem.W.subIn K (.ref A_ArgumentError) (.ref A_SiteError) = some false)
    (s_CheckError_SiteError:PySem.W.subIn K (.ref A_CheckError) (.ref A_SiteError) = some false)
    (s_PaperError_SiteError:PySem.W.subIn K (.ref A_PaperError) (.ref A_SiteError) = some false)
    (s_SiteError_SiteError:PySem.W.subIn K (.ref A_SiteError) (.ref A_SiteError) = some true)
    (s_TooMany_SiteError:PySem.W.subIn K (.ref A_TooMany) (.ref A_SiteError) = some false)
    (s_TextError_SiteError:PySem.W.subIn K (.ref A_TextError) (.ref A_SiteError) = some false)
    (s_LogError_SiteError:PySem.W.subIn K (.ref A_LogError) (.ref A_SiteError) = some false)
    (s_CommandError_TooMany:PySem.W.subIn K (.ref A_CommandError) (.ref A_TooMany) = some false)
    (s_ArgumentError_TooMany:PySem.W.subIn K (.ref A_ArgumentError) (.ref A_TooMany) = some false)
    (s_CheckError_TooMany:PySem.W.subIn K (.ref A_CheckError) (.ref A_TooMany) = some false)
    (s_PaperError_TooMany:PySem.W.subIn K (.ref A_PaperError) (.ref A_TooMany) = some false)
    (s_SiteError_TooMany:PySem.W.subIn K (.ref A_SiteError) (.ref A_TooMany) = some false)
    (s_TooMany_TooMany:PySem.W.subIn K (.ref A_TooMany) (.ref A_TooMany) = some true)
    (s_TextError_TooMany:PySem.W.subIn K (.ref A_TextError) (.ref A_TooMany) = some false)
    (s_LogError_TooMany:PySem.W.subIn K (.ref A_LogError) (.ref A_TooMany) = some false)
    (s_CommandError_TextError:PySem.W.subIn K (.ref A_CommandError) (.ref A_TextError) = some false)
    (s_ArgumentError_TextError:PySem.W.subIn K (.ref A_ArgumentError) (.ref A_TextError) = some false)
    (s_CheckError_TextError:PySem.W.subIn K (.ref A_CheckError) (.ref A_TextError) = some false)
    (s_PaperError_TextError:PySem.W.subIn K (.ref A_PaperError) (.ref A_TextError) = some false)
    (s_SiteError_TextError:PySem.W.subIn K (.ref A_SiteError) (.ref A_TextError) = some false)
    (s_TooMany_TextError:PySem.W.subIn K (.ref A_TooMany) (.ref A_TextError) = some false)
    (s_TextError_TextError:PySem.W.subIn K (.ref A_TextError) (.ref A_TextError) = some true)
    (s_LogError_TextError:PySem.W.subIn K (.ref A_LogError) (.ref A_TextError) = some false)
    (s_CommandError_LogError:PySem.W.subIn K (.ref A_CommandError) (.ref A_LogError) = some false)
    (s_ArgumentError_LogError:PySem.W.subIn K (.ref A_ArgumentError) (.ref A_LogError) = some false)
    (s_CheckError_LogError:PySem.W.subIn K (.ref A_CheckError) (.ref A_LogError) = some false)
    (s_PaperError_LogError:PySem.W.subIn K (.ref A_PaperError) (.ref A_LogError) = some false)
    (s_SiteError_LogError:PySem.W.subIn K (.ref A_SiteError) (.ref A_LogError) = some false)
    (s_TooMany_LogError:PySem.W.subIn K (.ref A_TooMany) (.ref A_LogError) = some false)
    (s_TextError_LogError:PySem.W.subIn K (.ref A_TextError) (.ref A_LogError) = some false)
    (s_LogError_LogError:PySem.W.subIn K (.ref A_LogError) (.ref A_LogError) = some true)
    (s_CommandError_CommandError:PySem.W.subIn K (.ref A_CommandError) (.ref A_CommandError) = some true)
    (s_ArgumentError_CommandError:PySem.W.subIn K (.ref A_ArgumentError) (.ref A_CommandError) = some false)
    (s_CheckError_CommandError:PySem.W.subIn K (.ref A_CheckError) (.ref A_CommandError) = some false)
    (s_PaperError_CommandError:PySem.W.subIn K (.ref A_PaperError) (.ref A_CommandError) = some false)
    (s_SiteError_CommandError:PySem.W.subIn K (.ref A_SiteError) (.ref A_CommandError) = some false)
    (s_TooMany_CommandError:PySem.W.subIn K (.ref A_TooMany) (.ref A_CommandError) = some false)
    (s_TextError_CommandError:PySem.W.subIn K (.ref A_TextError) (.ref A_CommandError) = some false)
    (s_LogError_CommandError:PySem.W.subIn K (.ref A_LogError) (.ref A_CommandError) = some false)
    (o_CommandError_ArgumentError:PySem.W.kitOne K (.ref A_CommandError) (.ref A_ArgumentError) = some false)
    (o_ArgumentError_ArgumentError:PySem.W.kitOne K (.ref A_ArgumentError) (.ref A_ArgumentError) = some true)
    (o_CheckError_ArgumentError:PySem.W.kitOne K (.ref A_CheckError) (.ref A_ArgumentError) = some false)
    (o_PaperError_ArgumentError:PySem.W.kitOne K (.ref A_PaperError) (.ref A_ArgumentError) = some false)
    (o_SiteError_ArgumentError:PySem.W.kitOne K (.ref A_SiteError) (.ref A_ArgumentError) = some false)
    (o_TooMany_ArgumentError:PySem.W.kitOne K (.ref A_TooMany) (.ref A_ArgumentError) = some false)
    (o_TextError_ArgumentError:PySem.W.kitOne K (.ref A_TextError) (.ref A_ArgumentError) = some false)
    (o_LogError_ArgumentError:PySem.W.kitOne K (.ref A_LogError) (.ref A_ArgumentError) = some false)
    (o_CommandError_CheckError:PySem.W.kitOne K (.ref A_CommandError) (.ref A_CheckError) = some false)
    (o_ArgumentError_CheckError:PySem.W.kitOne K (.ref A_ArgumentError) (.ref A_CheckError) = some false)
    (o_CheckError_CheckError:PySem.W.kitOne K (.ref A_CheckError) (.ref A_CheckError) = some true)
    (o_PaperError_CheckError:PySem.W.kitOne K (.ref A_PaperError) (.ref A_CheckError) = some false)
    (o_SiteError_CheckError:PySem.W.kitOne K (.ref A_SiteError) (.ref A_CheckError) = some false)
    (o_TooMany_CheckError:PySem.W.kitOne K (.ref A_TooMany) (.ref A_CheckError) = some false)
    (o_TextError_CheckError:PySem.W.kitOne K (.ref A_TextError) (.ref A_CheckError) = some false)
    (o_LogError_CheckError:PySem.W.kitOne K (.ref A_LogError) (.ref A_CheckError) = some false)
    (o_CommandError_PaperError:PySem.W.kitOne K (.ref A_CommandError) (.ref A_PaperError) = some false)
    (o_ArgumentError_PaperError:PySem.W.kitOne K (.ref A_ArgumentError) (.ref A_PaperError) = some false)
    (o_CheckError_PaperError:PySem.W.kitOne K (.ref A_CheckError) (.ref A_PaperError) = some false)
    (o_PaperError_PaperError:PySem.W.kitOne K (.ref A_PaperError) (.ref A_PaperError) = some true)
    (o_SiteError_PaperError:PySem.W.kitOne K (.ref A_SiteError) (.ref A_PaperError) = some false)
    (o_TooMany_PaperError:PySem.W.kitOne K (.ref A_TooMany) (.ref A_PaperError) = some false)
    (o_TextError_PaperError:PySem.W.kitOne K (.ref A_TextError) (.ref A_PaperError) = some false)
    (o_LogError_PaperError:PySem.W.kitOne K (.ref A_LogError) (.ref A_PaperError) = some false)
    (o_CommandError_SiteError:PySem.W.kitOne K (.ref A_CommandError) (.ref A_SiteError) = some false)
    (o_ArgumentError_SiteError:PySem.W.kitOne K (.ref A_ArgumentError) (.ref A_SiteError) = some false)
    (o_CheckError_SiteError:PySem.W.kitOne K (.ref A_CheckError) (.ref A_SiteError) = some false)
    (o_PaperError_SiteError:PySem.W.kitOne K (.ref A_PaperError) (.ref A_SiteError) = some false)
    (o_SiteError_SiteError:PySem.W.kitOne K (.ref A_SiteError) (.ref A_SiteError) = some true)
    (o_TooMany_SiteError:PySem.W.kitOne K (.ref A_TooMany) (.ref A_SiteError) = some false)
    (o_TextError_SiteError:PySem.W.kitOne K (.ref A_TextError) (.ref A_SiteError) = some false)
    (o_LogError_SiteError:PySem.W.kitOne K (.ref A_LogError) (.ref A_SiteError) = some false)
    (o_CommandError_TooMany:PySem.W.kitOne K (.ref A_CommandError) (.ref A_TooMany) = some false)
    (o_ArgumentError_TooMany:PySem.W.kitOne K (.ref A_ArgumentError) (.ref A_TooMany) = some false)
    (o_CheckError_TooMany:PySem.W.kitOne K (.ref A_CheckError) (.ref A_TooMany) = some false)
    (o_PaperError_TooMany:PySem.W.kitOne K (.ref A_PaperError) (.ref A_TooMany) = some false)
    (o_SiteError_TooMany:PySem.W.kitOne K (.ref A_SiteError) (.ref A_TooMany) = some false)
    (o_TooMany_TooMany:PySem.W.kitOne K (.ref A_TooMany) (.ref A_TooMany) = some true)
    (o_TextError_TooMany:PySem.W.kitOne K (.ref A_TextError) (.ref A_TooMany) = some false)
    (o_LogError_TooMany:PySem.W.kitOne K (.ref A_LogError) (.ref A_TooMany) = some false)
    (o_CommandError_TextError:PySem.W.kitOne K (.ref A_CommandError) (.ref A_TextError) = some false)
    (o_ArgumentError_TextError:PySem.W.kitOne K (.ref A_ArgumentError) (.ref A_TextError) = some false)
    (o_CheckError_TextError:PySem.W.kitOne K (.ref A_CheckError) (.ref A_TextError) = some false)
    (o_PaperError_TextError:PySem.W.kitOne K (.ref A_PaperError) (.ref A_TextError) = some false)
    (o_SiteError_TextError:PySem.W.kitOne K (.ref A_SiteError) (.ref A_TextError) = some false)
    (o_TooMany_TextError:PySem.W.kitOne K (.ref A_TooMany) (.ref A_TextError) = some false)
    (o_TextError_TextError:PySem.W.kitOne K (.ref A_TextError) (.ref A_TextError) = some true)
    (o_LogError_TextError:PySem.W.kitOne K (.ref A_LogError) (.ref A_TextError) = some false)
    (o_CommandError_LogError:PySem.W.kitOne K (.ref A_CommandError) (.ref A_LogError) = some false)
    (o_ArgumentError_LogError:PySem.W.kitOne K (.ref A_ArgumentError) (.ref A_LogError) = some false)
    (o_CheckError_LogError:PySem.W.kitOne K (.ref A_CheckError) (.ref A_LogError) = some false)
    (o_PaperError_LogError:PySem.W.kitOne K (.ref A_PaperError) (.ref A_LogError) = some false)
    (o_SiteError_LogError:PySem.W.kitOne K (.ref A_SiteError) (.ref A_LogError) = some false)
    (o_TooMany_LogError:PySem.W.kitOne K (.ref A_TooMany) (.ref A_LogError) = some false)
    (o_TextError_LogError:PySem.W.kitOne K (.ref A_TextError) (.ref A_LogError) = some false)
    (o_LogError_LogError:PySem.W.kitOne K (.ref A_LogError) (.ref A_LogError) = some true)
    (o_CommandError_CommandError:PySem.W.kitOne K (.ref A_CommandError) (.ref A_CommandError) = some true)
    (o_ArgumentError_CommandError:PySem.W.kitOne K (.ref A_ArgumentError) (.ref A_CommandError) = some false)
    (o_CheckError_CommandError:PySem.W.kitOne K (.ref A_CheckError) (.ref A_CommandError) = some false)
    (o_PaperError_CommandError:PySem.W.kitOne K (.ref A_PaperError) (.ref A_CommandError) = some false)
    (o_SiteError_CommandError:PySem.W.kitOne K (.ref A_SiteError) (.ref A_CommandError) = some false)
    (o_TooMany_CommandError:PySem.W.kitOne K (.ref A_TooMany) (.ref A_CommandError) = some false)
    (o_TextError_CommandError:PySem.W.kitOne K (.ref A_TextError) (.ref A_CommandError) = some false)
    (o_LogError_CommandError:PySem.W.kitOne K (.ref A_LogError) (.ref A_CommandError) = some false)
    (o_CommandError_FrameError:PySem.W.kitOne K (.ref A_CommandError) (.ref A_FrameError) = some true)
    (o_ArgumentError_FrameError:PySem.W.kitOne K (.ref A_ArgumentError) (.ref A_FrameError) = some true)
    (o_CheckError_FrameError:PySem.W.kitOne K (.ref A_CheckError) (.ref A_FrameError) = some true)
    (o_PaperError_FrameError:PySem.W.kitOne K (.ref A_PaperError) (.ref A_FrameError) = some true)
    (o_SiteError_FrameError:PySem.W.kitOne K (.ref A_SiteError) (.ref A_FrameError) = some true)
    (o_TooMany_FrameError:PySem.W.kitOne K (.ref A_TooMany) (.ref A_FrameError) = some true)
    (o_TextError_FrameError:PySem.W.kitOne K (.ref A_TextError) (.ref A_FrameError) = some true)
    (o_LogError_FrameError:PySem.W.kitOne K (.ref A_LogError) (.ref A_FrameError) = some true)
    (ov_CommandError_ValueError:PySem.W.kitOne K (.ref A_CommandError) (.type "ValueError") = some true)
    (ov_ArgumentError_ValueError:PySem.W.kitOne K (.ref A_ArgumentError) (.type "ValueError") = some true)
    (ov_CheckError_ValueError:PySem.W.kitOne K (.ref A_CheckError) (.type "ValueError") = some true)
    (ov_PaperError_ValueError:PySem.W.kitOne K (.ref A_PaperError) (.type "ValueError") = some true)
    (ov_SiteError_ValueError:PySem.W.kitOne K (.ref A_SiteError) (.type "ValueError") = some true)
    (ov_TooMany_ValueError:PySem.W.kitOne K (.ref A_TooMany) (.type "ValueError") = some true)
    (ov_TextError_ValueError:PySem.W.kitOne K (.ref A_TextError) (.type "ValueError") = some true)
    (ov_LogError_ValueError:PySem.W.kitOne K (.ref A_LogError) (.type "ValueError") = some true)
    (z_ValueError:PySem.W.nsIn K mainGlobals "ValueError" = some none)
    (z_abs:PySem.W.nsIn K mainGlobals "abs" = some none)
    (z_int:PySem.W.nsIn K mainGlobals "int" = some none)
    (z_isinstance:PySem.W.nsIn K mainGlobals "isinstance" = some none)
    (z_len:PySem.W.nsIn K mainGlobals "len" = some none)
    (z_range:PySem.W.nsIn K mainGlobals "range" = some none)
    (z_repr:PySem.W.nsIn K mainGlobals "repr" = some none)
    (g0_MAX_JOINTS:PySem.W.nsIn K mainGlobals "MAX_JOINTS" = some (some (.int (12) gt_MAX_JOINTS)))
    (g0_MAX_BARS:PySem.W.nsIn K mainGlobals "MAX_BARS" = some (some (.int (30) gt_MAX_BARS)))
    (g0_MAX_PLACE:PySem.W.nsIn K mainGlobals "MAX_PLACE" = some (some (.int (1000) gt_MAX_PLACE)))
    (g0_MAX_NAME:PySem.W.nsIn K mainGlobals "MAX_NAME" = some (some (.int (12) gt_MAX_NAME)))
    (g0_MAX_FORCE:PySem.W.nsIn K mainGlobals "MAX_FORCE" = some (some (.int (1000000) gt_MAX_FORCE)))
    (g0_MAX_TEXT:PySem.W.nsIn K mainGlobals "MAX_TEXT" = some (some (.int (6000) gt_MAX_TEXT)))
    (g0_MAX_NUMBER:PySem.W.nsIn K mainGlobals "MAX_NUMBER" = some (some (.int (1000000000) gt_MAX_NUMBER)))
    (g0_MAX_ROWS:PySem.W.nsIn K mainGlobals "MAX_ROWS" = some (some (.int (12) gt_MAX_ROWS)))
    (g0_MAX_COST:PySem.W.nsIn K mainGlobals "MAX_COST" = some (some (.int (1000000) gt_MAX_COST)))
    (g0_MAX_CASES:PySem.W.nsIn K mainGlobals "MAX_CASES" = some (some (.int (8) gt_MAX_CASES)))
    (g0_MAX_KEPT:PySem.W.nsIn K mainGlobals "MAX_KEPT" = some (some (.int (8) gt_MAX_KEPT)))
    (g0_MAX_AWAY:PySem.W.nsIn K mainGlobals "MAX_AWAY" = some (some (.int (3) gt_MAX_AWAY)))
    (g0_MAX_STRONG:PySem.W.nsIn K mainGlobals "MAX_STRONG" = some (some (.int (12) gt_MAX_STRONG)))
    (g0_MAX_LINES:PySem.W.nsIn K mainGlobals "MAX_LINES" = some (some (.int (12) gt_MAX_LINES)))
    (g0_MAX_BRACES:PySem.W.nsIn K mainGlobals "MAX_BRACES" = some (some (.int (60) gt_MAX_BRACES)))
    (g0_MAX_PROPS:PySem.W.nsIn K mainGlobals "MAX_PROPS" = some (some (.int (3) gt_MAX_PROPS)))
    (g0_MAX_BLOCKS:PySem.W.nsIn K mainGlobals "MAX_BLOCKS" = some (some (.int (12) gt_MAX_BLOCKS)))
    (g0_MAX_JOBS:PySem.W.nsIn K mainGlobals "MAX_JOBS" = some (some (.int (10) gt_MAX_JOBS)))
    (g0_MAX_PIECES:PySem.W.nsIn K mainGlobals "MAX_PIECES" = some (some (.int (20) gt_MAX_PIECES)))
    (g0_MAX_LENGTH:PySem.W.nsIn K mainGlobals "MAX_LENGTH" = some (some (.int (200) gt_MAX_LENGTH)))
    (g0_MAX_LOG:PySem.W.nsIn K mainGlobals "MAX_LOG" = some (some (.int (200) gt_MAX_LOG)))
    (g0_MAX_SIDE:PySem.W.nsIn K mainGlobals "MAX_SIDE" = some (some (.int (3) gt_MAX_SIDE)))
    (g0_MAX_DEPTH:PySem.W.nsIn K mainGlobals "MAX_DEPTH" = some (some (.int (100) gt_MAX_DEPTH)))
    (g0_MAX_DIGITS:PySem.W.nsIn K mainGlobals "MAX_DIGITS" = some (some (.int (60) gt_MAX_DIGITS)))
    (g0_MAX_CRANES:PySem.W.nsIn K mainGlobals "MAX_CRANES" = some (some (.int (8) gt_MAX_CRANES)))
    (g0_MAX_LIFTS:PySem.W.nsIn K mainGlobals "MAX_LIFTS" = some (some (.int (8) gt_MAX_LIFTS)))
    (g0_MAX_VAULT:PySem.W.nsIn K mainGlobals "MAX_VAULT" = some (some (.int (8) gt_MAX_VAULT)))
    (g0_MAX_LOADS:PySem.W.nsIn K mainGlobals "MAX_LOADS" = some (some (.int (12) gt_MAX_LOADS)))
    (pl:∀ C:Cl,CF C→∀ (ns:List Int),ns.length≤63→∃ ps,F_law C [.val (.lst (ns.map D.int))] = .ok (.val (.bl true)) ps):
    ∃ (fd:FuncData) (Ft:Fn),(∀ (s:Shared) (u:Value),BindsTo s fd ⟨[u],[]⟩ [("script",u)])∧(∀ base:Heap,K.In base→base.Ns mainGlobals mg→FnG P w K mg base 4 fa fd ["script"] (spF K Ft))∧∀ ns:List Int,ns.length≤63→∃ ps,Ft [.val (.lst (ns.map D.int))] = .ok (.val (.bl true)) ps:=by
  cases hfa.symm.trans (PySem.W.mg_of X G a9)
  have sx_CommandError:SupEx P K mg A_CommandError ps_CommandError:=by
    obtain ⟨cd,hcd⟩:=Option.isSome_iff_exists.mp (show (PySem.W.clsIn K A_CommandError).isSome = true from clD_CommandError)
    exact ⟨st_CommandError,A_CommandError,fi_CommandError,{ cls:=⟨_,_,_,_,_,_,_,_,_,_,_,_,_,_,_,xL_CommandError,xR_CommandError⟩,sa:=xS_CommandError,ga:=xG_CommandError,gg:=xH_CommandError,noN:=fun z hz=>by simp only [List.mem_cons,List.not_mem_nil,or_false] at hz; rcases hz with rfl <;> (subst_vars; first | exact xN_CommandError_line),iC:=xI_CommandError,tI:=xT_CommandError,kC:=xK_CommandError,exC:=xE_CommandError,veC:=xV_CommandError,tyC:=xY_CommandError,hdC:=xD_CommandError,opq:=opq,sin:=xU_CommandError,sub:=xM_CommandError,clD:=⟨cd,hcd⟩,msup:=PySem.W.mg_none_of X G zsup,ini:=ini_CommandError,top:=ptop,fn:=⟨_,_,_,_,_,_,_,_,_,_,_,_,_,_,_,_,_,_,_,_,yL_CommandError,yC_CommandError,yD_CommandError,yF_CommandError,yP_CommandError,yK_CommandError,fun s x us hu=>match us,hu with | [_],_=>.of_eq rfl⟩ }⟩
  have sx_ArgumentError:SupEx P K mg A_ArgumentError ps_ArgumentError:=by
    obtain ⟨cd,hcd⟩:=Option.isSome_iff_exists.mp (show (PySem.W.clsIn K A_ReasonError).isSome = true from clD_ReasonError)
    exact ⟨st_ReasonError,A_ReasonError,fi_ArgumentError,{ cls:=⟨_,_,_,_,_,_,_,_,_,_,_,_,_,_,_,xL_ArgumentError,xR_ArgumentError⟩,sa:=xS_ArgumentError,ga:=xG_ArgumentError,gg:=xH_ArgumentError,noN:=fun z hz=>by simp only [List.mem_cons,List.not_mem_nil,or_false] at hz; rcases hz with rfl <;> (subst_vars; first | exact xN_ArgumentError_reason),iC:=xI_ArgumentError,tI:=xT_ArgumentError,kC:=xK_ArgumentError,exC:=xE_ArgumentError,veC:=xV_ArgumentError,tyC:=xY_ArgumentError,hdC:=xD_ArgumentError,opq:=opq,sin:=xU_ArgumentError,sub:=xM_ArgumentError,clD:=⟨cd,hcd⟩,msup:=PySem.W.mg_none_of X G zsup,ini:=ini_ReasonError,top:=ptop,fn:=⟨_,_,_,_,_,_,_,_,_,_,_,_,_,_,_,_,_,_,_,_,yL_ArgumentError,yC_ArgumentError,yD_ArgumentError,yF_ArgumentError,yP_ArgumentError,yK_ArgumentError,fun s x us hu=>match us,hu with | [_],_=>.of_eq rfl⟩ }⟩
  have sx_CheckError:SupEx P K mg A_CheckError ps_CheckError:=by
    obtain ⟨cd,hcd⟩:=Option.isSome_iff_exists.mp (show (PySem.W.clsIn K A_ReasonError).isSome = true from clD_ReasonError)
    exact ⟨st_ReasonError,A_ReasonError,fi_CheckError,{ cls:=⟨_,_,_,_,_,_,_,_,_,_,_,_,_,_,_,xL_CheckError,xR_CheckError⟩,sa:=xS_CheckError,ga:=xG_CheckError,gg:=xH_CheckError,noN:=fun z hz=>by simp only [List.mem_cons,List.not_mem_nil,or_false] at hz; rcases hz with rfl <;> (subst_vars; first | exact xN_CheckError_reason),iC:=xI_CheckError,tI:=xT_CheckError,kC:=xK_CheckError,exC:=xE_CheckError,veC:=xV_CheckError,tyC:=xY_CheckError,hdC:=xD_CheckError,opq:=opq,sin:=xU_CheckError,sub:=xM_CheckError,clD:=⟨cd,hcd⟩,msup:=PySem.W.mg_none_of X G zsup,ini:=ini_ReasonError,top:=ptop,fn:=⟨_,_,_,_,_,_,_,_,_,_,_,_,_,_,_,_,_,_,_,_,yL_CheckError,yC_CheckError,yD_CheckError,yF_CheckError,yP_CheckError,yK_CheckError,fun s x us hu=>match us,hu with | [_],_=>.of_eq rfl⟩ }⟩
  have sx_PaperError:SupEx P K mg A_PaperError ps_PaperError:=by
    obtain ⟨cd,hcd⟩:=Option.isSome_iff_exists.mp (show (PySem.W.clsIn K A_ReasonError).isSome = true from clD_ReasonError)
    exact ⟨st_ReasonError,A_ReasonError,fi_PaperError,{ cls:=⟨_,_,_,_,_,_,_,_,_,_,_,_,_,_,_,xL_PaperError,xR_PaperError⟩,sa:=xS_PaperError,ga:=xG_PaperError,gg:=xH_PaperError,noN:=fun z hz=>by simp only [List.mem_cons,List.not_mem_nil,or_false] at hz; rcases hz with rfl <;> (subst_vars; first | exact xN_PaperError_reason),iC:=xI_PaperError,tI:=xT_PaperError,kC:=xK_PaperError,exC:=xE_PaperError,veC:=xV_PaperError,tyC:=xY_PaperError,hdC:=xD_PaperError,opq:=opq,sin:=xU_PaperError,sub:=xM_PaperError,clD:=⟨cd,hcd⟩,msup:=PySem.W.mg_none_of X G zsup,ini:=ini_ReasonError,top:=ptop,fn:=⟨_,_,_,_,_,_,_,_,_,_,_,_,_,_,_,_,_,_,_,_,yL_PaperError,yC_PaperError,yD_PaperError,yF_PaperError,yP_PaperError,yK_PaperError,fun s x us hu=>match us,hu with | [_],_=>.of_eq rfl⟩ }⟩
  have sx_SiteError:SupEx P K mg A_SiteError ps_SiteError:=by
    obtain ⟨cd,hcd⟩:=Option.isSome_iff_exists.mp (show (PySem.W.clsIn K A_ReasonError).isSome = true from clD_ReasonError)
    exact ⟨st_ReasonError,A_ReasonError,fi_SiteError,{ cls:=⟨_,_,_,_,_,_,_,_,_,_,_,_,_,_,_,xL_SiteError,xR_SiteError⟩,sa:=xS_SiteError,ga:=xG_SiteError,gg:=xH_SiteError,noN:=fun z hz=>by simp only [List.mem_cons,List.not_mem_nil,or_false] at hz; rcases hz with rfl <;> (subst_vars; first | exact xN_SiteError_reason),iC:=xI_SiteError,tI:=xT_SiteError,kC:=xK_SiteError,exC:=xE_SiteError,veC:=xV_SiteError,tyC:=xY_SiteError,hdC:=xD_SiteError,opq:=opq,sin:=xU_SiteError,sub:=xM_SiteError,clD:=⟨cd,hcd⟩,msup:=PySem.W.mg_none_of X G zsup,ini:=ini_ReasonError,top:=ptop,fn:=⟨_,_,_,_,_,_,_,_,_,_,_,_,_,_,_,_,_,_,_,_,yL_SiteError,yC_SiteError,yD_SiteError,yF_SiteError,yP_SiteError,yK_SiteError,fun s x us hu=>match us,hu with | [_],_=>.of_eq rfl⟩ }⟩
  have sx_TooMany:SupEx P K mg A_TooMany ps_TooMany:=by
    obtain ⟨cd,hcd⟩:=Option.isSome_iff_exists.mp (show (PySem.W.clsIn K A_ReasonError).isSome = true from clD_ReasonError)
    exact ⟨st_ReasonError,A_ReasonError,fi_TooMany,{ cls:=⟨_,_,_,_,_,_,_,_,_,_,_,_,_,_,_,xL_TooMany,xR_TooMany⟩,sa:=xS_TooMany,ga:=xG_TooMany,gg:=xH_TooMany,noN:=fun z hz=>by simp only [List.mem_cons,List.not_mem_nil,or_false] at hz; rcases hz with rfl <;> (subst_vars; first | exact xN_TooMany_reason),iC:=xI_TooMany,tI:=xT_TooMany,kC:=xK_TooMany,exC:=xE_TooMany,veC:=xV_TooMany,tyC:=xY_TooMany,hdC:=xD_TooMany,opq:=opq,sin:=xU_TooMany,sub:=xM_TooMany,clD:=⟨cd,hcd⟩,msup:=PySem.W.mg_none_of X G zsup,ini:=ini_ReasonError,top:=ptop,fn:=⟨_,_,_,_,_,_,_,_,_,_,_,_,_,_,_,_,_,_,_,_,yL_TooMany,yC_TooMany,yD_TooMany,yF_TooMany,yP_TooMany,yK_TooMany,fun s x us hu=>match us,hu with | [_],_=>.of_eq rfl⟩ }⟩
  have sx_TextError:SupEx P K mg A_TextError ps_TextError:=by
    obtain ⟨cd,hcd⟩:=Option.isSome_iff_exists.mp (show (PySem.W.clsIn K A_TextError).isSome = true from clD_TextError)
    exact ⟨st_TextError,A_TextError,fi_TextError,{ cls:=⟨_,_,_,_,_,_,_,_,_,_,_,_,_,_,_,xL_TextError,xR_TextError⟩,sa:=xS_TextError,ga:=xG_TextError,gg:=xH_TextError,noN:=fun z hz=>by simp only [List.mem_cons,List.not_mem_nil,or_false] at hz; rcases hz with rfl <;> (subst_vars; first | exact xN_TextError_at),iC:=xI_TextError,tI:=xT_TextError,kC:=xK_TextError,exC:=xE_TextError,veC:=xV_TextError,tyC:=xY_TextError,hdC:=xD_TextError,opq:=opq,sin:=xU_TextError,sub:=xM_TextError,clD:=⟨cd,hcd⟩,msup:=PySem.W.mg_none_of X G zsup,ini:=ini_TextError,top:=ptop,fn:=⟨_,_,_,_,_,_,_,_,_,_,_,_,_,_,_,_,_,_,_,_,yL_TextError,yC_TextError,yD_TextError,yF_TextError,yP_TextError,yK_TextError,fun s x us hu=>match us,hu with | [_],_=>.of_eq rfl⟩ }⟩
  have sx_LogError:SupEx P K mg A_LogError ps_LogError:=by
    obtain ⟨cd,hcd⟩:=Option.isSome_iff_exists.mp (show (PySem.W.clsIn K A_LogError).isSome = true from clD_LogError)
    exact ⟨st_LogError,A_LogError,fi_LogError,{ cls:=⟨_,_,_,_,_,_,_,_,_,_,_,_,_,_,_,xL_LogError,xR_LogError⟩,sa:=xS_LogError,ga:=xG_LogError,gg:=xH_LogError,noN:=fun z hz=>by simp only [List.mem_cons,List.not_mem_nil,or_false] at hz; rcases hz with rfl | rfl <;> (subst_vars; first | exact xN_LogError_number | exact xN_LogError_reason),iC:=xI_LogError,tI:=xT_LogError,kC:=xK_LogError,exC:=xE_LogError,veC:=xV_LogError,tyC:=xY_LogError,hdC:=xD_LogError,opq:=opq,sin:=xU_LogError,sub:=xM_LogError,clD:=⟨cd,hcd⟩,msup:=PySem.W.mg_none_of X G zsup,ini:=ini_LogError,top:=ptop,fn:=⟨_,_,_,_,_,_,_,_,_,_,_,_,_,_,_,_,_,_,_,_,yL_LogError,yC_LogError,yD_LogError,yF_LogError,yP_LogError,yK_LogError,fun s x us hu=>match us,hu with | [_,_],_=>.of_eq rfl⟩ }⟩
  have ex_CommandError:ExcC K A_CommandError:=⟨xG_CommandError,xH_CommandError,xE_CommandError,xD_CommandError,hA_CommandError,hN,hT,hM_CommandError⟩
  have ex_ArgumentError:ExcC K A_ArgumentError:=⟨xG_ArgumentError,xH_ArgumentError,xE_ArgumentError,xD_ArgumentError,hA_ArgumentError,hN,hT,hM_ArgumentError⟩
  have ex_CheckError:ExcC K A_CheckError:=⟨xG_CheckError,xH_CheckError,xE_CheckError,xD_CheckError,hA_CheckError,hN,hT,hM_CheckError⟩
  have ex_PaperError:ExcC K A_PaperError:=⟨xG_PaperError,xH_PaperError,xE_PaperError,xD_PaperError,hA_PaperError,hN,hT,hM_PaperError⟩
  have ex_SiteError:ExcC K A_SiteError:=⟨xG_SiteError,xH_SiteError,xE_SiteError,xD_SiteError,hA_SiteError,hN,hT,hM_SiteError⟩
  have ex_TooMany:ExcC K A_TooMany:=⟨xG_TooMany,xH_TooMany,xE_TooMany,xD_TooMany,hA_TooMany,hN,hT,hM_TooMany⟩
  have ex_TextError:ExcC K A_TextError:=⟨xG_TextError,xH_TextError,xE_TextError,xD_TextError,hA_TextError,hN,hT,hM_TextError⟩
  have ex_LogError:ExcC K A_LogError:=⟨xG_LogError,xH_LogError,xE_LogError,xD_LogError,hA_LogError,hN,hT,hM_LogError⟩
  have cf:CF (mkC A_FrameError A_CheckError A_ArgumentError A_PaperError A_TooMany A_SiteError A_TextError A_LogError A_CommandError):={
    m_FrameError_CommandError:=look_tab (f:=fun B=>PySem.W.exmOne K (.ref B) (.ref A_FrameError)) (PySem.W.exm_ref xE_FrameError xD_FrameError xY_FrameError s_CommandError_FrameError) (tcons (PySem.W.exm_ref xE_FrameError xD_FrameError xY_FrameError s_CommandError_FrameError) (tcons (PySem.W.exm_ref xE_FrameError xD_FrameError xY_FrameError s_ArgumentError_FrameError) (tcons (PySem.W.exm_ref xE_FrameError xD_FrameError xY_FrameError s_CheckError_FrameError) (tcons (PySem.W.exm_ref xE_FrameError xD_FrameError xY_FrameError s_PaperError_FrameError) (tcons (PySem.W.exm_ref xE_FrameError xD_FrameError xY_FrameError s_SiteError_FrameError) (tcons (PySem.W.exm_ref xE_FrameError xD_FrameError xY_FrameError s_TooMany_FrameError) (tcons (PySem.W.exm_ref xE_FrameError xD_FrameError xY_FrameError s_TextError_FrameError) (tcons (PySem.W.exm_ref xE_FrameError xD_FrameError xY_FrameError s_LogError_FrameError) tnil)))))))) (by simp [mkC]),
    m_FrameError_ArgumentError:=look_tab (f:=fun B=>PySem.W.exmOne K (.ref B) (.ref A_FrameError)) (PySem.W.exm_ref xE_FrameError xD_FrameError xY_FrameError s_ArgumentError_FrameError) (tcons (PySem.W.exm_ref xE_FrameError xD_FrameError xY_FrameError s_CommandError_FrameError) (tcons (PySem.W.exm_ref xE_FrameError xD_FrameError xY_FrameError s_ArgumentError_FrameError) (tcons (PySem.W.exm_ref xE_FrameError xD_FrameError xY_FrameError s_CheckError_FrameError) (tcons (PySem.W.exm_ref xE_FrameError xD_FrameError xY_FrameError s_PaperError_FrameError) (tcons (PySem.W.exm_ref xE_FrameError xD_FrameError xY_FrameError s_SiteError_FrameError) (tcons (PySem.W.exm_ref xE_FrameError xD_FrameError xY_FrameError s_TooMany_FrameError) (tcons (PySem.W.exm_ref xE_FrameError xD_FrameError xY_FrameError s_TextError_FrameError) (tcons (PySem.W.exm_ref xE_FrameError xD_FrameError xY_FrameError s_LogError_FrameError) tnil)))))))) (by simp [mkC]),
    m_FrameError_CheckError:=look_tab (f:=fun B=>PySem.W.exmOne K (.ref B) (.ref A_FrameError)) (PySem.W.exm_ref xE_FrameError xD_FrameError xY_FrameError s_CheckError_FrameError) (tcons (PySem.W.exm_ref xE_FrameError xD_FrameError xY_FrameError s_CommandError_FrameError) (tcons (PySem.W.exm_ref xE_FrameError xD_FrameError xY_FrameError s_ArgumentError_FrameError) (tcons (PySem.W.exm_ref xE_FrameError xD_FrameError xY_FrameError s_CheckError_FrameError) (tcons (PySem.W.exm_ref xE_FrameError xD_FrameError xY_FrameError s_PaperError_FrameError) (tcons (PySem.W.exm_ref xE_FrameError xD_FrameError xY_FrameError s_SiteError_FrameError) (tcons (PySem.W.exm_ref xE_FrameError xD_FrameError xY_FrameError s_TooMany_FrameError) (tcons (PySem.W.exm_ref xE_FrameError xD_FrameError xY_FrameError s_TextError_FrameError) (tcons (PySem.W.exm_ref xE_FrameError xD_FrameError xY_FrameError s_LogError_FrameError) tnil)))))))) (by simp [mkC]),
    m_FrameError_PaperError:=look_tab (f:=fun B=>PySem.W.exmOne K (.ref B) (.ref A_FrameError)) (PySem.W.exm_ref xE_FrameError xD_FrameError xY_FrameError s_PaperError_FrameError) (tcons (PySem.W.exm_ref xE_FrameError xD_FrameError xY_FrameError s_CommandError_FrameError) (tcons (PySem.W.exm_ref xE_FrameError xD_FrameError xY_FrameError s_ArgumentError_FrameError) (tcons (PySem.W.exm_ref xE_FrameError xD_FrameError xY_FrameError s_CheckError_FrameError) (tcons (PySem.W.exm_ref xE_FrameError xD_FrameError xY_FrameError s_PaperError_FrameError) (tcons (PySem.W.exm_ref xE_FrameError xD_FrameError xY_FrameError s_SiteError_FrameError) (tcons (PySem.W.exm_ref xE_FrameError xD_FrameError xY_FrameError s_TooMany_FrameError) (tcons (PySem.W.exm_ref xE_FrameError xD_FrameError xY_FrameError s_TextError_FrameError) (tcons (PySem.W.exm_ref xE_FrameError xD_FrameError xY_FrameError s_LogError_FrameError) tnil)))))))) (by simp [mkC]),
    m_FrameError_SiteError:=look_tab (f:=fun B=>PySem.W.exmOne K (.ref B) (.ref A_FrameError)) (PySem.W.exm_ref xE_FrameError xD_FrameError xY_FrameError s_SiteError_FrameError) (tcons (PySem.W.exm_ref xE_FrameError xD_FrameError xY_FrameError s_CommandError_FrameError) (tcons (PySem.W.exm_ref xE_FrameError xD_FrameError xY_FrameError s_ArgumentError_FrameError) (tcons (PySem.W.exm_ref xE_FrameError xD_FrameError xY_FrameError s_CheckError_FrameError) (tcons (PySem.W.exm_ref xE_FrameError xD_FrameError xY_FrameError s_PaperError_FrameError) (tcons (PySem.W.exm_ref xE_FrameError xD_FrameError xY_FrameError s_SiteError_FrameError) (tcons (PySem.W.exm_ref xE_FrameError xD_FrameError xY_FrameError s_TooMany_FrameError) (tcons (PySem.W.exm_ref xE_FrameError xD_FrameError xY_FrameError s_TextError_FrameError) (tcons (PySem.W.exm_ref xE_FrameError xD_FrameError xY_FrameError s_LogError_FrameError) tnil)))))))) (by simp [mkC]),
    m_FrameError_TooMany:=look_tab (f:=fun B=>PySem.W.exmOne K (.ref B) (.ref A_FrameError)) (PySem.W.exm_ref xE_FrameError xD_FrameError xY_FrameError s_TooMany_FrameError) (tcons (PySem.W.exm_ref xE_FrameError xD_FrameError xY_FrameError s_CommandError_FrameError) (tcons (PySem.W.exm_ref xE_FrameError xD_FrameError xY_FrameError s_ArgumentError_FrameError) (tcons (PySem.W.exm_ref xE_FrameError xD_FrameError xY_FrameError s_CheckError_FrameError) (tcons (PySem.W.exm_ref xE_FrameError xD_FrameError xY_FrameError s_PaperError_FrameError) (tcons (PySem.W.exm_ref xE_FrameError xD_FrameError xY_FrameError s_SiteError_FrameError) (tcons (PySem.W.exm_ref xE_FrameError xD_FrameError xY_FrameError s_TooMany_FrameError) (tcons (PySem.W.exm_ref xE_FrameError xD_FrameError xY_FrameError s_TextError_FrameError) (tcons (PySem.W.exm_ref xE_FrameError xD_FrameError xY_FrameError s_LogError_FrameError) tnil)))))))) (by simp [mkC]),
    m_FrameError_TextError:=look_tab (f:=fun B=>PySem.W.exmOne K (.ref B) (.ref A_FrameError)) (PySem.W.exm_ref xE_FrameError xD_FrameError xY_FrameError s_TextError_FrameError) (tcons (PySem.W.exm_ref xE_FrameError xD_FrameError xY_FrameError s_CommandError_FrameError) (tcons (PySem.W.exm_ref xE_FrameError xD_FrameError xY_FrameError s_ArgumentError_FrameError) (tcons (PySem.W.exm_ref xE_FrameError xD_FrameError xY_FrameError s_CheckError_FrameError) (tcons (PySem.W.exm_ref xE_FrameError xD_FrameError xY_FrameError s_PaperError_FrameError) (tcons (PySem.W.exm_ref xE_FrameError xD_FrameError xY_FrameError s_SiteError_FrameError) (tcons (PySem.W.exm_ref xE_FrameError xD_FrameError xY_FrameError s_TooMany_FrameError) (tcons (PySem.W.exm_ref xE_FrameError xD_FrameError xY_FrameError s_TextError_FrameError) (tcons (PySem.W.exm_ref xE_FrameError xD_FrameError xY_FrameError s_LogError_FrameError) tnil)))))))) (by simp [mkC]),
    m_FrameError_LogError:=look_tab (f:=fun B=>PySem.W.exmOne K (.ref B) (.ref A_FrameError)) (PySem.W.exm_ref xE_FrameError xD_FrameError xY_FrameError s_LogError_FrameError) (tcons (PySem.W.exm_ref xE_FrameError xD_FrameError xY_FrameError s_CommandError_FrameError) (tcons (PySem.W.exm_ref xE_FrameError xD_FrameError xY_FrameError s_ArgumentError_FrameError) (tcons (PySem.W.exm_ref xE_FrameError xD_FrameError xY_FrameError s_CheckError_FrameError) (tcons (PySem.W.exm_ref xE_FrameError xD_FrameError xY_FrameError s_PaperError_FrameError) (tcons (PySem.W.exm_ref xE_FrameError xD_FrameError xY_FrameError s_SiteError_FrameError) (tcons (PySem.W.exm_ref xE_FrameError xD_FrameError xY_FrameError s_TooMany_FrameError) (tcons (PySem.W.exm_ref xE_FrameError xD_FrameError xY_FrameError s_TextError_FrameError) (tcons (PySem.W.exm_ref xE_FrameError xD_FrameError xY_FrameError s_LogError_FrameError) tnil)))))))) (by simp [mkC]),
    m_ArgumentError_CommandError:=look_tab (f:=fun B=>PySem.W.exmOne K (.ref B) (.ref A_ArgumentError)) (PySem.W.exm_ref xE_ArgumentError xD_ArgumentError xY_ArgumentError s_CommandError_ArgumentError) (tcons (PySem.W.exm_ref xE_ArgumentError xD_ArgumentError xY_ArgumentError s_CommandError_ArgumentError) (tcons (PySem.W.exm_ref xE_ArgumentError xD_ArgumentError xY_ArgumentError s_ArgumentError_ArgumentError) (tcons (PySem.W.exm_ref xE_ArgumentError xD_ArgumentError xY_ArgumentError s_CheckError_ArgumentError) (tcons (PySem.W.exm_ref xE_ArgumentError xD_ArgumentError xY_ArgumentError s_PaperError_ArgumentError) (tcons (PySem.W.exm_ref xE_ArgumentError xD_ArgumentError xY_ArgumentError s_SiteError_ArgumentError) (tcons (PySem.W.exm_ref xE_ArgumentError xD_ArgumentError xY_ArgumentError s_TooMany_ArgumentError) (tcons (PySem.W.exm_ref xE_ArgumentError xD_ArgumentError xY_ArgumentError s_TextError_ArgumentError) (tcons (PySem.W.exm_ref xE_ArgumentError xD_ArgumentError xY_ArgumentError s_LogError_ArgumentError) tnil)))))))) (by simp [mkC]),
    m_ArgumentError_ArgumentError:=look_tab (f:=fun B=>PySem.W.exmOne K (.ref B) (.ref A_ArgumentError)) (PySem.W.exm_ref xE_ArgumentError xD_ArgumentError xY_ArgumentError s_ArgumentError_ArgumentError) (tcons (PySem.W.exm_ref xE_ArgumentError xD_ArgumentError xY_ArgumentError s_CommandError_ArgumentError) (tcons (PySem.W.exm_ref xE_ArgumentError xD_ArgumentError xY_ArgumentError s_ArgumentError_ArgumentError) (tcons (PySem.W.exm_ref xE_ArgumentError xD_ArgumentError xY_ArgumentError s_CheckError_ArgumentError) (tcons (PySem.W.exm_ref xE_ArgumentError xD_ArgumentError xY_ArgumentError s_PaperError_ArgumentError) (tcons (PySem.W.exm_ref xE_ArgumentError xD_ArgumentError xY_ArgumentError s_SiteError_ArgumentError) (tcons (PySem.W.exm_ref xE_ArgumentError xD_ArgumentError xY_ArgumentError s_TooMany_ArgumentError) (tcons (PySem.W.exm_ref xE_ArgumentError xD_ArgumentError xY_ArgumentError s_TextError_ArgumentError) (tcons (PySem.W.exm_ref xE_ArgumentError xD_ArgumentError xY_ArgumentError s_LogError_ArgumentError) tnil)))))))) (by simp [mkC]),
    m_ArgumentError_CheckError:=look_tab (f:=fun B=>PySem.W.exmOne K (.ref B) (.ref A_ArgumentError)) (PySem.W.exm_ref xE_ArgumentError xD_ArgumentError xY_ArgumentError s_CheckError_ArgumentError) (tcons (PySem.W.exm_ref xE_ArgumentError xD_ArgumentError xY_ArgumentError s_CommandError_ArgumentError) (tcons (PySem.W.exm_ref xE_ArgumentError xD_ArgumentError xY_ArgumentError s_ArgumentError_ArgumentError) (tcons (PySem.W.exm_ref xE_ArgumentError xD_ArgumentError xY_ArgumentError s_CheckError_ArgumentError) (tcons (PySem.W.exm_ref xE_ArgumentError xD_ArgumentError xY_ArgumentError s_PaperError_ArgumentError) (tcons (PySem.W.exm_ref xE_ArgumentError xD_ArgumentError xY_ArgumentError s_SiteError_ArgumentError) (tcons (PySem.W.exm_ref xE_ArgumentError xD_ArgumentError xY_ArgumentError s_TooMany_ArgumentError) (tcons (PySem.W.exm_ref xE_ArgumentError xD_ArgumentError xY_ArgumentError s_TextError_ArgumentError) (tcons (PySem.W.exm_ref xE_ArgumentError xD_ArgumentError xY_ArgumentError s_LogError_ArgumentError) tnil)))))))) (by simp [mkC]),
    m_ArgumentError_PaperError:=look_tab (f:=fun B=>PySem.W.exmOne K (.ref B) (.ref A_ArgumentError)) (PySem.W.exm_ref xE_ArgumentError xD_ArgumentError xY_ArgumentError s_PaperError_ArgumentError) (tcons (PySem.W.exm_ref xE_ArgumentError xD_ArgumentError xY_ArgumentError s_CommandError_ArgumentError) (tcons (PySem.W.exm_ref xE_ArgumentError xD_ArgumentError xY_ArgumentError s_ArgumentError_ArgumentError) (tcons (PySem.W.exm_ref xE_ArgumentError xD_ArgumentError xY_ArgumentError s_CheckError_ArgumentError) (tcons (PySem.W.exm_ref xE_ArgumentError xD_ArgumentError xY_ArgumentError s_PaperError_ArgumentError) (tcons (PySem.W.exm_ref xE_ArgumentError xD_ArgumentError xY_ArgumentError s_SiteError_ArgumentError) (tcons (PySem.W.exm_ref xE_ArgumentError xD_ArgumentError xY_ArgumentError s_TooMany_ArgumentError) (tcons (PySem.W.exm_ref xE_ArgumentError xD_ArgumentError xY_ArgumentError s_TextError_ArgumentError) (tcons (PySem.W.exm_ref xE_ArgumentError xD_ArgumentError xY_ArgumentError s_LogError_ArgumentError) tnil)))))))) (by simp [mkC]),
    m_ArgumentError_SiteError:=look_tab (f:=fun B=>PySem.W.exmOne K (.ref B) (.ref A_ArgumentError)) (PySem.W.exm_ref xE_ArgumentError xD_ArgumentError xY_ArgumentError s_SiteError_ArgumentError) (tcons (PySem.W.exm_ref xE_ArgumentError xD_ArgumentError xY_ArgumentError s_CommandError_ArgumentError) (tcons (PySem.W.exm_ref xE_ArgumentError xD_ArgumentError xY_ArgumentError s_ArgumentError_ArgumentError) (tcons (PySem.W.exm_ref xE_ArgumentError xD_ArgumentError xY_ArgumentError s_CheckError_ArgumentError) (tcons (PySem.W.exm_ref xE_ArgumentError xD_ArgumentError xY_ArgumentError s_PaperError_ArgumentError) (tcons (PySem.W.exm_ref xE_ArgumentError xD_ArgumentError xY_ArgumentError s_SiteError_ArgumentError) (tcons (PySem.W.exm_ref xE_ArgumentError xD_ArgumentError xY_ArgumentError s_TooMany_ArgumentError) (tcons (PySem.W.exm_ref xE_ArgumentError xD_ArgumentError xY_ArgumentError s_TextError_ArgumentError) (tcons (PySem.W.exm_ref xE_ArgumentError xD_ArgumentError xY_ArgumentError s_LogError_ArgumentError) tnil)))))))) (by simp [mkC]),
    m_ArgumentError_TooMany:=look_tab (f:=fun B=>PySem.W.exmOne K (.ref B) (.ref A_ArgumentError)) (PySem.W.exm_ref xE_ArgumentError xD_ArgumentError xY_ArgumentError s_TooMany_ArgumentError) (tcons (PySem.W.exm_ref xE_ArgumentError xD_ArgumentError xY_ArgumentError s_CommandError_ArgumentError) (tcons (PySem.W.exm_ref xE_ArgumentError xD_ArgumentError xY_ArgumentError s_ArgumentError_ArgumentError) (tcons (PySem.W.exm_ref xE_ArgumentError xD_ArgumentError xY_ArgumentError s_CheckError_ArgumentError) (tcons (PySem.W.exm_ref xE_ArgumentError xD_ArgumentError xY_ArgumentError s_PaperError_ArgumentError) (tcons (PySem.W.exm_ref xE_ArgumentError xD_ArgumentError xY_ArgumentError s_SiteError_ArgumentError) (tcons (PySem.W.exm_ref xE_ArgumentError xD_ArgumentError xY_ArgumentError s_TooMany_ArgumentError) (tcons (PySem.W.exm_ref xE_ArgumentError xD_ArgumentError xY_ArgumentError s_TextError_ArgumentError) (tcons (PySem.W.exm_ref xE_ArgumentError xD_ArgumentError xY_ArgumentError s_LogError_ArgumentError) tnil)))))))) (by simp [mkC]),
    m_ArgumentError_TextError:=look_tab (f:=fun B=>PySem.W.exmOne K (.ref B) (.ref A_ArgumentError)) (PySem.W.exm_ref xE_ArgumentError xD_ArgumentError xY_ArgumentError s_TextError_ArgumentError) (tcons (PySem.W.exm_ref xE_ArgumentError xD_ArgumentError xY_ArgumentError s_CommandError_ArgumentError) (tcons (PySem.W.exm_ref xE_ArgumentError xD_ArgumentError xY_ArgumentError s_ArgumentError_ArgumentError) (tcons (PySem.W.exm_ref xE_ArgumentError xD_ArgumentError xY_ArgumentError s_CheckError_ArgumentError) (tcons (PySem.W.exm_ref xE_ArgumentError xD_ArgumentError xY_ArgumentError s_PaperError_ArgumentError) (tcons (PySem.W.exm_ref xE_ArgumentError xD_ArgumentError xY_ArgumentError s_SiteError_ArgumentError) (tcons (PySem.W.exm_ref xE_ArgumentError xD_ArgumentError xY_ArgumentError s_TooMany_ArgumentError) (tcons (PySem.W.exm_ref xE_ArgumentError xD_ArgumentError xY_ArgumentError s_TextError_ArgumentError) (tcons (PySem.W.exm_ref xE_ArgumentError xD_ArgumentError xY_ArgumentError s_LogError_ArgumentError) tnil)))))))) (by simp [mkC]),
    m_ArgumentError_LogError:=look_tab (f:=fun B=>PySem.W.exmOne K (.ref B) (.ref A_ArgumentError)) (PySem.W.exm_ref xE_ArgumentError xD_ArgumentError xY_ArgumentError s_LogError_ArgumentError) (tcons (PySem.W.exm_ref xE_ArgumentError xD_ArgumentError xY_ArgumentError s_CommandError_ArgumentError) (tcons (PySem.W.exm_ref xE_ArgumentError xD_ArgumentError xY_ArgumentError s_ArgumentError_ArgumentError) (tcons (PySem.W.exm_ref xE_ArgumentError xD_ArgumentError xY_ArgumentError s_CheckError_ArgumentError) (tcons (PySem.W.exm_ref xE_ArgumentError xD_ArgumentError xY_ArgumentError s_PaperError_ArgumentError) (tcons (PySem.W.exm_ref xE_ArgumentError xD_ArgumentError xY_ArgumentError s_SiteError_ArgumentError) (tcons (PySem.W.exm_ref xE_ArgumentError xD_ArgumentError xY_ArgumentError s_TooMany_ArgumentError) (tcons (PySem.W.exm_ref xE_ArgumentError xD_ArgumentError xY_ArgumentError s_TextError_ArgumentError) (tcons (PySem.W.exm_ref xE_ArgumentError xD_ArgumentError xY_ArgumentError s_LogError_ArgumentError) tnil)))))))) (by simp [mkC]),
    m_CheckError_CommandError:=look_tab (f:=fun B=>PySem.W.exmOne K (.ref B) (.ref A_CheckError)) (PySem.W.exm_ref xE_CheckError xD_CheckError xY_CheckError s_CommandError_CheckError) (tcons (PySem.W.exm_ref xE_CheckError xD_CheckError xY_CheckError s_CommandError_CheckError) (tcons (PySem.W.exm_ref xE_CheckError xD_CheckError xY_CheckError s_ArgumentError_CheckError) (tcons (PySem.W.exm_ref xE_CheckError xD_CheckError xY_CheckError s_CheckError_CheckError) (tcons (PySem.W.exm_ref xE_CheckError xD_CheckError xY_CheckError s_PaperError_CheckError) (tcons (PySem.W.exm_ref xE_CheckError xD_CheckError xY_CheckError s_SiteError_CheckError) (tcons (PySem.W.exm_ref xE_CheckError xD_CheckError xY_CheckError s_TooMany_CheckError) (tcons (PySem.W.exm_ref xE_CheckError xD_CheckError xY_CheckError s_TextError_CheckError) (tcons (PySem.W.exm_ref xE_CheckError xD_CheckError xY_CheckError s_LogError_CheckError) tnil)))))))) (by simp [mkC]),
    m_CheckError_ArgumentError:=look_tab (f:=fun B=>PySem.W.exmOne K (.ref B) (.ref A_CheckError)) (PySem.W.exm_ref xE_CheckError xD_CheckError xY_CheckError s_ArgumentError_CheckError) (tcons (PySem.W.exm_ref xE_CheckError xD_CheckError xY_CheckError s_CommandError_CheckError) (tcons (PySem.W.exm_ref xE_CheckError xD_CheckError xY_CheckError s_ArgumentError_CheckError) (tcons (PySem.W.exm_ref xE_CheckError xD_CheckError xY_CheckError s_CheckError_CheckError) (tcons (PySem.W.exm_ref xE_CheckError xD_CheckError xY_CheckError s_PaperError_CheckError) (tcons (PySem.W.exm_ref xE_CheckError xD_CheckError xY_CheckError s_SiteError_CheckError) (tcons (PySem.W.exm_ref xE_CheckError xD_CheckError xY_CheckError s_TooMany_CheckError) (tcons (PySem.W.exm_ref xE_CheckError xD_CheckError xY_CheckError s_TextError_CheckError) (tcons (PySem.W.exm_ref xE_CheckError xD_CheckError xY_CheckError s_LogError_CheckError) tnil)))))))) (by simp [mkC]),
    m_CheckError_CheckError:=look_tab (f:=fun B=>PySem.W.exmOne K (.ref B) (.ref A_CheckError)) (PySem.W.exm_ref xE_CheckError xD_CheckError xY_CheckError s_CheckError_CheckError) (tcons (PySem.W.exm_ref xE_CheckError xD_CheckError xY_CheckError s_CommandError_CheckError) (tcons (PySem.W.exm_ref xE_CheckError xD_CheckError xY_CheckError s_ArgumentError_CheckError) (tcons (PySem.W.exm_ref xE_CheckError xD_CheckError xY_CheckError s_CheckError_CheckError) (tcons (PySem.W.exm_ref xE_CheckError xD_CheckError xY_CheckError s_PaperError_CheckError) (tcons (PySem.W.exm_ref xE_CheckError xD_CheckError xY_CheckError s_SiteError_CheckError) (tcons (PySem.W.exm_ref xE_CheckError xD_CheckError xY_CheckError s_TooMany_CheckError) (tcons (PySem.W.exm_ref xE_CheckError xD_CheckError xY_CheckError s_TextError_CheckError) (tcons (PySem.W.exm_ref xE_CheckError xD_CheckError xY_CheckError s_LogError_CheckError) tnil)))))))) (by simp [mkC]),
    m_CheckError_PaperError:=look_tab (f:=fun B=>PySem.W.exmOne K (.ref B) (.ref A_CheckError)) (PySem.W.exm_ref xE_CheckError xD_CheckError xY_CheckError s_PaperError_CheckError) (tcons (PySem.W.exm_ref xE_CheckError xD_CheckError xY_CheckError s_CommandError_CheckError) (tcons (PySem.W.exm_ref xE_CheckError xD_CheckError xY_CheckError s_ArgumentError_CheckError) (tcons (PySem.W.exm_ref xE_CheckError xD_CheckError xY_CheckError s_CheckError_CheckError) (tcons (PySem.W.exm_ref xE_CheckError xD_CheckError xY_CheckError s_PaperError_CheckError) (tcons (PySem.W.exm_ref xE_CheckError xD_CheckError xY_CheckError s_SiteError_CheckError) (tcons (PySem.W.exm_ref xE_CheckError xD_CheckError xY_CheckError s_TooMany_CheckError) (tcons (PySem.W.exm_ref xE_CheckError xD_CheckError xY_CheckError s_TextError_CheckError) (tcons (PySem.W.exm_ref xE_CheckError xD_CheckError xY_CheckError s_LogError_CheckError) tnil)))))))) (by simp [mkC]),
    m_CheckError_SiteError:=look_tab (f:=fun B=>PySem.W.exmOne K (.ref B) (.ref A_CheckError)) (PySem.W.exm_ref xE_CheckError xD_CheckError xY_CheckError s_SiteError_CheckError) (tcons (PySem.W.exm_ref xE_CheckError xD_CheckError xY_CheckError s_CommandError_CheckError) (tcons (PySem.W.exm_ref xE_CheckError xD_CheckError xY_CheckError s_ArgumentError_CheckError) (tcons (PySem.W.exm_ref xE_CheckError xD_CheckError xY_CheckError s_CheckError_CheckError) (tcons (PySem.W.exm_ref xE_CheckError xD_CheckError xY_CheckError s_PaperError_CheckError) (tcons (PySem.W.exm_ref xE_CheckError xD_CheckError xY_CheckError s_SiteError_CheckError) (tcons (PySem.W.exm_ref xE_CheckError xD_CheckError xY_CheckError s_TooMany_CheckError) (tcons (PySem.W.exm_ref xE_CheckError xD_CheckError xY_CheckError s_TextError_CheckError) (tcons (PySem.W.exm_ref xE_CheckError xD_CheckError xY_CheckError s_LogError_CheckError) tnil)))))))) (by simp [mkC]),
    m_CheckError_TooMany:=look_tab (f:=fun B=>PySem.W.exmOne K (.ref B) (.ref A_CheckError)) (PySem.W.exm_ref xE_CheckError xD_CheckError xY_CheckError s_TooMany_CheckError) (tcons (PySem.W.exm_ref xE_CheckError xD_CheckError xY_CheckError s_CommandError_CheckError) (tcons (PySem.W.exm_ref xE_CheckError xD_CheckError xY_CheckError s_ArgumentError_CheckError) (tcons (PySem.W.exm_ref xE_CheckError xD_CheckError xY_CheckError s_CheckError_CheckError) (tcons (PySem.W.exm_ref xE_CheckError xD_CheckError xY_CheckError s_PaperError_CheckError) (tcons (PySem.W.exm_ref xE_CheckError xD_CheckError xY_CheckError s_SiteError_CheckError) (tcons (PySem.W.exm_ref xE_CheckError xD_CheckError xY_CheckError s_TooMany_CheckError) (tcons (PySem.W.exm_ref xE_CheckError xD_CheckError xY_CheckError s_TextError_CheckError) (tcons (PySem.W.exm_ref xE_CheckError xD_CheckError xY_CheckError s_LogError_CheckError) tnil)))))))) (by simp [mkC]),
    m_CheckError_TextError:=look_tab (f:=fun B=>PySem.W.exmOne K (.ref B) (.ref A_CheckError)) (PySem.W.exm_ref xE_CheckError xD_CheckError xY_CheckError s_TextError_CheckError) (tcons (PySem.W.exm_ref xE_CheckError xD_CheckError xY_CheckError s_CommandError_CheckError) (tcons (PySem.W.exm_ref xE_CheckError xD_CheckError xY_CheckError s_ArgumentError_CheckError) (tcons (PySem.W.exm_ref xE_CheckError xD_CheckError xY_CheckError s_CheckError_CheckError) (tcons (PySem.W.exm_ref xE_CheckError xD_CheckError xY_CheckError s_PaperError_CheckError) (tcons (PySem.W.exm_ref xE_CheckError xD_CheckError xY_CheckError s_SiteError_CheckError) (tcons (PySem.W.exm_ref xE_CheckError xD_CheckError xY_CheckError s_TooMany_CheckError) (tcons (PySem.W.exm_ref xE_CheckError xD_CheckError xY_CheckError s_TextError_CheckError) (tcons (PySem.W.exm_ref xE_CheckError xD_CheckError xY_CheckError s_LogError_CheckError) tnil)))))))) (by simp [mkC]),
    m_CheckError_LogError:=look_tab (f:=fun B=>PySem.W.exmOne K (.ref B) (.ref A_CheckError)) (PySem.W.exm_ref xE_CheckError xD_CheckError xY_CheckError s_LogError_CheckError) (tcons (PySem.W.exm_ref xE_CheckError xD_CheckError xY_CheckError s_CommandError_CheckError) (tcons (PySem.W.exm_ref xE_CheckError xD_CheckError xY_CheckError s_ArgumentError_CheckError) (tcons (PySem.W.exm_ref xE_CheckError xD_CheckError xY_CheckError s_CheckError_CheckError) (tcons (PySem.W.exm_ref xE_CheckError xD_CheckError xY_CheckError s_PaperError_CheckError) (tcons (PySem.W.exm_ref xE_CheckError xD_CheckError xY_CheckError s_SiteError_CheckError) (tcons (PySem.W.exm_ref xE_CheckError xD_CheckError xY_CheckError s_TooMany_CheckError) (tcons (PySem.W.exm_ref xE_CheckError xD_CheckError xY_CheckError s_TextError_CheckError) (tcons (PySem.W.exm_ref xE_CheckError xD_CheckError xY_CheckError s_LogError_CheckError) tnil)))))))) (by simp [mkC]),
    m_PaperError_CommandError:=look_tab (f:=fun B=>PySem.W.exmOne K (.ref B) (.ref A_PaperError)) (PySem.W.exm_ref xE_PaperError xD_PaperError xY_PaperError s_CommandError_PaperError) (tcons (PySem.W.exm_ref xE_PaperError xD_PaperError xY_PaperError s_CommandError_PaperError) (tcons (PySem.W.exm_ref xE_PaperError xD_PaperError xY_PaperError s_ArgumentError_PaperError) (tcons (PySem.W.exm_ref xE_PaperError xD_PaperError xY_PaperError s_CheckError_PaperError) (tcons (PySem.W.exm_ref xE_PaperError xD_PaperError xY_PaperError s_PaperError_PaperError) (tcons (PySem.W.exm_ref xE_PaperError xD_PaperError xY_PaperError s_SiteError_PaperError) (tcons (PySem.W.exm_ref xE_PaperError xD_PaperError xY_PaperError s_TooMany_PaperError) (tcons (PySem.W.exm_ref xE_PaperError xD_PaperError xY_PaperError s_TextError_PaperError) (tcons (PySem.W.exm_ref xE_PaperError xD_PaperError xY_PaperError s_LogError_PaperError) tnil)))))))) (by simp [mkC]),
    m_PaperError_ArgumentError:=look_tab (f:=fun B=>PySem.W.exmOne K (.ref B) (.ref A_PaperError)) (PySem.W.exm_ref xE_PaperError xD_PaperError xY_PaperError s_ArgumentError_PaperError) (tcons (PySem.W.exm_ref xE_PaperError xD_PaperError xY_PaperError s_CommandError_PaperError) (tcons (PySem.W.exm_ref xE_PaperError xD_PaperError xY_PaperError s_ArgumentError_PaperError) (tcons (PySem.W.exm_ref xE_PaperError xD_PaperError xY_PaperError s_CheckError_PaperError) (tcons (PySem.W.exm_ref xE_PaperError xD_PaperError xY_PaperError s_PaperError_PaperError) (tcons (PySem.W.exm_ref xE_PaperError xD_PaperError xY_PaperError s_SiteError_PaperError) (tcons (PySem.W.exm_ref xE_PaperError xD_PaperError xY_PaperError s_TooMany_PaperError) (tcons (PySem.W.exm_ref xE_PaperError xD_PaperError xY_PaperError s_TextError_PaperError) (tcons (PySem.W.exm_ref xE_PaperError xD_PaperError xY_PaperError s_LogError_PaperError) tnil)))))))) (by simp [mkC]),
    m_PaperError_CheckError:=look_tab (f:=fun B=>PySem.W.exmOne K (.ref B) (.ref A_PaperError)) (PySem.W.exm_ref xE_PaperError xD_PaperError xY_PaperError s_CheckError_PaperError) (tcons (PySem.W.exm_ref xE_PaperError xD_PaperError xY_PaperError s_CommandError_PaperError) (tcons (PySem.W.exm_ref xE_PaperError xD_PaperError xY_PaperError s_ArgumentError_PaperError) (tcons (PySem.W.exm_ref xE_PaperError xD_PaperError xY_PaperError s_CheckError_PaperError) (tcons (PySem.W.exm_ref xE_PaperError xD_PaperError xY_PaperError s_PaperError_PaperError) (tcons (PySem.W.exm_ref xE_PaperError xD_PaperError xY_PaperError s_SiteError_PaperError) (tcons (PySem.W.exm_ref xE_PaperError xD_PaperError xY_PaperError s_TooMany_PaperError) (tcons (PySem.W.exm_ref xE_PaperError xD_PaperError xY_PaperError s_TextError_PaperError) (tcons (PySem.W.exm_ref xE_PaperError xD_PaperError xY_PaperError s_LogError_PaperError) tnil)))))))) (by simp [mkC]),
    m_PaperError_PaperError:=look_tab (f:=fun B=>PySem.W.exmOne K (.ref B) (.ref A_PaperError)) (PySem.W.exm_ref xE_PaperError xD_PaperError xY_PaperError s_PaperError_PaperError) (tcons (PySem.W.exm_ref xE_PaperError xD_PaperError xY_PaperError s_CommandError_PaperError) (tcons (PySem.W.exm_ref xE_PaperError xD_PaperError xY_PaperError s_ArgumentError_PaperError) (tcons (PySem.W.exm_ref xE_PaperError xD_PaperError xY_PaperError s_CheckError_PaperError) (tcons (PySem.W.exm_ref xE_PaperError xD_PaperError xY_PaperError s_PaperError_PaperError) (tcons (PySem.W.exm_ref xE_PaperError xD_PaperError xY_PaperError s_SiteError_PaperError) (tcons (PySem.W.exm_ref xE_PaperError xD_PaperError xY_PaperError s_TooMany_PaperError) (tcons (PySem.W.exm_ref xE_PaperError xD_PaperError xY_PaperError s_TextError_PaperError) (tcons (PySem.W.exm_ref xE_PaperError xD_PaperError xY_PaperError s_LogError_PaperError) tnil)))))))) (by simp [mkC]),
    m_PaperError_SiteError:=look_tab (f:=fun B=>PySem.W.exmOne K (.ref B) (.ref A_PaperError)) (PySem.W.exm_ref xE_PaperError xD_PaperError xY_PaperError s_SiteError_PaperError) (tcons (PySem.W.exm_ref xE_PaperError xD_PaperError xY_PaperError s_CommandError_PaperError) (tcons (PySem.W.exm_ref xE_PaperError xD_PaperError xY_PaperError s_ArgumentError_PaperError) (tcons (PySem.W.exm_ref xE_PaperError xD_PaperError xY_PaperError s_CheckError_PaperError) (tcons (PySem.W.exm_ref xE_PaperError xD_PaperError xY_PaperError s_PaperError_PaperError) (tcons (PySem.W.exm_ref xE_PaperError xD_PaperError xY_PaperError s_SiteError_PaperError) (tcons (PySem.W.exm_ref xE_PaperError xD_PaperError xY_PaperError s_TooMany_PaperError) (tcons (PySem.W.exm_ref xE_PaperError xD_PaperError xY_PaperError s_TextError_PaperError) (tcons (PySem.W.exm_ref xE_PaperError xD_PaperError xY_PaperError s_LogError_PaperError) tnil)))))))) (by simp [mkC]),
    m_PaperError_TooMany:=look_tab (f:=fun B=>PySem.W.exmOne K (.ref B) (.ref A_PaperError)) (PySem.W.exm_ref xE_PaperError xD_PaperError xY_PaperError s_TooMany_PaperError) (tcons (PySem.W.exm_ref xE_PaperError xD_PaperError xY_PaperError s_CommandError_PaperError) (tcons (PySem.W.exm_ref xE_PaperError xD_PaperError xY_PaperError s_ArgumentError_PaperError) (tcons (PySem.W.exm_ref xE_PaperError xD_PaperError xY_PaperError s_CheckError_PaperError) (tcons (PySem.W.exm_ref xE_PaperError xD_PaperError xY_PaperError s_PaperError_PaperError) (tcons (PySem.W.exm_ref xE_PaperError xD_PaperError xY_PaperError s_SiteError_PaperError) (tcons (PySem.W.exm_ref xE_PaperError xD_PaperError xY_PaperError s_TooMany_PaperError) (tcons (PySem.W.exm_ref xE_PaperError xD_PaperError xY_PaperError s_TextError_PaperError) (tcons (PySem.W.exm_ref xE_PaperError xD_PaperError xY_PaperError s_LogError_PaperError) tnil)))))))) (by simp [mkC]),
    m_PaperError_TextError:=look_tab (f:=fun B=>PySem.W.exmOne K (.ref B) (.ref A_PaperError)) (PySem.W.exm_ref xE_PaperError xD_PaperError xY_PaperError s_TextError_PaperError) (tcons (PySem.W.exm_ref xE_PaperError xD_PaperError xY_PaperError s_CommandError_PaperError) (tcons (PySem.W.exm_ref xE_PaperError xD_PaperError xY_PaperError s_ArgumentError_PaperError) (tcons (PySem.W.exm_ref xE_PaperError xD_PaperError xY_PaperError s_CheckError_PaperError) (tcons (PySem.W.exm_ref xE_PaperError xD_PaperError xY_PaperError s_PaperError_PaperError) (tcons (PySem.W.exm_ref xE_PaperError xD_PaperError xY_PaperError s_SiteError_PaperError) (tcons (PySem.W.exm_ref xE_PaperError xD_PaperError xY_PaperError s_TooMany_PaperError) (tcons (PySem.W.exm_ref xE_PaperError xD_PaperError xY_PaperError s_TextError_PaperError) (tcons (PySem.W.exm_ref xE_PaperError xD_PaperError xY_PaperError s_LogError_PaperError) tnil)))))))) (by simp [mkC]),
    m_PaperError_LogError:=look_tab (f:=fun B=>PySem.W.exmOne K (.ref B) (.ref A_PaperError)) (PySem.W.exm_ref xE_PaperError xD_PaperError xY_PaperError s_LogError_PaperError) (tcons (PySem.W.exm_ref xE_PaperError xD_PaperError xY_PaperError s_CommandError_PaperError) (tcons (PySem.W.exm_ref xE_PaperError xD_PaperError xY_PaperError s_ArgumentError_PaperError) (tcons (PySem.W.exm_ref xE_PaperError xD_PaperError xY_PaperError s_CheckError_PaperError) (tcons (PySem.W.exm_ref xE_PaperError xD_PaperError xY_PaperError s_PaperError_PaperError) (tcons (PySem.W.exm_ref xE_PaperError xD_PaperError xY_PaperError s_SiteError_PaperError) (tcons (PySem.W.exm_ref xE_PaperError xD_PaperError xY_PaperError s_TooMany_PaperError) (tcons (PySem.W.exm_ref xE_PaperError xD_PaperError xY_PaperError s_TextError_PaperError) (tcons (PySem.W.exm_ref xE_PaperError xD_PaperError xY_PaperError s_LogError_PaperError) tnil)))))))) (by simp [mkC]),
    m_SiteError_CommandError:=look_tab (f:=fun B=>PySem.W.exmOne K (.ref B) (.ref A_SiteError)) (PySem.W.exm_ref xE_SiteError xD_SiteError xY_SiteError s_CommandError_SiteError) (tcons (PySem.W.exm_ref xE_SiteError xD_SiteError xY_SiteError s_CommandError_SiteError) (tcons (PySem.W.exm_ref xE_SiteError xD_SiteError xY_SiteError s_ArgumentError_SiteError) (tcons (PySem.W.exm_ref xE_SiteError xD_SiteError xY_SiteError s_CheckError_SiteError) (tcons (PySem.W.exm_ref xE_SiteError xD_SiteError xY_SiteError s_PaperError_SiteError) (tcons (PySem.W.exm_ref xE_SiteError xD_SiteError xY_SiteError s_SiteError_SiteError) (tcons (PySem.W.exm_ref xE_SiteError xD_SiteError xY_SiteError s_TooMany_SiteError) (tcons (PySem.W.exm_ref xE_SiteError xD_SiteError xY_SiteError s_TextError_SiteError) (tcons (PySem.W.exm_ref xE_SiteError xD_SiteError xY_SiteError s_LogError_SiteError) tnil)))))))) (by simp [mkC]),
    m_SiteError_ArgumentError:=look_tab (f:=fun B=>PySem.W.exmOne K (.ref B) (.ref A_SiteError)) (PySem.W.exm_ref xE_SiteError xD_SiteError xY_SiteError s_ArgumentError_SiteError) (tcons (PySem.W.exm_ref xE_SiteError xD_SiteError xY_SiteError s_CommandError_SiteError) (tcons (PySem.W.exm_ref xE_SiteError xD_SiteError xY_SiteError s_ArgumentError_SiteError) (tcons (PySem.W.exm_ref xE_SiteError xD_SiteError xY_SiteError s_CheckError_SiteError) (tcons (PySem.W.exm_ref xE_SiteError xD_SiteError xY_SiteError s_PaperError_SiteError) (tcons (PySem.W.exm_ref xE_SiteError xD_SiteError xY_SiteError s_SiteError_SiteError) (tcons (PySem.W.exm_ref xE_SiteError xD_SiteError xY_SiteError s_TooMany_SiteError) (tcons (PySem.W.exm_ref xE_SiteError xD_SiteError xY_SiteError s_TextError_SiteError) (tcons (PySem.W.exm_ref xE_SiteError xD_SiteError xY_SiteError s_LogError_SiteError) tnil)))))))) (by simp [mkC]),
    m_SiteError_CheckError:=look_tab (f:=fun B=>PySem.W.exmOne K (.ref B) (.ref A_SiteError)) (PySem.W.exm_ref xE_SiteError xD_SiteError xY_SiteError s_CheckError_SiteError) (tcons (PySem.W.exm_ref xE_SiteError xD_SiteError xY_SiteError s_CommandError_SiteError) (tcons (PySem.W.exm_ref xE_SiteError xD_SiteError xY_SiteError s_ArgumentError_SiteError) (tcons (PySem.W.exm_ref xE_SiteError xD_SiteError xY_SiteError s_CheckError_SiteError) (tcons (PySem.W.exm_ref xE_SiteError xD_SiteError xY_SiteError s_PaperError_SiteError) (tcons (PySem.W.exm_ref xE_SiteError xD_SiteError xY_SiteError s_SiteError_SiteError) (tcons (PySem.W.exm_ref xE_SiteError xD_SiteError xY_SiteError s_TooMany_SiteError) (tcons (PySem.W.exm_ref xE_SiteError xD_SiteError xY_SiteError s_TextError_SiteError) (tcons (PySem.W.exm_ref xE_SiteError xD_SiteError xY_SiteError s_LogError_SiteError) tnil)))))))) (by simp [mkC]),
    m_SiteError_PaperError:=look_tab (f:=fun B=>PySem.W.exmOne K (.ref B) (.ref A_SiteError)) (PySem.W.exm_ref xE_SiteError xD_SiteError xY_SiteError s_PaperError_SiteError) (tcons (PySem.W.exm_ref xE_SiteError xD_SiteError xY_SiteError s_CommandError_SiteError) (tcons (PySem.W.exm_ref xE_SiteError xD_SiteError xY_SiteError s_ArgumentError_SiteError) (tcons (PySem.W.exm_ref xE_SiteError xD_SiteError xY_SiteError s_CheckError_SiteError) (tcons (PySem.W.exm_ref xE_SiteError xD_SiteError xY_SiteError s_PaperError_SiteError) (tcons (PySem.W.exm_ref xE_SiteError xD_SiteError xY_SiteError s_SiteError_SiteError) (tcons (PySem.W.exm_ref xE_SiteError xD_SiteError xY_SiteError s_TooMany_SiteError) (tcons (PySem.W.exm_ref xE_SiteError xD_SiteError xY_SiteError s_TextError_SiteError) (tcons (PySem.W.exm_ref xE_SiteError xD_SiteError xY_SiteError s_LogError_SiteError) tnil)))))))) (by simp [mkC]),
    m_SiteError_SiteError:=look_tab (f:=fun B=>PySem.W.exmOne K (.ref B) (.ref A_SiteError)) (PySem.W.exm_ref xE_SiteError xD_SiteError xY_SiteError s_SiteError_SiteError) (tcons (PySem.W.exm_ref xE_SiteError xD_SiteError xY_SiteError s_CommandError_SiteError) (tcons (PySem.W.exm_ref xE_SiteError xD_SiteError xY_SiteError s_ArgumentError_SiteError) (tcons (PySem.W.exm_ref xE_SiteError xD_SiteError xY_SiteError s_CheckError_SiteError) (tcons (PySem.W.exm_ref xE_SiteError xD_SiteError xY_SiteError s_PaperError_SiteError) (tcons (PySem.W.exm_ref xE_SiteError xD_SiteError xY_SiteError s_SiteError_SiteError) (tcons (PySem.W.exm_ref xE_SiteError xD_SiteError xY_SiteError s_TooMany_SiteError) (tcons (PySem.W.exm_ref xE_SiteError xD_SiteError xY_SiteError s_TextError_SiteError) (tcons (PySem.W.exm_ref xE_SiteError xD_SiteError xY_SiteError s_LogError_SiteError) tnil)))))))) (by simp [mkC]),
    m_SiteError_TooMany:=look_tab (f:=fun B=>PySem.W.exmOne K (.ref B) (.ref A_SiteError)) (PySem.W.exm_ref xE_SiteError xD_SiteError xY_SiteError s_TooMany_SiteError) (tcons (PySem.W.exm_ref xE_SiteError xD_SiteError xY_SiteError s_CommandError_SiteError) (tcons (PySem.W.exm_ref xE_SiteError xD_SiteError xY_SiteError s_ArgumentError_SiteError) (tcons (PySem.W.exm_ref xE_SiteError xD_SiteError xY_SiteError s_CheckError_SiteError) (tcons (PySem.W.exm_ref xE_SiteError xD_SiteError xY_SiteError s_PaperError_SiteError) (tcons (PySem.W.exm_ref xE_SiteError xD_SiteError xY_SiteError s_SiteError_SiteError) (tcons (PySem.W.exm_ref xE_SiteError xD_SiteError xY_SiteError s_TooMany_SiteError) (tcons (PySem.W.exm_ref xE_SiteError xD_SiteError xY_SiteError s_TextError_SiteError) (tcons (PySem.W.exm_ref xE_SiteError xD_SiteError xY_SiteError s_LogError_SiteError) tnil)))))))) (by simp [mkC]),
    m_SiteError_TextError:=look_tab (f:=fun B=>PySem.W.exmOne K (.ref B) (.ref A_SiteError)) (PySem.W.exm_ref xE_SiteError xD_SiteError xY_SiteError s_TextError_SiteError) (tcons (PySem.W.exm_ref xE_SiteError xD_SiteError xY_SiteError s_CommandError_SiteError) (tcons (PySem.W.exm_ref xE_SiteError xD_SiteError xY_SiteError s_ArgumentError_SiteError) (tcons (PySem.W.exm_ref xE_SiteError xD_SiteError xY_SiteError s_CheckError_SiteError) (tcons (PySem.W.exm_ref xE_SiteError xD_SiteError xY_SiteError s_PaperError_SiteError) (tcons (PySem.W.exm_ref xE_SiteError xD_SiteError xY_SiteError s_SiteError_SiteError) (tcons (PySem.W.exm_ref xE_SiteError xD_SiteError xY_SiteError s_TooMany_SiteError) (tcons (PySem.W.exm_ref xE_SiteError xD_SiteError xY_SiteError s_TextError_SiteError) (tcons (PySem.W.exm_ref xE_SiteError xD_SiteError xY_SiteError s_LogError_SiteError) tnil)))))))) (by simp [mkC]),
    m_SiteError_LogError:=look_tab (f:=fun B=>PySem.W.exmOne K (.ref B) (.ref A_SiteError)) (PySem.W.exm_ref xE_SiteError xD_SiteError xY_SiteError s_LogError_SiteError) (tcons (PySem.W.exm_ref xE_SiteError xD_SiteError xY_SiteError s_CommandError_SiteError) (tcons (PySem.W.exm_ref xE_SiteError xD_SiteError xY_SiteError s_ArgumentError_SiteError) (tcons (PySem.W.exm_ref xE_SiteError xD_SiteError xY_SiteError s_CheckError_SiteError) (tcons (PySem.W.exm_ref xE_SiteError xD_SiteError xY_SiteError s_PaperError_SiteError) (tcons (PySem.W.exm_ref xE_SiteError xD_SiteError xY_SiteError s_SiteError_SiteError) (tcons (PySem.W.exm_ref xE_SiteError xD_SiteError xY_SiteError s_TooMany_SiteError) (tcons (PySem.W.exm_ref xE_SiteError xD_SiteError xY_SiteError s_TextError_SiteError) (tcons (PySem.W.exm_ref xE_SiteError xD_SiteError xY_SiteError s_LogError_SiteError) tnil)))))))) (by simp [mkC]),
    m_TooMany_CommandError:=look_tab (f:=fun B=>PySem.W.exmOne K (.ref B) (.ref A_TooMany)) (PySem.W.exm_ref xE_TooMany xD_TooMany xY_TooMany s_CommandError_TooMany) (tcons (PySem.W.exm_ref xE_TooMany xD_TooMany xY_TooMany s_CommandError_TooMany) (tcons (PySem.W.exm_ref xE_TooMany xD_TooMany xY_TooMany s_ArgumentError_TooMany) (tcons (PySem.W.exm_ref xE_TooMany xD_TooMany xY_TooMany s_CheckError_TooMany) (tcons (PySem.W.exm_ref xE_TooMany xD_TooMany xY_TooMany s_PaperError_TooMany) (tcons (PySem.W.exm_ref xE_TooMany xD_TooMany xY_TooMany s_SiteError_TooMany) (tcons (PySem.W.exm_ref xE_TooMany xD_TooMany xY_TooMany s_TooMany_TooMany) (tcons (PySem.W.exm_ref xE_TooMany xD_TooMany xY_TooMany s_TextError_TooMany) (tcons (PySem.W.exm_ref xE_TooMany xD_TooMany xY_TooMany s_LogError_TooMany) tnil)))))))) (by simp [mkC]),
    m_TooMany_ArgumentError:=look_tab (f:=fun B=>PySem.W.exmOne K (.ref B) (.ref A_TooMany)) (PySem.W.exm_ref xE_TooMany xD_TooMany xY_TooMany s_ArgumentError_TooMany) (tcons (PySem.W.exm_ref xE_TooMany xD_TooMany xY_TooMany s_CommandError_TooMany) (tcons (PySem.W.exm_ref xE_TooMany xD_TooMany xY_TooMany s_ArgumentError_TooMany) (tcons (PySem.W.exm_ref xE_TooMany xD_TooMany xY_TooMany s_CheckError_TooMany) (tcons (PySem.W.exm_ref xE_TooMany xD_TooMany xY_TooMany s_PaperError_TooMany) (tcons (PySem.W.exm_ref xE_TooMany xD_TooMany xY_TooMany s_SiteError_TooMany) (tcons (PySem.W.exm_ref xE_TooMany xD_TooMany xY_TooMany s_TooMany_TooMany) (tcons (PySem.W.exm_ref xE_TooMany xD_TooMany xY_TooMany s_TextError_TooMany) (tcons (PySem.W.exm_ref xE_TooMany xD_TooMany xY_TooMany s_LogError_TooMany) tnil)))))))) (by simp [mkC]),
    m_TooMany_CheckError:=look_tab (f:=fun B=>PySem.W.exmOne K (.ref B) (.ref A_TooMany)) (PySem.W.exm_ref xE_TooMany xD_TooMany xY_TooMany s_CheckError_TooMany) (tcons (PySem.W.exm_ref xE_TooMany xD_TooMany xY_TooMany s_CommandError_TooMany) (tcons (PySem.W.exm_ref xE_TooMany xD_TooMany xY_TooMany s_ArgumentError_TooMany) (tcons (PySem.W.exm_ref xE_TooMany xD_TooMany xY_TooMany s_CheckError_TooMany) (tcons (PySem.W.exm_ref xE_TooMany xD_TooMany xY_TooMany s_PaperError_TooMany) (tcons (PySem.W.exm_ref xE_TooMany xD_TooMany xY_TooMany s_SiteError_TooMany) (tcons (PySem.W.exm_ref xE_TooMany xD_TooMany xY_TooMany s_TooMany_TooMany) (tcons (PySem.W.exm_ref xE_TooMany xD_TooMany xY_TooMany s_TextError_TooMany) (tcons (PySem.W.exm_ref xE_TooMany xD_TooMany xY_TooMany s_LogError_TooMany) tnil)))))))) (by simp [mkC]),
    m_TooMany_PaperError:=look_tab (f:=fun B=>PySem.W.exmOne K (.ref B) (.ref A_TooMany)) (PySem.W.exm_ref xE_TooMany xD_TooMany xY_TooMany s_PaperError_TooMany) (tcons (PySem.W.exm_ref xE_TooMany xD_TooMany xY_TooMany s_CommandError_TooMany) (tcons (PySem.W.exm_ref xE_TooMany xD_TooMany xY_TooMany s_ArgumentError_TooMany) (tcons (PySem.W.exm_ref xE_TooMany xD_TooMany xY_TooMany s_CheckError_TooMany) (tcons (PySem.W.exm_ref xE_TooMany xD_TooMany xY_TooMany s_PaperError_TooMany) (tcons (PySem.W.exm_ref xE_TooMany xD_TooMany xY_TooMany s_SiteError_TooMany) (tcons (PySem.W.exm_ref xE_TooMany xD_TooMany xY_TooMany s_TooMany_TooMany) (tcons (PySem.W.exm_ref xE_TooMany xD_TooMany xY_TooMany s_TextError_TooMany) (tcons (PySem.W.exm_ref xE_TooMany xD_TooMany xY_TooMany s_LogError_TooMany) tnil)))))))) (by simp [mkC]),
    m_TooMany_SiteError:=look_tab (f:=fun B=>PySem.W.exmOne K (.ref B) (.ref A_TooMany)) (PySem.W.exm_ref xE_TooMany xD_TooMany xY_TooMany s_SiteError_TooMany) (tcons (PySem.W.exm_ref xE_TooMany xD_TooMany xY_TooMany s_CommandError_TooMany) (tcons (PySem.W.exm_ref xE_TooMany xD_TooMany xY_TooMany s_ArgumentError_TooMany) (tcons (PySem.W.exm_ref xE_TooMany xD_TooMany xY_TooMany s_CheckError_TooMany) (tcons (PySem.W.exm_ref xE_TooMany xD_TooMany xY_TooMany s_PaperError_TooMany) (tcons (PySem.W.exm_ref xE_TooMany xD_TooMany xY_TooMany s_SiteError_TooMany) (tcons (PySem.W.exm_ref xE_TooMany xD_TooMany xY_TooMany s_TooMany_TooMany) (tcons (PySem.W.exm_ref xE_TooMany xD_TooMany xY_TooMany s_TextError_TooMany) (tcons (PySem.W.exm_ref xE_TooMany xD_TooMany xY_TooMany s_LogError_TooMany) tnil)))))))) (by simp [mkC]),
    m_TooMany_TooMany:=look_tab (f:=fun B=>PySem.W.exmOne K (.ref B) (.ref A_TooMany)) (PySem.W.exm_ref xE_TooMany xD_TooMany xY_TooMany s_TooMany_TooMany) (tcons (PySem.W.exm_ref xE_TooMany xD_TooMany xY_TooMany s_CommandError_TooMany) (tcons (PySem.W.exm_ref xE_TooMany xD_TooMany xY_TooMany s_ArgumentError_TooMany) (tcons (PySem.W.exm_ref xE_TooMany xD_TooMany xY_TooMany s_CheckError_TooMany) (tcons (PySem.W.exm_ref xE_TooMany xD_TooMany xY_TooMany s_PaperError_TooMany) (tcons (PySem.W.exm_ref xE_TooMany xD_TooMany xY_TooMany s_SiteError_TooMany) (tcons (PySem.W.exm_ref xE_TooMany xD_TooMany xY_TooMany s_TooMany_TooMany) (tcons (PySem.W.exm_ref xE_TooMany xD_TooMany xY_TooMany s_TextError_TooMany) (tcons (PySem.W.exm_ref xE_TooMany xD_TooMany xY_TooMany s_LogError_TooMany) tnil)))))))) (by simp [mkC]),
    m_TooMany_TextError:=look_tab (f:=fun B=>PySem.W.exmOne K (.ref B) (.ref A_TooMany)) (PySem.W.exm_ref xE_TooMany xD_TooMany xY_TooMany s_TextError_TooMany) (tcons (PySem.W.exm_ref xE_TooMany xD_TooMany xY_TooMany s_CommandError_TooMany) (tcons (PySem.W.exm_ref xE_TooMany xD_TooMany xY_TooMany s_ArgumentError_TooMany) (tcons (PySem.W.exm_ref xE_TooMany xD_TooMany xY_TooMany s_CheckError_TooMany) (tcons (PySem.W.exm_ref xE_TooMany xD_TooMany xY_TooMany s_PaperError_TooMany) (tcons (PySem.W.exm_ref xE_TooMany xD_TooMany xY_TooMany s_SiteError_TooMany) (tcons (PySem.W.exm_ref xE_TooMany xD_TooMany xY_TooMany s_TooMany_TooMany) (tcons (PySem.W.exm_ref xE_TooMany xD_TooMany xY_TooMany s_TextError_TooMany) (tcons (PySem.W.exm_ref xE_TooMany xD_TooMany xY_TooMany s_LogError_TooMany) tnil)))))))) (by simp [mkC]),
    m_TooMany_LogError:=look_tab (f:=fun B=>PySem.W.exmOne K (.ref B) (.ref A_TooMany)) (PySem.W.exm_ref xE_TooMany xD_TooMany xY_TooMany s_LogError_TooMany) (tcons (PySem.W.exm_ref xE_TooMany xD_TooMany xY_TooMany s_CommandError_TooMany) (tcons (PySem.W.exm_ref xE_TooMany xD_TooMany xY_TooMany s_ArgumentError_TooMany) (tcons (PySem.W.exm_ref xE_TooMany xD_TooMany xY_TooMany s_CheckError_TooMany) (tcons (PySem.W.exm_ref xE_TooMany xD_TooMany xY_TooMany s_PaperError_TooMany) (tcons (PySem.W.exm_ref xE_TooMany xD_TooMany xY_TooMany s_SiteError_TooMany) (tcons (PySem.W.exm_ref xE_TooMany xD_TooMany xY_TooMany s_TooMany_TooMany) (tcons (PySem.W.exm_ref xE_TooMany xD_TooMany xY_TooMany s_TextError_TooMany) (tcons (PySem.W.exm_ref xE_TooMany xD_TooMany xY_TooMany s_LogError_TooMany) tnil)))))))) (by simp [mkC]),
    m_TextError_CommandError:=look_tab (f:=fun B=>PySem.W.exmOne K (.ref B) (.ref A_TextError)) (PySem.W.exm_ref xE_TextError xD_TextError xY_TextError s_CommandError_TextError) (tcons (PySem.W.exm_ref xE_TextError xD_TextError xY_TextError s_CommandError_TextError) (tcons (PySem.W.exm_ref xE_TextError xD_TextError xY_TextError s_ArgumentError_TextError) (tcons (PySem.W.exm_ref xE_TextError xD_TextError xY_TextError s_CheckError_TextError) (tcons (PySem.W.exm_ref xE_TextError xD_TextError xY_TextError s_PaperError_TextError) (tcons (PySem.W.exm_ref xE_TextError xD_TextError xY_TextError s_SiteError_TextError) (tcons (PySem.W.exm_ref xE_TextError xD_TextError xY_TextError s_TooMany_TextError) (tcons (PySem.W.exm_ref xE_TextError xD_TextError xY_TextError s_TextError_TextError) (tcons (PySem.W.exm_ref xE_TextError xD_TextError xY_TextError s_LogError_TextError) tnil)))))))) (by simp [mkC]),
    m_TextError_ArgumentError:=look_tab (f:=fun B=>PySem.W.exmOne K (.ref B) (.ref A_TextError)) (PySem.W.exm_ref xE_TextError xD_TextError xY_TextError s_ArgumentError_TextError) (tcons (PySem.W.exm_ref xE_TextError xD_TextError xY_TextError s_CommandError_TextError) (tcons (PySem.W.exm_ref xE_TextError xD_TextError xY_TextError s_ArgumentError_TextError) (tcons (PySem.W.exm_ref xE_TextError xD_TextError xY_TextError s_CheckError_TextError) (tcons (PySem.W.exm_ref xE_TextError xD_TextError xY_TextError s_PaperError_TextError) (tcons (PySem.W.exm_ref xE_TextError xD_TextError xY_TextError s_SiteError_TextError) (tcons (PySem.W.exm_ref xE_TextError xD_TextError xY_TextError s_TooMany_TextError) (tcons (PySem.W.exm_ref xE_TextError xD_TextError xY_TextError s_TextError_TextError) (tcons (PySem.W.exm_ref xE_TextError xD_TextError xY_TextError s_LogError_TextError) tnil)))))))) (by simp [mkC]),
    m_TextError_CheckError:=look_tab (f:=fun B=>PySem.W.exmOne K (.ref B) (.ref A_TextError)) (PySem.W.exm_ref xE_TextError xD_TextError xY_TextError s_CheckError_TextError) (tcons (PySem.W.exm_ref xE_TextError xD_TextError xY_TextError s_CommandError_TextError) (tcons (PySem.W.exm_ref xE_TextError xD_TextError xY_TextError s_ArgumentError_TextError) (tcons (PySem.W.exm_ref xE_TextError xD_TextError xY_TextError s_CheckError_TextError) (tcons (PySem.W.exm_ref xE_TextError xD_TextError xY_TextError s_PaperError_TextError) (tcons (PySem.W.exm_ref xE_TextError xD_TextError xY_TextError s_SiteError_TextError) (tcons (PySem.W.exm_ref xE_TextError xD_TextError xY_TextError s_TooMany_TextError) (tcons (PySem.W.exm_ref xE_TextError xD_TextError xY_TextError s_TextError_TextError) (tcons (PySem.W.exm_ref xE_TextError xD_TextError xY_TextError s_LogError_TextError) tnil)))))))) (by simp [mkC]),
    m_TextError_PaperError:=look_tab (f:=fun B=>PySem.W.exmOne K (.ref B) (.ref A_TextError)) (PySem.W.exm_ref xE_TextError xD_TextError xY_TextError s_PaperError_TextError) (tcons (PySem.W.exm_ref xE_TextError xD_TextError xY_TextError s_CommandError_TextError) (tcons (PySem.W.exm_ref xE_TextError xD_TextError xY_TextError s_ArgumentError_TextError) (tcons (PySem.W.exm_ref xE_TextError xD_TextError xY_TextError s_CheckError_TextError) (tcons (PySem.W.exm_ref xE_TextError xD_TextError xY_TextError s_PaperError_TextError) (tcons (PySem.W.exm_ref xE_TextError xD_TextError xY_TextError s_SiteError_TextError) (tcons (PySem.W.exm_ref xE_TextError xD_TextError xY_TextError s_TooMany_TextError) (tcons (PySem.W.exm_ref xE_TextError xD_TextError xY_TextError s_TextError_TextError) (tcons (PySem.W.exm_ref xE_TextError xD_TextError xY_TextError s_LogError_TextError) tnil)))))))) (by simp [mkC]),
    m_TextError_SiteError:=look_tab (f:=fun B=>PySem.W.exmOne K (.ref B) (.ref A_TextError)) (PySem.W.exm_ref xE_TextError xD_TextError xY_TextError s_SiteError_TextError) (tcons (PySem.W.exm_ref xE_TextError xD_TextError xY_TextError s_CommandError_TextError) (tcons (PySem.W.exm_ref xE_TextError xD_TextError xY_TextError s_ArgumentError_TextError) (tcons (PySem.W.exm_ref xE_TextError xD_TextError xY_TextError s_CheckError_TextError) (tcons (PySem.W.exm_ref xE_TextError xD_TextError xY_TextError s_PaperError_TextError) (tcons (PySem.W.exm_ref xE_TextError xD_TextError xY_TextError s_SiteError_TextError) (tcons (PySem.W.exm_ref xE_TextError xD_TextError xY_TextError s_TooMany_TextError) (tcons (PySem.W.exm_ref xE_TextError xD_TextError xY_TextError s_TextError_TextError) (tcons (PySem.W.exm_ref xE_TextError xD_TextError xY_TextError s_LogError_TextError) tnil)))))))) (by simp [mkC]),
    m_TextError_TooMany:=look_tab (f:=fun B=>PySem.W.exmOne K (.ref B) (.ref A_TextError)) (PySem.W.exm_ref xE_TextError xD_TextError xY_TextError s_TooMany_TextError) (tcons (PySem.W.exm_ref xE_TextError xD_TextError xY_TextError s_CommandError_TextError) (tcons (PySem.W.exm_ref xE_TextError xD_TextError xY_TextError s_ArgumentError_TextError) (tcons (PySem.W.exm_ref xE_TextError xD_TextError xY_TextError s_CheckError_TextError) (tcons (PySem.W.exm_ref xE_TextError xD_TextError xY_TextError s_PaperError_TextError) (tcons (PySem.W.exm_ref xE_TextError xD_TextError xY_TextError s_SiteError_TextError) (tcons (PySem.W.exm_ref xE_TextError xD_TextError xY_TextError s_TooMany_TextError) (tcons (PySem.W.exm_ref xE_TextError xD_TextError xY_TextError s_TextError_TextError) (tcons (PySem.W.exm_ref xE_TextError xD_TextError xY_TextError s_LogError_TextError) tnil)))))))) (by simp [mkC]),
    m_TextError_TextError:=look_tab (f:=fun B=>PySem.W.exmOne K (.ref B) (.ref A_TextError)) (PySem.W.exm_ref xE_TextError xD_TextError xY_TextError s_TextError_TextError) (tcons (PySem.W.exm_ref xE_TextError xD_TextError xY_TextError s_CommandError_TextError) (tcons (PySem.W.exm_ref xE_TextError xD_TextError xY_TextError s_ArgumentError_TextError) (tcons (PySem.W.exm_ref xE_TextError xD_TextError xY_TextError s_CheckError_TextError) (tcons (PySem.W.exm_ref xE_TextError xD_TextError xY_TextError s_PaperError_TextError) (tcons (PySem.W.exm_ref xE_TextError xD_TextError xY_TextError s_SiteError_TextError) (tcons (PySem.W.exm_ref xE_TextError xD_TextError xY_TextError s_TooMany_TextError) (tcons (PySem.W.exm_ref xE_TextError xD_TextError xY_TextError s_TextError_TextError) (tcons (PySem.W.exm_ref xE_TextError xD_TextError xY_TextError s_LogError_TextError) tnil)))))))) (by simp [mkC]),
    m_TextError_LogError:=look_tab (f:=fun B=>PySem.W.exmOne K (.ref B) (.ref A_TextError)) (PySem.W.exm_ref xE_TextError xD_TextError xY_TextError s_LogError_TextError) (tcons (PySem.W.exm_ref xE_TextError xD_TextError xY_TextError s_CommandError_TextError) (tcons (PySem.W.exm_ref xE_TextError xD_TextError xY_TextError s_ArgumentError_TextError) (tcons (PySem.W.exm_ref xE_TextError xD_TextError xY_TextError s_CheckError_TextError) (tcons (PySem.W.exm_ref xE_TextError xD_TextError xY_TextError s_PaperError_TextError) (tcons (PySem.W.exm_ref xE_TextError xD_TextError xY_TextError s_SiteError_TextError) (tcons (PySem.W.exm_ref xE_TextError xD_TextError xY_TextError s_TooMany_TextError) (tcons (PySem.W.exm_ref xE_TextError xD_TextError xY_TextError s_TextError_TextError) (tcons (PySem.W.exm_ref xE_TextError xD_TextError xY_TextError s_LogError_TextError) tnil)))))))) (by simp [mkC]),
    m_LogError_CommandError:=look_tab (f:=fun B=>PySem.W.exmOne K (.ref B) (.ref A_LogError)) (PySem.W.exm_ref xE_LogError xD_LogError xY_LogError s_CommandError_LogError) (tcons (PySem.W.exm_ref xE_LogError xD_LogError xY_LogError s_CommandError_LogError) (tcons (PySem.W.exm_ref xE_LogError xD_LogError xY_LogError s_ArgumentError_LogError) (tcons (PySem.W.exm_ref xE_LogError xD_LogError xY_LogError s_CheckError_LogError) (tcons (PySem.W.exm_ref xE_LogError xD_LogError xY_LogError s_PaperError_LogError) (tcons (PySem.W.exm_ref xE_LogError xD_LogError xY_LogError s_SiteError_LogError) (tcons (PySem.W.exm_ref xE_LogError xD_LogError xY_LogError s_TooMany_LogError) (tcons (PySem.W.exm_ref xE_LogError xD_LogError xY_LogError s_TextError_LogError) (tcons (PySem.W.exm_ref xE_LogError xD_LogError xY_LogError s_LogError_LogError) tnil)))))))) (by simp [mkC]),
    m_LogError_ArgumentError:=look_tab (f:=fun B=>PySem.W.exmOne K (.ref B) (.ref A_LogError)) (PySem.W.exm_ref xE_LogError xD_LogError xY_LogError s_ArgumentError_LogError) (tcons (PySem.W.exm_ref xE_LogError xD_LogError xY_LogError s_CommandError_LogError) (tcons (PySem.W.exm_ref xE_LogError xD_LogError xY_LogError s_ArgumentError_LogError) (tcons (PySem.W.exm_ref xE_LogError xD_LogError xY_LogError s_CheckError_LogError) (tcons (PySem.W.exm_ref xE_LogError xD_LogError xY_LogError s_PaperError_LogError) (tcons (PySem.W.exm_ref xE_LogError xD_LogError xY_LogError s_SiteError_LogError) (tcons (PySem.W.exm_ref xE_LogError xD_LogError xY_LogError s_TooMany_LogError) (tcons (PySem.W.exm_ref xE_LogError xD_LogError xY_LogError s_TextError_LogError) (tcons (PySem.W.exm_ref xE_LogError xD_LogError xY_LogError s_LogError_LogError) tnil)))))))) (by simp [mkC]),
    m_LogError_CheckError:=look_tab (f:=fun B=>PySem.W.exmOne K (.ref B) (.ref A_LogError)) (PySem.W.exm_ref xE_LogError xD_LogError xY_LogError s_CheckError_LogError) (tcons (PySem.W.exm_ref xE_LogError xD_LogError xY_LogError s_CommandError_LogError) (tcons (PySem.W.exm_ref xE_LogError xD_LogError xY_LogError s_ArgumentError_LogError) (tcons (PySem.W.exm_ref xE_LogError xD_LogError xY_LogError s_CheckError_LogError) (tcons (PySem.W.exm_ref xE_LogError xD_LogError xY_LogError s_PaperError_LogError) (tcons (PySem.W.exm_ref xE_LogError xD_LogError xY_LogError s_SiteError_LogError) (tcons (PySem.W.exm_ref xE_LogError xD_LogError xY_LogError s_TooMany_LogError) (tcons (PySem.W.exm_ref xE_LogError xD_LogError xY_LogError s_TextError_LogError) (tcons (PySem.W.exm_ref xE_LogError xD_LogError xY_LogError s_LogError_LogError) tnil)))))))) (by simp [mkC]),
    m_LogError_PaperError:=look_tab (f:=fun B=>PySem.W.exmOne K (.ref B) (.ref A_LogError)) (PySem.W.exm_ref xE_LogError xD_LogError xY_LogError s_PaperError_LogError) (tcons (PySem.W.exm_ref xE_LogError xD_LogError xY_LogError s_CommandError_LogError) (tcons (PySem.W.exm_ref xE_LogError xD_LogError xY_LogError s_ArgumentError_LogError) (tcons (PySem.W.exm_ref xE_LogError xD_LogError xY_LogError s_CheckError_LogError) (tcons (PySem.W.exm_ref xE_LogError xD_LogError xY_LogError s_PaperError_LogError) (tcons (PySem.W.exm_ref xE_LogError xD_LogError xY_LogError s_SiteError_LogError) (tcons (PySem.W.exm_ref xE_LogError xD_LogError xY_LogError s_TooMany_LogError) (tcons (PySem.W.exm_ref xE_LogError xD_LogError xY_LogError s_TextError_LogError) (tcons (PySem.W.exm_ref xE_LogError xD_LogError xY_LogError s_LogError_LogError) tnil)))))))) (by simp [mkC]),
    m_LogError_SiteError:=look_tab (f:=fun B=>PySem.W.exmOne K (.ref B) (.ref A_LogError)) (PySem.W.exm_ref xE_LogError xD_LogError xY_LogError s_SiteError_LogError) (tcons (PySem.W.exm_ref xE_LogError xD_LogError xY_LogError s_CommandError_LogError) (tcons (PySem.W.exm_ref xE_LogError xD_LogError xY_LogError s_ArgumentError_LogError) (tcons (PySem.W.exm_ref xE_LogError xD_LogError xY_LogError s_CheckError_LogError) (tcons (PySem.W.exm_ref xE_LogError xD_LogError xY_LogError s_PaperError_LogError) (tcons (PySem.W.exm_ref xE_LogError xD_LogError xY_LogError s_SiteError_LogError) (tcons (PySem.W.exm_ref xE_LogError xD_LogError xY_LogError s_TooMany_LogError) (tcons (PySem.W.exm_ref xE_LogError xD_LogError xY_LogError s_TextError_LogError) (tcons (PySem.W.exm_ref xE_LogError xD_LogError xY_LogError s_LogError_LogError) tnil)))))))) (by simp [mkC]),
    m_LogError_TooMany:=look_tab (f:=fun B=>PySem.W.exmOne K (.ref B) (.ref A_LogError)) (PySem.W.exm_ref xE_LogError xD_LogError xY_LogError s_TooMany_LogError) (tcons (PySem.W.exm_ref xE_LogError xD_LogError xY_LogError s_CommandError_LogError) (tcons (PySem.W.exm_ref xE_LogError xD_LogError xY_LogError s_ArgumentError_LogError) (tcons (PySem.W.exm_ref xE_LogError xD_LogError xY_LogError s_CheckError_LogError) (tcons (PySem.W.exm_ref xE_LogError xD_LogError xY_LogError s_PaperError_LogError) (tcons (PySem.W.exm_ref xE_LogError xD_LogError xY_LogError s_SiteError_LogError) (tcons (PySem.W.exm_ref xE_LogError xD_LogError xY_LogError s_TooMany_LogError) (tcons (PySem.W.exm_ref xE_LogError xD_LogError xY_LogError s_TextError_LogError) (tcons (PySem.W.exm_ref xE_LogError xD_LogError xY_LogError s_LogError_LogError) tnil)))))))) (by simp [mkC]),
    m_LogError_TextError:=look_tab (f:=fun B=>PySem.W.exmOne K (.ref B) (.ref A_LogError)) (PySem.W.exm_ref xE_LogError xD_LogError xY_LogError s_TextError_LogError) (tcons (PySem.W.exm_ref xE_LogError xD_LogError xY_LogError s_CommandError_LogError) (tcons (PySem.W.exm_ref xE_LogError xD_LogError xY_LogError s_ArgumentError_LogError) (tcons (PySem.W.exm_ref xE_LogError xD_LogError xY_LogError s_CheckError_LogError) (tcons (PySem.W.exm_ref xE_LogError xD_LogError xY_LogError s_PaperError_LogError) (tcons (PySem.W.exm_ref xE_LogError xD_LogError xY_LogError s_SiteError_LogError) (tcons (PySem.W.exm_ref xE_LogError xD_LogError xY_LogError s_TooMany_LogError) (tcons (PySem.W.exm_ref xE_LogError xD_LogError xY_LogError s_TextError_LogError) (tcons (PySem.W.exm_ref xE_LogError xD_LogError xY_LogError s_LogError_LogError) tnil)))))))) (by simp [mkC]),
    m_LogError_LogError:=look_tab (f:=fun B=>PySem.W.exmOne K (.ref B) (.ref A_LogError)) (PySem.W.exm_ref xE_LogError xD_LogError xY_LogError s_LogError_LogError) (tcons (PySem.W.exm_ref xE_LogError xD_LogError xY_LogError s_CommandError_LogError) (tcons (PySem.W.exm_ref xE_LogError xD_LogError xY_LogError s_ArgumentError_LogError) (tcons (PySem.W.exm_ref xE_LogError xD_LogError xY_LogError s_CheckError_LogError) (tcons (PySem.W.exm_ref xE_LogError xD_LogError xY_LogError s_PaperError_LogError) (tcons (PySem.W.exm_ref xE_LogError xD_LogError xY_LogError s_SiteError_LogError) (tcons (PySem.W.exm_ref xE_LogError xD_LogError xY_LogError s_TooMany_LogError) (tcons (PySem.W.exm_ref xE_LogError xD_LogError xY_LogError s_TextError_LogError) (tcons (PySem.W.exm_ref xE_LogError xD_LogError xY_LogError s_LogError_LogError) tnil)))))))) (by simp [mkC]),
    m_CommandError_CommandError:=look_tab (f:=fun B=>PySem.W.exmOne K (.ref B) (.ref A_CommandError)) (PySem.W.exm_ref xE_CommandError xD_CommandError xY_CommandError s_CommandError_CommandError) (tcons (PySem.W.exm_ref xE_CommandError xD_CommandError xY_CommandError s_CommandError_CommandError) (tcons (PySem.W.exm_ref xE_CommandError xD_CommandError xY_CommandError s_ArgumentError_CommandError) (tcons (PySem.W.exm_ref xE_CommandError xD_CommandError xY_CommandError s_CheckError_CommandError) (tcons (PySem.W.exm_ref xE_CommandError xD_CommandError xY_CommandError s_PaperError_CommandError) (tcons (PySem.W.exm_ref xE_CommandError xD_CommandError xY_CommandError s_SiteError_CommandError) (tcons (PySem.W.exm_ref xE_CommandError xD_CommandError xY_CommandError s_TooMany_CommandError) (tcons (PySem.W.exm_ref xE_CommandError xD_CommandError xY_CommandError s_TextError_CommandError) (tcons (PySem.W.exm_ref xE_CommandError xD_CommandError xY_CommandError s_LogError_CommandError) tnil)))))))) (by simp [mkC]),
    m_CommandError_ArgumentError:=look_tab (f:=fun B=>PySem.W.exmOne K (.ref B) (.ref A_CommandError)) (PySem.W.exm_ref xE_CommandError xD_CommandError xY_CommandError s_ArgumentError_CommandError) (tcons (PySem.W.exm_ref xE_CommandError xD_CommandError xY_CommandError s_CommandError_CommandError) (tcons (PySem.W.exm_ref xE_CommandError xD_CommandError xY_CommandError s_ArgumentError_CommandError) (tcons (PySem.W.exm_ref xE_CommandError xD_CommandError xY_CommandError s_CheckError_CommandError) (tcons (PySem.W.exm_ref xE_CommandError xD_CommandError xY_CommandError s_PaperError_CommandError) (tcons (PySem.W.exm_ref xE_CommandError xD_CommandError xY_CommandError s_SiteError_CommandError) (tcons (PySem.W.exm_ref xE_CommandError xD_CommandError xY_CommandError s_TooMany_CommandError) (tcons (PySem.W.exm_ref xE_CommandError xD_CommandError xY_CommandError s_TextError_CommandError) (tcons (PySem.W.exm_ref xE_CommandError xD_CommandError xY_CommandError s_LogError_CommandError) tnil)))))))) (by simp [mkC]),
    m_CommandError_CheckError:=look_tab (f:=fun B=>PySem.W.exmOne K (.ref B) (.ref A_CommandError)) (PySem.W.exm_ref xE_CommandError xD_CommandError xY_CommandError s_CheckError_CommandError) (tcons (PySem.W.exm_ref xE_CommandError xD_CommandError xY_CommandError s_CommandError_CommandError) (tcons (PySem.W.exm_ref xE_CommandError xD_CommandError xY_CommandError s_ArgumentError_CommandError) (tcons (PySem.W.exm_ref xE_CommandError xD_CommandError xY_CommandError s_CheckError_CommandError) (tcons (PySem.W.exm_ref xE_CommandError xD_CommandError xY_CommandError s_PaperError_CommandError) (tcons (PySem.W.exm_ref xE_CommandError xD_CommandError xY_CommandError s_SiteError_CommandError) (tcons (PySem.W.exm_ref xE_CommandError xD_CommandError xY_CommandError s_TooMany_CommandError) (tcons (PySem.W.exm_ref xE_CommandError xD_CommandError xY_CommandError s_TextError_CommandError) (tcons (PySem.W.exm_ref xE_CommandError xD_CommandError xY_CommandError s_LogError_CommandError) tnil)))))))) (by simp [mkC]),
    m_CommandError_PaperError:=look_tab (f:=fun B=>PySem.W.exmOne K (.ref B) (.ref A_CommandError)) (PySem.W.exm_ref xE_CommandError xD_CommandError xY_CommandError s_PaperError_CommandError) (tcons (PySem.W.exm_ref xE_CommandError xD_CommandError xY_CommandError s_CommandError_CommandError) (tcons (PySem.W.exm_ref xE_CommandError xD_CommandError xY_CommandError s_ArgumentError_CommandError) (tcons (PySem.W.exm_ref xE_CommandError xD_CommandError xY_CommandError s_CheckError_CommandError) (tcons (PySem.W.exm_ref xE_CommandError xD_CommandError xY_CommandError s_PaperError_CommandError) (tcons (PySem.W.exm_ref xE_CommandError xD_CommandError xY_CommandError s_SiteError_CommandError) (tcons (PySem.W.exm_ref xE_CommandError xD_CommandError xY_CommandError s_TooMany_CommandError) (tcons (PySem.W.exm_ref xE_CommandError xD_CommandError xY_CommandError s_TextError_CommandError) (tcons (PySem.W.exm_ref xE_CommandError xD_CommandError xY_CommandError s_LogError_CommandError) tnil)))))))) (by simp [mkC]),
    m_CommandError_SiteError:=look_tab (f:=fun B=>PySem.W.exmOne K (.ref B) (.ref A_CommandError)) (PySem.W.exm_ref xE_CommandError xD_CommandError xY_CommandError s_SiteError_CommandError) (tcons (PySem.W.exm_ref xE_CommandError xD_CommandError xY_CommandError s_CommandError_CommandError) (tcons (PySem.W.exm_ref xE_CommandError xD_CommandError xY_CommandError s_ArgumentError_CommandError) (tcons (PySem.W.exm_ref xE_CommandError xD_CommandError xY_CommandError s_CheckError_CommandError) (tcons (PySem.W.exm_ref xE_CommandError xD_CommandError xY_CommandError s_PaperError_CommandError) (tcons (PySem.W.exm_ref xE_CommandError xD_CommandError xY_CommandError s_SiteError_CommandError) (tcons (PySem.W.exm_ref xE_CommandError xD_CommandError xY_CommandError s_TooMany_CommandError) (tcons (PySem.W.exm_ref xE_CommandError xD_CommandError xY_CommandError s_TextError_CommandError) (tcons (PySem.W.exm_ref xE_CommandError xD_CommandError xY_CommandError s_LogError_CommandError) tnil)))))))) (by simp [mkC]),
    m_CommandError_TooMany:=look_tab (f:=fun B=>PySem.W.exmOne K (.ref B) (.ref A_CommandError)) (PySem.W.exm_ref xE_CommandError xD_CommandError xY_CommandError s_TooMany_CommandError) (tcons (PySem.W.exm_ref xE_CommandError xD_CommandError xY_CommandError s_CommandError_CommandError) (tcons (PySem.W.exm_ref xE_CommandError xD_CommandError xY_CommandError s_ArgumentError_CommandError) (tcons (PySem.W.exm_ref xE_CommandError xD_CommandError xY_CommandError s_CheckError_CommandError) (tcons (PySem.W.exm_ref xE_CommandError xD_CommandError xY_CommandError s_PaperError_CommandError) (tcons (PySem.W.exm_ref xE_CommandError xD_CommandError xY_CommandError s_SiteError_CommandError) (tcons (PySem.W.exm_ref xE_CommandError xD_CommandError xY_CommandError s_TooMany_CommandError) (tcons (PySem.W.exm_ref xE_CommandError xD_CommandError xY_CommandError s_TextError_CommandError) (tcons (PySem.W.exm_ref xE_CommandError xD_CommandError xY_CommandError s_LogError_CommandError) tnil)))))))) (by simp [mkC]),
    m_CommandError_TextError:=look_tab (f:=fun B=>PySem.W.exmOne K (.ref B) (.ref A_CommandError)) (PySem.W.exm_ref xE_CommandError xD_CommandError xY_CommandError s_TextError_CommandError) (tcons (PySem.W.exm_ref xE_CommandError xD_CommandError xY_CommandError s_CommandError_CommandError) (tcons (PySem.W.exm_ref xE_CommandError xD_CommandError xY_CommandError s_ArgumentError_CommandError) (tcons (PySem.W.exm_ref xE_CommandError xD_CommandError xY_CommandError s_CheckError_CommandError) (tcons (PySem.W.exm_ref xE_CommandError xD_CommandError xY_CommandError s_PaperError_CommandError) (tcons (PySem.W.exm_ref xE_CommandError xD_CommandError xY_CommandError s_SiteError_CommandError) (tcons (PySem.W.exm_ref xE_CommandError xD_CommandError xY_CommandError s_TooMany_CommandError) (tcons (PySem.W.exm_ref xE_CommandError xD_CommandError xY_CommandError s_TextError_CommandError) (tcons (PySem.W.exm_ref xE_CommandError xD_CommandError xY_CommandError s_LogError_CommandError) tnil)))))))) (by simp [mkC]),
    m_CommandError_LogError:=look_tab (f:=fun B=>PySem.W.exmOne K (.ref B) (.ref A_CommandError)) (PySem.W.exm_ref xE_CommandError xD_CommandError xY_CommandError s_LogError_CommandError) (tcons (PySem.W.exm_ref xE_CommandError xD_CommandError xY_CommandError s_CommandError_CommandError) (tcons (PySem.W.exm_ref xE_CommandError xD_CommandError xY_CommandError s_ArgumentError_CommandError) (tcons (PySem.W.exm_ref xE_CommandError xD_CommandError xY_CommandError s_CheckError_CommandError) (tcons (PySem.W.exm_ref xE_CommandError xD_CommandError xY_CommandError s_PaperError_CommandError) (tcons (PySem.W.exm_ref xE_CommandError xD_CommandError xY_CommandError s_SiteError_CommandError) (tcons (PySem.W.exm_ref xE_CommandError xD_CommandError xY_CommandError s_TooMany_CommandError) (tcons (PySem.W.exm_ref xE_CommandError xD_CommandError xY_CommandError s_TextError_CommandError) (tcons (PySem.W.exm_ref xE_CommandError xD_CommandError xY_CommandError s_LogError_CommandError) tnil)))))))) (by simp [mkC]),
    is_ArgumentError_CommandError:=look_tab (f:=fun B=>PySem.W.kitOne K (.ref B) (.ref A_ArgumentError)) o_CommandError_ArgumentError (tcons o_CommandError_ArgumentError (tcons o_ArgumentError_ArgumentError (tcons o_CheckError_ArgumentError (tcons o_PaperError_ArgumentError (tcons o_SiteError_ArgumentError (tcons o_TooMany_ArgumentError (tcons o_TextError_ArgumentError (tcons o_LogError_ArgumentError tnil)))))))) (by simp [mkC]),
    is_ArgumentError_ArgumentError:=look_tab (f:=fun B=>PySem.W.kitOne K (.ref B) (.ref A_ArgumentError)) o_ArgumentError_ArgumentError (tcons o_CommandError_ArgumentError (tcons o_ArgumentError_ArgumentError (tcons o_CheckError_ArgumentError (tcons o_PaperError_ArgumentError (tcons o_SiteError_ArgumentError (tcons o_TooMany_ArgumentError (tcons o_TextError_ArgumentError (tcons o_LogError_ArgumentError tnil)))))))) (by simp [mkC]),
    is_ArgumentError_CheckError:=look_tab (f:=fun B=>PySem.W.kitOne K (.ref B) (.ref A_ArgumentError)) o_CheckError_ArgumentError (tcons o_CommandError_ArgumentError (tcons o_ArgumentError_ArgumentError (tcons o_CheckError_ArgumentError (tcons o_PaperError_ArgumentError (tcons o_SiteError_ArgumentError (tcons o_TooMany_ArgumentError (tcons o_TextError_ArgumentError (tcons o_LogError_ArgumentError tnil)))))))) (by simp [mkC]),
    is_ArgumentError_PaperError:=look_tab (f:=fun B=>PySem.W.kitOne K (.ref B) (.ref A_ArgumentError)) o_PaperError_ArgumentError (tcons o_CommandError_ArgumentError (tcons o_ArgumentError_ArgumentError (tcons o_CheckError_ArgumentError (tcons o_PaperError_ArgumentError (tcons o_SiteError_ArgumentError (tcons o_TooMany_ArgumentError (tcons o_TextError_ArgumentError (tcons o_LogError_ArgumentError tnil)))))))) (by simp [mkC]),
    is_ArgumentError_SiteError:=look_tab (f:=fun B=>PySem.W.kitOne K (.ref B) (.ref A_ArgumentError)) o_SiteError_ArgumentError (tcons o_CommandError_ArgumentError (tcons o_ArgumentError_ArgumentError (tcons o_CheckError_ArgumentError (tcons o_PaperError_ArgumentError (tcons o_SiteError_ArgumentError (tcons o_TooMany_ArgumentError (tcons o_TextError_ArgumentError (tcons o_LogError_ArgumentError tnil)))))))) (by simp [mkC]),
    is_ArgumentError_TooMany:=look_tab (f:=fun B=>PySem.W.kitOne K (.ref B) (.ref A_ArgumentError)) o_TooMany_ArgumentError (tcons o_CommandError_ArgumentError (tcons o_ArgumentError_ArgumentError (tcons o_CheckError_ArgumentError (tcons o_PaperError_ArgumentError (tcons o_SiteError_ArgumentError (tcons o_TooMany_ArgumentError (tcons o_TextError_ArgumentError (tcons o_LogError_ArgumentError tnil)))))))) (by simp [mkC]),
    is_ArgumentError_TextError:=look_tab (f:=fun B=>PySem.W.kitOne K (.ref B) (.ref A_ArgumentError)) o_TextError_ArgumentError (tcons o_CommandError_ArgumentError (tcons o_ArgumentError_ArgumentError (tcons o_CheckError_ArgumentError (tcons o_PaperError_ArgumentError (tcons o_SiteError_ArgumentError (tcons o_TooMany_ArgumentError (tcons o_TextError_ArgumentError (tcons o_LogError_ArgumentError tnil)))))))) (by simp [mkC]),
    is_ArgumentError_LogError:=look_tab (f:=fun B=>PySem.W.kitOne K (.ref B) (.ref A_ArgumentError)) o_LogError_ArgumentError (tcons o_CommandError_ArgumentError (tcons o_ArgumentError_ArgumentError (tcons o_CheckError_ArgumentError (tcons o_PaperError_ArgumentError (tcons o_SiteError_ArgumentError (tcons o_TooMany_ArgumentError (tcons o_TextError_ArgumentError (tcons o_LogError_ArgumentError tnil)))))))) (by simp [mkC]),
    is_CheckError_CommandError:=look_tab (f:=fun B=>PySem.W.kitOne K (.ref B) (.ref A_CheckError)) o_CommandError_CheckError (tcons o_CommandError_CheckError (tcons o_ArgumentError_CheckError (tcons o_CheckError_CheckError (tcons o_PaperError_CheckError (tcons o_SiteError_CheckError (tcons o_TooMany_CheckError (tcons o_TextError_CheckError (tcons o_LogError_CheckError tnil)))))))) (by simp [mkC]),
    is_CheckError_ArgumentError:=look_tab (f:=fun B=>PySem.W.kitOne K (.ref B) (.ref A_CheckError)) o_ArgumentError_CheckError (tcons o_CommandError_CheckError (tcons o_ArgumentError_CheckError (tcons o_CheckError_CheckError (tcons o_PaperError_CheckError (tcons o_SiteError_CheckError (tcons o_TooMany_CheckError (tcons o_TextError_CheckError (tcons o_LogError_CheckError tnil)))))))) (by simp [mkC]),
    is_CheckError_CheckError:=look_tab (f:=fun B=>PySem.W.kitOne K (.ref B) (.ref A_CheckError)) o_CheckError_CheckError (tcons o_CommandError_CheckError (tcons o_ArgumentError_CheckError (tcons o_CheckError_CheckError (tcons o_PaperError_CheckError (tcons o_SiteError_CheckError (tcons o_TooMany_CheckError (tcons o_TextError_CheckError (tcons o_LogError_CheckError tnil)))))))) (by simp [mkC]),
    is_CheckError_PaperError:=look_tab (f:=fun B=>PySem.W.kitOne K (.ref B) (.ref A_CheckError)) o_PaperError_CheckError (tcons o_CommandError_CheckError (tcons o_ArgumentError_CheckError (tcons o_CheckError_CheckError (tcons o_PaperError_CheckError (tcons o_SiteError_CheckError (tcons o_TooMany_CheckError (tcons o_TextError_CheckError (tcons o_LogError_CheckError tnil)))))))) (by simp [mkC]),
    is_CheckError_SiteError:=look_tab (f:=fun B=>PySem.W.kitOne K (.ref B) (.ref A_CheckError)) o_SiteError_CheckError (tcons o_CommandError_CheckError (tcons o_ArgumentError_CheckError (tcons o_CheckError_CheckError (tcons o_PaperError_CheckError (tcons o_SiteError_CheckError (tcons o_TooMany_CheckError (tcons o_TextError_CheckError (tcons o_LogError_CheckError tnil)))))))) (by simp [mkC]),
    is_CheckError_TooMany:=look_tab (f:=fun B=>PySem.W.kitOne K (.ref B) (.ref A_CheckError)) o_TooMany_CheckError (tcons o_CommandError_CheckError (tcons o_ArgumentError_CheckError (tcons o_CheckError_CheckError (tcons o_PaperError_CheckError (tcons o_SiteError_CheckError (tcons o_TooMany_CheckError (tcons o_TextError_CheckError (tcons o_LogError_CheckError tnil)))))))) (by simp [mkC]),
    is_CheckError_TextError:=look_tab (f:=fun B=>PySem.W.kitOne K (.ref B) (.ref A_CheckError)) o_TextError_CheckError (tcons o_CommandError_CheckError (tcons o_ArgumentError_CheckError (tcons o_CheckError_CheckError (tcons o_PaperError_CheckError (tcons o_SiteError_CheckError (tcons o_TooMany_CheckError (tcons o_TextError_CheckError (tcons o_LogError_CheckError tnil)))))))) (by simp [mkC]),
    is_CheckError_LogError:=look_tab (f:=fun B=>PySem.W.kitOne K (.ref B) (.ref A_CheckError)) o_LogError_CheckError (tcons o_CommandError_CheckError (tcons o_ArgumentError_CheckError (tcons o_CheckError_CheckError (tcons o_PaperError_CheckError (tcons o_SiteError_CheckError (tcons o_TooMany_CheckError (tcons o_TextError_CheckError (tcons o_LogError_CheckError tnil)))))))) (by simp [mkC]),
    is_PaperError_CommandError:=look_tab (f:=fun B=>PySem.W.kitOne K (.ref B) (.ref A_PaperError)) o_CommandError_PaperError (tcons o_CommandError_PaperError (tcons o_ArgumentError_PaperError (tcons o_CheckError_PaperError (tcons o_PaperError_PaperError (tcons o_SiteError_PaperError (tcons o_TooMany_PaperError (tcons o_TextError_PaperError (tcons o_LogError_PaperError tnil)))))))) (by simp [mkC]),
    is_PaperError_ArgumentError:=look_tab (f:=fun B=>PySem.W.kitOne K (.ref B) (.ref A_PaperError)) o_ArgumentError_PaperError (tcons o_CommandError_PaperError (tcons o_ArgumentError_PaperError (tcons o_CheckError_PaperError (tcons o_PaperError_PaperError (tcons o_SiteError_PaperError (tcons o_TooMany_PaperError (tcons o_TextError_PaperError (tcons o_LogError_PaperError tnil)))))))) (by simp [mkC]),
    is_PaperError_CheckError:=look_tab (f:=fun B=>PySem.W.kitOne K (.ref B) (.ref A_PaperError)) o_CheckError_PaperError (tcons o_CommandError_PaperError (tcons o_ArgumentError_PaperError (tcons o_CheckError_PaperError (tcons o_PaperError_PaperError (tcons o_SiteError_PaperError (tcons o_TooMany_PaperError (tcons o_TextError_PaperError (tcons o_LogError_PaperError tnil)))))))) (by simp [mkC]),
    is_PaperError_PaperError:=look_tab (f:=fun B=>PySem.W.kitOne K (.ref B) (.ref A_PaperError)) o_PaperError_PaperError (tcons o_CommandError_PaperError (tcons o_ArgumentError_PaperError (tcons o_CheckError_PaperError (tcons o_PaperError_PaperError (tcons o_SiteError_PaperError (tcons o_TooMany_PaperError (tcons o_TextError_PaperError (tcons o_LogError_PaperError tnil)))))))) (by simp [mkC]),
    is_PaperError_SiteError:=look_tab (f:=fun B=>PySem.W.kitOne K (.ref B) (.ref A_PaperError)) o_SiteError_PaperError (tcons o_CommandError_PaperError (tcons o_ArgumentError_PaperError (tcons o_CheckError_PaperError (tcons o_PaperError_PaperError (tcons o_SiteError_PaperError (tcons o_TooMany_PaperError (tcons o_TextError_PaperError (tcons o_LogError_PaperError tnil)))))))) (by simp [mkC]),
    is_PaperError_TooMany:=look_tab (f:=fun B=>PySem.W.kitOne K (.ref B) (.ref A_PaperError)) o_TooMany_PaperError (tcons o_CommandError_PaperError (tcons o_ArgumentError_PaperError (tcons o_CheckError_PaperError (tcons o_PaperError_PaperError (tcons o_SiteError_PaperError (tcons o_TooMany_PaperError (tcons o_TextError_PaperError (tcons o_LogError_PaperError tnil)))))))) (by simp [mkC]),
    is_PaperError_TextError:=look_tab (f:=fun B=>PySem.W.kitOne K (.ref B) (.ref A_PaperError)) o_TextError_PaperError (tcons o_CommandError_PaperError (tcons o_ArgumentError_PaperError (tcons o_CheckError_PaperError (tcons o_PaperError_PaperError (tcons o_SiteError_PaperError (tcons o_TooMany_PaperError (tcons o_TextError_PaperError (tcons o_LogError_PaperError tnil)))))))) (by simp [mkC]),
    is_PaperError_LogError:=look_tab (f:=fun B=>PySem.W.kitOne K (.ref B) (.ref A_PaperError)) o_LogError_PaperError (tcons o_CommandError_PaperError (tcons o_ArgumentError_PaperError (tcons o_CheckError_PaperError (tcons o_PaperError_PaperError (tcons o_SiteError_PaperError (tcons o_TooMany_PaperError (tcons o_TextError_PaperError (tcons o_LogError_PaperError tnil)))))))) (by simp [mkC]),
    is_SiteError_CommandError:=look_tab (f:=fun B=>PySem.W.kitOne K (.ref B) (.ref A_SiteError)) o_CommandError_SiteError (tcons o_CommandError_SiteError (tcons o_ArgumentError_SiteError (tcons o_CheckError_SiteError (tcons o_PaperError_SiteError (tcons o_SiteError_SiteError (tcons o_TooMany_SiteError (tcons o_TextError_SiteError (tcons o_LogError_SiteError tnil)))))))) (by simp [mkC]),
    is_SiteError_ArgumentError:=look_tab (f:=fun B=>PySem.W.kitOne K (.ref B) (.ref A_SiteError)) o_ArgumentError_SiteError (tcons o_CommandError_SiteError (tcons o_ArgumentError_SiteError (tcons o_CheckError_SiteError (tcons o_PaperError_SiteError (tcons o_SiteError_SiteError (tcons o_TooMany_SiteError (tcons o_TextError_SiteError (tcons o_LogError_SiteError tnil)))))))) (by simp [mkC]),
    is_SiteError_CheckError:=look_tab (f:=fun B=>PySem.W.kitOne K (.ref B) (.ref A_SiteError)) o_CheckError_SiteError (tcons o_CommandError_SiteError (tcons o_ArgumentError_SiteError (tcons o_CheckError_SiteError (tcons o_PaperError_SiteError (tcons o_SiteError_SiteError (tcons o_TooMany_SiteError (tcons o_TextError_SiteError (tcons o_LogError_SiteError tnil)))))))) (by simp [mkC]),
    is_SiteError_PaperError:=look_tab (f:=fun B=>PySem.W.kitOne K (.ref B) (.ref A_SiteError)) o_PaperError_SiteError (tcons o_CommandError_SiteError (tcons o_ArgumentError_SiteError (tcons o_CheckError_SiteError (tcons o_PaperError_SiteError (tcons o_SiteError_SiteError (tcons o_TooMany_SiteError (tcons o_TextError_SiteError (tcons o_LogError_SiteError tnil)))))))) (by simp [mkC]),
    is_SiteError_SiteError:=look_tab (f:=fun B=>PySem.W.kitOne K (.ref B) (.ref A_SiteError)) o_SiteError_SiteError (tcons o_CommandError_SiteError (tcons o_ArgumentError_SiteError (tcons o_CheckError_SiteError (tcons o_PaperError_SiteError (tcons o_SiteError_SiteError (tcons o_TooMany_SiteError (tcons o_TextError_SiteError (tcons o_LogError_SiteError tnil)))))))) (by simp [mkC]),
    is_SiteError_TooMany:=look_tab (f:=fun B=>PySem.W.kitOne K (.ref B) (.ref A_SiteError)) o_TooMany_SiteError (tcons o_CommandError_SiteError (tcons o_ArgumentError_SiteError (tcons o_CheckError_SiteError (tcons o_PaperError_SiteError (tcons o_SiteError_SiteError (tcons o_TooMany_SiteError (tcons o_TextError_SiteError (tcons o_LogError_SiteError tnil)))))))) (by simp [mkC]),
    is_SiteError_TextError:=look_tab (f:=fun B=>PySem.W.kitOne K (.ref B) (.ref A_SiteError)) o_TextError_SiteError (tcons o_CommandError_SiteError (tcons o_ArgumentError_SiteError (tcons o_CheckError_SiteError (tcons o_PaperError_SiteError (tcons o_SiteError_SiteError (tcons o_TooMany_SiteError (tcons o_TextError_SiteError (tcons o_LogError_SiteError tnil)))))))) (by simp [mkC]),
    is_SiteError_LogError:=look_tab (f:=fun B=>PySem.W.kitOne K (.ref B) (.ref A_SiteError)) o_LogError_SiteError (tcons o_CommandError_SiteError (tcons o_ArgumentError_SiteError (tcons o_CheckError_SiteError (tcons o_PaperError_SiteError (tcons o_SiteError_SiteError (tcons o_TooMany_SiteError (tcons o_TextError_SiteError (tcons o_LogError_SiteError tnil)))))))) (by simp [mkC]),
    is_TooMany_CommandError:=look_tab (f:=fun B=>PySem.W.kitOne K (.ref B) (.ref A_TooMany)) o_CommandError_TooMany (tcons o_CommandError_TooMany (tcons o_ArgumentError_TooMany (tcons o_CheckError_TooMany (tcons o_PaperError_TooMany (tcons o_SiteError_TooMany (tcons o_TooMany_TooMany (tcons o_TextError_TooMany (tcons o_LogError_TooMany tnil)))))))) (by simp [mkC]),
    is_TooMany_ArgumentError:=look_tab (f:=fun B=>PySem.W.kitOne K (.ref B) (.ref A_TooMany)) o_ArgumentError_TooMany (tcons o_CommandError_TooMany (tcons o_ArgumentError_TooMany (tcons o_CheckError_TooMany (tcons o_PaperError_TooMany (tcons o_SiteError_TooMany (tcons o_TooMany_TooMany (tcons o_TextError_TooMany (tcons o_LogError_TooMany tnil)))))))) (by simp [mkC]),
    is_TooMany_CheckError:=look_tab (f:=fun B=>PySem.W.kitOne K (.ref B) (.ref A_TooMany)) o_CheckError_TooMany (tcons o_CommandError_TooMany (tcons o_ArgumentError_TooMany (tcons o_CheckError_TooMany (tcons o_PaperError_TooMany (tcons o_SiteError_TooMany (tcons o_TooMany_TooMany (tcons o_TextError_TooMany (tcons o_LogError_TooMany tnil)))))))) (by simp [mkC]),
    is_TooMany_PaperError:=look_tab (f:=fun B=>PySem.W.kitOne K (.ref B) (.ref A_TooMany)) o_PaperError_TooMany (tcons o_CommandError_TooMany (tcons o_ArgumentError_TooMany (tcons o_CheckError_TooMany (tcons o_PaperError_TooMany (tcons o_SiteError_TooMany (tcons o_TooMany_TooMany (tcons o_TextError_TooMany (tcons o_LogError_TooMany tnil)))))))) (by simp [mkC]),
    is_TooMany_SiteError:=look_tab (f:=fun B=>PySem.W.kitOne K (.ref B) (.ref A_TooMany)) o_SiteError_TooMany (tcons o_CommandError_TooMany (tcons o_ArgumentError_TooMany (tcons o_CheckError_TooMany (tcons o_PaperError_TooMany (tcons o_SiteError_TooMany (tcons o_TooMany_TooMany (tcons o_TextError_TooMany (tcons o_LogError_TooMany tnil)))))))) (by simp [mkC]),
    is_TooMany_TooMany:=look_tab (f:=fun B=>PySem.W.kitOne K (.ref B) (.ref A_TooMany)) o_TooMany_TooMany (tcons o_CommandError_TooMany (tcons o_ArgumentError_TooMany (tcons o_CheckError_TooMany (tcons o_PaperError_TooMany (tcons o_SiteError_TooMany (tcons o_TooMany_TooMany (tcons o_TextError_TooMany (tcons o_LogError_TooMany tnil)))))))) (by simp [mkC]),
    is_TooMany_TextError:=look_tab (f:=fun B=>PySem.W.kitOne K (.ref B) (.ref A_TooMany)) o_TextError_TooMany (tcons o_CommandError_TooMany (tcons o_ArgumentError_TooMany (tcons o_CheckError_TooMany (tcons o_PaperError_TooMany (tcons o_SiteError_TooMany (tcons o_TooMany_TooMany (tcons o_TextError_TooMany (tcons o_LogError_TooMany tnil)))))))) (by simp [mkC]),
    is_TooMany_LogError:=look_tab (f:=fun B=>PySem.W.kitOne K (.ref B) (.ref A_TooMany)) o_LogError_TooMany (tcons o_CommandError_TooMany (tcons o_ArgumentError_TooMany (tcons o_CheckError_TooMany (tcons o_PaperError_TooMany (tcons o_SiteError_TooMany (tcons o_TooMany_TooMany (tcons o_TextError_TooMany (tcons o_LogError_TooMany tnil)))))))) (by simp [mkC]),
    is_TextError_CommandError:=look_tab (f:=fun B=>PySem.W.kitOne K (.ref B) (.ref A_TextError)) o_CommandError_TextError (tcons o_CommandError_TextError (tcons o_ArgumentError_TextError (tcons o_CheckError_TextError (tcons o_PaperError_TextError (tcons o_SiteError_TextError (tcons o_TooMany_TextError (tcons o_TextError_TextError (tcons o_LogError_TextError tnil)))))))) (by simp [mkC]),
    is_TextError_ArgumentError:=look_tab (f:=fun B=>PySem.W.kitOne K (.ref B) (.ref A_TextError)) o_ArgumentError_TextError (tcons o_CommandError_TextError (tcons o_ArgumentError_TextError (tcons o_CheckError_TextError (tcons o_PaperError_TextError (tcons o_SiteError_TextError (tcons o_TooMany_TextError (tcons o_TextError_TextError (tcons o_LogError_TextError tnil)))))))) (by simp [mkC]),
    is_TextError_CheckError:=look_tab (f:=fun B=>PySem.W.kitOne K (.ref B) (.ref A_TextError)) o_CheckError_TextError (tcons o_CommandError_TextError (tcons o_ArgumentError_TextError (tcons o_CheckError_TextError (tcons o_PaperError_TextError (tcons o_SiteError_TextError (tcons o_TooMany_TextError (tcons o_TextError_TextError (tcons o_LogError_TextError tnil)))))))) (by simp [mkC]),
    is_TextError_PaperError:=look_tab (f:=fun B=>PySem.W.kitOne K (.ref B) (.ref A_TextError)) o_PaperError_TextError (tcons o_CommandError_TextError (tcons o_ArgumentError_TextError (tcons o_CheckError_TextError (tcons o_PaperError_TextError (tcons o_SiteError_TextError (tcons o_TooMany_TextError (tcons o_TextError_TextError (tcons o_LogError_TextError tnil)))))))) (by simp [mkC]),
    is_TextError_SiteError:=look_tab (f:=fun B=>PySem.W.kitOne K (.ref B) (.ref A_TextError)) o_SiteError_TextError (tcons o_CommandError_TextError (tcons o_ArgumentError_TextError (tcons o_CheckError_TextError (tcons o_PaperError_TextError (tcons o_SiteError_TextError (tcons o_TooMany_TextError (tcons o_TextError_TextError (tcons o_LogError_TextError tnil)))))))) (by simp [mkC]),
    is_TextError_TooMany:=look_tab (f:=fun B=>PySem.W.kitOne K (.ref B) (.ref A_TextError)) o_TooMany_TextError (tcons o_CommandError_TextError (tcons o_ArgumentError_TextError (tcons o_CheckError_TextError (tcons o_PaperError_TextError (tcons o_SiteError_TextError (tcons o_TooMany_TextError (tcons o_TextError_TextError (tcons o_LogError_TextError tnil)))))))) (by simp [mkC]),
    is_TextError_TextError:=look_tab (f:=fun B=>PySem.W.kitOne K (.ref B) (.ref A_TextError)) o_TextError_TextError (tcons o_CommandError_TextError (tcons o_ArgumentError_TextError (tcons o_CheckError_TextError (tcons o_PaperError_TextError (tcons o_SiteError_TextError (tcons o_TooMany_TextError (tcons o_TextError_TextError (tcons o_LogError_TextError tnil)))))))) (by simp [mkC]),
    is_TextError_LogError:=look_tab (f:=fun B=>PySem.W.kitOne K (.ref B) (.ref A_TextError)) o_LogError_TextError (tcons o_CommandError_TextError (tcons o_ArgumentError_TextError (tcons o_CheckError_TextError (tcons o_PaperError_TextError (tcons o_SiteError_TextError (tcons o_TooMany_TextError (tcons o_TextError_TextError (tcons o_LogError_TextError tnil)))))))) (by simp [mkC]),
    is_LogError_CommandError:=look_tab (f:=fun B=>PySem.W.kitOne K (.ref B) (.ref A_LogError)) o_CommandError_LogError (tcons o_CommandError_LogError (tcons o_ArgumentError_LogError (tcons o_CheckError_LogError (tcons o_PaperError_LogError (tcons o_SiteError_LogError (tcons o_TooMany_LogError (tcons o_TextError_LogError (tcons o_LogError_LogError tnil)))))))) (by simp [mkC]),
    is_LogError_ArgumentError:=look_tab (f:=fun B=>PySem.W.kitOne K (.ref B) (.ref A_LogError)) o_ArgumentError_LogError (tcons o_CommandError_LogError (tcons o_ArgumentError_LogError (tcons o_CheckError_LogError (tcons o_PaperError_LogError (tcons o_SiteError_LogError (tcons o_TooMany_LogError (tcons o_TextError_LogError (tcons o_LogError_LogError tnil)))))))) (by simp [mkC]),
    is_LogError_CheckError:=look_tab (f:=fun B=>PySem.W.kitOne K (.ref B) (.ref A_LogError)) o_CheckError_LogError (tcons o_CommandError_LogError (tcons o_ArgumentError_LogError (tcons o_CheckError_LogError (tcons o_PaperError_LogError (tcons o_SiteError_LogError (tcons o_TooMany_LogError (tcons o_TextError_LogError (tcons o_LogError_LogError tnil)))))))) (by simp [mkC]),
    is_LogError_PaperError:=look_tab (f:=fun B=>PySem.W.kitOne K (.ref B) (.ref A_LogError)) o_PaperError_LogError (tcons o_CommandError_LogError (tcons o_ArgumentError_LogError (tcons o_CheckError_LogError (tcons o_PaperError_LogError (tcons o_SiteError_LogError (tcons o_TooMany_LogError (tcons o_TextError_LogError (tcons o_LogError_LogError tnil)))))))) (by simp [mkC]),
    is_LogError_SiteError:=look_tab (f:=fun B=>PySem.W.kitOne K (.ref B) (.ref A_LogError)) o_SiteError_LogError (tcons o_CommandError_LogError (tcons o_ArgumentError_LogError (tcons o_CheckError_LogError (tcons o_PaperError_LogError (tcons o_SiteError_LogError (tcons o_TooMany_LogError (tcons o_TextError_LogError (tcons o_LogError_LogError tnil)))))))) (by simp [mkC]),
    is_LogError_TooMany:=look_tab (f:=fun B=>PySem.W.kitOne K (.ref B) (.ref A_LogError)) o_TooMany_LogError (tcons o_CommandError_LogError (tcons o_ArgumentError_LogError (tcons o_CheckError_LogError (tcons o_PaperError_LogError (tcons o_SiteError_LogError (tcons o_TooMany_LogError (tcons o_TextError_LogError (tcons o_LogError_LogError tnil)))))))) (by simp [mkC]),
    is_LogError_TextError:=look_tab (f:=fun B=>PySem.W.kitOne K (.ref B) (.ref A_LogError)) o_TextError_LogError (tcons o_CommandError_LogError (tcons o_ArgumentError_LogError (tcons o_CheckError_LogError (tcons o_PaperError_LogError (tcons o_SiteError_LogError (tcons o_TooMany_LogError (tcons o_TextError_LogError (tcons o_LogError_LogError tnil)))))))) (by simp [mkC]),
    is_LogError_LogError:=look_tab (f:=fun B=>PySem.W.kitOne K (.ref B) (.ref A_LogError)) o_LogError_LogError (tcons o_CommandError_LogError (tcons o_ArgumentError_LogError (tcons o_CheckError_LogError (tcons o_PaperError_LogError (tcons o_SiteError_LogError (tcons o_TooMany_LogError (tcons o_TextError_LogError (tcons o_LogError_LogError tnil)))))))) (by simp [mkC]),
    is_CommandError_CommandError:=look_tab (f:=fun B=>PySem.W.kitOne K (.ref B) (.ref A_CommandError)) o_CommandError_CommandError (tcons o_CommandError_CommandError (tcons o_ArgumentError_CommandError (tcons o_CheckError_CommandError (tcons o_PaperError_CommandError (tcons o_SiteError_CommandError (tcons o_TooMany_CommandError (tcons o_TextError_CommandError (tcons o_LogError_CommandError tnil)))))))) (by simp [mkC]),
    is_CommandError_ArgumentError:=look_tab (f:=fun B=>PySem.W.kitOne K (.ref B) (.ref A_CommandError)) o_ArgumentError_CommandError (tcons o_CommandError_CommandError (tcons o_ArgumentError_CommandError (tcons o_CheckError_CommandError (tcons o_PaperError_CommandError (tcons o_SiteError_CommandError (tcons o_TooMany_CommandError (tcons o_TextError_CommandError (tcons o_LogError_CommandError tnil)))))))) (by simp [mkC]),
    is_CommandError_CheckError:=look_tab (f:=fun B=>PySem.W.kitOne K (.ref B) (.ref A_CommandError)) o_CheckError_CommandError (tcons o_CommandError_CommandError (tcons o_ArgumentError_CommandError (tcons o_CheckError_CommandError (tcons o_PaperError_CommandError (tcons o_SiteError_CommandError (tcons o_TooMany_CommandError (tcons o_TextError_CommandError (tcons o_LogError_CommandError tnil)))))))) (by simp [mkC]),
    is_CommandError_PaperError:=look_tab (f:=fun B=>PySem.W.kitOne K (.ref B) (.ref A_CommandError)) o_PaperError_CommandError (tcons o_CommandError_CommandError (tcons o_ArgumentError_CommandError (tcons o_CheckError_CommandError (tcons o_PaperError_CommandError (tcons o_SiteError_CommandError (tcons o_TooMany_CommandError (tcons o_TextError_CommandError (tcons o_LogError_CommandError tnil)))))))) (by simp [mkC]),
    is_CommandError_SiteError:=look_tab (f:=fun B=>PySem.W.kitOne K (.ref B) (.ref A_CommandError)) o_SiteError_CommandError (tcons o_CommandError_CommandError (tcons o_ArgumentError_CommandError (tcons o_CheckError_CommandError (tcons o_PaperError_CommandError (tcons o_SiteError_CommandError (tcons o_TooMany_CommandError (tcons o_TextError_CommandError (tcons o_LogError_CommandError tnil)))))))) (by simp [mkC]),
    is_CommandError_TooMany:=look_tab (f:=fun B=>PySem.W.kitOne K (.ref B) (.ref A_CommandError)) o_TooMany_CommandError (tcons o_CommandError_CommandError (tcons o_ArgumentError_CommandError (tcons o_CheckError_CommandError (tcons o_PaperError_CommandError (tcons o_SiteError_CommandError (tcons o_TooMany_CommandError (tcons o_TextError_CommandError (tcons o_LogError_CommandError tnil)))))))) (by simp [mkC]),
    is_CommandError_TextError:=look_tab (f:=fun B=>PySem.W.kitOne K (.ref B) (.ref A_CommandError)) o_TextError_CommandError (tcons o_CommandError_CommandError (tcons o_ArgumentError_CommandError (tcons o_CheckError_CommandError (tcons o_PaperError_CommandError (tcons o_SiteError_CommandError (tcons o_TooMany_CommandError (tcons o_TextError_CommandError (tcons o_LogError_CommandError tnil)))))))) (by simp [mkC]),
    is_CommandError_LogError:=look_tab (f:=fun B=>PySem.W.kitOne K (.ref B) (.ref A_CommandError)) o_LogError_CommandError (tcons o_CommandError_CommandError (tcons o_ArgumentError_CommandError (tcons o_CheckError_CommandError (tcons o_PaperError_CommandError (tcons o_SiteError_CommandError (tcons o_TooMany_CommandError (tcons o_TextError_CommandError (tcons o_LogError_CommandError tnil)))))))) (by simp [mkC]),
    is_FrameError_CommandError:=look_tab (f:=fun B=>PySem.W.kitOne K (.ref B) (.ref A_FrameError)) o_CommandError_FrameError (tcons o_CommandError_FrameError (tcons o_ArgumentError_FrameError (tcons o_CheckError_FrameError (tcons o_PaperError_FrameError (tcons o_SiteError_FrameError (tcons o_TooMany_FrameError (tcons o_TextError_FrameError (tcons o_LogError_FrameError tnil)))))))) (by simp [mkC]),
    is_FrameError_ArgumentError:=look_tab (f:=fun B=>PySem.W.kitOne K (.ref B) (.ref A_FrameError)) o_ArgumentError_FrameError (tcons o_CommandError_FrameError (tcons o_ArgumentError_FrameError (tcons o_CheckError_FrameError (tcons o_PaperError_FrameError (tcons o_SiteError_FrameError (tcons o_TooMany_FrameError (tcons o_TextError_FrameError (tcons o_LogError_FrameError tnil)))))))) (by simp [mkC]),
    is_FrameError_CheckError:=look_tab (f:=fun B=>PySem.W.kitOne K (.ref B) (.ref A_FrameError)) o_CheckError_FrameError (tcons o_CommandError_FrameError (tcons o_ArgumentError_FrameError (tcons o_CheckError_FrameError (tcons o_PaperError_FrameError (tcons o_SiteError_FrameError (tcons o_TooMany_FrameError (tcons o_TextError_FrameError (tcons o_LogError_FrameError tnil)))))))) (by simp [mkC]),
    is_FrameError_PaperError:=look_tab (f:=fun B=>PySem.W.kitOne K (.ref B) (.ref A_FrameError)) o_PaperError_FrameError (tcons o_CommandError_FrameError (tcons o_ArgumentError_FrameError (tcons o_CheckError_FrameError (tcons o_PaperError_FrameError (tcons o_SiteError_FrameError (tcons o_TooMany_FrameError (tcons o_TextError_FrameError (tcons o_LogError_FrameError tnil)))))))) (by simp [mkC]),
    is_FrameError_SiteError:=look_tab (f:=fun B=>PySem.W.kitOne K (.ref B) (.ref A_FrameError)) o_SiteError_FrameError (tcons o_CommandError_FrameError (tcons o_ArgumentError_FrameError (tcons o_CheckError_FrameError (tcons o_PaperError_FrameError (tcons o_SiteError_FrameError (tcons o_TooMany_FrameError (tcons o_TextError_FrameError (tcons o_LogError_FrameError tnil)))))))) (by simp [mkC]),
    is_FrameError_TooMany:=look_tab (f:=fun B=>PySem.W.kitOne K (.ref B) (.ref A_FrameError)) o_TooMany_FrameError (tcons o_CommandError_FrameError (tcons o_ArgumentError_FrameError (tcons o_CheckError_FrameError (tcons o_PaperError_FrameError (tcons o_SiteError_FrameError (tcons o_TooMany_FrameError (tcons o_TextError_FrameError (tcons o_LogError_FrameError tnil)))))))) (by simp [mkC]),
    is_FrameError_TextError:=look_tab (f:=fun B=>PySem.W.kitOne K (.ref B) (.ref A_FrameError)) o_TextError_FrameError (tcons o_CommandError_FrameError (tcons o_ArgumentError_FrameError (tcons o_CheckError_FrameError (tcons o_PaperError_FrameError (tcons o_SiteError_FrameError (tcons o_TooMany_FrameError (tcons o_TextError_FrameError (tcons o_LogError_FrameError tnil)))))))) (by simp [mkC]),
    is_FrameError_LogError:=look_tab (f:=fun B=>PySem.W.kitOne K (.ref B) (.ref A_FrameError)) o_LogError_FrameError (tcons o_CommandError_FrameError (tcons o_ArgumentError_FrameError (tcons o_CheckError_FrameError (tcons o_PaperError_FrameError (tcons o_SiteError_FrameError (tcons o_TooMany_FrameError (tcons o_TextError_FrameError (tcons o_LogError_FrameError tnil)))))))) (by simp [mkC]),
    cs_reason_ArgumentError:=List.contains_iff_mem.mpr (by show A_ArgumentError ∈ [A_ArgumentError,A_CheckError,A_PaperError,A_SiteError,A_TooMany,A_LogError]; simp),
    cs_reason_CheckError:=List.contains_iff_mem.mpr (by show A_CheckError ∈ [A_ArgumentError,A_CheckError,A_PaperError,A_SiteError,A_TooMany,A_LogError]; simp),
    cs_reason_PaperError:=List.contains_iff_mem.mpr (by show A_PaperError ∈ [A_ArgumentError,A_CheckError,A_PaperError,A_SiteError,A_TooMany,A_LogError]; simp),
    cs_reason_SiteError:=List.contains_iff_mem.mpr (by show A_SiteError ∈ [A_ArgumentError,A_CheckError,A_PaperError,A_SiteError,A_TooMany,A_LogError]; simp),
    cs_reason_TooMany:=List.contains_iff_mem.mpr (by show A_TooMany ∈ [A_ArgumentError,A_CheckError,A_PaperError,A_SiteError,A_TooMany,A_LogError]; simp),
    cs_reason_LogError:=List.contains_iff_mem.mpr (by show A_LogError ∈ [A_ArgumentError,A_CheckError,A_PaperError,A_SiteError,A_TooMany,A_LogError]; simp),
    cs_at_TextError:=List.contains_iff_mem.mpr (by show A_TextError ∈ [A_TextError]; simp),
    cs_number_LogError:=List.contains_iff_mem.mpr (by show A_LogError ∈ [A_LogError]; simp),
    cs_line_CommandError:=List.contains_iff_mem.mpr (by show A_CommandError ∈ [A_CommandError]; simp) }
  have g:Gs mg K P (mkC A_FrameError A_CheckError A_ArgumentError A_PaperError A_TooMany A_SiteError A_TextError A_LogError A_CommandError):={
    n_ValueError:=PySem.W.mg_none_of X G z_ValueError,
    n_abs:=PySem.W.mg_none_of X G z_abs,
    n_int:=PySem.W.mg_none_of X G z_int,
    n_isinstance:=PySem.W.mg_none_of X G z_isinstance,
    n_len:=PySem.W.mg_none_of X G z_len,
    n_range:=PySem.W.mg_none_of X G z_range,
    n_repr:=PySem.W.mg_none_of X G z_repr,
    c_MAX_JOINTS:=kc_mk (PySem.W.mg_of X G g0_MAX_JOINTS) (.int _ _),
    c_MAX_BARS:=kc_mk (PySem.W.mg_of X G g0_MAX_BARS) (.int _ _),
    c_MAX_PLACE:=kc_mk (PySem.W.mg_of X G g0_MAX_PLACE) (.int _ _),
    c_MAX_NAME:=kc_mk (PySem.W.mg_of X G g0_MAX_NAME) (.int _ _),
    c_MAX_FORCE:=kc_mk (PySem.W.mg_of X G g0_MAX_FORCE) (.int _ _),
    c_MAX_TEXT:=kc_mk (PySem.W.mg_of X G g0_MAX_TEXT) (.int _ _),
    c_MAX_NUMBER:=kc_mk (PySem.W.mg_of X G g0_MAX_NUMBER) (.int _ _),
    c_MAX_ROWS:=kc_mk (PySem.W.mg_of X G g0_MAX_ROWS) (.int _ _),
    c_MAX_COST:=kc_mk (PySem.W.mg_of X G g0_MAX_COST) (.int _ _),
    c_MAX_CASES:=kc_mk (PySem.W.mg_of X G g0_MAX_CASES) (.int _ _),
    c_MAX_KEPT:=kc_mk (PySem.W.mg_of X G g0_MAX_KEPT) (.int _ _),
    c_MAX_AWAY:=kc_mk (PySem.W.mg_of X G g0_MAX_AWAY) (.int _ _),
    c_MAX_STRONG:=kc_mk (PySem.W.mg_of X G g0_MAX_STRONG) (.int _ _),
    c_MAX_LINES:=kc_mk (PySem.W.mg_of X G g0_MAX_LINES) (.int _ _),
    c_MAX_BRACES:=kc_mk (PySem.W.mg_of X G g0_MAX_BRACES) (.int _ _),
    c_MAX_PROPS:=kc_mk (PySem.W.mg_of X G g0_MAX_PROPS) (.int _ _),
    c_MAX_BLOCKS:=kc_mk (PySem.W.mg_of X G g0_MAX_BLOCKS) (.int _ _),
    c_MAX_JOBS:=kc_mk (PySem.W.mg_of X G g0_MAX_JOBS) (.int _ _),
    c_MAX_PIECES:=kc_mk (PySem.W.mg_of X G g0_MAX_PIECES) (.int _ _),
    c_MAX_LENGTH:=kc_mk (PySem.W.mg_of X G g0_MAX_LENGTH) (.int _ _),
    c_MAX_LOG:=kc_mk (PySem.W.mg_of X G g0_MAX_LOG) (.int _ _),
    c_MAX_SIDE:=kc_mk (PySem.W.mg_of X G g0_MAX_SIDE) (.int _ _),
    c_MAX_DEPTH:=kc_mk (PySem.W.mg_of X G g0_MAX_DEPTH) (.int _ _),
    c_MAX_DIGITS:=kc_mk (PySem.W.mg_of X G g0_MAX_DIGITS) (.int _ _),
    c_MAX_CRANES:=kc_mk (PySem.W.mg_of X G g0_MAX_CRANES) (.int _ _),
    c_MAX_LIFTS:=kc_mk (PySem.W.mg_of X G g0_MAX_LIFTS) (.int _ _),
    c_MAX_VAULT:=kc_mk (PySem.W.mg_of X G g0_MAX_VAULT) (.int _ _),
    c_MAX_LOADS:=kc_mk (PySem.W.mg_of X G g0_MAX_LOADS) (.int _ _),
    k_FrameError:=PySem.W.mg_of X G aC_FrameError,
    k_CheckError:=PySem.W.mg_of X G aC_CheckError,
    k_ArgumentError:=PySem.W.mg_of X G aC_ArgumentError,
    k_PaperError:=PySem.W.mg_of X G aC_PaperError,
    k_TooMany:=PySem.W.mg_of X G aC_TooMany,
    k_SiteError:=PySem.W.mg_of X G aC_SiteError,
    k_TextError:=PySem.W.mg_of X G aC_TextError,
    k_LogError:=PySem.W.mg_of X G aC_LogError,
    k_CommandError:=PySem.W.mg_of X G aC_CommandError,
    t_CommandError:=sx_CommandError,
    t_ArgumentError:=sx_ArgumentError,
    t_CheckError:=sx_CheckError,
    t_PaperError:=sx_PaperError,
    t_SiteError:=sx_SiteError,
    t_TooMany:=sx_TooMany,
    t_TextError:=sx_TextError,
    t_LogError:=sx_LogError,
    m_FrameError:=tab_all (P:=fun B b=>PySem.W.exmOne K (.ref B) (.ref A_FrameError) = some b) (tcons (PySem.W.exm_ref xE_FrameError xD_FrameError xY_FrameError s_CommandError_FrameError) (tcons (PySem.W.exm_ref xE_FrameError xD_FrameError xY_FrameError s_ArgumentError_FrameError) (tcons (PySem.W.exm_ref xE_FrameError xD_FrameError xY_FrameError s_CheckError_FrameError) (tcons (PySem.W.exm_ref xE_FrameError xD_FrameError xY_FrameError s_PaperError_FrameError) (tcons (PySem.W.exm_ref xE_FrameError xD_FrameError xY_FrameError s_SiteError_FrameError) (tcons (PySem.W.exm_ref xE_FrameError xD_FrameError xY_FrameError s_TooMany_FrameError) (tcons (PySem.W.exm_ref xE_FrameError xD_FrameError xY_FrameError s_TextError_FrameError) (tcons (PySem.W.exm_ref xE_FrameError xD_FrameError xY_FrameError s_LogError_FrameError) tnil)))))))),
    m_ArgumentError:=tab_all (P:=fun B b=>PySem.W.exmOne K (.ref B) (.ref A_ArgumentError) = some b) (tcons (PySem.W.exm_ref xE_ArgumentError xD_ArgumentError xY_ArgumentError s_CommandError_ArgumentError) (tcons (PySem.W.exm_ref xE_ArgumentError xD_ArgumentError xY_ArgumentError s_ArgumentError_ArgumentError) (tcons (PySem.W.exm_ref xE_ArgumentError xD_ArgumentError xY_ArgumentError s_CheckError_ArgumentError) (tcons (PySem.W.exm_ref xE_ArgumentError xD_ArgumentError xY_ArgumentError s_PaperError_ArgumentError) (tcons (PySem.W.exm_ref xE_ArgumentError xD_ArgumentError xY_ArgumentError s_SiteError_ArgumentError) (tcons (PySem.W.exm_ref xE_ArgumentError xD_ArgumentError xY_ArgumentError s_TooMany_ArgumentError) (tcons (PySem.W.exm_ref xE_ArgumentError xD_ArgumentError xY_ArgumentError s_TextError_ArgumentError) (tcons (PySem.W.exm_ref xE_ArgumentError xD_ArgumentError xY_ArgumentError s_LogError_ArgumentError) tnil)))))))),
    m_CheckError:=tab_all (P:=fun B b=>PySem.W.exmOne K (.ref B) (.ref A_CheckError) = some b) (tcons (PySem.W.exm_ref xE_CheckError xD_CheckError xY_CheckError s_CommandError_CheckError) (tcons (PySem.W.exm_ref xE_CheckError xD_CheckError xY_CheckError s_ArgumentError_CheckError) (tcons (PySem.W.exm_ref xE_CheckError xD_CheckError xY_CheckError s_CheckError_CheckError) (tcons (PySem.W.exm_ref xE_CheckError xD_CheckError xY_CheckError s_PaperError_CheckError) (tcons (PySem.W.exm_ref xE_CheckError xD_CheckError xY_CheckError s_SiteError_CheckError) (tcons (PySem.W.exm_ref xE_CheckError xD_CheckError xY_CheckError s_TooMany_CheckError) (tcons (PySem.W.exm_ref xE_CheckError xD_CheckError xY_CheckError s_TextError_CheckError) (tcons (PySem.W.exm_ref xE_CheckError xD_CheckError xY_CheckError s_LogError_CheckError) tnil)))))))),
    m_PaperError:=tab_all (P:=fun B b=>PySem.W.exmOne K (.ref B) (.ref A_PaperError) = some b) (tcons (PySem.W.exm_ref xE_PaperError xD_PaperError xY_PaperError s_CommandError_PaperError) (tcons (PySem.W.exm_ref xE_PaperError xD_PaperError xY_PaperError s_ArgumentError_PaperError) (tcons (PySem.W.exm_ref xE_PaperError xD_PaperError xY_PaperError s_CheckError_PaperError) (tcons (PySem.W.exm_ref xE_PaperError xD_PaperError xY_PaperError s_PaperError_PaperError) (tcons (PySem.W.exm_ref xE_PaperError xD_PaperError xY_PaperError s_SiteError_PaperError) (tcons (PySem.W.exm_ref xE_PaperError xD_PaperError xY_PaperError s_TooMany_PaperError) (tcons (PySem.W.exm_ref xE_PaperError xD_PaperError xY_PaperError s_TextError_PaperError) (tcons (PySem.W.exm_ref xE_PaperError xD_PaperError xY_PaperError s_LogError_PaperError) tnil)))))))),
    m_SiteError:=tab_all (P:=fun B b=>PySem.W.exmOne K (.ref B) (.ref A_SiteError) = some b) (tcons (PySem.W.exm_ref xE_SiteError xD_SiteError xY_SiteError s_CommandError_SiteError) (tcons (PySem.W.exm_ref xE_SiteError xD_SiteError xY_SiteError s_ArgumentError_SiteError) (tcons (PySem.W.exm_ref xE_SiteError xD_SiteError xY_SiteError s_CheckError_SiteError) (tcons (PySem.W.exm_ref xE_SiteError xD_SiteError xY_SiteError s_PaperError_SiteError) (tcons (PySem.W.exm_ref xE_SiteError xD_SiteError xY_SiteError s_SiteError_SiteError) (tcons (PySem.W.exm_ref xE_SiteError xD_SiteError xY_SiteError s_TooMany_SiteError) (tcons (PySem.W.exm_ref xE_SiteError xD_SiteError xY_SiteError s_TextError_SiteError) (tcons (PySem.W.exm_ref xE_SiteError xD_SiteError xY_SiteError s_LogError_SiteError) tnil)))))))),
    m_TooMany:=tab_all (P:=fun B b=>PySem.W.exmOne K (.ref B) (.ref A_TooMany) = some b) (tcons (PySem.W.exm_ref xE_TooMany xD_TooMany xY_TooMany s_CommandError_TooMany) (tcons (PySem.W.exm_ref xE_TooMany xD_TooMany xY_TooMany s_ArgumentError_TooMany) (tcons (PySem.W.exm_ref xE_TooMany xD_TooMany xY_TooMany s_CheckError_TooMany) (tcons (PySem.W.exm_ref xE_TooMany xD_TooMany xY_TooMany s_PaperError_TooMany) (tcons (PySem.W.exm_ref xE_TooMany xD_TooMany xY_TooMany s_SiteError_TooMany) (tcons (PySem.W.exm_ref xE_TooMany xD_TooMany xY_TooMany s_TooMany_TooMany) (tcons (PySem.W.exm_ref xE_TooMany xD_TooMany xY_TooMany s_TextError_TooMany) (tcons (PySem.W.exm_ref xE_TooMany xD_TooMany xY_TooMany s_LogError_TooMany) tnil)))))))),
    m_TextError:=tab_all (P:=fun B b=>PySem.W.exmOne K (.ref B) (.ref A_TextError) = some b) (tcons (PySem.W.exm_ref xE_TextError xD_TextError xY_TextError s_CommandError_TextError) (tcons (PySem.W.exm_ref xE_TextError xD_TextError xY_TextError s_ArgumentError_TextError) (tcons (PySem.W.exm_ref xE_TextError xD_TextError xY_TextError s_CheckError_TextError) (tcons (PySem.W.exm_ref xE_TextError xD_TextError xY_TextError s_PaperError_TextError) (tcons (PySem.W.exm_ref xE_TextError xD_TextError xY_TextError s_SiteError_TextError) (tcons (PySem.W.exm_ref xE_TextError xD_TextError xY_TextError s_TooMany_TextError) (tcons (PySem.W.exm_ref xE_TextError xD_TextError xY_TextError s_TextError_TextError) (tcons (PySem.W.exm_ref xE_TextError xD_TextError xY_TextError s_LogError_TextError) tnil)))))))),
    m_LogError:=tab_all (P:=fun B b=>PySem.W.exmOne K (.ref B) (.ref A_LogError) = some b) (tcons (PySem.W.exm_ref xE_LogError xD_LogError xY_LogError s_CommandError_LogError) (tcons (PySem.W.exm_ref xE_LogError xD_LogError xY_LogError s_ArgumentError_LogError) (tcons (PySem.W.exm_ref xE_LogError xD_LogError xY_LogError s_CheckError_LogError) (tcons (PySem.W.exm_ref xE_LogError xD_LogError xY_LogError s_PaperError_LogError) (tcons (PySem.W.exm_ref xE_LogError xD_LogError xY_LogError s_SiteError_LogError) (tcons (PySem.W.exm_ref xE_LogError xD_LogError xY_LogError s_TooMany_LogError) (tcons (PySem.W.exm_ref xE_LogError xD_LogError xY_LogError s_TextError_LogError) (tcons (PySem.W.exm_ref xE_LogError xD_LogError xY_LogError s_LogError_LogError) tnil)))))))),
    m_CommandError:=tab_all (P:=fun B b=>PySem.W.exmOne K (.ref B) (.ref A_CommandError) = some b) (tcons (PySem.W.exm_ref xE_CommandError xD_CommandError xY_CommandError s_CommandError_CommandError) (tcons (PySem.W.exm_ref xE_CommandError xD_CommandError xY_CommandError s_ArgumentError_CommandError) (tcons (PySem.W.exm_ref xE_CommandError xD_CommandError xY_CommandError s_CheckError_CommandError) (tcons (PySem.W.exm_ref xE_CommandError xD_CommandError xY_CommandError s_PaperError_CommandError) (tcons (PySem.W.exm_ref xE_CommandError xD_CommandError xY_CommandError s_SiteError_CommandError) (tcons (PySem.W.exm_ref xE_CommandError xD_CommandError xY_CommandError s_TooMany_CommandError) (tcons (PySem.W.exm_ref xE_CommandError xD_CommandError xY_CommandError s_TextError_CommandError) (tcons (PySem.W.exm_ref xE_CommandError xD_CommandError xY_CommandError s_LogError_CommandError) tnil)))))))),
    i_ArgumentError:=tab_all (P:=fun B b=>ExcC K B∧PySem.W.kitOne K (.ref B) (.ref A_ArgumentError) = some b) (tcons ⟨ex_CommandError,o_CommandError_ArgumentError⟩ (tcons ⟨ex_ArgumentError,o_ArgumentError_ArgumentError⟩ (tcons ⟨ex_CheckError,o_CheckError_ArgumentError⟩ (tcons ⟨ex_PaperError,o_PaperError_ArgumentError⟩ (tcons ⟨ex_SiteError,o_SiteError_ArgumentError⟩ (tcons ⟨ex_TooMany,o_TooMany_ArgumentError⟩ (tcons ⟨ex_TextError,o_TextError_ArgumentError⟩ (tcons ⟨ex_LogError,o_LogError_ArgumentError⟩ tnil)))))))),
    i_CheckError:=tab_all (P:=fun B b=>ExcC K B∧PySem.W.kitOne K (.ref B) (.ref A_CheckError) = some b) (tcons ⟨ex_CommandError,o_CommandError_CheckError⟩ (tcons ⟨ex_ArgumentError,o_ArgumentError_CheckError⟩ (tcons ⟨ex_CheckError,o_CheckError_CheckError⟩ (tcons ⟨ex_PaperError,o_PaperError_CheckError⟩ (tcons ⟨ex_SiteError,o_SiteError_CheckError⟩ (tcons ⟨ex_TooMany,o_TooMany_CheckError⟩ (tcons ⟨ex_TextError,o_TextError_CheckError⟩ (tcons ⟨ex_LogError,o_LogError_CheckError⟩ tnil)))))))),
    i_PaperError:=tab_all (P:=fun B b=>ExcC K B∧PySem.W.kitOne K (.ref B) (.ref A_PaperError) = some b) (tcons ⟨ex_CommandError,o_CommandError_PaperError⟩ (tcons ⟨ex_ArgumentError,o_ArgumentError_PaperError⟩ (tcons ⟨ex_CheckError,o_CheckError_PaperError⟩ (tcons ⟨ex_PaperError,o_PaperError_PaperError⟩ (tcons ⟨ex_SiteError,o_SiteError_PaperError⟩ (tcons ⟨ex_TooMany,o_TooMany_PaperError⟩ (tcons ⟨ex_TextError,o_TextError_PaperError⟩ (tcons ⟨ex_LogError,o_LogError_PaperError⟩ tnil)))))))),
    i_SiteError:=tab_all (P:=fun B b=>ExcC K B∧PySem.W.kitOne K (.ref B) (.ref A_SiteError) = some b) (tcons ⟨ex_CommandError,o_CommandError_SiteError⟩ (tcons ⟨ex_ArgumentError,o_ArgumentError_SiteError⟩ (tcons ⟨ex_CheckError,o_CheckError_SiteError⟩ (tcons ⟨ex_PaperError,o_PaperError_SiteError⟩ (tcons ⟨ex_SiteError,o_SiteError_SiteError⟩ (tcons ⟨ex_TooMany,o_TooMany_SiteError⟩ (tcons ⟨ex_TextError,o_TextError_SiteError⟩ (tcons ⟨ex_LogError,o_LogError_SiteError⟩ tnil)))))))),
    i_TooMany:=tab_all (P:=fun B b=>ExcC K B∧PySem.W.kitOne K (.ref B) (.ref A_TooMany) = some b) (tcons ⟨ex_CommandError,o_CommandError_TooMany⟩ (tcons ⟨ex_ArgumentError,o_ArgumentError_TooMany⟩ (tcons ⟨ex_CheckError,o_CheckError_TooMany⟩ (tcons ⟨ex_PaperError,o_PaperError_TooMany⟩ (tcons ⟨ex_SiteError,o_SiteError_TooMany⟩ (tcons ⟨ex_TooMany,o_TooMany_TooMany⟩ (tcons ⟨ex_TextError,o_TextError_TooMany⟩ (tcons ⟨ex_LogError,o_LogError_TooMany⟩ tnil)))))))),
    i_TextError:=tab_all (P:=fun B b=>ExcC K B∧PySem.W.kitOne K (.ref B) (.ref A_TextError) = some b) (tcons ⟨ex_CommandError,o_CommandError_TextError⟩ (tcons ⟨ex_ArgumentError,o_ArgumentError_TextError⟩ (tcons ⟨ex_CheckError,o_CheckError_TextError⟩ (tcons ⟨ex_PaperError,o_PaperError_TextError⟩ (tcons ⟨ex_SiteError,o_SiteError_TextError⟩ (tcons ⟨ex_TooMany,o_TooMany_TextError⟩ (tcons ⟨ex_TextError,o_TextError_TextError⟩ (tcons ⟨ex_LogError,o_LogError_TextError⟩ tnil)))))))),
    i_LogError:=tab_all (P:=fun B b=>ExcC K B∧PySem.W.kitOne K (.ref B) (.ref A_LogError) = some b) (tcons ⟨ex_CommandError,o_CommandError_LogError⟩ (tcons ⟨ex_ArgumentError,o_ArgumentError_LogError⟩ (tcons ⟨ex_CheckError,o_CheckError_LogError⟩ (tcons ⟨ex_PaperError,o_PaperError_LogError⟩ (tcons ⟨ex_SiteError,o_SiteError_LogError⟩ (tcons ⟨ex_TooMany,o_TooMany_LogError⟩ (tcons ⟨ex_TextError,o_TextError_LogError⟩ (tcons ⟨ex_LogError,o_LogError_LogError⟩ tnil)))))))),
    i_CommandError:=tab_all (P:=fun B b=>ExcC K B∧PySem.W.kitOne K (.ref B) (.ref A_CommandError) = some b) (tcons ⟨ex_CommandError,o_CommandError_CommandError⟩ (tcons ⟨ex_ArgumentError,o_ArgumentError_CommandError⟩ (tcons ⟨ex_CheckError,o_CheckError_CommandError⟩ (tcons ⟨ex_PaperError,o_PaperError_CommandError⟩ (tcons ⟨ex_SiteError,o_SiteError_CommandError⟩ (tcons ⟨ex_TooMany,o_TooMany_CommandError⟩ (tcons ⟨ex_TextError,o_TextError_CommandError⟩ (tcons ⟨ex_LogError,o_LogError_CommandError⟩ tnil)))))))),
    i_FrameError:=tab_all (P:=fun B b=>ExcC K B∧PySem.W.kitOne K (.ref B) (.ref A_FrameError) = some b) (tcons ⟨ex_CommandError,o_CommandError_FrameError⟩ (tcons ⟨ex_ArgumentError,o_ArgumentError_FrameError⟩ (tcons ⟨ex_CheckError,o_CheckError_FrameError⟩ (tcons ⟨ex_PaperError,o_PaperError_FrameError⟩ (tcons ⟨ex_SiteError,o_SiteError_FrameError⟩ (tcons ⟨ex_TooMany,o_TooMany_FrameError⟩ (tcons ⟨ex_TextError,o_TextError_FrameError⟩ (tcons ⟨ex_LogError,o_LogError_FrameError⟩ tnil)))))))),
    iv_ValueError:=tab_all (P:=fun B b=>ExcC K B∧PySem.W.kitOne K (.ref B) (.type "ValueError") = some b) (tcons ⟨ex_CommandError,ov_CommandError_ValueError⟩ (tcons ⟨ex_ArgumentError,ov_ArgumentError_ValueError⟩ (tcons ⟨ex_CheckError,ov_CheckError_ValueError⟩ (tcons ⟨ex_PaperError,ov_PaperError_ValueError⟩ (tcons ⟨ex_SiteError,ov_SiteError_ValueError⟩ (tcons ⟨ex_TooMany,ov_TooMany_ValueError⟩ (tcons ⟨ex_TextError,ov_TextError_ValueError⟩ (tcons ⟨ex_LogError,ov_LogError_ValueError⟩ tnil)))))))),
    x_reason:=mem_all (P:=fun B=>XfC K B∧PySem.W.findIn K (.ref B) "reason" = some none) (tcons ⟨⟨xG_ArgumentError,xH_ArgumentError,xE_ArgumentError,xD_ArgumentError⟩,xN_ArgumentError_reason⟩ (tcons ⟨⟨xG_CheckError,xH_CheckError,xE_CheckError,xD_CheckError⟩,xN_CheckError_reason⟩ (tcons ⟨⟨xG_PaperError,xH_PaperError,xE_PaperError,xD_PaperError⟩,xN_PaperError_reason⟩ (tcons ⟨⟨xG_SiteError,xH_SiteError,xE_SiteError,xD_SiteError⟩,xN_SiteError_reason⟩ (tcons ⟨⟨xG_TooMany,xH_TooMany,xE_TooMany,xD_TooMany⟩,xN_TooMany_reason⟩ (tcons ⟨⟨xG_LogError,xH_LogError,xE_LogError,xD_LogError⟩,xN_LogError_reason⟩ tnil)))))),
    x_at:=mem_all (P:=fun B=>XfC K B∧PySem.W.findIn K (.ref B) "at" = some none) (tcons ⟨⟨xG_TextError,xH_TextError,xE_TextError,xD_TextError⟩,xN_TextError_at⟩ tnil),
    x_number:=mem_all (P:=fun B=>XfC K B∧PySem.W.findIn K (.ref B) "number" = some none) (tcons ⟨⟨xG_LogError,xH_LogError,xE_LogError,xD_LogError⟩,xN_LogError_number⟩ tnil),
    x_line:=mem_all (P:=fun B=>XfC K B∧PySem.W.findIn K (.ref B) "line" = some none) (tcons ⟨⟨xG_CommandError,xH_CommandError,xE_CommandError,xD_CommandError⟩,xN_CommandError_line⟩ tnil) }
  have F0:=fun_mk (st:=s__law_draws) l0 c0 k0
  have I0:FunIn K mg "_law_draws" s__law_draws ["script"]:=⟨_,_,PySem.W.mg_of X G a0,F0,F0.binds (ps:=["script"]) fun _ _ _ _ _ _ us hl=>match us,hl with | [_],_=>rfl⟩
  have F1:=fun_mk (st:=s__law_limits_right) l1 c1 k1
  have I1:FunIn K mg "_law_limits_right" s__law_limits_right []:=⟨_,_,PySem.W.mg_of X G a1,F1,F1.binds (ps:=[]) fun _ _ _ _ _ _ us hl=>match us,hl with | [],_=>rfl⟩
  have F2:=fun_mk (st:=s__law_more) l2 c2 k2
  have I2:FunIn K mg "_law_more" s__law_more ["draws","place"]:=⟨_,_,PySem.W.mg_of X G a2,F2,F2.binds (ps:=["draws","place"]) fun _ _ _ _ _ _ us hl=>match us,hl with | [_,_],_=>rfl⟩
  have F3:=fun_mk (st:=s__law_take) l3 c3 k3
  have I3:FunIn K mg "_law_take" s__law_take ["draws","at","many"]:=⟨_,_,PySem.W.mg_of X G a3,F3,F3.binds (ps:=["draws","at","many"]) fun _ _ _ _ _ _ us hl=>match us,hl with | [_,_,_],_=>rfl⟩
  have F4:=fun_mk (st:=s__law_one) l4 c4 k4
  have I4:FunIn K mg "_law_one" s__law_one ["rows","draws","at"]:=⟨_,_,PySem.W.mg_of X G a4,F4,F4.binds (ps:=["rows","draws","at"]) fun _ _ _ _ _ _ us hl=>match us,hl with | [_,_,_],_=>rfl⟩
  have F5:=fun_mk (st:=s__law_raise) l5 c5 k5
  have I5:FunIn K mg "_law_raise" s__law_raise ["k","one","other"]:=⟨_,_,PySem.W.mg_of X G a5,F5,F5.binds (ps:=["k","one","other"]) fun _ _ _ _ _ _ us hl=>match us,hl with | [_,_,_],_=>rfl⟩
  have F6:=fun_mk (st:=s__law_kinds) l6 c6 k6
  have I6:FunIn K mg "_law_kinds" s__law_kinds ["e"]:=⟨_,_,PySem.W.mg_of X G a6,F6,F6.binds (ps:=["e"]) fun _ _ _ _ _ _ us hl=>match us,hl with | [_],_=>rfl⟩
  have F7:=fun_mk (st:=s__law_caught) l7 c7 k7
  have I7:FunIn K mg "_law_caught" s__law_caught ["k","one","other"]:=⟨_,_,PySem.W.mg_of X G a7,F7,F7.binds (ps:=["k","one","other"]) fun _ _ _ _ _ _ us hl=>match us,hl with | [_,_,_],_=>rfl⟩
  have F8:=fun_mk (st:=s__law_fields) l8 c8 k8
  have I8:FunIn K mg "_law_fields" s__law_fields ["k","one","other"]:=⟨_,_,PySem.W.mg_of X G a8,F8,F8.binds (ps:=["k","one","other"]) fun _ _ _ _ _ _ us hl=>match us,hl with | [_,_,_],_=>rfl⟩
  have F9:=fun_mk (st:=s_law) l9 c9 k9
  have I9:FunIn K mg "law" s_law ["script"]:=⟨_,_,PySem.W.mg_of X G a9,F9,F9.binds (ps:=["script"]) fun _ _ _ _ _ _ us hl=>match us,hl with | [_],_=>rfl⟩
  refine ⟨PySem.W.fnOf "law" "law" (defArgs s_law) (defBody s_law) (defScope s_law) .none kV9 dc9 pm9 an9 cd9 ct9,F_law (mkC A_FrameError A_CheckError A_ArgumentError A_PaperError A_TooMany A_SiteError A_TextError A_LogError A_CommandError),fun s u=>.of_eq rfl,fun base _ _=>?_,pl _ cf⟩
  have D0:Def P w K mg base "_law_draws" 1 F__law_draws:=d__law_draws g I0
  have D1:Def P w K mg base "_law_limits_right" 1 F__law_limits_right:=d__law_limits_right g I1
  have D2:Def P w K mg base "_law_more" 1 F__law_more:=d__law_more g I2
  have D3:Def P w K mg base "_law_take" 2 F__law_take:=d__law_take g I3 D2
  have D4:Def P w K mg base "_law_one" 3 F__law_one:=d__law_one g I4 D3
  have D5:Def P w K mg base "_law_raise" 1 (F__law_raise (mkC A_FrameError A_CheckError A_ArgumentError A_PaperError A_TooMany A_SiteError A_TextError A_LogError A_CommandError)):=d__law_raise g I5
  have D6:DefK P w K mg base "_law_kinds" 1 (F__law_kinds (mkC A_FrameError A_CheckError A_ArgumentError A_PaperError A_TooMany A_SiteError A_TextError A_LogError A_CommandError)):=d__law_kinds g I6
  have D7:Def P w K mg base "_law_caught" 2 (F__law_caught (mkC A_FrameError A_CheckError A_ArgumentError A_PaperError A_TooMany A_SiteError A_TextError A_LogError A_CommandError)):=d__law_caught g I7 D5 D6
  have D8:Def P w K mg base "_law_fields" 2 (F__law_fields (mkC A_FrameError A_CheckError A_ArgumentError A_PaperError A_TooMany A_SiteError A_TextError A_LogError A_CommandError)):=d__law_fields g I8 D5
  exact fn_law g F9 D0 D1 D4 D7 D8
end K00
open PySem PySem.W PyProof.Rows DL
set_option maxRecDepth 100000 in
set_option maxHeartbeats 0 in
theorem PySem.Challenge.cw_standsfirm_k00_errors_and_limits_holds : PySem.Challenge.rw_standsfirm_k00_errors_and_limits.Holds := by
  w_on; o_law; k_head; (case hw=>w_witness2)
  k_fill
  refine DL.walkG (l:=PySem.Challenge.rw_standsfirm_k00_errors_and_limits) (n:=63) (k:=4) (x := "script") rfl (by decide) rfl rm_caller (fun w h Y=>PySem.W.kIn_of Y) ?F
  case F=>
    intro w mg fa h KX G hmg
    refine' K00.all_mk KX G hmg ?a0 ?l0 ?c0 ?k0 ?a1 ?l1 ?c1 ?k1 ?a2 ?l2 ?c2 ?k2 ?a3 ?l3 ?c3 ?k3 ?a4 ?l4 ?c4 ?k4 ?a5 ?l5 ?c5 ?k5 ?a6 ?l6 ?c6 ?k6 ?a7 ?l7 ?c7 ?k7 ?a8 ?l8 ?c8 ?k8 ?a9 ?l9 ?c9 ?k9 ?aC_FrameError ?aC_CheckError ?aC_ArgumentError ?aC_PaperError ?aC_TooMany ?aC_SiteError ?aC_TextError ?aC_LogError ?aC_CommandError ?aC_ReasonError ?xL_CommandError ?xR_CommandError ?xS_CommandError ?xG_CommandError ?xH_CommandError ?xN_CommandError_line ?xI_CommandError ?xT_CommandError ?xK_CommandError ?xE_CommandError ?xV_CommandError ?xY_CommandError ?xD_CommandError ?xU_CommandError ?xM_CommandError ?yL_CommandError ?yC_CommandError ?yD_CommandError ?yF_CommandError ?yP_CommandError ?yK_CommandError ?hA_CommandError ?hM_CommandError ?xL_ArgumentError ?xR_ArgumentError ?xS_ArgumentError ?xG_ArgumentError ?xH_ArgumentError ?xN_ArgumentError_reason ?xI_ArgumentError ?xT_ArgumentError ?xK_ArgumentError ?xE_ArgumentError ?xV_ArgumentError ?xY_ArgumentError ?xD_ArgumentError ?xU_ArgumentError ?xM_ArgumentError ?yL_ArgumentError ?yC_ArgumentError ?yD_ArgumentError ?yF_ArgumentError ?yP_ArgumentError ?yK_ArgumentError ?hA_ArgumentError ?hM_ArgumentError ?xL_CheckError ?xR_CheckError ?xS_CheckError ?xG_CheckError ?xH_CheckError ?xN_CheckError_reason ?xI_CheckError ?xT_CheckError ?xK_CheckError ?xE_CheckError ?xV_CheckError ?xY_CheckError ?xD_CheckError ?xU_CheckError ?xM_CheckError ?yL_CheckError ?yC_CheckError ?yD_CheckError ?yF_CheckError ?yP_CheckError ?yK_CheckError ?hA_CheckError ?hM_CheckError ?xL_PaperError ?xR_PaperError ?xS_PaperError ?xG_PaperError ?xH_PaperError ?xN_PaperError_reason ?xI_PaperError ?xT_PaperError ?xK_PaperError ?xE_PaperError ?xV_PaperError ?xY_PaperError ?xD_PaperError ?xU_PaperError ?xM_PaperError ?yL_PaperError ?yC_PaperError ?yD_PaperError ?yF_PaperError ?yP_PaperError ?yK_PaperError ?hA_PaperError ?hM_PaperError ?xL_SiteError ?xR_SiteError ?xS_SiteError ?xG_SiteError ?xH_SiteError ?xN_SiteError_reason ?xI_SiteError ?xT_SiteError ?xK_SiteError ?xE_SiteError ?xV_SiteError ?xY_SiteError ?xD_SiteError ?xU_SiteError ?xM_SiteError ?yL_SiteError ?yC_SiteError ?yD_SiteError ?yF_SiteError ?yP_SiteError ?yK_SiteError ?hA_SiteError ?hM_SiteError ?xL_TooMany ?xR_TooMany ?xS_TooMany ?xG_TooMany ?xH_TooMany ?xN_TooMany_reason ?xI_TooMany ?xT_TooMany ?xK_TooMany ?xE_TooMany ?xV_TooMany ?xY_TooMany ?xD_TooMany ?xU_TooMany ?xM_TooMany ?yL_TooMany ?yC_TooMany ?yD_TooMany ?yF_TooMany ?yP_TooMany ?yK_TooMany ?hA_TooMany ?hM_TooMany ?xL_TextError ?xR_TextError ?xS_TextError ?xG_TextError ?xH_TextError ?xN_TextError_at ?xI_TextError ?xT_TextError ?xK_TextError ?xE_TextError ?xV_TextError ?xY_TextError ?xD_TextError ?xU_TextError ?xM_TextError ?yL_TextError ?yC_TextError ?yD_TextError ?yF_TextError ?yP_TextError ?yK_TextError ?hA_TextError ?hM_TextError ?xL_LogError ?xR_LogError ?xS_LogError ?xG_LogError ?xH_LogError ?xN_LogError_number ?xN_LogError_reason ?xI_LogError ?xT_LogError ?xK_LogError ?xE_LogError ?xV_LogError ?xY_LogError ?xD_LogError ?xU_LogError ?xM_LogError ?yL_LogError ?yC_LogError ?yD_LogError ?yF_LogError ?yP_LogError ?yK_LogError ?hA_LogError ?hM_LogError ?opq ?zsup ?ptop ?hN ?hT ?clD_CommandError ?clD_ReasonError ?clD_TextError ?clD_LogError ?xE_FrameError ?xY_FrameError ?xD_FrameError ?s_CommandError_FrameError ?s_ArgumentError_FrameError ?s_CheckError_FrameError ?s_PaperError_FrameError ?s_SiteError_FrameError ?s_TooMany_FrameError ?s_TextError_FrameError ?s_LogError_FrameError ?s_CommandError_ArgumentError ?s_ArgumentError_ArgumentError ?s_CheckError_ArgumentError ?s_PaperError_ArgumentError ?s_SiteError_ArgumentError ?s_TooMany_ArgumentError ?s_TextError_ArgumentError ?s_LogError_ArgumentError ?s_CommandError_CheckError ?s_ArgumentError_CheckError ?s_CheckError_CheckError ?s_PaperError_CheckError ?s_SiteError_CheckError ?s_TooMany_CheckError ?s_TextError_CheckError ?s_LogError_CheckError ?s_CommandError_PaperError ?s_ArgumentError_PaperError ?s_CheckError_PaperError ?s_PaperError_PaperError ?s_SiteError_PaperError ?s_TooMany_PaperError ?s_TextError_PaperError ?s_LogError_PaperError ?s_CommandError_SiteError ?s_ArgumentError_SiteError ?s_CheckError_SiteError ?s_PaperError_SiteError ?s_SiteError_SiteError ?s_TooMany_SiteError ?s_TextError_SiteError ?s_LogError_SiteError ?s_CommandError_TooMany ?s_ArgumentError_TooMany ?s_CheckError_TooMany ?s_PaperError_TooMany ?s_SiteError_TooMany ?s_TooMany_TooMany ?s_TextError_TooMany ?s_LogError_TooMany ?s_CommandError_TextError ?s_ArgumentError_TextError ?s_CheckError_TextError ?s_PaperError_TextError ?s_SiteError_TextError ?s_TooMany_TextError ?s_TextError_TextError ?s_LogError_TextError ?s_CommandError_LogError ?s_ArgumentError_LogError ?s_CheckError_LogError ?s_PaperError_LogError ?s_SiteError_LogError ?s_TooMany_LogError ?s_TextError_LogError ?s_LogError_LogError ?s_CommandError_CommandError ?s_ArgumentError_CommandError ?s_CheckError_CommandError ?s_PaperError_CommandError ?s_SiteError_CommandError ?s_TooMany_CommandError ?s_TextError_CommandError ?s_LogError_CommandError ?o_CommandError_ArgumentError ?o_ArgumentError_ArgumentError ?o_CheckError_ArgumentError ?o_PaperError_ArgumentError ?o_SiteError_ArgumentError ?o_TooMany_ArgumentError ?o_TextError_ArgumentError ?o_LogError_ArgumentError ?o_CommandError_CheckError ?o_ArgumentError_CheckError ?o_CheckError_CheckError ?o_PaperError_CheckError ?o_SiteError_CheckError ?o_TooMany_CheckError ?o_TextError_CheckError ?o_LogError_CheckError ?o_CommandError_PaperError ?o_ArgumentError_PaperError ?o_CheckError_PaperError ?o_PaperError_PaperError ?o_SiteError_PaperError ?o_TooMany_PaperError ?o_TextError_PaperError ?o_LogError_PaperError ?o_CommandError_SiteError ?o_ArgumentError_SiteError ?o_CheckError_SiteError ?o_PaperError_SiteError ?o_SiteError_SiteError ?o_TooMany_SiteError ?o_TextError_SiteError ?o_LogError_SiteError ?o_CommandError_TooMany ?o_ArgumentError_TooMany ?o_CheckError_TooMany ?o_PaperError_TooMany ?o_SiteError_TooMany ?o_TooMany_TooMany ?o_TextError_TooMany ?o_LogError_TooMany ?o_CommandError_TextError ?o_ArgumentError_TextError ?o_CheckError_TextError ?o_PaperError_TextError ?o_SiteError_TextError ?o_TooMany_TextError ?o_TextError_TextError ?o_LogError_TextError ?o_CommandError_LogError ?o_ArgumentError_LogError ?o_CheckError_LogError ?o_PaperError_LogError ?o_SiteError_LogError ?o_TooMany_LogError ?o_TextError_LogError ?o_LogError_LogError ?o_CommandError_CommandError ?o_ArgumentError_CommandError ?o_CheckError_CommandError ?o_PaperError_CommandError ?o_SiteError_CommandError ?o_TooMany_CommandError ?o_TextError_CommandError ?o_LogError_CommandError ?o_CommandError_FrameError ?o_ArgumentError_FrameError ?o_CheckError_FrameError ?o_PaperError_FrameError ?o_SiteError_FrameError ?o_TooMany_FrameError ?o_TextError_FrameError ?o_LogError_FrameError ?ov_CommandError_ValueError ?ov_ArgumentError_ValueError ?ov_CheckError_ValueError ?ov_PaperError_ValueError ?ov_SiteError_ValueError ?ov_TooMany_ValueError ?ov_TextError_ValueError ?ov_LogError_ValueError ?z_ValueError ?z_abs ?z_int ?z_isinstance ?z_len ?z_range ?z_repr ?g0_MAX_JOINTS ?g0_MAX_BARS ?g0_MAX_PLACE ?g0_MAX_NAME ?g0_MAX_FORCE ?g0_MAX_TEXT ?g0_MAX_NUMBER ?g0_MAX_ROWS ?g0_MAX_COST ?g0_MAX_CASES ?g0_MAX_KEPT ?g0_MAX_AWAY ?g0_MAX_STRONG ?g0_MAX_LINES ?g0_MAX_BRACES ?g0_MAX_PROPS ?g0_MAX_BLOCKS ?g0_MAX_JOBS ?g0_MAX_PIECES ?g0_MAX_LENGTH ?g0_MAX_LOG ?g0_MAX_SIDE ?g0_MAX_DEPTH ?g0_MAX_DIGITS ?g0_MAX_CRANES ?g0_MAX_LIFTS ?g0_MAX_VAULT ?g0_MAX_LOADS K00.law_ok
    (case a0=>k_is)
    (case l0=>k_is)
    (case c0=>k_is)
    (case k0=>k_is)
    (case a1=>k_is)
    (case l1=>k_is)
    (case c1=>k_is)
    (case k1=>k_is)
    (case a2=>k_is)
    (case l2=>k_is)
    (case c2=>k_is)
    (case k2=>k_is)
    (case a3=>k_is)
    (case l3=>k_is)
    (case c3=>k_is)
    (case k3=>k_is)
    (case a4=>k_is)
    (case l4=>k_is)
    (case c4=>k_is)
    (case k4=>k_is)
    (case a5=>k_is)
    (case l5=>k_is)
    (case c5=>k_is)
    (case k5=>k_is)
    (case a6=>k_is)
    (case l6=>k_is)
    (case c6=>k_is)
    (case k6=>k_is)
    (case a7=>k_is)
    (case l7=>k_is)
    (case c7=>k_is)
    (case k7=>k_is)
    (case a8=>k_is)
    (case l8=>k_is)
    (case c8=>k_is)
    (case k8=>k_is)
    (case a9=>k_is)
    (case l9=>k_is)
    (case c9=>k_is)
    (case k9=>k_is)
    (case aC_FrameError=>k_is)
    (case aC_CheckError=>k_is)
    (case aC_ArgumentError=>k_is)
    (case aC_PaperError=>k_is)
    (case aC_TooMany=>k_is)
    (case aC_SiteError=>k_is)
    (case aC_TextError=>k_is)
    (case aC_LogError=>k_is)
    (case aC_CommandError=>k_is)
    (case aC_ReasonError=>k_is)
    (case xL_CommandError=>k_is)
    (case xR_CommandError=>first | (decide +kernel) | k_is)
    (case xS_CommandError=>k_is)
    (case xG_CommandError=>k_is)
    (case xH_CommandError=>k_is)
    (case xN_CommandError_line=>k_is)
    (case xI_CommandError=>k_is)
    (case xT_CommandError=>k_is)
    (case xK_CommandError=>k_is)
    (case xE_CommandError=>k_is)
    (case xV_CommandError=>k_is)
    (case xY_CommandError=>k_is)
    (case xD_CommandError=>k_is)
    (case xU_CommandError=>ks_is)
    (case xM_CommandError=>k_is)
    (case yL_CommandError=>k_is)
    (case yC_CommandError=>k_is)
    (case yD_CommandError=>k_is)
    (case yF_CommandError=>rfl)
    (case yP_CommandError=>first | rfl | decide +kernel)
    (case yK_CommandError=>k_is)
    (case hA_CommandError=>k_is)
    (case hM_CommandError=>k_is)
    (case xL_ArgumentError=>k_is)
    (case xR_ArgumentError=>first | (decide +kernel) | k_is)
    (case xS_ArgumentError=>k_is)
    (case xG_ArgumentError=>k_is)
    (case xH_ArgumentError=>k_is)
    (case xN_ArgumentError_reason=>k_is)
    (case xI_ArgumentError=>k_is)
    (case xT_ArgumentError=>k_is)
    (case xK_ArgumentError=>k_is)
    (case xE_ArgumentError=>k_is)
    (case xV_ArgumentError=>k_is)
    (case xY_ArgumentError=>k_is)
    (case xD_ArgumentError=>k_is)
    (case xU_ArgumentError=>ks_is)
    (case xM_ArgumentError=>k_is)
    (case yL_ArgumentError=>k_is)
    (case yC_ArgumentError=>k_is)
    (case yD_ArgumentError=>k_is)
    (case yF_ArgumentError=>rfl)
    (case yP_ArgumentError=>first | rfl | decide +kernel)
    (case yK_ArgumentError=>k_is)
    (case hA_ArgumentError=>k_is)
    (case hM_ArgumentError=>k_is)
    (case xL_CheckError=>k_is)
    (case xR_CheckError=>first | (decide +kernel) | k_is)
    (case xS_CheckError=>k_is)
    (case xG_CheckError=>k_is)
    (case xH_CheckError=>k_is)
    (case xN_CheckError_reason=>k_is)
    (case xI_CheckError=>k_is)
    (case xT_CheckError=>k_is)
    (case xK_CheckError=>k_is)
    (case xE_CheckError=>k_is)
    (case xV_CheckError=>k_is)
    (case xY_CheckError=>k_is)
    (case xD_CheckError=>k_is)
    (case xU_CheckError=>ks_is)
    (case xM_CheckError=>k_is)
    (case yL_CheckError=>k_is)
    (case yC_CheckError=>k_is)
    (case yD_CheckError=>k_is)
    (case yF_CheckError=>rfl)
    (case yP_CheckError=>first | rfl | decide +kernel)
    (case yK_CheckError=>k_is)
    (case hA_CheckError=>k_is)
    (case hM_CheckError=>k_is)
    (case xL_PaperError=>k_is)
    (case xR_PaperError=>first | (decide +kernel) | k_is)
    (case xS_PaperError=>k_is)
    (case xG_PaperError=>k_is)
    (case xH_PaperError=>k_is)
    (case xN_PaperError_reason=>k_is)
    (case xI_PaperError=>k_is)
    (case xT_PaperError=>k_is)
    (case xK_PaperError=>k_is)
    (case xE_PaperError=>k_is)
    (case xV_PaperError=>k_is)
    (case xY_PaperError=>k_is)
    (case xD_PaperError=>k_is)
    (case xU_PaperError=>ks_is)
    (case xM_PaperError=>k_is)
    (case yL_PaperError=>k_is)
    (case yC_PaperError=>k_is)
    (case yD_PaperError=>k_is)
    (case yF_PaperError=>rfl)
    (case yP_PaperError=>first | rfl | decide +kernel)
    (case yK_PaperError=>k_is)
    (case hA_PaperError=>k_is)
    (case hM_PaperError=>k_is)
    (case xL_SiteError=>k_is)
    (case xR_SiteError=>first | (decide +kernel) | k_is)
    (case xS_SiteError=>k_is)
    (case xG_SiteError=>k_is)
    (case xH_SiteError=>k_is)
    (case xN_SiteError_reason=>k_is)
    (case xI_SiteError=>k_is)
    (case xT_SiteError=>k_is)
    (case xK_SiteError=>k_is)
    (case xE_SiteError=>k_is)
    (case xV_SiteError=>k_is)
    (case xY_SiteError=>k_is)
    (case xD_SiteError=>k_is)
    (case xU_SiteError=>ks_is)
    (case xM_SiteError=>k_is)
    (case yL_SiteError=>k_is)
    (case yC_SiteError=>k_is)
    (case yD_SiteError=>k_is)
    (case yF_SiteError=>rfl)
    (case yP_SiteError=>first | rfl | decide +kernel)
    (case yK_SiteError=>k_is)
    (case hA_SiteError=>k_is)
    (case hM_SiteError=>k_is)
    (case xL_TooMany=>k_is)
    (case xR_TooMany=>first | (decide +kernel) | k_is)
    (case xS_TooMany=>k_is)
    (case xG_TooMany=>k_is)
    (case xH_TooMany=>k_is)
    (case xN_TooMany_reason=>k_is)
    (case xI_TooMany=>k_is)
    (case xT_TooMany=>k_is)
    (case xK_TooMany=>k_is)
    (case xE_TooMany=>k_is)
    (case xV_TooMany=>k_is)
    (case xY_TooMany=>k_is)
    (case xD_TooMany=>k_is)
    (case xU_TooMany=>ks_is)
    (case xM_TooMany=>k_is)
    (case yL_TooMany=>k_is)
    (case yC_TooMany=>k_is)
    (case yD_TooMany=>k_is)
    (case yF_TooMany=>rfl)
    (case yP_TooMany=>first | rfl | decide +kernel)
    (case yK_TooMany=>k_is)
    (case hA_TooMany=>k_is)
    (case hM_TooMany=>k_is)
    (case xL_TextError=>k_is)
    (case xR_TextError=>first | (decide +kernel) | k_is)
    (case xS_TextError=>k_is)
    (case xG_TextError=>k_is)
    (case xH_TextError=>k_is)
    (case xN_TextError_at=>k_is)
    (case xI_TextError=>k_is)
    (case xT_TextError=>k_is)
    (case xK_TextError=>k_is)
    (case xE_TextError=>k_is)
    (case xV_TextError=>k_is)
    (case xY_TextError=>k_is)
    (case xD_TextError=>k_is)
    (case xU_TextError=>ks_is)
    (case xM_TextError=>k_is)
    (case yL_TextError=>k_is)
    (case yC_TextError=>k_is)
    (case yD_TextError=>k_is)
    (case yF_TextError=>rfl)
    (case yP_TextError=>first | rfl | decide +kernel)
    (case yK_TextError=>k_is)
    (case hA_TextError=>k_is)
    (case hM_TextError=>k_is)
    (case xL_LogError=>k_is)
    (case xR_LogError=>first | (decide +kernel) | k_is)
    (case xS_LogError=>k_is)
    (case xG_LogError=>k_is)
    (case xH_LogError=>k_is)
    (case xN_LogError_number=>k_is)
    (case xN_LogError_reason=>k_is)
    (case xI_LogError=>k_is)
    (case xT_LogError=>k_is)
    (case xK_LogError=>k_is)
    (case xE_LogError=>k_is)
    (case xV_LogError=>k_is)
    (case xY_LogError=>k_is)
    (case xD_LogError=>k_is)
    (case xU_LogError=>ks_is)
    (case xM_LogError=>k_is)
    (case yL_LogError=>k_is)
    (case yC_LogError=>k_is)
    (case yD_LogError=>k_is)
    (case yF_LogError=>rfl)
    (case yP_LogError=>first | rfl | decide +kernel)
    (case yK_LogError=>k_is)
    (case hA_LogError=>k_is)
    (case hM_LogError=>k_is)
    (case opq=>k_is)
    (case zsup=>k_is)
    (case ptop=>first | rfl | decide +kernel)
    (case hN=>k_is)
    (case hT=>k_is)
    (case clD_CommandError=>k_is)
    (case clD_ReasonError=>k_is)
    (case clD_TextError=>k_is)
    (case clD_LogError=>k_is)
    (case xE_FrameError=>k_is)
    (case xY_FrameError=>k_is)
    (case xD_FrameError=>k_is)
    (case s_CommandError_FrameError=>first | rfl | k_is)
    (case s_ArgumentError_FrameError=>first | rfl | k_is)
    (case s_CheckError_FrameError=>first | rfl | k_is)
    (case s_PaperError_FrameError=>first | rfl | k_is)
    (case s_SiteError_FrameError=>first | rfl | k_is)
    (case s_TooMany_FrameError=>first | rfl | k_is)
    (case s_TextError_FrameError=>first | rfl | k_is)
    (case s_LogError_FrameError=>first | rfl | k_is)
    (case s_CommandError_ArgumentError=>first | rfl | k_is)
    (case s_ArgumentError_ArgumentError=>first | rfl | k_is)
    (case s_CheckError_ArgumentError=>first | rfl | k_is)
    (case s_PaperError_ArgumentError=>first | rfl | k_is)
    (case s_SiteError_ArgumentError=>first | rfl | k_is)
    (case s_TooMany_ArgumentError=>first | rfl | k_is)
    (case s_TextError_ArgumentError=>first | rfl | k_is)
    (case s_LogError_ArgumentError=>first | rfl | k_is)
    (case s_CommandError_CheckError=>first | rfl | k_is)
    (case s_ArgumentError_CheckError=>first | rfl | k_is)
    (case s_CheckError_CheckError=>first | rfl | k_is)
    (case s_PaperError_CheckError=>first | rfl | k_is)
    (case s_SiteError_CheckError=>first | rfl | k_is)
    (case s_TooMany_CheckError=>first | rfl | k_is)
    (case s_TextError_CheckError=>first | rfl | k_is)
    (case s_LogError_CheckError=>first | rfl | k_is)
    (case s_CommandError_PaperError=>first | rfl | k_is)
    (case s_ArgumentError_PaperError=>first | rfl | k_is)
    (case s_CheckError_PaperError=>first | rfl | k_is)
    (case s_PaperError_PaperError=>first | rfl | k_is)
    (case s_SiteError_PaperError=>first | rfl | k_is)
    (case s_TooMany_PaperError=>first | rfl | k_is)
    (case s_TextError_PaperError=>first | rfl | k_is)
    (case s_LogError_PaperError=>first | rfl | k_is)
    (case s_CommandError_SiteError=>first | rfl | k_is)
    (case s_ArgumentError_SiteError=>first | rfl | k_is)
    (case s_CheckError_SiteError=>first | rfl | k_is)
    (case s_PaperError_SiteError=>first | rfl | k_is)
    (case s_SiteError_SiteError=>first | rfl | k_is)
    (case s_TooMany_SiteError=>first | rfl | k_is)
    (case s_TextError_SiteError=>first | rfl | k_is)
    (case s_LogError_SiteError=>first | rfl | k_is)
    (case s_CommandError_TooMany=>first | rfl | k_is)
    (case s_ArgumentError_TooMany=>first | rfl | k_is)
    (case s_CheckError_TooMany=>first | rfl | k_is)
    (case s_PaperError_TooMany=>first | rfl | k_is)
    (case s_SiteError_TooMany=>first | rfl | k_is)
    (case s_TooMany_TooMany=>first | rfl | k_is)
    (case s_TextError_TooMany=>first | rfl | k_is)
    (case s_LogError_TooMany=>first | rfl | k_is)
    (case s_CommandError_TextError=>first | rfl | k_is)
    (case s_ArgumentError_TextError=>first | rfl | k_is)
    (case s_CheckError_TextError=>first | rfl | k_is)
    (case s_PaperError_TextError=>first | rfl | k_is)
    (case s_SiteError_TextError=>first | rfl | k_is)
    (case s_TooMany_TextError=>first | rfl | k_is)
    (case s_TextError_TextError=>first | rfl | k_is)
    (case s_LogError_TextError=>first | rfl | k_is)
    (case s_CommandError_LogError=>first | rfl | k_is)
    (case s_ArgumentError_LogError=>first | rfl | k_is)
    (case s_CheckError_LogError=>first | rfl | k_is)
    (case s_PaperError_LogError=>first | rfl | k_is)
    (case s_SiteError_LogError=>first | rfl | k_is)
    (case s_TooMany_LogError=>first | rfl | k_is)
    (case s_TextError_LogError=>first | rfl | k_is)
    (case s_LogError_LogError=>first | rfl | k_is)
    (case s_CommandError_CommandError=>first | rfl | k_is)
    (case s_ArgumentError_CommandError=>first | rfl | k_is)
    (case s_CheckError_CommandError=>first | rfl | k_is)
    (case s_PaperError_CommandError=>first | rfl | k_is)
    (case s_SiteError_CommandError=>first | rfl | k_is)
    (case s_TooMany_CommandError=>first | rfl | k_is)
    (case s_TextError_CommandError=>first | rfl | k_is)
    (case s_LogError_CommandError=>first | rfl | k_is)
    (case o_CommandError_ArgumentError=>first | rfl | k_is)
    (case o_ArgumentError_ArgumentError=>first | rfl | k_is)
    (case o_CheckError_ArgumentError=>first | rfl | k_is)
    (case o_PaperError_ArgumentError=>first | rfl | k_is)
    (case o_SiteError_ArgumentError=>first | rfl | k_is)
    (case o_TooMany_ArgumentError=>first | rfl | k_is)
    (case o_TextError_ArgumentError=>first | rfl | k_is)
    (case o_LogError_ArgumentError=>first | rfl | k_is)
    (case o_CommandError_CheckError=>first | rfl | k_is)
    (case o_ArgumentError_CheckError=>first | rfl | k_is)
    (case o_CheckError_CheckError=>first | rfl | k_is)
    (case o_PaperError_CheckError=>first | rfl | k_is)
    (case o_SiteError_CheckError=>first | rfl | k_is)
    (case o_TooMany_CheckError=>first | rfl | k_is)
    (case o_TextError_CheckError=>first | rfl | k_is)
    (case o_LogError_CheckError=>first | rfl | k_is)
    (case o_CommandError_PaperError=>first | rfl | k_is)
    (case o_ArgumentError_PaperError=>first | rfl | k_is)
    (case o_CheckError_PaperError=>first | rfl | k_is)
    (case o_PaperError_PaperError=>first | rfl | k_is)
    (case o_SiteError_PaperError=>first | rfl | k_is)
    (case o_TooMany_PaperError=>first | rfl | k_is)
    (case o_TextError_PaperError=>first | rfl | k_is)
    (case o_LogError_PaperError=>first | rfl | k_is)
    (case o_CommandError_SiteError=>first | rfl | k_is)
    (case o_ArgumentError_SiteError=>first | rfl | k_is)
    (case o_CheckError_SiteError=>first | rfl | k_is)
    (case o_PaperError_SiteError=>first | rfl | k_is)
    (case o_SiteError_SiteError=>first | rfl | k_is)
    (case o_TooMany_SiteError=>first | rfl | k_is)
    (case o_TextError_SiteError=>first | rfl | k_is)
    (case o_LogError_SiteError=>first | rfl | k_is)
    (case o_CommandError_TooMany=>first | rfl | k_is)
    (case o_ArgumentError_TooMany=>first | rfl | k_is)
    (case o_CheckError_TooMany=>first | rfl | k_is)
    (case o_PaperError_TooMany=>first | rfl | k_is)
    (case o_SiteError_TooMany=>first | rfl | k_is)
    (case o_TooMany_TooMany=>first | rfl | k_is)
    (case o_TextError_TooMany=>first | rfl | k_is)
    (case o_LogError_TooMany=>first | rfl | k_is)
    (case o_CommandError_TextError=>first | rfl | k_is)
    (case o_ArgumentError_TextError=>first | rfl | k_is)
    (case o_CheckError_TextError=>first | rfl | k_is)
    (case o_PaperError_TextError=>first | rfl | k_is)
    (case o_SiteError_TextError=>first | rfl | k_is)
    (case o_TooMany_TextError=>first | rfl | k_is)
    (case o_TextError_TextError=>first | rfl | k_is)
    (case o_LogError_TextError=>first | rfl | k_is)
    (case o_CommandError_LogError=>first | rfl | k_is)
    (case o_ArgumentError_LogError=>first | rfl | k_is)
    (case o_CheckError_LogError=>first | rfl | k_is)
    (case o_PaperError_LogError=>first | rfl | k_is)
    (case o_SiteError_LogError=>first | rfl | k_is)
    (case o_TooMany_LogError=>first | rfl | k_is)
    (case o_TextError_LogError=>first | rfl | k_is)
    (case o_LogError_LogError=>first | rfl | k_is)
    (case o_CommandError_CommandError=>first | rfl | k_is)
    (case o_ArgumentError_CommandError=>first | rfl | k_is)
    (case o_CheckError_CommandError=>first | rfl | k_is)
    (case o_PaperError_CommandError=>first | rfl | k_is)
    (case o_SiteError_CommandError=>first | rfl | k_is)
    (case o_TooMany_CommandError=>first | rfl | k_is)
    (case o_TextError_CommandError=>first | rfl | k_is)
    (case o_LogError_CommandError=>first | rfl | k_is)
    (case o_CommandError_FrameError=>first | rfl | k_is)
    (case o_ArgumentError_FrameError=>first | rfl | k_is)
    (case o_CheckError_FrameError=>first | rfl | k_is)
    (case o_PaperError_FrameError=>first | rfl | k_is)
    (case o_SiteError_FrameError=>first | rfl | k_is)
    (case o_TooMany_FrameError=>first | rfl | k_is)
    (case o_TextError_FrameError=>first | rfl | k_is)
    (case o_LogError_FrameError=>first | rfl | k_is)
    (case ov_CommandError_ValueError=>first | rfl | k_is)
    (case ov_ArgumentError_ValueError=>first | rfl | k_is)
    (case ov_CheckError_ValueError=>first | rfl | k_is)
    (case ov_PaperError_ValueError=>first | rfl | k_is)
    (case ov_SiteError_ValueError=>first | rfl | k_is)
    (case ov_TooMany_ValueError=>first | rfl | k_is)
    (case ov_TextError_ValueError=>first | rfl | k_is)
    (case ov_LogError_ValueError=>first | rfl | k_is)
    (case z_ValueError=>k_is)
    (case z_abs=>k_is)
    (case z_int=>k_is)
    (case z_isinstance=>k_is)
    (case z_len=>k_is)
    (case z_range=>k_is)
    (case z_repr=>k_is)
    (case g0_MAX_JOINTS=>k_is)
    (case g0_MAX_BARS=>k_is)
    (case g0_MAX_PLACE=>k_is)
    (case g0_MAX_NAME=>k_is)
    (case g0_MAX_FORCE=>k_is)
    (case g0_MAX_TEXT=>k_is)
    (case g0_MAX_NUMBER=>k_is)
    (case g0_MAX_ROWS=>k_is)
    (case g0_MAX_COST=>k_is)
    (case g0_MAX_CASES=>k_is)
    (case g0_MAX_KEPT=>k_is)
    (case g0_MAX_AWAY=>k_is)
    (case g0_MAX_STRONG=>k_is)
    (case g0_MAX_LINES=>k_is)
    (case g0_MAX_BRACES=>k_is)
    (case g0_MAX_PROPS=>k_is)
    (case g0_MAX_BLOCKS=>k_is)
    (case g0_MAX_JOBS=>k_is)
    (case g0_MAX_PIECES=>k_is)
    (case g0_MAX_LENGTH=>k_is)
    (case g0_MAX_LOG=>k_is)
    (case g0_MAX_SIDE=>k_is)
    (case g0_MAX_DEPTH=>k_is)
    (case g0_MAX_DIGITS=>k_is)
    (case g0_MAX_CRANES=>k_is)
    (case g0_MAX_LIFTS=>k_is)
    (case g0_MAX_VAULT=>k_is)
    (case g0_MAX_LOADS=>k_is)
