import PyProof.Rows.All
import Wide.All
import OpenK.AllK
import Wide.FinOn
import HandS.ForMost
import HandS.ForExc
import HandS.Walk
import HandS.Zip
import HandS.IsInst
import HandS.Wide
import KE.DataEq
import HandS.TupAny
import HandS.TupMul
import HandS.RaiseMore
import KE.KExcSuper
import HandS.ExcSuper
import HandS.ExcInit
import HandS.ExcIs
import HandS.TryMany
import HandS.ExcField
import HandS.Comp
import HandS.Text
import HandS.WordsDict
import PyProof.ReprRoads
import HandS.Ends
import HandS.WordsExc
import PySem.Challenge.RW_standsfirm_k01_whole_fractions
import KE.RegKSuper
set_option Elab.async false
set_option linter.all false
set_option maxRecDepth 100000
set_option maxHeartbeats 4200000
/-! DL0: data (D), trees of what a slot holds (T), how they lie in the abstract heap, frames, one step behind another. -/
namespace DL
open PySem PySem.Spec PyProof.Rows L2

/-- data: what never changes any more (lst: a list that nobody writes any more) -/
inductive D where
  | non | bl (b : Bool) | int (i : Int) | str (x : Str) | tup (xs : List D) | lst (xs : List D)
/-- what a slot holds: data, or an object that this slot alone holds and may write -/
inductive T where
  | val (d : D)
  | lst (xs : List D)
  | ll (xs : List (List D))
  | dK (kvs : List (Key × D))
  | dT (kvs : List (List Key × D))

abbrev Fp := Addr → Nat
def one (a : Addr) : Fp := fun b => if b = a then 1 else 0
def Nd (f : Fp) : Prop := ∀ b, f b ≤ 1
/-- a list that is read and never written: frozen, or of the written part -/
def FzL (K : PySem.W.Frag) (H : Hp) (a : Addr) (xs : List V) : Prop :=
  (∃ o, H a = some (.frz o (.lst xs))) ∨
    ∃ (o : Obj) (its : Array Value) (n : Nat),
      K.lookup a = some o ∧ o.cls = .type "list" ∧ o.dict = none ∧ o.data = .seq its n ∧ its.size ≤ sizeLine ∧ Vals xs its.toList
theorem FzL.sq {K : PySem.W.Frag} {H : Hp} {a : Addr} {xs : List V} (h : FzL K H a xs) : SqL K H a xs := by
  rcases h with h | h
  · exact .inl (.inr h)
  · exact .inr h

mutual
inductive RD (K : PySem.W.Frag) (H : Hp) : V → D → Prop
  | non : RD K H .non .non
  | bl (b : Bool) : RD K H (.bl b) (.bl b)
  | int (i : Int) : RD K H (.int i) (.int i)
  | str (x : Str) : RD K H (.str x) (.str x)
  | tup {a : Addr} {vs : List V} {ds : List D} : SqT K H a vs → RDs K H vs ds → RD K H (.ref a) (.tup ds)
  | lst {a : Addr} {vs : List V} {ds : List D} : FzL K H a vs → RDs K H vs ds → RD K H (.ref a) (.lst ds)
inductive RDs (K : PySem.W.Frag) (H : Hp) : List V → List D → Prop
  | nil : RDs K H [] []
  | cons {v : V} {vs : List V} {d : D} {ds : List D} : RD K H v d → RDs K H vs ds → RDs K H (v :: vs) (d :: ds)
end

/-- tuples and frozen things stay -/
structure Stb (H H' : Hp) : Prop where
  tup : ∀ b xs, H b = some (.tup xs) → H' b = some (.tup xs)
  frz : ∀ b o u, H b = some (.frz o u) → H' b = some (.frz o u)
theorem Stb.refl (H : Hp) : Stb H H := ⟨fun _ _ h => h, fun _ _ _ h => h⟩
theorem Stb.trans {H H1 H2 : Hp} (a : Stb H H1) (b : Stb H1 H2) : Stb H H2 := ⟨fun c xs h => b.tup c xs (a.tup c xs h), fun c o u h => b.frz c o u (a.frz c o u h)⟩
theorem Stb.fresh {H : Hp} {p : Addr} {o : HO} (h : H p = none) : Stb H (upd H p o) := ⟨fun b xs e => by rw [upd_ne (ne_of_none e h)]; exact e, fun b o u e => by rw [upd_ne (ne_of_none e h)]; exact e⟩
/-- an object that may be written -/
def isOwn : HO → Bool
  | .tup _ => false
  | .frz _ _ => false
  | _ => true
theorem Stb.own {H : Hp} {p : Addr} {o u : HO} (h : H p = some o) (w : isOwn o = true) : Stb H (upd H p u) := by
  refine ⟨fun b xs e => ?_, fun b o' u' e => ?_⟩
  · by_cases hb : b = p
    · rw [hb, h] at e; cases e; cases w
    · rw [upd_ne hb]; exact e
  · by_cases hb : b = p
    · rw [hb, h] at e; cases e; cases w
    · rw [upd_ne hb]; exact e
theorem sqT_stb {K : PySem.W.Frag} {H H' : Hp} {a : Addr} {xs : List V} (s : Stb H H') (h : SqT K H a xs) : SqT K H' a xs := by
  rcases h with (h | ⟨oh, h⟩) | h
  · exact .inl (.inl (s.tup _ _ h))
  · exact .inl (.inr ⟨oh, s.frz _ _ _ h⟩)
  · exact .inr h
theorem fzL_stb {K : PySem.W.Frag} {H H' : Hp} {a : Addr} {xs : List V} (s : Stb H H') (h : FzL K H a xs) : FzL K H' a xs := by
  rcases h with ⟨o, h⟩ | h
  · exact .inl ⟨o, s.frz _ _ _ h⟩
  · exact .inr h
mutual
theorem RD.stb {K : PySem.W.Frag} {H H' : Hp} (s : Stb H H') {v : V} {d : D} (h : RD K H v d) : RD K H' v d := by
  cases h with
  | non => exact .non
  | bl b => exact .bl b
  | int i => exact .int i
  | str x => exact .str x
  | tup q r => exact .tup (sqT_stb s q) (RDs.stb s r)
  | lst q r => exact .lst (fzL_stb s q) (RDs.stb s r)
theorem RDs.stb {K : PySem.W.Frag} {H H' : Hp} (s : Stb H H') {vs : List V} {ds : List D} (h : RDs K H vs ds) : RDs K H' vs ds := by
  cases h with
  | nil => exact .nil
  | cons q r => exact .cons (RD.stb s q) (RDs.stb s r)
end
section
variable {K : PySem.W.Frag} {H H' : Hp}
theorem RDs.length : ∀ {vs : List V} {ds : List D}, RDs K H vs ds → vs.length = ds.length
  | _, _, .nil => rfl
  | _, _, .cons _ r => by rw [List.length_cons, List.length_cons, RDs.length r]
theorem RDs.get : ∀ {vs : List V} {ds : List D} {i : Nat} {d : D}, RDs K H vs ds → ds[i]? = some d → ∃ v, vs[i]? = some v ∧ RD K H v d
  | _, _, _, _, .nil, e => (by simp at e)
  | _, _, 0, _, .cons q _, e => by simp at e; subst e; exact ⟨_, rfl, q⟩
  | _, _, i + 1, d, .cons _ r, e => by
    obtain ⟨v, h1, h2⟩ := RDs.get (i := i) (d := d) r (by simpa using e)
    exact ⟨v, by simpa using h1, h2⟩
theorem RDs.getV : ∀ {vs : List V} {ds : List D} {i : Nat} {v : V}, RDs K H vs ds → vs[i]? = some v → ∃ d, ds[i]? = some d ∧ RD K H v d
  | _, _, _, _, .nil, e => (by simp at e)
  | _, _, 0, _, .cons q _, e => by simp at e; subst e; exact ⟨_, rfl, q⟩
  | _, _, i + 1, d, .cons _ r, e => by
    obtain ⟨v, h1, h2⟩ := RDs.getV (i := i) (v := d) r (by simpa using e)
    exact ⟨v, by simpa using h1, h2⟩
theorem RDs.append : ∀ {vs ws : List V} {ds es : List D}, RDs K H vs ds → RDs K H ws es → RDs K H (vs ++ ws) (ds ++ es)
  | _, _, _, _, .nil, s => s
  | _, _, _, _, .cons q r, s => .cons q (RDs.append r s)
theorem RDs.take : ∀ {vs : List V} {ds : List D} (n : Nat), RDs K H vs ds → RDs K H (vs.take n) (ds.take n)
  | _, _, 0, _ => .nil
  | _, _, _ + 1, .nil => .nil
  | _, _, n + 1, .cons q r => .cons q (RDs.take n r)
theorem RDs.drop : ∀ {vs : List V} {ds : List D} (n : Nat), RDs K H vs ds → RDs K H (vs.drop n) (ds.drop n)
  | _, _, 0, r => r
  | _, _, _ + 1, .nil => .nil
  | _, _, n + 1, .cons _ r => RDs.drop n r
theorem RDs.set {v : V} {d : D} (q : RD K H v d) : ∀ {vs : List V} {ds : List D} (i : Nat), RDs K H vs ds → RDs K H (vs.set i v) (ds.set i d)
  | _, _, _, .nil => .nil
  | _, _, 0, .cons _ r => .cons q r
  | _, _, i + 1, .cons p r => .cons p (RDs.set q i r)
theorem RDs.eraseIdx : ∀ {vs : List V} {ds : List D} (i : Nat), RDs K H vs ds → RDs K H (vs.eraseIdx i) (ds.eraseIdx i)
  | _, _, _, .nil => .nil
  | _, _, 0, .cons _ r => r
  | _, _, i + 1, .cons p r => .cons p (RDs.eraseIdx i r)
theorem RDs.reverse : ∀ {vs : List V} {ds : List D}, RDs K H vs ds → RDs K H vs.reverse ds.reverse
  | _, _, .nil => .nil
  | _, _, .cons q r => by rw [List.reverse_cons, List.reverse_cons]; exact RDs.append (RDs.reverse r) (.cons q .nil)
theorem RDs.ints : ∀ (ns : List Int), RDs K H (ns.map V.int) (ns.map D.int)
  | [] => .nil
  | n :: r => .cons (.int n) (RDs.ints r)
end

/-- lists that are held, one by one -/
inductive RL (K : PySem.W.Frag) (H : Hp) : List V → List (List D) → Fp → Prop
  | nil {f : Fp} : (∀ b, f b = 0) → RL K H [] [] f
  | cons {a : Addr} {us vs : List V} {ds : List D} {xs : List (List D)} {f g : Fp} : H a = some (.lst us) → RDs K H us ds → RL K H vs xs g → (∀ b, f b = one a b + g b) → RL K H (.ref a :: vs) (ds :: xs) f
/-- a dict's entries -/
inductive RK {κ : Type} (K : PySem.W.Frag) (H : Hp) : List (κ × V) → List (κ × D) → Prop
  | nil : RK K H [] []
  | cons {k : κ} {v : V} {d : D} {l : List (κ × V)} {m : List (κ × D)} : RD K H v d → RK K H l m → RK K H ((k, v) :: l) ((k, d) :: m)
inductive RT (K : PySem.W.Frag) (H : Hp) : V → T → Fp → Prop
  | val {v : V} {d : D} {f : Fp} : RD K H v d → (∀ b, f b = 0) → RT K H v (.val d) f
  | lst {a : Addr} {vs : List V} {ds : List D} {f : Fp} : H a = some (.lst vs) → RDs K H vs ds → (∀ b, f b = one a b) → RT K H (.ref a) (.lst ds) f
  | ll {a : Addr} {vs : List V} {xs : List (List D)} {f g : Fp} : H a = some (.lst vs) → RL K H vs xs g → (∀ b, f b = one a b + g b) → RT K H (.ref a) (.ll xs) f
  | dK {a : Addr} {l : List (Key × V)} {m : List (Key × D)} {f : Fp} : H a = some (.dK l) → RK K H l m → (∀ b, f b = one a b) → RT K H (.ref a) (.dK m) f
  | dT {a : Addr} {l : List (List Key × V)} {m : List (List Key × D)} {f : Fp} : H a = some (.dT l) → RK K H l m → (∀ b, f b = one a b) → RT K H (.ref a) (.dT m) f

theorem one_same (a : Addr) : one a a = 1 := by unfold one; rw [if_pos rfl]
theorem one_ne {a b : Addr} (h : b ≠ a) : one a b = 0 := by unfold one; rw [if_neg h]
theorem of_one {a b : Addr} (h : one a b ≠ 0) : b = a := by
  by_cases e : b = a
  · exact e
  · exact absurd (one_ne e) h

section
variable {K : PySem.W.Frag} {H H' : Hp}
/-- all that is held stands, and may be written -/
def OwnFp (H : Hp) (f : Fp) : Prop := ∀ b, f b ≠ 0 → ∃ o, H b = some o ∧ isOwn o = true
theorem RL.own : ∀ {vs : List V} {xs : List (List D)} {f : Fp}, RL K H vs xs f → OwnFp H f
  | _, _, _, .nil z => fun b h => absurd (z b) h
  | _, _, f, .cons (a := a) (g := g) e _ r z => fun b h => by
    by_cases hb : b = a
    · subst hb; exact ⟨_, e, rfl⟩
    · exact r.own b (by rw [z b, one_ne hb] at h; omega)
theorem RT.own {v : V} {t : T} {f : Fp} (h : RT K H v t f) : OwnFp H f := by
  cases h with
  | val _ z => exact fun b h => absurd (z b) h
  | @lst a _ _ _ e _ z =>
    intro b h
    have : b = a := of_one (by rw [← z b]; exact h)
    subst this; exact ⟨_, e, rfl⟩
  | @ll a _ _ _ g e r z =>
    intro b h
    by_cases hb : b = a
    · subst hb; exact ⟨_, e, rfl⟩
    · exact r.own b (by rw [z b, one_ne hb] at h; omega)
  | @dK a _ _ _ e _ z =>
    intro b h
    have : b = a := of_one (by rw [← z b]; exact h)
    subst this; exact ⟨_, e, rfl⟩
  | @dT a _ _ _ e _ z =>
    intro b h
    have : b = a := of_one (by rw [← z b]; exact h)
    subst this; exact ⟨_, e, rfl⟩
theorem RK.stb {κ : Type} (s : Stb H H') : ∀ {l : List (κ × V)} {m : List (κ × D)}, RK K H l m → RK K H' l m
  | _, _, .nil => .nil
  | _, _, .cons q r => .cons (q.stb s) (RK.stb s r)
/-- kept where it stands -/
theorem RL.keep (s : Stb H H') : ∀ {vs : List V} {xs : List (List D)} {f : Fp}, RL K H vs xs f → (∀ b o, f b ≠ 0 → H b = some o → H' b = some o) → RL K H' vs xs f
  | _, _, _, .nil z, _ => .nil z
  | _, _, f, .cons (a := a) (g := g) e q r z, k => .cons (k a _ (by rw [z a, one_same]; omega) e) (q.stb s) (RL.keep s r fun b o h => k b o (by rw [z b]; omega)) z
theorem RT.keep (s : Stb H H') {v : V} {t : T} {f : Fp} (h : RT K H v t f) (k : ∀ b o, f b ≠ 0 → H b = some o → H' b = some o) : RT K H' v t f := by
  cases h with
  | val q z => exact .val (q.stb s) z
  | @lst a _ _ _ e q z => exact .lst (k a _ (by rw [z a, one_same]; omega) e) (q.stb s) z
  | @ll a _ _ _ g e r z => exact .ll (k a _ (by rw [z a, one_same]; omega) e) (r.keep s fun b o h => k b o (by rw [z b]; omega)) z
  | @dK a _ _ _ e q z => exact .dK (k a _ (by rw [z a, one_same]; omega) e) (q.stb s) z
  | @dT a _ _ _ e q z => exact .dT (k a _ (by rw [z a, one_same]; omega) e) (q.stb s) z
end

/-! ### the slots -/
abbrev S := List (Option T)
/-- what else is known of the heap, with what it holds -/
structure Pend where
  P : Hp → Prop
  p : Fp
  keep : ∀ H H', P H → Stb H H' → (∀ b o, p b ≠ 0 → H b = some o → H' b = some o) → P H'
  own : ∀ H, P H → OwnFp H p
def Pend.no : Pend := ⟨fun _ => True, fun _ => 0, fun _ _ _ _ _ => True.intro, fun _ _ _ h => absurd rfl h⟩
inductive RS (K : PySem.W.Frag) (ϖ : Pend) (H : Hp) : L2.St → S → Fp → Prop
  | nil {f : Fp} : ϖ.P H → (∀ b, f b = ϖ.p b) → RS K ϖ H [] [] f
  | non {x : Option V} {σv : L2.St} {σ : S} {f : Fp} : RS K ϖ H σv σ f → RS K ϖ H (x :: σv) (none :: σ) f
  | som {v : V} {t : T} {σv : L2.St} {σ : S} {f g h : Fp} : RT K H v t g → RS K ϖ H σv σ h → (∀ b, f b = g b + h b) → RS K ϖ H (some v :: σv) (some t :: σ) f
section
variable {K : PySem.W.Frag} {ϖ : Pend} {H H' : Hp}
theorem RS.own : ∀ {σv : L2.St} {σ : S} {f : Fp}, RS K ϖ H σv σ f → OwnFp H f
  | _, _, _, .nil p z => fun b h => ϖ.own H p b (by rw [← z b]; exact h)
  | _, _, _, .non r => r.own
  | _, _, f, .som (g := g) (h := h) q r z => fun b hb => by
    by_cases hg : g b = 0
    · exact r.own b (by rw [z b] at hb; omega)
    · exact q.own b hg
theorem RS.keep (s : Stb H H') : ∀ {σv : L2.St} {σ : S} {f : Fp}, RS K ϖ H σv σ f → (∀ b o, f b ≠ 0 → H b = some o → H' b = some o) → RS K ϖ H' σv σ f
  | _, _, _, .nil p z, k => .nil (ϖ.keep H H' p s fun b o hb => k b o (by rw [z b]; exact hb)) z
  | _, _, _, .non r, k => .non (RS.keep s r k)
  | _, _, f, .som (g := g) (h := h) q r z, k => .som (q.keep s fun b o hb => k b o (by rw [z b]; omega)) (RS.keep s r fun b o hb => k b o (by rw [z b]; omega)) z
theorem RS.length : ∀ {σv : L2.St} {σ : S} {f : Fp}, RS K ϖ H σv σ f → σv.length = σ.length
  | _, _, _, .nil _ _ => rfl
  | _, _, _, .non r => by rw [List.length_cons, List.length_cons, RS.length r]
  | _, _, _, .som _ r _ => by rw [List.length_cons, List.length_cons, RS.length r]
theorem RS.congr : ∀ {σv : L2.St} {σ : S} {f g : Fp}, RS K ϖ H σv σ f → (∀ b, g b = f b) → RS K ϖ H σv σ g
  | _, _, _, _, .nil p z, e => .nil p fun b => by rw [e b, z b]
  | _, _, _, _, .non r, e => .non (RS.congr r e)
  | _, _, _, _, .som q r z, e => .som q r fun b => by rw [e b, z b]
/-- the i-th slot taken out -/
theorem RS.out : ∀ {σv : L2.St} {σ : S} {f : Fp} {i : Nat} {t : T}, RS K ϖ H σv σ f → σ[i]? = some (some t) → ∃ v g h, σv[i]? = some (some v) ∧ RT K H v t g ∧ RS K ϖ H σv (σ.set i none) h ∧ ∀ b, f b = g b + h b
  | _, _, _, _, _, .nil _ _, e => by simp at e
  | _, _, _, 0, _, .non _, e => by simp at e
  | _, _, _, 0, _, .som q r z, e => by
    simp at e; subst e
    exact ⟨_, _, _, rfl, q, .non r, z⟩
  | _, _, _, i + 1, t, .non r, e => by
    obtain ⟨v, g, h, e1, q, r', z⟩ := RS.out (i := i) (t := t) r (by simpa using e)
    exact ⟨v, g, h, by simpa using e1, q, .non r', z⟩
  | _, _, f, i + 1, t, .som (g := g1) (h := h1) q1 r z1, e => by
    obtain ⟨v, g, h, e1, q, r', z⟩ := RS.out (i := i) (t := t) r (by simpa using e)
    exact ⟨v, g, fun b => g1 b + h b, by simpa using e1, q, .som q1 r' fun b => rfl, fun b => by show _ = g b + (g1 b + h b); rw [z1 b, z b]; omega⟩
/-- the i-th slot forgotten -/
theorem RS.drop : ∀ {σv : L2.St} {σ : S} {f : Fp} (i : Nat), RS K ϖ H σv σ f → ∃ h, RS K ϖ H σv (σ.set i none) h ∧ ∀ b, h b ≤ f b
  | _, _, _, _, .nil p z => ⟨_, .nil p z, fun _ => Nat.le_refl _⟩
  | _, _, _, 0, .non r => ⟨_, .non r, fun _ => Nat.le_refl _⟩
  | _, _, _, 0, .som q r z => ⟨_, .non r, fun b => by rw [z b]; omega⟩
  | _, _, _, i + 1, .non r => by
    obtain ⟨h, r', z⟩ := RS.drop i r
    exact ⟨h, .non r', z⟩
  | _, _, _, i + 1, .som (g := g1) q1 r z1 => by
    obtain ⟨h, r', z⟩ := RS.drop i r
    exact ⟨fun b => g1 b + h b, .som q1 r' fun _ => rfl, fun b => by show g1 b + h b ≤ _; have := z b; rw [z1 b]; omega⟩
/-- an empty slot takes another value, another tree -/
theorem RS.put : ∀ {σv : L2.St} {σ : S} {f g : Fp} {i : Nat} {v : V} {t : T}, RS K ϖ H σv (σ.set i none) f → i < σ.length → RT K H v t g → RS K ϖ H (σv.set i (some v)) (σ.set i (some t)) (fun b => g b + f b)
  | σv, [], _, _, _, _, _, _, hi, _ => absurd hi (Nat.not_lt_zero _)
  | σv, s :: σ, _, g, 0, v, t, r, _, q => by
    rw [List.set_cons_zero] at r ⊢
    cases r with
    | non r => exact .som q r fun b => rfl
  | σv, s :: σ, f, g, i + 1, v, t, r, hi, q => by
    rw [List.set_cons_succ] at r ⊢
    cases r with
    | non r =>
      have h := RS.put (i := i) r (by simpa using hi) q
      exact .non h
    | @som _ _ _ _ _ g1 h1 q1 r z1 =>
      have h := RS.put (i := i) r (by simpa using hi) q
      exact .som q1 h fun b => by rw [z1 b]; omega
theorem RS.putSame {σv : L2.St} {σ : S} {f g : Fp} {i : Nat} {v : V} {t : T} (r : RS K ϖ H σv (σ.set i none) f) (hi : i < σ.length) (e : σv[i]? = some (some v)) (q : RT K H v t g) : RS K ϖ H σv (σ.set i (some t)) (fun b => g b + f b) := by
  have h := r.put hi q
  have e2 : σv.set i (some v) = σv := by
    obtain ⟨h1, h2⟩ := List.getElem?_eq_some_iff.mp e
    rw [← h2, List.set_getElem_self]
  rw [e2] at h
  exact h
end

/-! ### what stays -/
/-- from H, where f is held, to H', where f' is held: all else stays, what is held anew is new -/
structure Fr (H : Hp) (f : Fp) (H' : Hp) (f' : Fp) : Prop where
  keep : ∀ b o, H b = some o → f b = 0 → H' b = some o
  new : ∀ b, f' b ≠ 0 → f b ≠ 0 ∨ H b = none
  stb : Stb H H'
theorem Fr.refl (H : Hp) (f : Fp) : Fr H f H f := ⟨fun _ _ h _ => h, fun _ h => .inl h, .refl H⟩
theorem Fr.trans {H H1 H2 : Hp} {f f1 f2 : Fp} (a : Fr H f H1 f1) (b : Fr H1 f1 H2 f2) : Fr H f H2 f2 := by
  refine ⟨fun c o h z => ?_, fun c h => ?_, a.stb.trans b.stb⟩
  · by_cases hf : f1 c = 0
    · exact b.keep c o (a.keep c o h z) hf
    · rcases a.new c hf with q | q
      · exact absurd z q
      · rw [h] at q; cases q
  · rcases b.new c h with q | q
    · exact a.new c q
    · by_cases hf : f c = 0
      · right
        cases e : H c with
        | none => rfl
        | some o => rw [a.keep c o e hf] at q; cases q
      · exact .inl hf
theorem Fr.le {H H' : Hp} {f f' g' : Fp} (a : Fr H f H' f') (h : ∀ b, g' b ≤ f' b) : Fr H f H' g' := ⟨a.keep, fun b e => a.new b (by have := h b; omega), a.stb⟩
theorem Fr.ge {H H' : Hp} {f g f' : Fp} (a : Fr H f H' f') (h : ∀ b, f b ≤ g b) : Fr H g H' f' := ⟨fun b o e z => a.keep b o e (by have := h b; omega), fun b e => (a.new b e).imp (fun q => by have := h b; omega) id, a.stb⟩
/-- beside what is held apart -/
theorem Fr.beside {H H' : Hp} {f f' g : Fp} (a : Fr H f H' f') : Fr H (fun b => g b + f b) H' (fun b => g b + f' b) := by
  refine ⟨fun b o e z => a.keep b o e (by have : g b + f b = 0 := z; omega), fun b e => ?_, a.stb⟩
  have e : g b + f' b ≠ 0 := e
  show g b + f b ≠ 0 ∨ _
  by_cases h : g b = 0
  · rcases a.new b (by omega) with q | q
    · exact .inl (by omega)
    · exact .inr q
  · exact .inl (by omega)
theorem Fr.apart {H H' : Hp} {f f' g : Fp} (a : Fr H f H' f') (o : OwnFp H g) (n : Nd fun b => g b + f b) (n' : Nd f') : Nd fun b => g b + f' b := fun b => by
  show g b + f' b ≤ 1
  have h1 : g b + f b ≤ 1 := n b
  have h2 := n' b
  by_cases hg : g b = 0
  · omega
  · by_cases hf : f' b = 0
    · omega
    · rcases a.new b hf with q | q
      · omega
      · obtain ⟨ob, e, _⟩ := o b hg
        rw [e] at q; cases q
/-- a new object -/
theorem Fr.laid {H : Hp} {p : Addr} {o : HO} {f : Fp} (h : H p = none) : Fr H f (upd H p o) (fun b => one p b + f b) := by
  refine ⟨fun b u e _ => by rw [upd_ne (ne_of_none e h)]; exact e, fun b e => ?_, .fresh h⟩
  have e : one p b + f b ≠ 0 := e
  by_cases hb : b = p
  · subst hb; exact .inr h
  · rw [one_ne hb] at e; exact .inl (by omega)
theorem Fr.laid0 {H : Hp} {p : Addr} {o : HO} {f : Fp} (h : H p = none) : Fr H f (upd H p o) f :=
  ⟨fun b u e _ => by rw [upd_ne (ne_of_none e h)]; exact e, fun b e => .inl e, .fresh h⟩
/-- a held object is written -/
theorem Fr.write {H : Hp} {p : Addr} {o u : HO} {f : Fp} (h : H p = some o) (w : isOwn o = true) (hf : f p ≠ 0) : Fr H f (upd H p u) f :=
  ⟨fun b z e q => by rw [upd_ne (fun y => hf (by rw [← y]; exact q))]; exact e, fun b e => .inl e, .own h w⟩
end DL

set_option Elab.async false
set_option linter.all false
set_option maxRecDepth 100000
set_option maxHeartbeats 4200000
/-! DL1: what an expression does of a state of data (R), its reading, one behind another, freezing. -/
namespace DL
open PySem PySem.Spec PyProof.Rows L2

inductive R (α : Type) where
  | ok (a : α) (σ : S)
  | exc (C : Addr) (xs : List (Str × D)) (σ : S)
  | stuck
def R.bind {α β : Type} (r : R α) (k : α → S → R β) : R β := match r with
  | .ok a σ => k a σ
  | .exc C xs σ => .exc C xs σ
  | .stuck => .stuck
@[simp] theorem R.bind_ok {α β : Type} (a : α) (σ : S) (k : α → S → R β) : (R.ok a σ).bind k = k a σ := rfl
@[simp] theorem R.bind_exc {α β : Type} (C : Addr) (xs : List (Str × D)) (σ : S) (k : α → S → R β) : (R.exc C xs σ : R α).bind k = .exc C xs σ := rfl
@[simp] theorem R.bind_stuck {α β : Type} (k : α → S → R β) : (R.stuck : R α).bind k = .stuck := rfl

inductive RTs (K : PySem.W.Frag) (H : Hp) : List V → List T → Fp → Prop
  | nil {f : Fp} : (∀ b, f b = 0) → RTs K H [] [] f
  | cons {v : V} {vs : List V} {t : T} {ts : List T} {f g h : Fp} : RT K H v t g → RTs K H vs ts h → (∀ b, f b = g b + h b) → RTs K H (v :: vs) (t :: ts) f
theorem Nd.le {f g : Fp} (n : Nd f) (h : ∀ b, g b ≤ f b) : Nd g := fun b => Nat.le_trans (h b) (n b)
section
variable {K : PySem.W.Frag} {H H' : Hp}
theorem RTs.own : ∀ {vs : List V} {ts : List T} {f : Fp}, RTs K H vs ts f → OwnFp H f
  | _, _, _, .nil z => fun b h => absurd (z b) h
  | _, _, f, .cons (g := g) (h := h) q r z => fun b hb => by
    by_cases hg : g b = 0
    · exact r.own b (by rw [z b] at hb; omega)
    · exact q.own b hg
theorem RTs.keep (s : Stb H H') : ∀ {vs : List V} {ts : List T} {f : Fp}, RTs K H vs ts f → (∀ b o, f b ≠ 0 → H b = some o → H' b = some o) → RTs K H' vs ts f
  | _, _, _, .nil z, _ => .nil z
  | _, _, f, .cons (g := g) (h := h) q r z, k => .cons (q.keep s fun b o hb => k b o (by rw [z b]; omega)) (RTs.keep s r fun b o hb => k b o (by rw [z b]; omega)) z
theorem RTs.length : ∀ {vs : List V} {ts : List T} {f : Fp}, RTs K H vs ts f → vs.length = ts.length
  | _, _, _, .nil _ => rfl
  | _, _, _, .cons _ r _ => by rw [List.length_cons, List.length_cons, RTs.length r]
theorem RTs.congr : ∀ {vs : List V} {ts : List T} {f g : Fp}, RTs K H vs ts f → (∀ b, g b = f b) → RTs K H vs ts g
  | _, _, _, _, .nil z, e => .nil fun b => by rw [e b, z b]
  | _, _, _, _, .cons q r z, e => .cons q r fun b => by rw [e b, z b]
theorem RTs.snoc : ∀ {vs : List V} {ts : List T} {f g : Fp} {v : V} {t : T}, RTs K H vs ts f → RT K H v t g → RTs K H (vs ++ [v]) (ts ++ [t]) (fun b => f b + g b)
  | _, _, f, g, _, _, .nil z, q => .cons q (.nil (f := fun _ => 0) fun _ => rfl) fun b => by show f b + g b = g b + 0; rw [z b]; omega
  | _, _, f, g, _, _, .cons (g := g1) (h := h1) q r z, p => .cons q (RTs.snoc r p) fun b => by show f b + g b = g1 b + (h1 b + g b); rw [z b]; omega
theorem RT.congr {v : V} {t : T} {f g : Fp} (h : RT K H v t f) (e : ∀ b, g b = f b) : RT K H v t g := by
  cases h with
  | val q z => exact .val q fun b => by rw [e b, z b]
  | lst a q z => exact .lst a q fun b => by rw [e b, z b]
  | ll a q z => exact .ll a q fun b => by rw [e b, z b]
  | dK a q z => exact .dK a q fun b => by rw [e b, z b]
  | dT a q z => exact .dT a q fun b => by rw [e b, z b]
theorem RT.vl {v : V} {d : D} (h : RD K H v d) : RT K H v (.val d) (fun _ => 0) := .val h fun _ => rfl
theorem RT.un {v : V} {d : D} {f : Fp} (h : RT K H v (.val d) f) : RD K H v d := by
  cases h with
  | val q _ => exact q
theorem RT.z {v : V} {d : D} {f : Fp} (h : RT K H v (.val d) f) : ∀ b, f b = 0 := by
  cases h with
  | val _ z => exact z
end

/-! ### readings -/
section
variable {α β γ δ : Type} (K : PySem.W.Frag) (ϖ : Pend) (W : WX)
/-- what must be wanted so that r, begun at H where f is held, ends well -/
def Post (Rl : Hp → β → α → Fp → Prop) (σv : L2.St) (r : R α) (H : Hp) (f : Fp) (Q : β → Hp → Prop) : Prop := match r with
  | .ok t σ => ∀ v H' g h, Rl H' v t g → RS K ϖ H' σv σ h → Nd (fun b => g b + h b) → Fr H f H' (fun b => g b + h b) → Q v H'
  | .exc C xs σ => ∀ d vs H' h, H' d = some (.xd vs) → RK K H' vs xs → RS K ϖ H' σv σ h → Nd h → Fr H f H' h → W (.ref C) (some d) σv H'
  | .stuck => False
def tX (Rl : Hp → β → α → Fp → Prop) (F : S → R α) : L2.St → Hp → (β → Hp → Prop) → Prop := fun σv H Q => ∃ σ h, RS K ϖ H σv σ h ∧ Nd h ∧ Post K ϖ W Rl σv (F σ) H h Q
def RB : Hp → Bool → Bool → Fp → Prop := fun _ b c g => b = c ∧ ∀ a, g a = 0
def RV (K : PySem.W.Frag) : Hp → V → T → Fp → Prop := fun H v t g => RT K H v t g
def RVs (K : PySem.W.Frag) : Hp → List V → List T → Fp → Prop := fun H v t g => RTs K H v t g
abbrev tE (F : S → R T) : TE := tX K ϖ W (RV K) F
abbrev tA (F : S → R (List T)) : TA := tX K ϖ W (RVs K) F
abbrev tT (F : S → R Bool) : TT := tX K ϖ W RB F
end
section
variable {α β γ δ : Type} {K : PySem.W.Frag} {ϖ : Pend} {W : WX} {Rl : Hp → β → α → Fp → Prop} {Rm : Hp → δ → γ → Fp → Prop} {σv : L2.St} {H H' H0 : Hp} {f g h f0 : Fp} {r : R α}
theorem Post.mono {Q Q' : β → Hp → Prop} (p : Post K ϖ W Rl σv r H f Q) (hq : ∀ v H', Q v H' → Q' v H') : Post K ϖ W Rl σv r H f Q' := by
  cases r with
  | ok t σ => exact fun v H' g h a b c d => hq v H' (p v H' g h a b c d)
  | exc C xs σ => exact p
  | stuck => exact p
theorem Post.fr {Q : β → Hp → Prop} (p : Post K ϖ W Rl σv r H0 f0 Q) (a : Fr H0 f0 H f) : Post K ϖ W Rl σv r H f Q := by
  cases r with
  | ok t σ => exact fun v H' g h x y z w => p v H' g h x y z (a.trans w)
  | exc C xs σ => exact fun d vs H' h x y z u w => p d vs H' h x y z u (a.trans w)
  | stuck => exact p
theorem tX.mono {F : S → R α} {Q Q' : β → Hp → Prop} (p : tX K ϖ W Rl F σv H Q) (hq : ∀ v H', Q v H' → Q' v H') : tX K ϖ W Rl F σv H Q' := by
  obtain ⟨σ, h, a, b, c⟩ := p
  exact ⟨σ, h, a, b, c.mono hq⟩
/-- ONE STEP BEHIND ANOTHER: vs, ts, g wait meanwhile -/
theorem ev {F : S → R α} {k : α → S → R γ} {σ : S} {vs : List V} {ts : List T} {Q : δ → Hp → Prop} (hp : RTs K H vs ts g) (hs : RS K ϖ H σv σ h) (nd : Nd fun b => g b + h b)
    (q : Post K ϖ W Rm σv ((F σ).bind k) H (fun b => g b + h b) Q) :
    tX K ϖ W Rl F σv H (fun u H2 => ∃ t2 g2 σ2 h2, Rl H2 u t2 g2 ∧ RTs K H2 vs ts g ∧ RS K ϖ H2 σv σ2 h2 ∧ Nd (fun b => g b + (g2 b + h2 b)) ∧ Post K ϖ W Rm σv (k t2 σ2) H2 (fun b => g b + (g2 b + h2 b)) Q) := by
  refine ⟨σ, h, hs, nd.le fun b => by show h b ≤ g b + h b; omega, ?_⟩
  cases e : F σ with
  | stuck => rw [e] at q; exact q
  | exc C xs σ' =>
    rw [e] at q
    exact fun d vs' H' h' a b c n w => q d vs' H' h' a b c n ((w.beside (g := g)).le fun b => by show h' b ≤ g b + h' b; omega)
  | ok t2 σ2 =>
    rw [e] at q
    intro v H2 g2 h2 a b n w
    have w' := w.beside (g := g)
    refine ⟨t2, g2, σ2, h2, a, hp.keep w.stb fun b o hb e => w.keep b o e (by have := nd b; have : g b + h b ≤ 1 := this; omega), b, w.apart hp.own nd n, q.fr w'⟩
theorem ev0 {F : S → R α} {k : α → S → R γ} {Q : δ → Hp → Prop} (q : tX K ϖ W Rm (fun σ => (F σ).bind k) σv H Q) :
    tX K ϖ W Rl F σv H (fun u H2 => ∃ t2 g2 σ2 h2, Rl H2 u t2 g2 ∧ RS K ϖ H2 σv σ2 h2 ∧ Nd (fun b => g2 b + h2 b) ∧ Post K ϖ W Rm σv (k t2 σ2) H2 (fun b => g2 b + h2 b) Q) := by
  obtain ⟨σ, h, hs, nd, q⟩ := q
  have e0 : (fun b => (0 : Nat) + h b) = h := by funext b; exact Nat.zero_add _
  refine (ev (Rl := Rl) (Rm := Rm) (F := F) (k := k) (Q := Q) (g := fun _ => 0) (vs := []) (ts := []) (.nil fun _ => rfl) hs (by rw [e0]; exact nd) (by rw [e0]; exact q)).mono fun u H2 ⟨t2, g2, σ2, h2, a, _, b, c, d⟩ => ?_
  have e1 : (fun b => (0 : Nat) + (g2 b + h2 b)) = fun b => g2 b + h2 b := by funext b; exact Nat.zero_add _
  rw [e1] at c d
  exact ⟨t2, g2, σ2, h2, a, b, c, d⟩
end
/-- new things beside: g is new, all else as it was -/
structure Nw (H H' : Hp) (g : Fp) : Prop where
  same : Same H H'
  new : ∀ b, g b ≠ 0 → H b = none
  nd : Nd g
theorem Nw.refl (H : Hp) : Nw H H (fun _ => 0) := ⟨.refl H, fun _ h => absurd rfl h, fun _ => Nat.zero_le _⟩
theorem Nw.laid {H : Hp} {p : Addr} {o : HO} (h : H p = none) : Nw H (upd H p o) (one p) :=
  ⟨fun b u e => by rw [upd_ne (ne_of_none e h)]; exact e, fun b e => by rw [of_one e]; exact h, fun b => by unfold one; split <;> omega⟩
theorem Nw.laid0 {H : Hp} {p : Addr} {o : HO} (h : H p = none) : Nw H (upd H p o) (fun _ => 0) :=
  ⟨fun b u e => by rw [upd_ne (ne_of_none e h)]; exact e, fun _ z => absurd rfl z, fun _ => Nat.zero_le _⟩
theorem Nw.stb {H H' : Hp} {g : Fp} (n : Nw H H' g) : Stb H H' := ⟨fun b xs e => n.same _ _ e, fun b o u e => n.same _ _ e⟩
theorem Nw.fr {H H' : Hp} {g f h : Fp} (n : Nw H H' g) (hf : ∀ b, h b ≤ f b) : Fr H f H' (fun b => g b + h b) :=
  ⟨fun b o e _ => n.same b o e, fun b e => by
    have e : g b + h b ≠ 0 := e
    by_cases z : g b = 0
    · exact .inl (by have := hf b; omega)
    · exact .inr (n.new b z), n.stb⟩
theorem Nw.ndw {H H' : Hp} {g h : Fp} (n : Nw H H' g) (o : OwnFp H h) (nh : Nd h) : Nd (fun b => g b + h b) := fun b => by
  show g b + h b ≤ 1
  have h1 := n.nd b
  have h2 := nh b
  by_cases z : g b = 0
  · omega
  · by_cases y : h b = 0
    · omega
    · obtain ⟨ob, e, _⟩ := o b y
      rw [n.new b z] at e; cases e
theorem Nw.rs {K : PySem.W.Frag} {H H' : Hp} {g h : Fp} {σv : L2.St} {σ : S} (n : Nw H H' g) (r : RS K ϖ H σv σ h) : RS K ϖ H' σv σ h := r.keep n.stb fun b o _ e => n.same b o e
section
variable {K : PySem.W.Frag} {ϖ : Pend} {W : WX} {σv : L2.St} {σ : S} {H H' : Hp} {f g h : Fp} {Q : VK} {t : T} {v : V}
/-- the end of an expression: a new thing -/
theorem Post.fin (p : Post K ϖ W (RV K) σv (.ok t σ) H f Q) (n : Nw H H' g) (q : RT K H' v t g) (hs : RS K ϖ H σv σ h) (nh : Nd h) (hf : ∀ b, h b ≤ f b) : Q v H' :=
  p v H' g h q (n.rs hs) (n.ndw hs.own nh) (n.fr hf)
/-- the end of an expression: data, the heap as it was -/
theorem Post.fin0 {d : D} (p : Post K ϖ W (RV K) σv (.ok (.val d) σ) H f Q) (q : RD K H v d) (hs : RS K ϖ H σv σ h) (nh : Nd h) (hf : ∀ b, h b ≤ f b) : Q v H :=
  p.fin (Nw.refl H) (.vl q) hs nh hf
theorem Post.finB {b : Bool} {Q : Bool → Hp → Prop} (p : Post K ϖ W RB σv (.ok b σ) H f Q) (hs : RS K ϖ H σv σ h) (nh : Nd h) (hf : ∀ b, h b ≤ f b) : Q b H :=
  p b H (fun _ => 0) h ⟨rfl, fun _ => rfl⟩ hs ((Nw.refl H).ndw hs.own nh) ((Nw.refl H).fr hf)
end

/-! ### the judgement -/
theorem _root_.L2.PE.imp {X : Cx} {e : Expr} {t t' : TE} (h : PE X e t) (i : ∀ σ H Q, t' σ H Q → t σ H Q) : PE X e t' := ⟨fun pins s σ H Q I w => h.run pins s σ H Q I (i _ _ _ w)⟩
theorem _root_.L2.PT.imp {X : Cx} {e : Expr} {t t' : TT} (h : PT X e t) (i : ∀ σ H Q, t' σ H Q → t σ H Q) : PT X e t' := ⟨fun pins s σ H Q I w => h.run pins s σ H Q I (i _ _ _ w)⟩
theorem _root_.L2.PA.imp {X : Cx} {e : List Expr} {t t' : TA} (h : PA X e t) (i : ∀ σ H Q, t' σ H Q → t σ H Q) : PA X e t' := ⟨fun pos pins s σ H Q I w => h.run pos pins s σ H Q I (i _ _ _ w)⟩
theorem _root_.L2.PS.imp {X : Cx} {e : Stmt} {t t' : TS} (h : PS X e t) (i : ∀ D σ H, t' D σ H → t D σ H) : PS X e t' := ⟨fun pins s σ H D I w => h.run pins s σ H D I (i _ _ _ w)⟩
theorem _root_.L2.PSs.imp {X : Cx} {e : List Stmt} {t t' : TS} (h : PSs X e t) (i : ∀ D σ H, t' D σ H → t D σ H) : PSs X e t' := ⟨fun pins s σ H D I w => h.run pins s σ H D I (i _ _ _ w)⟩
def DE (X : Cx) (ϖ : Pend) (W : WX) (e : Expr) (F : S → R T) : Prop := PE X e (tE X.K ϖ W F)
def DT (X : Cx) (ϖ : Pend) (W : WX) (e : Expr) (F : S → R Bool) : Prop := PT X e (tT X.K ϖ W F)
def DA (X : Cx) (ϖ : Pend) (W : WX) (e : List Expr) (F : S → R (List T)) : Prop := PA X e (tA X.K ϖ W F)

/-! ### freezing -/
inductive Gh : Hp → (Hp → Prop) → Prop
  | done {H : Hp} {P : Hp → Prop} : P H → Gh H P
  | frz {H : Hp} {P : Hp → Prop} {a : Addr} {xs : List V} : H a = some (.lst xs) → (∀ o, Gh (upd H a (.frz o (.lst xs))) P) → Gh H P
theorem Gh.inv {X : Cx} {pins : List (Addr × Obj)} {σ : L2.St} {s : Shared} : ∀ {H : Hp} {P : Hp → Prop}, Gh H P → Inv X pins σ H s → ∃ H', P H' ∧ Inv X pins σ H' s := by
  intro H P g
  induction g with
  | done p => exact fun I => ⟨_, p, I⟩
  | frz e _ ih =>
    intro I
    obtain ⟨o, I'⟩ := I.lock e True.intro
    exact ih o I'
theorem Gh.mono {H : Hp} {P P' : Hp → Prop} (g : Gh H P) (h : ∀ H, P H → P' H) : Gh H P' := by
  induction g with
  | done p => exact .done (h _ p)
  | frz e _ ih => exact .frz e fun o => ih o h
theorem Gh.bind {H : Hp} {P P' : Hp → Prop} (g : Gh H P) (h : ∀ H, P H → Gh H P') : Gh H P' := by
  induction g with
  | done p => exact h _ p
  | frz e _ ih => exact .frz e fun o => ih o h
theorem _root_.L2.PE.ghost {X : Cx} {e : Expr} {t : TE} (h : PE X e t) : PE X e (fun σ H Q => t σ H fun v H1 => Gh H1 (Q v)) :=
  ⟨fun pins s σ H Q I w => thn (h.run pins s σ H _ I w) fun u s1 ⟨v, H1, I1, r, g⟩ => by
    obtain ⟨H2, q, I2⟩ := g.inv I1
    exact ⟨v, H2, I2, r, q⟩⟩

/-- the data that it is, once it is frozen -/
def T.fz : T → Option D
  | .val d => some d
  | .lst xs => some (.lst xs)
  | .ll xs => some (.lst (xs.map .lst))
  | _ => none
theorem frz_one {H : Hp} {a : Addr} {vs : List V} (e : H a = some (.lst vs)) (o : Obj) : Stb H (upd H a (.frz o (.lst vs))) := .own e rfl
theorem frz_ll {K : PySem.W.Frag} : ∀ {vs : List V} {xs : List (List D)} {g : Fp} {H : Hp}, RL K H vs xs g → Nd g → Gh H fun H' => RDs K H' vs (xs.map D.lst) ∧ Stb H H' ∧ ∀ b, g b = 0 → H' b = H b
  | _, _, _, H, .nil _, _ => .done ⟨.nil, .refl H, fun _ _ => rfl⟩
  | _, _, f, H, .cons (a := a) (us := us) (ds := ds) (g := g) e q r z, n => by
    have na : g a = 0 := by have := n a; rw [z a, one_same] at this; omega
    refine .frz e fun o => ?_
    have st := frz_one e o
    have r' : RL K (upd H a (.frz o (.lst us))) _ _ g := r.keep st fun b ob hb eb => by rw [upd_ne (fun y => hb (by rw [y]; exact na))]; exact eb
    refine (frz_ll r' (n.le fun b => by rw [z b]; omega)).mono fun H' ⟨h1, h2, h3⟩ => ⟨.cons (.lst (.inl ⟨o, h2.frz _ _ _ upd_same⟩) (q.stb (st.trans h2))) h1, st.trans h2, fun b hb => ?_⟩
    rw [h3 b (by rw [z b] at hb; omega), upd_ne (fun y => by rw [y, z a, one_same] at hb; omega)]
theorem frz_T {K : PySem.W.Frag} {H : Hp} {v : V} {t : T} {d : D} {g : Fp} (h : RT K H v t g) (e : t.fz = some d) (n : Nd g) : Gh H fun H' => RD K H' v d ∧ Stb H H' ∧ ∀ b, g b = 0 → H' b = H b := by
  cases h with
  | val q z => cases e; exact .done ⟨q, .refl H, fun _ _ => rfl⟩
  | @lst a vs ds _ ea q z =>
    cases e
    refine .frz ea fun o => .done ⟨.lst (.inl ⟨o, upd_same⟩) (q.stb (frz_one ea o)), frz_one ea o, fun b hb => upd_ne fun y => ?_⟩
    rw [y, z a, one_same] at hb; omega
  | @ll a vs xs _ g' ea q z =>
    cases e
    have na : g' a = 0 := by have := n a; rw [z a, one_same] at this; omega
    refine .frz ea fun o => ?_
    have st := frz_one ea o
    have r' : RL K (upd H a (.frz o (.lst vs))) _ _ g' := q.keep st fun b ob hb eb => by rw [upd_ne (fun y => hb (by rw [y]; exact na))]; exact eb
    refine (frz_ll r' (n.le fun b => by rw [z b]; omega)).mono fun H' ⟨h1, h2, h3⟩ => ⟨.lst (.inl ⟨o, h2.frz _ _ _ upd_same⟩) h1, st.trans h2, fun b hb => ?_⟩
    rw [h3 b (by rw [z b] at hb; omega), upd_ne (fun y => by rw [y, z a, one_same] at hb; omega)]
  | dK _ _ _ => cases e
  | dT _ _ _ => cases e

/-- .. as an expression's value -/
def eV (F : S → R T) : S → R T := fun σ => (F σ).bind fun t σ' => match t.fz with
  | some d => .ok (.val d) σ'
  | none => .stuck
theorem d_V {X : Cx} {ϖ : Pend} {W : WX} {e : Expr} {F : S → R T} (h : DE X ϖ W e F) : DE X ϖ W e (eV F) := by
  refine (PE.ghost h).imp fun σv H Q q => (ev0 q).mono fun v H1 ⟨t, g, σ, h, a, b, n, p⟩ => ?_
  have a : RT X.K H1 v t g := a
  cases e : t.fz with
  | none => simp only [e] at p; exact p.elim
  | some d =>
    simp only [e] at p
    refine (frz_T a e (n.le fun b => by show g b ≤ g b + h b; omega)).mono fun H2 ⟨h1, h2, h3⟩ => ?_
    have hk : ∀ c o, h c ≠ 0 → H1 c = some o → H2 c = some o := fun c o hc eo => by
      have : g c + h c ≤ 1 := n c
      rw [h3 c (by omega)]; exact eo
    refine p v H2 (fun _ => 0) h (.vl h1) (b.keep h2 hk) (fun c => by have : g c + h c ≤ 1 := n c; show 0 + h c ≤ 1; omega) ⟨fun c o eo z => ?_, fun c hc => .inl ?_, h2⟩
    · have z : g c + h c = 0 := z
      rw [h3 c (by omega)]; exact eo
    · have hc : 0 + h c ≠ 0 := hc
      show g c + h c ≠ 0
      omega

/-! ### names, constants -/
/-- a name: data as it is, a list that the slot holds is frozen -/
def eN (i : Nat) : S → R T := fun σ => match σ[i]? with
  | some (some t) => (match t.fz with
    | some d => .ok (.val d) (σ.set i (some (.val d)))
    | none => .stuck)
  | _ => .stuck
/-- a name: what it holds is taken out of the slot (data: as it is) -/
def eM (i : Nat) : S → R T := fun σ => match σ[i]? with
  | some (some (.val d)) => .ok (.val d) σ
  | some (some t) => .ok t (σ.set i none)
  | _ => .stuck
def eC (d : D) : S → R T := fun σ => .ok (.val d) σ
section
variable {X : Cx} {ϖ : Pend} {W : WX}
theorem d_var {e : Expr} {i : Nat} (h : PE X e (tVar i)) : DE X ϖ W e (eN i) := by
  refine (PE.ghost h).imp fun σv H Q ⟨σ, f, hs, n, p⟩ => ?_
  unfold eN at p
  cases e : σ[i]? with
  | none => rw [e] at p; exact p.elim
  | some o =>
    cases o with
    | none => rw [e] at p; exact p.elim
    | some t =>
      rw [e] at p
      dsimp only at p
      cases e2 : t.fz with
      | none => rw [e2] at p; exact p.elim
      | some d =>
        rw [e2] at p
        dsimp only at p
        obtain ⟨v, g, h, ev, q, r, z⟩ := hs.out e
        refine ⟨v, ev, ?_⟩
        refine (frz_T q e2 (n.le fun b => by rw [z b]; omega)).mono fun H2 ⟨h1, h2, h3⟩ => ?_
        have hi : i < σ.length := (List.getElem?_eq_some_iff.mp e).1
        have r' : RS X.K ϖ H2 σv (σ.set i none) h := r.keep h2 fun c o hc eo => by
          have := n c; rw [z c] at this
          rw [h3 c (by omega)]; exact eo
        have r2 := r'.putSame (t := .val d) (g := fun _ => 0) hi ev (.vl h1)
        refine p v H2 (fun _ => 0) _ (.vl h1) r2 (fun c => by show 0 + (0 + h c) ≤ 1; have := n c; rw [z c] at this; omega) ⟨fun c o eo hz => ?_, fun c hc => .inl ?_, h2⟩
        · rw [z c] at hz; rw [h3 c (by omega)]; exact eo
        · have hc : 0 + (0 + h c) ≠ 0 := hc
          rw [z c]; omega
theorem d_mv {e : Expr} {i : Nat} (h : PE X e (tVar i)) : DE X ϖ W e (eM i) := by
  refine PE.imp h fun σv H Q ⟨σ, f, hs, n, p⟩ => ?_
  unfold eM at p
  cases e : σ[i]? with
  | none => rw [e] at p; exact p.elim
  | some o =>
    cases o with
    | none => rw [e] at p; exact p.elim
    | some t =>
      obtain ⟨v, g, h, ev, q, r, z⟩ := hs.out e
      refine ⟨v, ev, ?_⟩
      have key : ∀ t', t' = t → Post X.K ϖ W (RV X.K) σv (.ok t' (σ.set i none)) H f Q → Q v H := fun t' et p => p v H g h (et ▸ q) r (n.le fun b => Nat.le_of_eq (z b).symm) ((Fr.refl H f).le fun b => Nat.le_of_eq (z b).symm)
      rw [e] at p
      cases t with
      | val d => exact p.fin0 q.un hs n fun _ => Nat.le_refl _
      | lst xs => exact key _ rfl p
      | ll xs => exact key _ rfl p
      | dK xs => exact key _ rfl p
      | dT xs => exact key _ rfl p
/-- an expression that gives one and the same data wherever it stands -/
theorem d_const {e : Expr} {v : V} {d : D} (h : PE X e (tC v)) (r : ∀ H, RD X.K H v d) : DE X ϖ W e (eC d) :=
  PE.imp h fun σv H Q ⟨σ, f, hs, n, p⟩ => p.fin0 (r H) hs n fun _ => Nat.le_refl _
end
end DL

set_option Elab.async false
set_option linter.all false
set_option maxRecDepth 100000
set_option maxHeartbeats 4200000
/-! DL2: operators, comparisons, subscripts, slices, displays, tests. -/
namespace DL
open PySem PySem.Spec PyProof.Rows L2

mutual
def D.py : D → PyData
  | .non => .none
  | .bl b => .bool b
  | .int i => .int i
  | .str x => .str x
  | .tup xs => .tuple (D.pys xs)
  | .lst xs => .list (D.pys xs)
def D.pys : List D → List PyData
  | [] => []
  | x :: xs => D.py x :: D.pys xs
end
mutual
theorem D.plain : ∀ d : D, d.py.plain = true
  | .non | .bl _ | .int _ | .str _ => rfl
  | .tup xs => by unfold D.py PyData.plain; exact D.plains xs
  | .lst xs => by unfold D.py PyData.plain; exact D.plains xs
theorem D.plains : ∀ ds : List D, PyData.plainAll (D.pys ds) = true
  | [] => rfl
  | x :: xs => by unfold D.pys PyData.plainAll; rw [D.plain x, D.plains xs]; rfl
end
mutual
theorem RD.dp {K : PySem.W.Frag} {H : Hp} {v : V} {d : D} (h : RD K H v d) : Dp K H v d.py := by
  cases h with
  | non => exact .non
  | bl b => exact .bl b
  | int i => exact .int i
  | str x => exact .str x
  | tup q r => exact .tup q (RDs.dp r)
  | lst q r => exact .lst q.sq (RDs.dp r)
theorem RDs.dp {K : PySem.W.Frag} {H : Hp} {vs : List V} {ds : List D} (h : RDs K H vs ds) : DpAll K H vs (D.pys ds) := by
  cases h with
  | nil => exact .nil
  | cons q r => exact .cons (RD.dp q) (RDs.dp r)
end
/-- what == says -/
def D.eqv (a b : D) : Bool := PyData.eqv a.py b.py
def D.dep (a : D) : Nat := a.py.depth

/-- the items of a list, held or frozen; of a list or a tuple -/
def T.ls : T → Option (List D)
  | .lst xs => some xs
  | .val (.lst xs) => some xs
  | _ => none
def T.sq : T → Option (List D)
  | .lst xs => some xs
  | .val (.lst xs) => some xs
  | .val (.tup xs) => some xs
  | _ => none
section
variable {K : PySem.W.Frag} {H : Hp}
theorem RT.ls {v : V} {t : T} {g : Fp} {xs : List D} (h : RT K H v t g) (e : t.ls = some xs) : ∃ a vs, v = .ref a ∧ SqL K H a vs ∧ RDs K H vs xs := by
  cases h with
  | val q z =>
    cases q with
    | lst q r => cases e; exact ⟨_, _, rfl, q.sq, r⟩
    | _ => cases e
  | lst q r z => cases e; exact ⟨_, _, rfl, .of q, r⟩
  | _ => cases e
theorem RT.sq {v : V} {t : T} {g : Fp} {xs : List D} (h : RT K H v t g) (e : t.sq = some xs) : ∃ a vs, v = .ref a ∧ (SqL K H a vs ∨ SqT K H a vs) ∧ RDs K H vs xs := by
  cases h with
  | val q z =>
    cases q with
    | lst q r => cases e; exact ⟨_, _, rfl, .inl q.sq, r⟩
    | tup q r => cases e; exact ⟨_, _, rfl, .inr q, r⟩
    | _ => cases e
  | lst q r z => cases e; exact ⟨_, _, rfl, .inl (.of q), r⟩
  | _ => cases e
theorem RT.int {v : V} {i : Int} {g : Fp} (h : RT K H v (.val (.int i)) g) : v = .int i := by
  cases h.un; rfl
theorem RT.str {v : V} {i : Str} {g : Fp} (h : RT K H v (.val (.str i)) g) : v = .str i := by
  cases h.un; rfl
theorem RT.bl {v : V} {i : Bool} {g : Fp} (h : RT K H v (.val (.bl i)) g) : v = .bl i := by
  cases h.un; rfl
theorem RT.non {v : V} {g : Fp} (h : RT K H v (.val .non) g) : v = .non := by
  cases h.un; rfl
theorem RT.tup {v : V} {xs : List D} {g : Fp} (h : RT K H v (.val (.tup xs)) g) : ∃ a vs, v = .ref a ∧ SqT K H a vs ∧ RDs K H vs xs := by
  cases h.un with
  | tup q r => exact ⟨_, _, rfl, q, r⟩
end

/-! ### two operands -/
def OpT (X : Cx) (f : Value → Value → Sem Value) (o : T → T → Option T) : Prop :=
  ∀ (pins : List (Addr × Obj)) (s : Shared) (σ : L2.St) (H : Hp) (x y : V) (v u : Value) (tx ty t : T) (g1 g2 : Fp) (Q : VK), Inv X pins σ H s → RelV x v → RelV y u → RT X.K H x tx g1 → RT X.K H y ty g2 → o tx ty = some t →
    (∀ z H' g, RT X.K H' z t g → Nw H H' g → Q z H') → wpAny (model X.prog X.w) X.A (f v u) (EP X pins σ Q) X.xe s
def rT (K : PySem.W.Frag) (o : T → T → Option T) : R2 := fun x y H Q => ∃ tx ty t g1 g2, RT K H x tx g1 ∧ RT K H y ty g2 ∧ o tx ty = some t ∧ ∀ z H' g, RT K H' z t g → Nw H H' g → Q z H'
theorem OpT.r {X : Cx} {f : Value → Value → Sem Value} {o : T → T → Option T} (h : OpT X f o) : OpR X f (rT X.K o) := by
  intro pins s σ H x y v u Q I rx ry ⟨tx, ty, t, g1, g2, r1, r2, e, q⟩
  exact h pins s σ H x y v u tx ty t g1 g2 Q I rx ry r1 r2 e q
/-- from a rule of the layer -/
theorem OpT.of {X : Cx} {f : Value → Value → Sem Value} {o : T → T → Option T} {r : R2} (h : OpR X f r)
    (i : ∀ (H : Hp) (x y : V) (tx ty t : T) (g1 g2 : Fp) (Q : VK), RT X.K H x tx g1 → RT X.K H y ty g2 → o tx ty = some t → (∀ z H' g, RT X.K H' z t g → Nw H H' g → Q z H') → r x y H Q) : OpT X f o :=
  fun pins s σ H x y v u tx ty t g1 g2 Q I rx ry r1 r2 e q => h pins s σ H x y v u Q I rx ry (i H x y tx ty t g1 g2 Q r1 r2 e q)
/-- one function, then another where the first has no answer -/
def oOr (o p : T → T → Option T) : T → T → Option T := fun x y => match o x y with
  | some t => some t
  | none => p x y
theorem OpT.or {X : Cx} {f : Value → Value → Sem Value} {o p : T → T → Option T} (h : OpT X f o) (h' : OpT X f p) : OpT X f (oOr o p) := by
  intro pins s σ H x y v u tx ty t g1 g2 Q I rx ry r1 r2 e q
  unfold oOr at e
  cases e1 : o tx ty with
  | some t' => rw [e1] at e; cases e; exact h pins s σ H x y v u tx ty t g1 g2 Q I rx ry r1 r2 e1 q
  | none => rw [e1] at e; exact h' pins s σ H x y v u tx ty t g1 g2 Q I rx ry r1 r2 e q
/-- ints -/
def oInt (C : Int → Int → Bool) (g : Int → Int → D) : T → T → Option T
  | .val (.int i), .val (.int j) => if C i j = true then some (.val (g i j)) else none
  | _, _ => none
theorem oInt_inv {C : Int → Int → Bool} {g : Int → Int → D} {x y t : T} (e : oInt C g x y = some t) : ∃ i j, x = .val (.int i) ∧ y = .val (.int j) ∧ C i j = true ∧ t = .val (g i j) := by
  unfold oInt at e
  split at e
  · split at e
    · cases e; exact ⟨_, _, rfl, rfl, by assumption, rfl⟩
    · cases e
  · cases e
theorem OpT.int {X : Cx} {f : Value → Value → Sem Value} {C : Int → Int → Prop} {g : Int → Int → V} {C' : Int → Int → Bool} {g' : Int → Int → D} (h : OpR X f (rI C g)) (hC : ∀ i j, C' i j = true → C i j) (hg : ∀ i j H, RD X.K H (g i j) (g' i j)) : OpT X f (oInt C' g') := by
  refine .of h fun H x y tx ty t g1 g2 Q r1 r2 e q => ?_
  obtain ⟨i, j, rfl, rfl, hc, rfl⟩ := oInt_inv e
  exact ⟨i, j, r1.int, r2.int, hC _ _ hc, q _ H _ (.vl (hg i j H)) (Nw.refl H)⟩
theorem rI_of0 {X : Cx} {f : Value → Value → Sem Value} {g : Int → Int → V} (h : OpR X f (rI0 g)) : OpR X f (rI (fun _ _ => True) g) := by
  intro pins s σ H x y v u Q I rx ry ⟨i, j, e1, e2, _, q⟩
  exact h pins s σ H x y v u Q I rx ry ⟨i, j, e1, e2, q⟩
theorem OpT.int0 {X : Cx} {f : Value → Value → Sem Value} {g : Int → Int → V} {g' : Int → Int → D} (h : OpR X f (rI0 g)) (hg : ∀ i j H, RD X.K H (g i j) (g' i j)) : OpT X f (oInt (fun _ _ => true) g') :=
  .int (rI_of0 h) (fun _ _ _ => True.intro) hg
/-- texts -/
def oCatS : T → T → Option T
  | .val (.str a), .val (.str b) => if a.length + b.length ≤ sizeLine then some (.val (.str (a ++ b))) else none
  | _, _ => none
def oCatT : T → T → Option T
  | .val (.tup xs), .val (.tup ys) => if xs.length + ys.length ≤ sizeLine then some (.val (.tup (xs ++ ys))) else none
  | _, _ => none
def oCatL (x y : T) : Option T := match x.ls, y.ls with
  | some xs, some ys => if xs.length + ys.length ≤ sizeLine then some (.lst (xs ++ ys)) else none
  | _, _ => none
section
variable {X : Cx}
theorem ot_catS : OpT X (binaryOp .Add) oCatS := by
  refine .of op_add_str fun H x y tx ty t g1 g2 Q r1 r2 e q => ?_
  unfold oCatS at e
  split at e
  · split at e
    · cases e; exact ⟨_, _, r1.str, r2.str, by assumption, q _ H _ (.vl (.str _)) (Nw.refl H)⟩
    · cases e
  · cases e
theorem ot_catT : OpT X (binaryOp .Add) oCatT := by
  refine .of op_catA fun H x y tx ty t g1 g2 Q r1 r2 e q => ?_
  unfold oCatT at e
  split at e
  · split at e
    · rename_i xs ys hz
      cases e
      obtain ⟨a, vs, rfl, s1, d1⟩ := r1.tup
      obtain ⟨b, ws, rfl, s2, d2⟩ := r2.tup
      refine ⟨a, b, vs, ws, rfl, rfl, s1, s2, by rw [d1.length, d2.length]; exact hz, fun e => ?_, fun _ e => ?_, fun _ _ p hp => ?_⟩
      · subst e
        cases d1
        exact q _ H _ (.vl (.tup s2 d2)) (Nw.refl H)
      · subst e
        cases d2
        rw [List.append_nil] at q
        exact q _ H _ (.vl (.tup s1 d1)) (Nw.refl H)
      · have st : Stb H (upd H p (.tup (vs ++ ws))) := .fresh hp
        exact q _ _ _ (.vl (.tup (.of upd_same) ((d1.stb st).append (d2.stb st)))) (Nw.laid0 hp)
    · cases e
  · cases e
def rCatS (K : PySem.W.Frag) : R2 := fun x y H Q => ∃ l b xs zs, x = .ref l ∧ y = .ref b ∧ SqL K H l xs ∧ SqL K H b zs ∧ xs.length + zs.length ≤ sizeLine ∧ ∀ p, H p = none → Q (.ref p) (upd H p (.lst (xs ++ zs)))
theorem op_catS : OpR X (binaryOp .Add) (rCatS X.K) := by
  rintro pins s σ H _ _ v u Q I rx ry ⟨l, b, xs, zs, rfl, rfl, pL, pB, hz, q⟩
  cases rx; cases ry
  obtain ⟨us, r, ⟨⟨_, _, _, sl⟩, n, e, c1, c2, c3⟩, _⟩ := I.list pL
  obtain ⟨ws, r2, ⟨⟨_, _, _, sl2⟩, n2, e2, k1, k2, k3⟩, _⟩ := I.list pB
  simp only at c1 c2 c3 k1 k2 k3
  subst c1 c2 c3 k1 k2 k3
  have fits : us.toArray.size + ws.toArray.size ≤ sizeLine := by rw [List.size_toArray, List.size_toArray, ← r.length, ← r2.length]; exact hz
  refine concat_meets ⟨_, e, rfl⟩ ⟨_, e2, rfl⟩ noFill_list_add seq_list_add PySem.F.slot_list_add PySem.F.entry_list_add (PySem.F.args_list_add_2 _ _) (list_addW l b us.toArray ws.toArray n n2 none none sl sl2 fits) ⟨e, e2, ?_⟩
  rw [show us.toArray ++ ws.toArray = (us ++ ws).toArray by simp]
  exact ⟨.ref _, _, I.lnew (t' := s.toks) (r.append r2) (by rw [List.length_append]; exact hz), rfl, q _ (I.fresh)⟩
theorem ot_catL : OpT X (binaryOp .Add) oCatL := by
  refine .of op_catS fun H x y tx ty t g1 g2 Q r1 r2 e q => ?_
  unfold oCatL at e
  split at e
  · split at e
    · rename_i xs ys ex ey hz
      cases e
      obtain ⟨a, vs, rfl, s1, d1⟩ := r1.ls ex
      obtain ⟨b, ws, rfl, s2, d2⟩ := r2.ls ey
      refine ⟨a, b, vs, ws, rfl, rfl, s1, s2, by rw [d1.length, d2.length]; exact hz, fun p hp => ?_⟩
      have st : Stb H (upd H p (.lst (vs ++ ws))) := .fresh hp
      exact q _ _ _ (.lst upd_same ((d1.stb st).append (d2.stb st)) fun _ => rfl) (Nw.laid hp)
    · cases e
  · cases e
/-- + -/
def oAdd : T → T → Option T := oOr (oInt (fun _ _ => true) fun i j => .int (i + j)) (oOr oCatS (oOr oCatT oCatL))
theorem ot_add : OpT X (binaryOp .Add) oAdd := .or (.int0 op_add fun _ _ _ => .int _) (.or ot_catS (.or ot_catT ot_catL))
def oSub : T → T → Option T := oInt (fun _ _ => true) fun i j => .int (i - j)
theorem ot_sub : OpT X (binaryOp .Sub) oSub := .int0 op_sub fun _ _ _ => .int _
/-- how many bits two factors may have together -/
def mulOk (i j : Int) : Bool := decide (i.natAbs.log2 + j.natAbs.log2 < 1000000)
theorem mulOk_of (i j : Int) (h : mulOk i j = true) : CMulW i j := show i.natAbs.log2 + j.natAbs.log2 < 1000000 from of_decide_eq_true h
def oRepT : T → T → Option T
  | .val (.tup xs), .val (.int k) => if xs ≠ [] ∧ 2 ≤ k ∧ k ≤ 1000 ∧ xs.length ≤ 1000 then some (.val (.tup (List.replicate k.toNat xs).flatten)) else none
  | _, _ => none
def oRepL (x y : T) : Option T := match x, y with
  | .lst xs, .val (.int k) => if -(2 ^ 63) ≤ k ∧ k < 2 ^ 63 ∧ xs.length * k.toNat ≤ sizeLine then some (.lst (List.replicate k.toNat xs).flatten) else none
  | _, _ => none
theorem RDs.rep {K : PySem.W.Frag} {H : Hp} {vs : List V} {ds : List D} (h : RDs K H vs ds) : ∀ n : Nat, RDs K H (List.replicate n vs).flatten (List.replicate n ds).flatten
  | 0 => .nil
  | n + 1 => by rw [List.replicate_succ, List.replicate_succ, List.flatten_cons, List.flatten_cons]; exact h.append (RDs.rep h n)
theorem ot_repT : OpT X (binaryOp .Mult) oRepT := by
  refine .of op_repT fun H x y tx ty t g1 g2 Q r1 r2 e q => ?_
  unfold oRepT at e
  split at e
  · split at e
    · rename_i xs k hc
      cases e
      obtain ⟨h1, h2, h3, h4⟩ := hc
      obtain ⟨a, vs, rfl, s1, d1⟩ := r1.tup
      refine ⟨a, k, vs, rfl, r2.int, s1, fun e => h1 ?_, h2, h3, by rw [d1.length]; exact h4, fun p hp => ?_⟩
      · subst e; cases d1; rfl
      · exact q _ _ _ (.vl (.tup (.of upd_same) ((d1.rep _).stb (.fresh hp)))) (Nw.laid0 hp)
    · cases e
  · cases e
theorem ot_repL : OpT X (binaryOp .Mult) oRepL := by
  refine .of op_rep fun H x y tx ty t g1 g2 Q r1 r2 e q => ?_
  unfold oRepL at e
  split at e
  · split at e
    · rename_i xs k hc
      cases e
      obtain ⟨h1, h2, h3⟩ := hc
      cases r1 with
      | lst e1 d1 z =>
        refine ⟨_, k, _, rfl, r2.int, e1, h1, h2, by rw [d1.length]; exact h3, fun p hp => ?_⟩
        exact q _ _ _ (.lst upd_same ((d1.rep _).stb (.fresh hp)) fun _ => rfl) (Nw.laid hp)
    · cases e
  · cases e
/-- * -/
def oMul : T → T → Option T := oOr (oInt mulOk fun i j => .int (i * j)) (oOr oRepT oRepL)
theorem ot_mul : OpT X (binaryOp .Mult) oMul := .or (.int op_mulW mulOk_of fun _ _ _ => .int _) (.or ot_repT ot_repL)
/-- //, by any divisor but 0 below 2 ^ 9000 -/
def CDivA (_ j : Int) : Prop := j ≠ 0 ∧ j.natAbs.log2 < 9000
def divOk (_ j : Int) : Bool := decide (j ≠ 0 ∧ j.natAbs.log2 < 9000)
theorem divOk_of (i j : Int) (h : divOk i j = true) : CDivA i j := show j ≠ 0 ∧ j.natAbs.log2 < 9000 from of_decide_eq_true h
theorem op_fdivA : OpR X (binaryOp .FloorDiv) (rI CDivA fun i j => .int (i.fdiv j)) := opI fun i j _ _ _ _ _ hc q => floordiv_int hc.1 q (.inl (PyProof.noPylong_of_log2 hc.2))
def oDiv : T → T → Option T := oInt divOk fun i j => .int (i.fdiv j)
theorem ot_div : OpT X (binaryOp .FloorDiv) oDiv := .int op_fdivA divOk_of fun _ _ _ => .int _
def oMod : T → T → Option T := oInt (fun _ j => decide (j ≠ 0)) fun i j => .int (i.fmod j)
theorem ot_mod : OpT X (binaryOp .Mod) oMod := .int op_modN (fun i j h => of_decide_eq_true h) fun _ _ _ => .int _
def powOk (i j : Int) : Bool := decide (0 ≤ j ∧ j ≤ 1000000 ∧ i.natAbs < 2 ^ 64)
theorem powOk_of (i j : Int) (h : powOk i j = true) : CPow i j := show 0 ≤ j ∧ j ≤ 1000000 ∧ i.natAbs < 2 ^ 64 from of_decide_eq_true h
def oPow : T → T → Option T := oInt powOk fun i j => .int (i ^ j.toNat)
theorem ot_pow : OpT X (binaryOp .Pow) oPow := .int op_pow powOk_of fun _ _ _ => .int _
def oShl : T → T → Option T := oInt powOk fun i j => .int (i * 2 ^ j.toNat)
theorem ot_shl : OpT X (binaryOp .LShift) oShl := .int op_shl powOk_of fun _ _ _ => .int _
def oShr : T → T → Option T := oInt (fun _ j => decide (0 ≤ j)) fun i j => .int (i / 2 ^ j.toNat)
theorem ot_shr : OpT X (binaryOp .RShift) oShr := .int op_shr (fun i j h => of_decide_eq_true h) fun _ _ _ => .int _
def oAnd : T → T → Option T := oInt (fun _ _ => true) fun i j => .int (Builtin.bitAnd i j)
theorem ot_and : OpT X (binaryOp .BitAnd) oAnd := .int0 op_and fun _ _ _ => .int _
def oBor : T → T → Option T := oInt (fun _ _ => true) fun i j => .int (Builtin.bitOr i j)
theorem ot_bor : OpT X (binaryOp .BitOr) oBor := .int0 op_or fun _ _ _ => .int _

/-! comparisons -/
def oEq : T → T → Option T
  | .val a, .val b => if min a.dep b.dep ≤ 63 then some (.val (.bl (D.eqv a b))) else none
  | x, y => match x.ls, y.ls with
    | some xs, some ys => if min (D.lst xs).dep (D.lst ys).dep ≤ 63 then some (.val (.bl (D.eqv (.lst xs) (.lst ys)))) else none
    | _, _ => none
def oNe : T → T → Option T
  | .val a, .val b => if min a.dep b.dep ≤ 63 then some (.val (.bl (!D.eqv a b))) else none
  | x, y => match x.ls, y.ls with
    | some xs, some ys => if min (D.lst xs).dep (D.lst ys).dep ≤ 63 then some (.val (.bl (!D.eqv (.lst xs) (.lst ys)))) else none
    | _, _ => none
/-- a held list as data -/
theorem RT.dp {K : PySem.W.Frag} {H : Hp} {v : V} {t : T} {g : Fp} {xs : List D} (h : RT K H v t g) (e : t.ls = some xs) : Dp K H v (D.lst xs).py := by
  obtain ⟨a, vs, rfl, q, r⟩ := h.ls e
  unfold D.py
  exact .lst q r.dp
theorem eqD_run {pins : List (Addr × Obj)} {s : Shared} {σ : L2.St} {H : Hp} {x y : V} {v u : Value} {a b : D} {Q : VK} (hu : X.A.units + 64 < cLine) (I : Inv X pins σ H s) (rx : RelV x v) (ry : RelV y u) (h1 : Dp X.K H x a.py) (h2 : Dp X.K H y b.py) (hd : min a.dep b.dep ≤ 63)
    (q : Q (.bl (D.eqv a b)) H) : wpAny (model X.prog X.w) X.A (compareOp .Eq v u) (EP X pins σ Q) X.xe s := by
  obtain ⟨as, e1⟩ := Dp.reads I _ x v h1 rx
  obtain ⟨bs, e2⟩ := Dp.reads I _ y u h2 ry
  have hd : min a.py.depth b.py.depth ≤ 63 := hd
  exact SeqAt.eq_plain e1 e2 a.plain b.plain (by omega) ⟨.bl _, H, I, rfl, q⟩
theorem neD_run {pins : List (Addr × Obj)} {s : Shared} {σ : L2.St} {H : Hp} {x y : V} {v u : Value} {a b : D} {Q : VK} (hu : X.A.units + 64 < cLine) (I : Inv X pins σ H s) (rx : RelV x v) (ry : RelV y u) (h1 : Dp X.K H x a.py) (h2 : Dp X.K H y b.py) (hd : min a.dep b.dep ≤ 63)
    (q : Q (.bl (!D.eqv a b)) H) : wpAny (model X.prog X.w) X.A (compareOp .NotEq v u) (EP X pins σ Q) X.xe s := by
  obtain ⟨as, e1⟩ := Dp.reads I _ x v h1 rx
  obtain ⟨bs, e2⟩ := Dp.reads I _ y u h2 ry
  have hd : min a.py.depth b.py.depth ≤ 63 := hd
  exact SeqAt.ne_plain e1 e2 a.plain b.plain (by omega) ⟨.bl _, H, I, rfl, q⟩
theorem ot_eq (hu : X.A.units + 64 < cLine) : OpT X (compareOp .Eq) oEq := by
  intro pins s σ H x y v u tx ty t g1 g2 Q I rx ry r1 r2 e q
  unfold oEq at e
  split at e
  · split at e
    · cases e; exact eqD_run hu I rx ry r1.un.dp r2.un.dp (by assumption) (q _ H _ (.vl (.bl _)) (Nw.refl H))
    · cases e
  · split at e
    · rename_i ex ey
      split at e
      · cases e; exact eqD_run hu I rx ry (r1.dp ex) (r2.dp ey) (by assumption) (q _ H _ (.vl (.bl _)) (Nw.refl H))
      · cases e
    · cases e
theorem ot_ne (hu : X.A.units + 64 < cLine) : OpT X (compareOp .NotEq) oNe := by
  intro pins s σ H x y v u tx ty t g1 g2 Q I rx ry r1 r2 e q
  unfold oNe at e
  split at e
  · split at e
    · cases e; exact neD_run hu I rx ry r1.un.dp r2.un.dp (by assumption) (q _ H _ (.vl (.bl _)) (Nw.refl H))
    · cases e
  · split at e
    · rename_i ex ey
      split at e
      · cases e; exact neD_run hu I rx ry (r1.dp ex) (r2.dp ey) (by assumption) (q _ H _ (.vl (.bl _)) (Nw.refl H))
      · cases e
    · cases e
def oStrC (g : Str → Str → Bool) : T → T → Option T
  | .val (.str a), .val (.str b) => some (.val (.bl (g a b)))
  | _, _ => none
theorem OpT.strC {f : Value → Value → Sem Value} {g : Str → Str → Bool} (h : OpR X f (fun x y H Q => ∃ i j, x = .str i ∧ y = .str j ∧ Q (.bl (g i j)) H)) : OpT X f (oStrC g) := by
  refine .of h fun H x y tx ty t g1 g2 Q r1 r2 e q => ?_
  unfold oStrC at e
  split at e
  · cases e; exact ⟨_, _, r1.str, r2.str, q _ H _ (.vl (.bl _)) (Nw.refl H)⟩
  · cases e
def oLt : T → T → Option T := oOr (oInt (fun _ _ => true) fun i j => .bl (decide (i < j))) (oStrC fun a b => decide (a.cps.toList < b.cps.toList))
theorem ot_lt : OpT X (compareOp .Lt) oLt := .or (.int0 op_lt fun _ _ _ => .bl _) (.strC op_lt_str)
def oLe : T → T → Option T := oOr (oInt (fun _ _ => true) fun i j => .bl (decide (i ≤ j))) (oStrC fun a b => !decide (b.cps.toList < a.cps.toList))
theorem ot_le : OpT X (compareOp .LtE) oLe := .or (.int0 op_le fun _ _ _ => .bl _) (.strC op_le_str)
def oGt : T → T → Option T := oInt (fun _ _ => true) fun i j => .bl (decide (j < i))
theorem ot_gt : OpT X (compareOp .Gt) oGt := .int0 op_gt fun _ _ _ => .bl _
def oGe : T → T → Option T := oInt (fun _ _ => true) fun i j => .bl (decide (j ≤ i))
theorem ot_ge : OpT X (compareOp .GtE) oGe := .int0 op_ge fun _ _ _ => .bl _
def D.isN : D → Bool
  | .non => true
  | _ => false
def oIsN : T → T → Option T
  | .val d, .val .non => some (.val (.bl d.isN))
  | _, _ => none
def oNotN : T → T → Option T
  | .val d, .val .non => some (.val (.bl (!d.isN)))
  | _, _ => none
theorem RD.isN {K : PySem.W.Frag} {H : Hp} {v : V} {d : D} (h : RD K H v d) : decide (v = .non) = d.isN := by
  cases h <;> rfl
theorem ot_isN : OpT X (compareOp .Is) oIsN := by
  refine .of op_isN fun H x y tx ty t g1 g2 Q r1 r2 e q => ?_
  unfold oIsN at e
  split at e
  · cases e; exact ⟨r2.non, by rw [r1.un.isN]; exact q _ H _ (.vl (.bl _)) (Nw.refl H)⟩
  · cases e
theorem ot_notN : OpT X (compareOp .IsNot) oNotN := by
  refine .of op_notN fun H x y tx ty t g1 g2 Q r1 r2 e q => ?_
  unfold oNotN at e
  split at e
  · cases e; exact ⟨r2.non, by rw [r1.un.isN]; exact q _ H _ (.vl (.bl _)) (Nw.refl H)⟩
  · cases e
def D.inn (d : D) (xs : List D) : Bool := xs.any fun y => D.eqv y d
theorem pys_any (d : D) : ∀ xs : List D, ((D.pys xs).any fun y => PyData.eqv y d.py) = d.inn xs
  | [] => rfl
  | x :: xs => by
    unfold D.inn D.pys
    rw [List.any_cons, List.any_cons, pys_any d xs]
    rfl
def D.deps (xs : List D) : Nat := PyData.depthAll (D.pys xs)
def oIn (x y : T) : Option T := match x, y.sq with
  | .val d, some xs => if min (D.deps xs) d.dep ≤ 62 then some (.val (.bl (d.inn xs))) else none
  | _, _ => none
def oNin (x y : T) : Option T := match x, y.sq with
  | .val d, some xs => if min (D.deps xs) d.dep ≤ 62 then some (.val (.bl (!d.inn xs))) else none
  | _, _ => none
theorem ot_in (hu : X.A.units + 64 < cLine) : OpT X (compareOp .In) oIn := by
  intro pins s σ H x y v u tx ty t g1 g2 Q I rx ry r1 r2 e q
  unfold oIn at e
  split at e
  · split at e
    · rename_i d xs ey hd
      cases e
      obtain ⟨as, e1⟩ := Dp.reads I _ x v r1.un.dp rx
      obtain ⟨a, vs, rfl, sq, rd⟩ := r2.sq ey
      have hd : min (PyData.depthAll (D.pys xs)) d.py.depth ≤ 62 := hd
      rcases sq with sq | sq
      · obtain ⟨bs, e2⟩ := Dp.reads I (.list (D.pys xs)) _ u (.lst sq rd.dp) ry
        exact SeqAt.in_list_data e2 e1 (D.plains xs) d.plain (by omega) ⟨.bl _, H, I, rfl, by rw [pys_any]; exact q _ H _ (.vl (.bl _)) (Nw.refl H)⟩
      · obtain ⟨bs, e2⟩ := Dp.reads I (.tuple (D.pys xs)) _ u (.tup sq rd.dp) ry
        exact SeqAt.in_tuple_data e2 e1 (D.plains xs) d.plain (by omega) ⟨.bl _, H, I, rfl, by rw [pys_any]; exact q _ H _ (.vl (.bl _)) (Nw.refl H)⟩
    · cases e
  · cases e
theorem ot_nin (hu : X.A.units + 64 < cLine) : OpT X (compareOp .NotIn) oNin := by
  intro pins s σ H x y v u tx ty t g1 g2 Q I rx ry r1 r2 e q
  unfold oNin at e
  split at e
  · split at e
    · rename_i d xs ey hd
      cases e
      obtain ⟨as, e1⟩ := Dp.reads I _ x v r1.un.dp rx
      obtain ⟨a, vs, rfl, sq, rd⟩ := r2.sq ey
      have hd : min (PyData.depthAll (D.pys xs)) d.py.depth ≤ 62 := hd
      rcases sq with sq | sq
      · obtain ⟨bs, e2⟩ := Dp.reads I (.list (D.pys xs)) _ u (.lst sq rd.dp) ry
        exact SeqAt.notIn_list_data e2 e1 (D.plains xs) d.plain (by omega) ⟨.bl _, H, I, rfl, by rw [pys_any]; exact q _ H _ (.vl (.bl _)) (Nw.refl H)⟩
      · obtain ⟨bs, e2⟩ := Dp.reads I (.tuple (D.pys xs)) _ u (.tup sq rd.dp) ry
        exact SeqAt.notIn_tuple_data e2 e1 (D.plains xs) d.plain (by omega) ⟨.bl _, H, I, rfl, by rw [pys_any]; exact q _ H _ (.vl (.bl _)) (Nw.refl H)⟩
    · cases e
  · cases e

end
end DL

set_option Elab.async false
set_option linter.all false
set_option maxRecDepth 100000
set_option maxHeartbeats 4200000
/-! DL3: arguments (names by place, other things by value), the rules of expressions, calls. -/
namespace DL
open PySem PySem.Spec PyProof.Rows L2

theorem z_le (g h : Fp) : ∀ b, h b ≤ g b + h b := fun b => Nat.le_add_left _ _
section
variable {α β γ δ : Type} {K : PySem.W.Frag} {ϖ : Pend} {W : WX} {Rl : Hp → β → α → Fp → Prop} {Rm : Hp → δ → γ → Fp → Prop} {σv : L2.St} {H H' H0 : Hp} {f g h f0 : Fp} {r : R α}
/-- ONE STEP BEHIND ANOTHER, whatever waits meanwhile -/
theorem evP {F : S → R α} {k : α → S → R γ} {σ : S} {P : Hp → Prop} {Q : δ → Hp → Prop} (hP : ∀ H', Stb H H' → (∀ b o, g b ≠ 0 → H b = some o → H' b = some o) → P H') (own : OwnFp H g) (hs : RS K ϖ H σv σ h) (nd : Nd fun b => g b + h b)
    (q : Post K ϖ W Rm σv ((F σ).bind k) H (fun b => g b + h b) Q) :
    tX K ϖ W Rl F σv H (fun u H2 => ∃ t2 g2 σ2 h2, Rl H2 u t2 g2 ∧ P H2 ∧ OwnFp H2 g ∧ RS K ϖ H2 σv σ2 h2 ∧ Nd (fun b => g b + (g2 b + h2 b)) ∧ Post K ϖ W Rm σv (k t2 σ2) H2 (fun b => g b + (g2 b + h2 b)) Q) := by
  refine ⟨σ, h, hs, nd.le fun b => by show h b ≤ g b + h b; omega, ?_⟩
  cases e : F σ with
  | stuck => rw [e] at q; exact q
  | exc C xs σ' =>
    rw [e] at q
    exact fun d vs' H' h' a b c n w => q d vs' H' h' a b c n ((w.beside (g := g)).le fun b => by show h' b ≤ g b + h' b; omega)
  | ok t2 σ2 =>
    rw [e] at q
    intro v H2 g2 h2 a b n w
    have w' := w.beside (g := g)
    have kp : ∀ b o, g b ≠ 0 → H b = some o → H2 b = some o := fun b o hb e => w.keep b o e (by have := nd b; have : g b + h b ≤ 1 := this; omega)
    refine ⟨t2, g2, σ2, h2, a, hP H2 w.stb kp, fun b hb => ?_, b, w.apart own nd n, q.fr w'⟩
    obtain ⟨o, eo, wo⟩ := own b hb
    exact ⟨o, kp b o hb eo, wo⟩
end

/-! ### arguments -/
abbrev G := Sum Nat T
inductive RO (K : PySem.W.Frag) (σv : L2.St) (H : Hp) : V → G → Fp → Prop
  | ref {i : Nat} {v : V} {f : Fp} : σv[i]? = some (some v) → (∀ b, f b = 0) → RO K σv H v (.inl i) f
  | tmp {v : V} {t : T} {f : Fp} : RT K H v t f → RO K σv H v (.inr t) f
inductive ROs (K : PySem.W.Frag) (σv : L2.St) (H : Hp) : List V → List G → Fp → Prop
  | nil {f : Fp} : (∀ b, f b = 0) → ROs K σv H [] [] f
  | cons {v : V} {vs : List V} {x : G} {xs : List G} {f g h : Fp} : RO K σv H v x g → ROs K σv H vs xs h → (∀ b, f b = g b + h b) → ROs K σv H (v :: vs) (x :: xs) f
section
variable {K : PySem.W.Frag} {σv : L2.St} {H H' : Hp}
theorem RO.own {v : V} {x : G} {f : Fp} (h : RO K σv H v x f) : OwnFp H f := by
  cases h with
  | ref _ z => exact fun b h => absurd (z b) h
  | tmp r => exact r.own
theorem RO.keep (s : Stb H H') {v : V} {x : G} {f : Fp} (h : RO K σv H v x f) (k : ∀ b o, f b ≠ 0 → H b = some o → H' b = some o) : RO K σv H' v x f := by
  cases h with
  | ref e z => exact .ref e z
  | tmp r => exact .tmp (r.keep s k)
theorem ROs.own : ∀ {vs : List V} {xs : List G} {f : Fp}, ROs K σv H vs xs f → OwnFp H f
  | _, _, _, .nil z => fun b h => absurd (z b) h
  | _, _, f, .cons (g := g) (h := h) q r z => fun b hb => by
    by_cases hg : g b = 0
    · exact r.own b (by rw [z b] at hb; omega)
    · exact q.own b hg
theorem ROs.keep (s : Stb H H') : ∀ {vs : List V} {xs : List G} {f : Fp}, ROs K σv H vs xs f → (∀ b o, f b ≠ 0 → H b = some o → H' b = some o) → ROs K σv H' vs xs f
  | _, _, _, .nil z, _ => .nil z
  | _, _, f, .cons (g := g) (h := h) q r z, k => .cons (q.keep s fun b o hb => k b o (by rw [z b]; omega)) (ROs.keep s r fun b o hb => k b o (by rw [z b]; omega)) z
theorem ROs.length : ∀ {vs : List V} {xs : List G} {f : Fp}, ROs K σv H vs xs f → vs.length = xs.length
  | _, _, _, .nil _ => rfl
  | _, _, _, .cons _ r _ => by rw [List.length_cons, List.length_cons, ROs.length r]
end
/-- what the argument is, in a state -/
def look (σ : S) (i : Nat) : Option T := match σ[i]? with
  | some o => o
  | none => none
theorem look_some {σ : S} {i : Nat} {t : T} (h : look σ i = some t) : σ[i]? = some (some t) := by
  unfold look at h
  split at h
  · rename_i o e; rw [e, h]
  · cases h
def rdG : G → S → Option T
  | .inl i, σ => look σ i
  | .inr t, _ => some t
def rds : List G → S → Option (List T)
  | [], _ => some []
  | x :: xs, σ => match rdG x σ, rds xs σ with
    | some t, some ts => some (t :: ts)
    | _, _ => none
section
variable {K : PySem.W.Frag} {ϖ : Pend} {σv : L2.St} {H H' : Hp} {σ : S} {h : Fp}
theorem RO.rd {v : V} {x : G} {f : Fp} {t : T} (r : RO K σv H v x f) (hs : RS K ϖ H σv σ h) (e : rdG x σ = some t) : ∃ g, RT K H v t g := by
  cases r with
  | tmp r => cases e; exact ⟨_, r⟩
  | @ref i _ _ ev z =>
    have e : look σ i = some t := e
    obtain ⟨v', g, h', ev', q, _, _⟩ := hs.out (look_some e)
    rw [ev] at ev'; cases ev'
    exact ⟨g, q⟩
theorem ROs.rds {hs : RS K ϖ H σv σ h} : ∀ {vs : List V} {xs : List G} {f : Fp} {ts : List T}, ROs K σv H vs xs f → DL.rds xs σ = some ts → ∃ g, RTs K H vs ts g
  | _, _, _, _, .nil _, e => by cases e; exact ⟨fun _ => 0, .nil fun _ => rfl⟩
  | _, x :: xs, _, ts, .cons q r _, e => by
    unfold DL.rds at e
    split at e
    · rename_i t us e1 e2
      cases e
      obtain ⟨g1, r1⟩ := q.rd hs e1
      obtain ⟨g2, r2⟩ := ROs.rds (hs := hs) r e2
      exact ⟨fun b => g1 b + g2 b, .cons r1 r2 fun _ => rfl⟩
    · cases e
end
section
variable {X : Cx} {ϖ : Pend} {W : WX} {e a b c : Expr} {es : List Expr} {F Fa Fb Fc : S → R T} {A B C : S → R G} {As : S → R (List G)} {pos : Pos}
/-- an argument; arguments -/
def tG (K : PySem.W.Frag) (ϖ : Pend) (W : WX) (A : S → R G) : TE := fun σv H Q => tX K ϖ W (RO K σv) A σv H Q
def tGs (K : PySem.W.Frag) (ϖ : Pend) (W : WX) (A : S → R (List G)) : TA := fun σv H Q => tX K ϖ W (ROs K σv) A σv H Q
def DG (X : Cx) (ϖ : Pend) (W : WX) (e : Expr) (A : S → R G) : Prop := PE X e (tG X.K ϖ W A)
def DGs (X : Cx) (ϖ : Pend) (W : WX) (es : List Expr) (A : S → R (List G)) : Prop := PA X es (tGs X.K ϖ W A)
def gN (i : Nat) : S → R G := fun σ => match σ[i]? with
  | some (some _) => .ok (.inl i) σ
  | _ => .stuck
def gE (F : S → R T) : S → R G := fun σ => (F σ).bind fun t σ1 => .ok (.inr t) σ1
theorem g_name {i : Nat} (h : PE X e (tVar i)) : DG X ϖ W e (gN i) := by
  refine PE.imp h fun σv H Q ⟨σ, f, hs, n, p⟩ => ?_
  unfold gN at p
  split at p
  · rename_i t et
    obtain ⟨v, g, h', ev, q, r, z⟩ := hs.out et
    exact ⟨v, ev, p v H (fun _ => 0) f (.ref ev fun _ => rfl) hs (n.le fun b => by show 0 + f b ≤ f b; omega) ((Fr.refl H f).le fun b => by show 0 + f b ≤ f b; omega)⟩
  · exact p.elim
theorem g_e (h : DE X ϖ W e F) : DG X ϖ W e (gE F) :=
  PE.imp h fun σv H Q q => by
    refine (ev0 (Rl := RV X.K) (Rm := RO X.K σv) (F := F) (k := fun t σ1 => R.ok (Sum.inr t) σ1) q).mono fun v H1 ⟨t, g, σ, h, a, b, n, p⟩ => ?_
    exact p v H1 g h (.tmp a) b n (Fr.refl _ _)
def gNil : S → R (List G) := fun σ => .ok [] σ
def gCons (A : S → R G) (As : S → R (List G)) : S → R (List G) := fun σ => (A σ).bind fun x σ1 => (As σ1).bind fun xs σ2 => .ok (x :: xs) σ2
theorem gs_nil : DGs X ϖ W [] gNil := PA.imp pa_nil fun σv H Q ⟨σ, f, hs, n, p⟩ => by
  have p : Post X.K ϖ W (ROs X.K σv) σv (.ok [] σ) H f Q := p
  exact p [] H (fun _ => 0) f (.nil fun _ => rfl) hs (n.le fun b => by show 0 + f b ≤ f b; omega) ((Fr.refl H f).le fun b => by show 0 + f b ≤ f b; omega)
theorem gs_cons (ha : DG X ϖ W e A) (hr : DGs X ϖ W es As) (hs : starEach (e :: es) X.env = (false, eval e X.env) :: starEach es X.env := by rfl) : DGs X ϖ W (e :: es) (gCons A As) := by
  refine PA.imp (pa_cons ha hr hs) fun σv H Q q => ?_
  refine (ev0 (Rl := RO X.K σv) (Rm := ROs X.K σv) (F := A) (k := fun x σ1 => (As σ1).bind fun xs σ2 => .ok (x :: xs) σ2) q).mono fun v H1 ⟨x, g, σ, h, a, b, n, p⟩ => ?_
  refine (evP (Rl := ROs X.K σv) (Rm := ROs X.K σv) (P := fun H2 => RO X.K σv H2 v x g) (fun H2 s k => RO.keep s a k) (RO.own a) b n p).mono fun vs H2 ⟨xs, g2, σ2, h2, r2, r1, _, s2, n2, p2⟩ => ?_
  have p2 : Post X.K ϖ W (ROs X.K σv) σv (.ok (x :: xs) σ2) H2 (fun b => g b + (g2 b + h2 b)) Q := p2
  refine p2 (v :: vs) H2 (fun b => g b + g2 b) h2 (.cons r1 r2 fun _ => rfl) s2 (n2.le fun b => by show g b + g2 b + h2 b ≤ g b + (g2 b + h2 b); omega) ((Fr.refl _ _).le fun b => by show g b + g2 b + h2 b ≤ g b + (g2 b + h2 b); omega)

/-! ### operators -/
def lift (o : Option T) (σ : S) : R T := match o with
  | some t => .ok t σ
  | none => .stuck
def op2 (o : T → T → Option T) (x y : G) (σ : S) : R T := match rdG x σ, rdG y σ with
  | some t, some u => lift (o t u) σ
  | _, _ => .stuck
def eB (o : T → T → Option T) (A B : S → R G) : S → R T := fun σ => (A σ).bind fun x σ1 => (B σ1).bind fun y σ2 => op2 o x y σ2
/-- both operands have come -/
theorem bin_end {K : PySem.W.Frag} {o : T → T → Option T} {v u : V} {x y : G} {σv : L2.St} {σ : S} {H : Hp} {g1 g2 h f : Fp} {Q : VK} (r1 : RO K σv H v x g1) (r2 : RO K σv H u y g2) (hs : RS K ϖ H σv σ h) (nh : Nd h) (hf : ∀ b, h b ≤ f b)
    (p : Post K ϖ W (RV K) σv (op2 o x y σ) H f Q) : rT K o v u H Q := by
  unfold op2 at p
  split at p
  · rename_i t1 t2 e1 e2
    obtain ⟨f1, q1⟩ := r1.rd hs e1
    obtain ⟨f2, q2⟩ := r2.rd hs e2
    unfold lift at p
    cases e : o t1 t2 with
    | none => rw [e] at p; exact p.elim
    | some t =>
      rw [e] at p
      exact ⟨t1, t2, t, f1, f2, q1, q2, e, fun z H' g q n => p.fin n q hs nh hf⟩
  · exact p.elim
theorem tOp_of {K : PySem.W.Frag} {o : T → T → Option T} {σv : L2.St} {H : Hp} {Q : VK} (h : tE K ϖ W (eB o A B) σv H Q) : tOp (rT K o) (tG K ϖ W A) (tG K ϖ W B) σv H Q := by
  refine (ev0 (Rl := RO K σv) (Rm := RV K) (F := A) (k := fun x σ1 => (B σ1).bind fun y σ2 => op2 o x y σ2) h).mono fun v H1 ⟨x, g1, σ1, h1, r1, s1, n1, p1⟩ => ?_
  refine (evP (Rl := RO K σv) (Rm := RV K) (P := fun H2 => RO K σv H2 v x g1) (fun H2 s k => RO.keep s r1 k) (RO.own r1) s1 n1 p1).mono fun u H2 ⟨y, g2, σ2, h2, r2, r1', _, s2, n2, p2⟩ => ?_
  exact bin_end r1' r2 s2 (n2.le fun b => by show h2 b ≤ g1 b + (g2 b + h2 b); omega) (fun b => by show h2 b ≤ g1 b + (g2 b + h2 b); omega) p2
theorem d_bin {op : Operator} {o : T → T → Option T} (ho : OpT X (binaryOp op) o) (ha : DG X ϖ W a A) (hb : DG X ϖ W b B) : DE X ϖ W (.BinOp a op b pos) (eB o A B) :=
  (pe_op ho.r ha hb).imp fun σv H Q h => tOp_of h
theorem d_cmp {op : CmpOp} {o : T → T → Option T} (ho : OpT X (compareOp op) o) (ha : DG X ϖ W a A) (hb : DG X ϖ W b B) (hm : behindInMarks op b = false := by first | exact nomark _ (by decide) (by decide) | rfl) : DE X ϖ W (.Compare a [op] [b] pos) (eB o A B) :=
  (pe_cmpR ho.r ha hb hm).imp fun σv H Q h => tOp_of h
/-- a op b op' c -/
def eCh (o o' : T → T → Option T) (A B C : S → R G) : S → R T := fun σ => (A σ).bind fun x σ1 => (B σ1).bind fun y σ2 => (op2 o x y σ2).bind fun z σ3 => match z with
  | .val (.bl true) => (C σ3).bind fun u σ4 => op2 o' y u σ4
  | .val (.bl false) => .ok (.val (.bl false)) σ3
  | _ => .stuck
theorem op2_st {o : T → T → Option T} {x y : G} {σ : S} : (∃ t, op2 o x y σ = .ok t σ) ∨ op2 o x y σ = .stuck := by
  unfold op2
  split
  · unfold lift; split
    · exact .inl ⟨_, rfl⟩
    · exact .inr rfl
  · exact .inr rfl
theorem tChain_of {o o' : T → T → Option T} {σv : L2.St} {H : Hp} {Q : VK} (h : tE X.K ϖ W (eCh o o' A B C) σv H Q) : tChain (rT X.K o) (rT X.K o') (tG X.K ϖ W A) (tG X.K ϖ W B) (tG X.K ϖ W C) σv H Q := by
  refine (ev0 (Rl := RO X.K σv) (Rm := RV X.K) (F := A) h).mono fun v H1 ⟨x, g1, σ1, h1, r1, s1, n1, p1⟩ => ?_
  refine (evP (Rl := RO X.K σv) (Rm := RV X.K) (P := fun H2 => RO X.K σv H2 v x g1) (fun H2 s k => RO.keep s r1 k) (RO.own r1) s1 n1 p1).mono fun u H2 ⟨y, g2, σ2, h2, r2, r1', o1, s2, n2, p2⟩ => ?_
  have nh : Nd h2 := n2.le fun b => by show h2 b ≤ g1 b + (g2 b + h2 b); omega
  have hf : ∀ b, h2 b ≤ g1 b + (g2 b + h2 b) := fun b => by omega
  rcases op2_st (o := o) (x := x) (y := y) (σ := σ2) with ⟨t, e⟩ | e
  · have e' := e
    unfold op2 at e'
    split at e'
    · rename_i t1 t2 e1 e2
      obtain ⟨f1, q1⟩ := r1'.rd s2 e1
      obtain ⟨f2, q2⟩ := RO.rd r2 s2 e2
      unfold lift at e'
      split at e'
      · rename_i t' et
        cases e'
        refine ⟨t1, t2, _, f1, f2, q1, q2, et, fun z H3 g3 q3 w3 => ?_⟩
        simp only [e, R.bind_ok] at p2
        split at p2
        · refine ⟨true, by cases q3.un; rfl, ?_⟩
          rw [if_pos rfl]
          have s3 := w3.rs s2
          have st := w3.stb
          have r2' : RO X.K σv H3 u y g2 := RO.keep st r2 fun b o _ e => w3.same b o e
          have w4 : Fr H2 (fun b => g1 b + (g2 b + h2 b)) H3 (fun b => g2 b + h2 b) := ⟨fun b o e _ => w3.same b o e, fun b hb => .inl (by show g1 b + (g2 b + h2 b) ≠ 0; have hb : g2 b + h2 b ≠ 0 := hb; omega), st⟩
          refine (evP (Rl := RO X.K σv) (Rm := RV X.K) (P := fun H4 => RO X.K σv H4 u y g2) (fun H4 s k => RO.keep s r2' k) r2'.own s3 (n2.le fun b => by show g2 b + h2 b ≤ g1 b + (g2 b + h2 b); omega) (p2.fr w4)).mono fun w' H4 ⟨z', g4, σ4, h4, r4, r2'', _, s4, n4, p4⟩ => ?_
          exact bin_end r2'' r4 s4 (n4.le fun b => by show h4 b ≤ g2 b + (g4 b + h4 b); omega) (fun b => by show h4 b ≤ g2 b + (g4 b + h4 b); omega) p4
        · refine ⟨false, by cases q3.un; rfl, ?_⟩
          rw [if_neg (Bool.false_ne_true)]
          exact p2.fin w3 (g := g3) (by cases q3.un; exact .val (.bl _) q3.z) s2 nh hf
        · exact p2.elim
      · cases e'
    · cases e'
  · rw [e] at p2; exact p2.elim

theorem d_chain {op op' : CmpOp} {o o' : T → T → Option T} (ho : OpT X (compareOp op) o) (ho' : OpT X (compareOp op') o') (ha : DG X ϖ W a A) (hb : DG X ϖ W b B) (hc : DG X ϖ W c C)
    (hm : lastMarks [op, op'] [b, c] = false := by with_unfolding_all rfl) : DE X ϖ W (.Compare a [op, op'] [b, c] pos) (eCh o o' A B C) :=
  (pe_chain ho.r ho'.r ha hb hc hm).imp fun σv H Q h => tChain_of h

/-! ### an expression by its reading and another's -/
theorem _root_.L2.PE.or {t t' : TE} (h : PE X e t) (h' : PE X e t') : PE X e (fun σ H Q => t σ H Q ∨ t' σ H Q) :=
  ⟨fun pins s σ H Q I w => w.elim (h.run pins s σ H Q I) (h'.run pins s σ H Q I)⟩

/-! ### one operand -/
def UnT (X : Cx) (f : Value → Sem Value) (o : T → Option T) : Prop :=
  ∀ (pins : List (Addr × Obj)) (s : Shared) (σ : L2.St) (H : Hp) (x : V) (v : Value) (tx t : T) (g1 : Fp) (Q : VK), Inv X pins σ H s → RelV x v → RT X.K H x tx g1 → o tx = some t →
    (∀ z H' g, RT X.K H' z t g → Nw H H' g → Q z H') → wpAny (model X.prog X.w) X.A (f v) (EP X pins σ Q) X.xe s
def oNeg : T → Option T
  | .val (.int i) => some (.val (.int (-i)))
  | _ => none
theorem ut_neg : UnT X (unaryOp .USub) oNeg := by
  intro pins s σ H x v tx t g1 Q I rx r1 e q
  unfold oNeg at e
  split at e
  · cases e
    exact un_neg pins s σ H x v Q I rx ⟨_, r1.int, q _ H _ (.vl (.int _)) (Nw.refl H)⟩
  · cases e
def op1 (o : T → Option T) (x : G) (σ : S) : R T := match rdG x σ with
  | some t => lift (o t) σ
  | _ => .stuck
def eU (o : T → Option T) (A : S → R G) : S → R T := fun σ => (A σ).bind fun x σ1 => op1 o x σ1
theorem d_un {op : UnaryOp} {o : T → Option T} (ho : UnT X (unaryOp op) o) (ha : DG X ϖ W a A) : DE X ϖ W (.UnaryOp op a pos) (eU o A) := by
  let r : V → Hp → VK → Prop := fun x H Q => ∃ tx t g1, RT X.K H x tx g1 ∧ o tx = some t ∧ ∀ z H' g, RT X.K H' z t g → Nw H H' g → Q z H'
  have hr : UnR X (unaryOp op) r := fun pins s σ H x v Q I rx ⟨tx, t, g1, r1, e, q⟩ => ho pins s σ H x v tx t g1 Q I rx r1 e q
  refine (pe_un hr ha).imp fun σv H Q h => ?_
  refine (ev0 (Rl := RO X.K σv) (Rm := RV X.K) (F := A) h).mono fun v H1 ⟨x, g1, σ1, h1, r1, s1, n1, p1⟩ => ?_
  unfold op1 at p1
  split at p1
  · rename_i t1 e1
    obtain ⟨f1, q1⟩ := RO.rd r1 s1 e1
    unfold lift at p1
    cases e : o t1 with
    | none => rw [e] at p1; exact p1.elim
    | some t =>
      rw [e] at p1
      exact ⟨t1, t, f1, q1, e, fun z H' g q n => p1.fin n q s1 (n1.le (z_le _ _)) (z_le _ _)⟩
  · exact p1.elim

/-! ### built-in calls -/
def CallT (X : Cx) (f : Value) (o : List T → Option T) : Prop :=
  ∀ (pins : List (Addr × Obj)) (s : Shared) (σ : L2.St) (H : Hp) (xs : List V) (us : List Value) (ts : List T) (t : T) (g1 : Fp) (Q : VK), Inv X pins σ H s → Vals xs us → RTs X.K H xs ts g1 → o ts = some t →
    (∀ z H' g, RT X.K H' z t g → Nw H H' g → Q z H') → wpAny (model X.prog X.w) X.A (call f us) (EP X pins σ Q) X.xe s
def rCT (K : PySem.W.Frag) (o : List T → Option T) : List V → Hp → VK → Prop := fun xs H Q => ∃ ts t g1, RTs K H xs ts g1 ∧ o ts = some t ∧ ∀ z H' g, RT K H' z t g → Nw H H' g → Q z H'
theorem CallT.r {f : Value} {o : List T → Option T} (h : CallT X f o) : CallR X f (rCT X.K o) := fun pins s σ H xs us Q I r ⟨ts, t, g1, r1, e, q⟩ => h pins s σ H xs us ts t g1 Q I r r1 e q
theorem CallT.of {f : Value} {o : List T → Option T} {r : List V → Hp → VK → Prop} (h : CallR X f r)
    (i : ∀ (H : Hp) (xs : List V) (ts : List T) (t : T) (g1 : Fp) (Q : VK), RTs X.K H xs ts g1 → o ts = some t → (∀ z H' g, RT X.K H' z t g → Nw H H' g → Q z H') → r xs H Q) : CallT X f o :=
  fun pins s σ H xs us ts t g1 Q I rv r1 e q => h pins s σ H xs us Q I rv (i H xs ts t g1 Q r1 e q)
def oOrs (o p : List T → Option T) : List T → Option T := fun x => match o x with
  | some t => some t
  | none => p x
theorem CallT.or {f : Value} {o p : List T → Option T} (h : CallT X f o) (h' : CallT X f p) : CallT X f (oOrs o p) := by
  intro pins s σ H xs us ts t g1 Q I rv r1 e q
  unfold oOrs at e
  cases e1 : o ts with
  | some t' => rw [e1] at e; cases e; exact h pins s σ H xs us ts _ g1 Q I rv r1 e1 q
  | none => rw [e1] at e; exact h' pins s σ H xs us ts _ g1 Q I rv r1 e q
def opL (o : List T → Option T) (xs : List G) (σ : S) : R T := match rds xs σ with
  | some ts => lift (o ts) σ
  | _ => .stuck
def eCB (o : List T → Option T) (As : S → R (List G)) : S → R T := fun σ => (As σ).bind fun xs σ1 => opL o xs σ1
theorem tCB_of {K : PySem.W.Frag} {o : List T → Option T} {σv : L2.St} {H : Hp} {Q : VK} (h : tE K ϖ W (eCB o As) σv H Q) : tCB (rCT K o) (tGs K ϖ W As) σv H Q := by
  refine (ev0 (Rl := ROs K σv) (Rm := RV K) (F := As) (k := fun xs σ1 => opL o xs σ1) h).mono fun vs H1 ⟨xs, g1, σ1, h1, r1, s1, n1, p1⟩ => ?_
  unfold opL at p1
  split at p1
  · rename_i ts e1
    obtain ⟨f1, q1⟩ := ROs.rds (hs := s1) r1 e1
    unfold lift at p1
    cases e : o ts with
    | none => rw [e] at p1; exact p1.elim
    | some t =>
      rw [e] at p1
      exact ⟨ts, t, f1, q1, e, fun z H' g q n => p1.fin n q s1 (n1.le (z_le _ _)) (z_le _ _)⟩
  · exact p1.elim
theorem d_callB {id : String} {o : List T → Option T} {x : Str} {p : Pos} (hc : CallT X (.builtin id) o) (hg : Gl X x) (hm : X.mg x = none) (hv : bootBuiltins x = some (.builtin id)) (ha : DGs X ϖ W (e :: es) As) (hn : x ≠ "__name__" := by decide) (hdb : (x == ("__debug__" : Str)) = false := by decide)
    (he : starEach (e :: es) X.env = (false, eval e X.env) :: starEach es X.env := by rfl) (hpl : (backTo pos (starEach es X.env)).any (·.1) = false := by rfl) : DE X ϖ W (.Call (.Name x p) (e :: es) [] pos) (eCB o As) :=
  (pe_callB hc.r hg hm hv ha hn hdb he hpl).imp fun σv H Q h => tCB_of h
theorem d_callTy {id : String} {o : List T → Option T} {x : Str} {p : Pos} (hc : CallT X (.type id) o) (hg : Gl X x) (hm : X.mg x = none) (hv : bootBuiltins x = some (.type id)) (ha : DGs X ϖ W (e :: es) As) (hn : x ≠ "__name__" := by decide) (hdb : (x == ("__debug__" : Str)) = false := by decide)
    (he : starEach (e :: es) X.env = (false, eval e X.env) :: starEach es X.env := by rfl) (hpl : (backTo pos (starEach es X.env)).any (·.1) = false := by rfl) : DE X ϖ W (.Call (.Name x p) (e :: es) [] pos) (eCB o As) :=
  (pe_callTy hc.r hg hm hv ha hn hdb he hpl).imp fun σv H Q h => tCB_of h

/-! ### displays -/
def vals? : List T → Option (List D)
  | [] => some []
  | .val d :: r => (vals? r).map (d :: ·)
  | _ => none
theorem RTs.vals {K : PySem.W.Frag} {H : Hp} : ∀ {vs : List V} {ts : List T} {f : Fp} {ds : List D}, RTs K H vs ts f → vals? ts = some ds → RDs K H vs ds
  | _, _, _, _, .nil _, e => by cases e; exact .nil
  | _, .val d :: ts, _, ds, .cons q r _, e => by
    unfold vals? at e
    cases e1 : vals? ts with
    | none => rw [e1] at e; cases e
    | some es => rw [e1] at e; cases e; exact .cons q.un (RTs.vals r e1)
def oTup (ts : List T) : Option T := match vals? ts with
  | some ds => if ds.length ≤ sizeLine then some (.val (.tup ds)) else none
  | none => none
def oLst (ts : List T) : Option T := match vals? ts with
  | some ds => if ds.length ≤ sizeLine then some (.lst ds) else none
  | none => none
theorem d_tup {x1 : Nat} (ha : DGs X ϖ W es As) : DE X ϖ W (.Tuple es x1 pos) (eCB oTup As) := by
  refine (pe_tup ha).imp fun σv H Q h => ?_
  refine tX.mono (tCB_of h) fun vs H1 ⟨ts, t, g1, r1, e, q⟩ => ?_
  unfold oTup at e
  split at e
  · split at e
    · rename_i ds ed hz
      cases e
      have rd := r1.vals ed
      exact ⟨by rw [rd.length]; exact hz, fun p hp => q _ _ _ (.vl (.tup (.of upd_same) (rd.stb (.fresh hp)))) (Nw.laid0 hp)⟩
    · cases e
  · cases e
theorem d_lst (ha : DGs X ϖ W es As) : DE X ϖ W (.List es pos) (eCB oLst As) := by
  refine (pe_lst ha).imp fun σv H Q h => ?_
  refine tX.mono (tCB_of h) fun vs H1 ⟨ts, t, g1, r1, e, q⟩ => ?_
  unfold oLst at e
  split at e
  · split at e
    · rename_i ds ed hz
      cases e
      have rd := r1.vals ed
      exact ⟨by rw [rd.length]; exact hz, fun p hp => q _ _ _ (.lst upd_same (rd.stb (.fresh hp)) fun _ => rfl) (Nw.laid hp)⟩
    · cases e
  · cases e

/-! ### tests -/
def tst (t : T) (σ : S) : R Bool := match t with
  | .val (.bl b) => .ok b σ
  | _ => .stuck
/-- an expression that gives a bool, as a test -/
def bV (F : S → R T) : S → R Bool := fun σ => (F σ).bind tst
theorem d_val (h : DE X ϖ W e F) (he : ∀ whole, isTrue e X.env whole = (do let v ← whole; standAt e.pos; holding [v] (truthy v)) := by intro _; rfl) : DT X ϖ W e (bV F) := by
  refine (pt_val h he).imp fun σv H Q q => ?_
  refine (ev0 (Rl := RV X.K) (Rm := RB) (F := F) (k := tst) q).mono fun v H1 ⟨t, g, σ, h1, r1, s1, n1, p1⟩ => ?_
  unfold tst at p1
  split at p1
  · have r1 : RT X.K H1 v _ g := r1
    exact ⟨_, r1.bl, p1.finB s1 (n1.le (z_le _ _)) (z_le _ _)⟩
  · exact p1.elim
theorem d_cmpT {op : CmpOp} {o : T → T → Option T} (ho : OpT X (compareOp op) o) (ha : DG X ϖ W a A) (hb : DG X ϖ W b B) (hm : behindInMarks op b = false := by first | exact nomark _ (by decide) (by decide) | rfl) : DT X ϖ W (.Compare a [op] [b] pos) (bV (eB o A B)) := by
  refine (pt_cmpR ho.r ha hb hm).imp fun σv H Q q => ?_
  have q : tX X.K ϖ W RB (fun σ => (eB o A B σ).bind tst) σv H Q := q
  have q2 : tE X.K ϖ W (eB o A B) σv H (fun x H' => ∃ k, x = .bl k ∧ Q k H') := by
    refine (ev0 (Rl := RV X.K) (Rm := RB) (F := eB o A B) (k := tst) q).mono fun v H1 ⟨t, g, σ, h1, r1, s1, n1, p1⟩ => ?_
    unfold tst at p1
    split at p1
    · have r1 : RT X.K H1 v _ g := r1
      exact ⟨_, r1.bl, p1.finB s1 (n1.le (z_le _ _)) (z_le _ _)⟩
    · exact p1.elim
  exact tOp_of q2
theorem d_chainT {op op' : CmpOp} {o o' : T → T → Option T} (ho : OpT X (compareOp op) o) (ho' : OpT X (compareOp op') o') (ha : DG X ϖ W a A) (hb : DG X ϖ W b B) (hc : DG X ϖ W c C)
    (hm : lastMarks [op, op'] [b, c] = false := by with_unfolding_all rfl) : DT X ϖ W (.Compare a [op, op'] [b, c] pos) (bV (eCh o o' A B C)) := by
  refine (pt_chain ho.r ho'.r ha hb hc hm).imp fun σv H Q q => ?_
  have q : tX X.K ϖ W RB (fun σ => (eCh o o' A B C σ).bind tst) σv H Q := q
  have q2 : tE X.K ϖ W (eCh o o' A B C) σv H (fun x H' => ∃ k, x = .bl k ∧ Q k H') := by
    refine (ev0 (Rl := RV X.K) (Rm := RB) (F := eCh o o' A B C) (k := tst) q).mono fun v H1 ⟨t, g, σ, h1, r0, s1, n1, p1⟩ => ?_
    unfold tst at p1
    split at p1
    · have r1 : RT X.K H1 v _ g := r0
      exact ⟨_, r1.bl, p1.finB s1 (n1.le (z_le _ _)) (z_le _ _)⟩
    · exact p1.elim
  exact tChain_of q2
/-- truth -/
def truT : T → Option Bool
  | .val .non => some false
  | .val (.bl b) => some b
  | .val (.int i) => some (i != 0)
  | .val (.str x) => if x.length ≤ sizeLine then some ((x.length : Int) != 0) else none
  | .val (.tup xs) => some (!xs.isEmpty)
  | .val (.lst xs) => some (!xs.isEmpty)
  | .lst xs => some (!xs.isEmpty)
  | .ll xs => some (!xs.isEmpty)
  | _ => none
def tru (x : G) (σ : S) : R Bool := match rdG x σ with
  | some t => (match truT t with
    | some b => .ok b σ
    | none => .stuck)
  | none => .stuck
def bT (A : S → R G) : S → R Bool := fun σ => (A σ).bind tru
theorem isEmpty_len {α β : Type} {xs : List α} {ys : List β} (h : xs.length = ys.length) : (!ys.isEmpty) = !xs.isEmpty := by
  cases xs with
  | nil => cases ys with
    | nil => rfl
    | cons _ _ => simp at h
  | cons _ _ => cases ys with
    | nil => simp at h
    | cons _ _ => rfl
theorem RL.length {K : PySem.W.Frag} {H : Hp} : ∀ {vs : List V} {xs : List (List D)} {f : Fp}, RL K H vs xs f → vs.length = xs.length
  | _, _, _, .nil _ => rfl
  | _, _, _, .cons _ _ r _ => by rw [List.length_cons, List.length_cons, RL.length r]
theorem RT.tru {K : PySem.W.Frag} {H : Hp} {v : V} {t : T} {g : Fp} {b : Bool} (h : RT K H v t g) (e : truT t = some b) : TruV K v H b := by
  unfold truT at e
  split at e
  · cases e; cases h.un; rfl
  · cases e; cases h.un; exact rfl
  · cases e; cases h.un; exact rfl
  · split at e
    · cases e; cases h.un; exact ⟨by assumption, rfl⟩
    · cases e
  · cases e
    obtain ⟨a, vs, rfl, q, r⟩ := h.tup
    exact .inr (.inl ⟨vs, q, isEmpty_len r.length⟩)
  · cases e
    obtain ⟨a, vs, rfl, q, r⟩ := h.ls rfl
    exact .inl ⟨vs, q, isEmpty_len r.length⟩
  · cases e
    obtain ⟨a, vs, rfl, q, r⟩ := h.ls rfl
    exact .inl ⟨vs, q, isEmpty_len r.length⟩
  · cases e
    cases h with
    | ll q r z => exact .inl ⟨_, .of q, isEmpty_len r.length⟩
  · cases e
theorem d_truth (ha : DG X ϖ W a A) (he : ∀ whole, isTrue a X.env whole = (do let v ← whole; standAt a.pos; holding [v] (truthy v)) := by intro _; rfl) : DT X ϖ W a (bT A) := by
  refine (pt_truth ha he).imp fun σv H Q q => ?_
  refine (ev0 (Rl := RO X.K σv) (Rm := RB) (F := A) (k := tru) q).mono fun v H1 ⟨x, g, σ, h1, r1, s1, n1, p1⟩ => ?_
  unfold tru at p1
  split at p1
  · rename_i t e1
    obtain ⟨f1, q1⟩ := RO.rd r1 s1 e1
    split at p1
    · rename_i b eb
      exact ⟨b, q1.tru eb, p1.finB s1 (n1.le (z_le _ _)) (z_le _ _)⟩
    · exact p1.elim
  · exact p1.elim
/-- not, and, or -/
def bNot (B : S → R Bool) : S → R Bool := fun σ => (B σ).bind fun b σ1 => .ok (!b) σ1
def bAnd (B C : S → R Bool) : S → R Bool := fun σ => (B σ).bind fun b σ1 => if b = true then C σ1 else .ok false σ1
def bOr (B C : S → R Bool) : S → R Bool := fun σ => (B σ).bind fun b σ1 => if b = true then .ok true σ1 else C σ1
/-- a test's answer has come -/
theorem evB {α β : Type} {K : PySem.W.Frag} {Rm : Hp → β → α → Fp → Prop} {B : S → R Bool} {k : Bool → S → R α} {σv : L2.St} {H : Hp} {Q : β → Hp → Prop} (q : tX K ϖ W Rm (fun σ => (B σ).bind k) σv H Q) :
    tT K ϖ W B σv H (fun b H2 => tX K ϖ W Rm (fun σ => k b σ) σv H2 Q) := by
  refine (ev0 (Rl := RB) (Rm := Rm) (F := B) (k := k) q).mono fun b H1 ⟨c, g, σ, h1, ⟨e, z⟩, s1, n1, p1⟩ => ?_
  subst e
  have eg : (fun b => g b + h1 b) = h1 := by funext b; rw [z b]; omega
  rw [eg] at n1 p1
  exact ⟨σ, h1, s1, n1, p1⟩
theorem tX_okB {K : PySem.W.Frag} {b : Bool} {σv : L2.St} {H : Hp} {Q : Bool → Hp → Prop} (q : tT K ϖ W (fun σ => .ok b σ) σv H Q) : Q b H := by
  obtain ⟨σ, h, hs, n, p⟩ := q
  have p : Post K ϖ W RB σv (.ok b σ) H h Q := p
  exact p.finB hs n fun _ => Nat.le_refl _
theorem d_not {B : S → R Bool} (h : DT X ϖ W a B) : DT X ϖ W (.UnaryOp .Not a pos) (bNot B) :=
  (pt_not h).imp fun σv H Q q => tX.mono (evB (Rm := RB) (B := B) (k := fun b σ1 => .ok (!b) σ1) q) fun b H1 p => tX_okB p
def DW (X : Cx) (ϖ : Pend) (W : WX) (e : Expr) (F : S → R Bool) : Prop := PW X e (tT X.K ϖ W F)
theorem d_pw {B : S → R Bool} (h : DW X ϖ W e B) : DT X ϖ W e B := PW.pt h
theorem _root_.L2.PW.imp {t t' : TT} (h : PW X e t) (i : ∀ σ H Q, t' σ H Q → t σ H Q) : PW X e t' := ⟨fun wh pins s σ H Q I w => h.run wh pins s σ H Q I (i _ _ _ w)⟩
theorem w_and1 {B : S → R Bool} (h : DT X ϖ W a B) : DW X ϖ W (.BoolOp .And [a] pos) B := pw_and1 h
theorem w_or1 {B : S → R Bool} (h : DT X ϖ W a B) : DW X ϖ W (.BoolOp .Or [a] pos) B := pw_or1 h
theorem w_and {B C : S → R Bool} {rest : List Expr} (h : DT X ϖ W a B) (h' : DW X ϖ W (.BoolOp .And (b :: rest) pos) C) : DW X ϖ W (.BoolOp .And (a :: b :: rest) pos) (bAnd B C) :=
  (pw_and h h').imp fun σv H Q q => tX.mono (evB (Rm := RB) (B := B) (k := fun b σ1 => if b = true then C σ1 else .ok false σ1) q) fun b H1 p => by
    cases b with
    | true => exact p
    | false => exact tX_okB p
theorem w_or {B C : S → R Bool} {rest : List Expr} (h : DT X ϖ W a B) (h' : DW X ϖ W (.BoolOp .Or (b :: rest) pos) C) : DW X ϖ W (.BoolOp .Or (a :: b :: rest) pos) (bOr B C) :=
  (pw_or h h').imp fun σv H Q q => tX.mono (evB (Rm := RB) (B := B) (k := fun b σ1 => if b = true then .ok true σ1 else C σ1) q) fun b H1 p => by
    cases b with
    | true => exact tX_okB p
    | false => exact p
/-- .. as values (bools) -/
def eAnd (F C : S → R T) : S → R T := fun σ => (F σ).bind fun t σ1 => match t with
  | .val (.bl true) => C σ1
  | .val (.bl false) => .ok (.val (.bl false)) σ1
  | _ => .stuck
def eOr (F C : S → R T) : S → R T := fun σ => (F σ).bind fun t σ1 => match t with
  | .val (.bl true) => .ok (.val (.bl true)) σ1
  | .val (.bl false) => C σ1
  | _ => .stuck
def eNot (F : S → R T) : S → R T := fun σ => (F σ).bind fun t σ1 => match t with
  | .val (.bl b) => .ok (.val (.bl (!b))) σ1
  | _ => .stuck
theorem d_one {op : BoolOp} (h : DE X ϖ W a F) : DE X ϖ W (.BoolOp op [a] pos) F := pe_one h
theorem d_and {rest : List Expr} (h : DE X ϖ W a F) (h' : DE X ϖ W (.BoolOp .And (b :: rest) pos) Fb) : DE X ϖ W (.BoolOp .And (a :: b :: rest) pos) (eAnd F Fb) :=
  (pe_and h h').imp fun σv H Q q => (ev0 (Rl := RV X.K) (Rm := RV X.K) (F := F) q).mono fun v H1 ⟨t, g, σ, h1, r1, s1, n1, p1⟩ => by
    have r1 : RT X.K H1 v t g := r1
    split at p1
    · have z := r1.z
      have eg : (fun b => g b + h1 b) = h1 := by funext b; rw [z b]; omega
      rw [eg] at n1 p1
      exact ⟨true, r1.bl, ⟨σ, h1, s1, n1, p1⟩⟩
    · exact ⟨false, r1.bl, p1.fin0 (.bl _) s1 (n1.le (z_le _ _)) (z_le _ _)⟩
    · exact p1.elim
theorem d_or {rest : List Expr} (h : DE X ϖ W a F) (h' : DE X ϖ W (.BoolOp .Or (b :: rest) pos) Fb) : DE X ϖ W (.BoolOp .Or (a :: b :: rest) pos) (eOr F Fb) :=
  (pe_or h h').imp fun σv H Q q => (ev0 (Rl := RV X.K) (Rm := RV X.K) (F := F) q).mono fun v H1 ⟨t, g, σ, h1, r1, s1, n1, p1⟩ => by
    have r1 : RT X.K H1 v t g := r1
    split at p1
    · exact ⟨true, r1.bl, p1.fin0 (.bl _) s1 (n1.le (z_le _ _)) (z_le _ _)⟩
    · have z := r1.z
      have eg : (fun b => g b + h1 b) = h1 := by funext b; rw [z b]; omega
      rw [eg] at n1 p1
      exact ⟨false, r1.bl, ⟨σ, h1, s1, n1, p1⟩⟩
    · exact p1.elim
theorem d_notV (h : DE X ϖ W a F) : DE X ϖ W (.UnaryOp .Not a pos) (eNot F) :=
  (pe_not h).imp fun σv H Q q => (ev0 (Rl := RV X.K) (Rm := RV X.K) (F := F) q).mono fun v H1 ⟨t, g, σ, h1, r1, s1, n1, p1⟩ => by
    have r1 : RT X.K H1 v t g := r1
    split at p1
    · exact ⟨_, r1.bl, p1.fin0 (.bl _) s1 (n1.le (z_le _ _)) (z_le _ _)⟩
    · exact p1.elim
/-- a if t else b -/
def eIf (B : S → R Bool) (F C : S → R T) : S → R T := fun σ => (B σ).bind fun b σ1 => if b = true then F σ1 else C σ1
theorem d_ifE {B : S → R Bool} (hc : DT X ϖ W c B) (ha : DE X ϖ W a Fa) (hb : DE X ϖ W b Fb) : DE X ϖ W (.IfExp c a b pos) (eIf B Fa Fb) :=
  (pe_ifExp hc ha hb).imp fun σv H Q q => tX.mono (evB (Rm := RV X.K) (B := B) (k := fun b σ1 => if b = true then Fa σ1 else Fb σ1) q) fun b H1 p => by
    cases b with
    | true => exact p
    | false => exact p

/-! ### subscripts -/
def oIx (x y : T) : Option T := match x, y with
  | .val (.tup xs), .val (.int i) => (atI xs i).map .val
  | .val (.lst xs), .val (.int i) => (atI xs i).map .val
  | .lst xs, .val (.int i) => (atI xs i).map .val
  | .val (.str z), .val (.int i) => if z.length ≤ sizeLine then (atI z.cps.toList i).map fun c => .val (.str ⟨#[c]⟩) else none
  | _, _ => none
theorem atI_rel {K : PySem.W.Frag} {H : Hp} {vs : List V} {ds : List D} {i : Int} {d : D} (r : RDs K H vs ds) (e : atI ds i = some d) : ∃ v, atI vs i = some v ∧ RD K H v d := by
  unfold atI at e ⊢
  rw [← r.length] at e
  cases e1 : ixN vs.length i with
  | none => rw [e1] at e; cases e
  | some j =>
    rw [e1] at e
    exact r.get e
theorem oIx_ok : IxR X (rT X.K oIx) := by
  intro value slice pins s σ H x y v u Q I rx ry ⟨tx, ty, t, g1, g2, r1, r2, e, q⟩ hs
  unfold oIx at e
  split at e
  · obtain ⟨d, e1, e2⟩ := Option.map_eq_some_iff.mp e
    subst e2
    obtain ⟨a, vs, rfl, sq, rd⟩ := r1.tup
    obtain ⟨w, ew, rw'⟩ := atI_rel rd e1
    exact ix_tup value slice pins s σ H _ y v u Q I rx ry ⟨a, vs, _, w, rfl, r2.int, sq, ew, q _ H _ (.vl rw') (Nw.refl H)⟩ hs
  · obtain ⟨d, e1, e2⟩ := Option.map_eq_some_iff.mp e
    subst e2
    obtain ⟨a, vs, rfl, sq, rd⟩ := r1.ls rfl
    obtain ⟨w, ew, rw'⟩ := atI_rel rd e1
    exact ix_list value slice pins s σ H _ y v u Q I rx ry ⟨a, vs, _, w, rfl, r2.int, sq, ew, q _ H _ (.vl rw') (Nw.refl H)⟩ hs
  · obtain ⟨d, e1, e2⟩ := Option.map_eq_some_iff.mp e
    subst e2
    obtain ⟨a, vs, rfl, sq, rd⟩ := r1.ls rfl
    obtain ⟨w, ew, rw'⟩ := atI_rel rd e1
    exact ix_list value slice pins s σ H _ y v u Q I rx ry ⟨a, vs, _, w, rfl, r2.int, sq, ew, q _ H _ (.vl rw') (Nw.refl H)⟩ hs
  · split at e
    · obtain ⟨d, e1, e2⟩ := Option.map_eq_some_iff.mp e
      subst e2
      exact ix_str value slice pins s σ H _ y v u Q I rx ry ⟨_, _, d, r1.str, r2.int, by assumption, e1, q _ H _ (.vl (.str _)) (Nw.refl H)⟩ hs
    · cases e
  · cases e
theorem d_ix (ha : DG X ϖ W a A) (hb : DG X ϖ W b B) (hs : PlainIx b := by exact fun _ _ => rfl) : DE X ϖ W (.Subscript a b pos) (eB oIx A B) :=
  (pe_ix oIx_ok ha hb hs).imp fun σv H Q h => tOp_of h
end
end DL

set_option Elab.async false
set_option linter.all false
set_option maxRecDepth 100000
set_option maxHeartbeats 4200000
/-! DL4: statements, targets, loops, defs and their calls. -/
namespace DL
open PySem PySem.Spec PyProof.Rows L2

inductive O where
  | nx (σ : S) | rt (t : T) (σ : S) | bk (σ : S) | ct (σ : S)
  | exc (C : Addr) (xs : List (Str × D)) (σ : S)
  | stuck
/-- the slots that are not stored again -/
def Kp (kp : Nat → Bool) (σv σw : L2.St) : Prop := ∀ i, kp i = true → σw[i]? = σv[i]?
theorem Kp.refl (kp : Nat → Bool) (σv : L2.St) : Kp kp σv σv := fun _ _ => rfl
theorem Kp.trans {kp : Nat → Bool} {a b c : L2.St} (h : Kp kp a b) (h' : Kp kp b c) : Kp kp a c := fun i e => (h' i e).trans (h i e)
theorem Kp.set {kp : Nat → Bool} {σv : L2.St} {i : Nat} {o : Option V} (h : kp i = false) : Kp kp σv (σv.set i o) := fun j e => by
  rw [List.getElem?_set_ne]
  intro z; subst z; rw [h] at e; cases e
section
variable (K : PySem.W.Frag) (ϖ : Pend) (W : WX) (kp : Nat → Bool)
def SPost (o : O) (Dn : Ends) (σv : L2.St) (H : Hp) (f : Fp) : Prop := match o with
  | .nx σ => ∀ σw H' h, RS K ϖ H' σw σ h → Nd h → Fr H f H' h → Kp kp σv σw → Dn.nx σw H'
  | .bk σ => ∀ σw H' h, RS K ϖ H' σw σ h → Nd h → Fr H f H' h → Kp kp σv σw → Dn.bk σw H'
  | .ct σ => ∀ σw H' h, RS K ϖ H' σw σ h → Nd h → Fr H f H' h → Kp kp σv σw → Dn.ct σw H'
  | .rt t σ => ∀ v σw H' g h, RT K H' v t g → RS K ϖ H' σw σ h → Nd (fun b => g b + h b) → Fr H f H' (fun b => g b + h b) → Kp kp σv σw → Dn.rt v H'
  | .exc C xs σ => ∀ d vs σw H' h, H' d = some (.xd vs) → RK K H' vs xs → RS K ϖ H' σw σ h → Nd h → Fr H f H' h → Kp kp σv σw → W (.ref C) (some d) σw H'
  | .stuck => False
def sS (g : S → O) : TS := fun Dn σv H => ∃ σ f, RS K ϖ H σv σ f ∧ Nd f ∧ SPost K ϖ W kp (g σ) Dn σv H f
end
def DS (X : Cx) (ϖ : Pend) (W : WX) (kp : Nat → Bool) (st : Stmt) (g : S → O) : Prop := PS X st (sS X.K ϖ W kp g)
def DSs (X : Cx) (ϖ : Pend) (W : WX) (kp : Nat → Bool) (st : List Stmt) (g : S → O) : Prop := PSs X st (sS X.K ϖ W kp g)
section
variable {K : PySem.W.Frag} {ϖ : Pend} {W : WX} {kp : Nat → Bool} {o : O} {Dn Dm : Ends} {σv σw : L2.St} {H H' : Hp} {f h : Fp}
theorem SPost.fr (p : SPost K ϖ W kp o Dn σv H f) (a : Fr H f H' h) (k : Kp kp σv σw) : SPost K ϖ W kp o Dn σw H' h := by
  cases o with
  | nx σ => exact fun σx H2 h2 r n w q => p σx H2 h2 r n (a.trans w) (k.trans q)
  | bk σ => exact fun σx H2 h2 r n w q => p σx H2 h2 r n (a.trans w) (k.trans q)
  | ct σ => exact fun σx H2 h2 r n w q => p σx H2 h2 r n (a.trans w) (k.trans q)
  | rt t σ => exact fun v σx H2 g2 h2 x r n w q => p v σx H2 g2 h2 x r n (a.trans w) (k.trans q)
  | exc C xs σ => exact fun d vs σx H2 h2 e x r n w q => p d vs σx H2 h2 e x r n (a.trans w) (k.trans q)
  | stuck => exact p
/-- what follows an expression -/
def R.then {α : Type} (r : R α) (k : α → S → O) : O := match r with
  | .ok a σ => k a σ
  | .exc C xs σ => .exc C xs σ
  | .stuck => .stuck
@[simp] theorem R.then_ok {α : Type} (a : α) (σ : S) (k : α → S → O) : (R.ok a σ).then k = k a σ := rfl
@[simp] theorem R.then_exc {α : Type} (C : Addr) (xs : List (Str × D)) (σ : S) (k : α → S → O) : (R.exc C xs σ : R α).then k = .exc C xs σ := rfl
@[simp] theorem R.then_stuck {α : Type} (k : α → S → O) : (R.stuck : R α).then k = .stuck := rfl
theorem evS {α β : Type} {Rl : Hp → β → α → Fp → Prop} {F : S → R α} {k : α → S → O} (q : sS K ϖ W kp (fun σ => (F σ).then k) Dn σv H) :
    tX K ϖ W Rl F σv H (fun u H2 => ∃ t2 g2 σ2 h2, Rl H2 u t2 g2 ∧ RS K ϖ H2 σv σ2 h2 ∧ Nd (fun b => g2 b + h2 b) ∧ SPost K ϖ W kp (k t2 σ2) Dn σv H2 (fun b => g2 b + h2 b)) := by
  obtain ⟨σ, h, hs, n, p⟩ := q
  have p : SPost K ϖ W kp ((F σ).then k) Dn σv H h := p
  refine ⟨σ, h, hs, n, ?_⟩
  cases e : F σ with
  | stuck => rw [e] at p; exact p
  | exc C xs σ' =>
    rw [e] at p
    exact fun d vs' H' h' a b c n w => p d vs' σv H' h' a b c n w (.refl _ _)
  | ok t2 σ2 =>
    rw [e] at p
    exact fun v H2 g2 h2 a b n w => ⟨t2, g2, σ2, h2, a, b, n, p.fr w (.refl _ _)⟩
theorem evSB {B : S → R Bool} {k : Bool → S → O} (q : sS K ϖ W kp (fun σ => (B σ).then k) Dn σv H) : tT K ϖ W B σv H (fun b H2 => sS K ϖ W kp (fun σ => k b σ) Dn σv H2) := by
  refine (evS (Rl := RB) q).mono fun b H1 ⟨c, g, σ, h1, ⟨e, z⟩, s1, n1, p1⟩ => ?_
  subst e
  have eg : (fun b => g b + h1 b) = h1 := by funext b; rw [z b]; omega
  rw [eg] at n1 p1
  exact ⟨σ, h1, s1, n1, p1⟩
theorem SPost.nx' {σ : S} (p : SPost K ϖ W kp (.nx σ) Dn σv H f) (r : RS K ϖ H σw σ h) (n : Nd h) (hf : ∀ b, h b ≤ f b) (k : Kp kp σv σw) : Dn.nx σw H := p σw H h r n ((Fr.refl H f).le hf) k
/-- a slot takes a value -/
theorem RS.sto {σ : S} {i : Nat} {v : V} {t : T} {g : Fp} (r : RS K ϖ H σv σ h) (q : RT K H v t g) (n : Nd fun b => g b + h b) : ∃ h', RS K ϖ H (σv.set i (some v)) (σ.set i (some t)) h' ∧ Nd h' ∧ ∀ b, h' b ≤ g b + h b := by
  by_cases hi : i < σ.length
  · obtain ⟨h1, r1, z⟩ := r.drop i
    exact ⟨_, r1.put hi q, n.le fun b => by have := z b; show g b + h1 b ≤ g b + h b; omega, fun b => by have := z b; show g b + h1 b ≤ g b + h b; omega⟩
  · have e1 : σv.set i (some v) = σv := by rw [List.set_eq_of_length_le]; rw [r.length]; omega
    have e2 : σ.set i (some t) = σ := by rw [List.set_eq_of_length_le]; omega
    rw [e1, e2]
    exact ⟨h, r, n.le (z_le _ _), z_le _ _⟩
end
section
variable {X : Cx} {ϖ : Pend} {W : WX} {kp : Nat → Bool} {e a b c : Expr} {es : List Expr} {F Fa Fb : S → R T} {A B : S → R G} {As : S → R (List G)} {st : Stmt} {sts : List Stmt} {g g1 g2 : S → O} {pos : Pos}
def sNx : S → O := fun σ => .nx σ
def sSeq (g1 g2 : S → O) : S → O := fun σ => match g1 σ with
  | .nx σ' => g2 σ'
  | o => o
theorem s_end {Dn : Ends} {K : PySem.W.Frag} {σv : L2.St} {H : Hp} (q : sS K ϖ W kp sNx Dn σv H) : Dn.nx σv H := by
  obtain ⟨σ, f, r, n, p⟩ := q
  have p : SPost K ϖ W kp (.nx σ) Dn σv H f := p
  exact p.nx' r n (fun _ => Nat.le_refl _) (.refl _ _)
theorem ds_nil : DSs X ϖ W kp [] sNx := pss_nil.imp fun Dn σv H q => s_end q
theorem ds_pass : DS X ϖ W kp (.Pass pos) sNx := ps_pass.imp fun Dn σv H q => s_end q
theorem ds_one (h : DS X ϖ W kp st g) : DSs X ϖ W kp [st] g := pss_one h
theorem ds_cons (h1 : DS X ϖ W kp st g1) (h2 : DSs X ϖ W kp sts g2) : DSs X ϖ W kp (st :: sts) (sSeq g1 g2) := by
  refine (pss_cons h1 h2).imp fun Dn σv H ⟨σ, f, r, n, p⟩ => ?_
  refine ⟨σ, f, r, n, ?_⟩
  unfold sSeq at p
  split at p
  · rename_i σ' e
    rw [e]
    exact fun σw H' h' r' n' w k => ⟨σ', h', r', n', p.fr w k⟩
  · rename_i o hne
    cases e : g1 σ with
    | nx σ' => exact absurd e (hne σ')
    | bk _ => rw [e] at p; exact p
    | ct _ => rw [e] at p; exact p
    | rt _ _ => rw [e] at p; exact p
    | exc _ _ _ => rw [e] at p; exact p
    | stuck => rw [e] at p; exact p
def sBk : S → O := fun σ => .bk σ
def sCt : S → O := fun σ => .ct σ
theorem ds_brk : DS X ϖ W kp (.Break pos) sBk := ps_break.imp fun Dn σv H ⟨σ, f, r, n, p⟩ => by
  have p : SPost X.K ϖ W kp (.bk σ) Dn σv H f := p
  exact p σv H f r n (.refl _ _) (.refl _ _)
theorem ds_cont : DS X ϖ W kp (.Continue pos) sCt := ps_continue.imp fun Dn σv H ⟨σ, f, r, n, p⟩ => by
  have p : SPost X.K ϖ W kp (.ct σ) Dn σv H f := p
  exact p σv H f r n (.refl _ _) (.refl _ _)
/-- x = e -/
def sAsg (i : Nat) (F : S → R T) : S → O := fun σ => (F σ).then fun t σ1 => .nx (σ1.set i (some t))
theorem asg_end {K : PySem.W.Frag} {i : Nat} {Dn : Ends} {σv : L2.St} {H : Hp} (hk : kp i = false) (q : sS K ϖ W kp (sAsg i F) Dn σv H) : tAsg (tE K ϖ W F) (gName i) Dn σv H := by
  refine (evS (Rl := RV K) (F := F) (k := fun t σ1 => .nx (σ1.set i (some t))) q).mono fun v H1 ⟨t, g, σ, h, r, s, n, p⟩ => ?_
  obtain ⟨h', r', n', z⟩ := s.sto (i := i) r n
  exact p.nx' r' n' z (.set hk)
theorem ds_set {i : Nat} {x : Str} {pos' : Pos} (hN : X.N.Nodup) (hi : X.N[i]? = some x) (hx : Loc X.env.scope x) (he : DE X ϖ W e F) (hk : kp i = false := by rfl) (hs : swapsWith e (some (.Name x pos')) pos.line X.env = pure false := by rfl) (hf : X.fn x = true ∨ X.env.scope.names.lookup x = some .local := by first | exact .inl rfl | exact .inr rfl | assumption) :
    DS X ϖ W kp (.Assign [.Name x pos'] e pos) (sAsg i F) := (ps_set hN hi hx he hs hf).imp fun Dn σv H q => asg_end hk q
/-- e -/
def sExpr (F : S → R T) : S → O := fun σ => (F σ).then fun _ σ1 => .nx σ1
theorem ds_expr (he : DE X ϖ W e F) (hs : swapsWith e none pos.line X.env = pure false := by rfl) : DS X ϖ W kp (.Expr e pos) (sExpr F) := by
  refine (ps_expr he hs).imp fun Dn σv H q => ?_
  refine (evS (Rl := RV X.K) (F := F) (k := fun _ σ1 => .nx σ1) q).mono fun v H1 ⟨t, g, σ, h, r, s, n, p⟩ => ?_
  exact p.nx' s (n.le (z_le _ _)) (z_le _ _) (.refl _ _)
/-- return e -/
def sRet (F : S → R T) : S → O := fun σ => (F σ).then fun t σ1 => .rt t σ1
theorem ds_ret (he : DE X ϖ W e F) : DS X ϖ W kp (.Return (some e) pos) (sRet F) := by
  refine (ps_ret he).imp fun Dn σv H q => ?_
  refine (evS (Rl := RV X.K) (F := F) (k := fun t σ1 => .rt t σ1) q).mono fun v H1 ⟨t, g, σ, h, r, s, n, p⟩ => ?_
  exact p v σv H1 g h r s n (.refl _ _) (.refl _ _)
def sRetN : S → O := fun σ => .rt (.val .non) σ
theorem ds_retN : DS X ϖ W kp (.Return none pos) sRetN := ps_retN.imp fun Dn σv H ⟨σ, f, r, n, p⟩ => by
  have p : SPost X.K ϖ W kp (.rt (.val .non) σ) Dn σv H f := p
  exact p .non σv H (fun _ => 0) f (.vl .non) r (n.le fun b => by show 0 + f b ≤ f b; omega) ((Fr.refl _ _).le fun b => by show 0 + f b ≤ f b; omega) (.refl _ _)
def sIf (B : S → R Bool) (g1 g2 : S → O) : S → O := fun σ => (B σ).then fun b σ1 => if b = true then g1 σ1 else g2 σ1
theorem ds_if {B : S → R Bool} {ys ns : List Stmt} (hc : DT X ϖ W c B) (ha : DSs X ϖ W kp ys g1) (hb : DSs X ϖ W kp ns g2) : DS X ϖ W kp (.If c ys ns pos) (sIf B g1 g2) :=
  (ps_if hc ha hb).imp fun Dn σv H q => tX.mono (evSB (B := B) (k := fun b σ1 => if b = true then g1 σ1 else g2 σ1) q) fun b H1 p => by
    cases b with
    | true => exact p
    | false => exact p
/-- x op= e, a local -/
def sAug (i : Nat) (o : T → T → Option T) (A : S → R G) : S → O := fun σ => match σ[i]? with
  | some (some _) => (A σ).then fun y σ1 => (op2 o (.inl i) y σ1).then fun t σ2 => .nx (σ2.set i (some t))
  | _ => .stuck
theorem ds_aug {i : Nat} {x : Str} {op : Operator} {o : T → T → Option T} {pos' : Pos} (hN : X.N.Nodup) (hi : X.N[i]? = some x) (hx : Loc X.env.scope x) (ho : OpT X (inplaceOp op) o) (he : DG X ϖ W e A) (hk : kp i = false := by rfl) (hf : X.fn x = true ∨ X.env.scope.names.lookup x = some .local := by first | exact .inl rfl | exact .inr rfl | assumption) :
    DS X ϖ W kp (.AugAssign (.Name x pos') op e pos) (sAug i o A) := by
  have hp : PIp X op (fun x y H Q => rT X.K o x y H Q) := fun pins s σ H x y v u Q I rx ry h => ho.r pins s σ H x y v u Q I rx ry h
  refine (ps_aug hN hi hx he hp hf).imp fun Dn σv H ⟨σ, f, r, n, p⟩ => ?_
  unfold sAug at p
  split at p
  · rename_i t et
    obtain ⟨v, _, _, ev, _, _, _⟩ := r.out et
    refine ⟨v, ev, ?_⟩
    have q : sS X.K ϖ W kp (fun σ => (A σ).then fun y σ1 => (op2 o (.inl i) y σ1).then fun t σ2 => .nx (σ2.set i (some t))) Dn σv H := ⟨σ, f, r, n, p⟩
    refine (evS (Rl := RO X.K σv) (F := A) q).mono fun u H1 ⟨y, g, σ1, h1, r1, s1, n1, p1⟩ => ?_
    have h1f : Nd h1 := n1.le (z_le _ _)
    unfold op2 at p1
    split at p1
    · rename_i t1 t2 e1 e2
      obtain ⟨v', f1, _, ev', q1, _, _⟩ := s1.out (look_some e1)
      rw [ev] at ev'; cases ev'
      obtain ⟨f2, q2⟩ := RO.rd r1 s1 e2
      unfold lift at p1
      cases e : o t1 t2 with
      | none => rw [e] at p1; exact p1.elim
      | some t' =>
        rw [e] at p1
        have p1 : SPost X.K ϖ W kp (.nx (σ1.set i (some t'))) Dn σv H1 (fun b => g b + h1 b) := p1
        refine ⟨t1, t2, t', f1, f2, q1, q2, e, fun z H' gz qz w => ?_⟩
        obtain ⟨h', r', n', z'⟩ := (w.rs s1).sto (i := i) qz (w.ndw s1.own h1f)
        exact p1 _ H' h' r' n' ((w.fr (z_le g h1)).le z') (.set hk)
    · exact p1.elim
  · exact p.elim

/-! ### targets -/
def tTg (K : PySem.W.Frag) (ϖ : Pend) (kp : Nat → Bool) (G : D → S → Option S) : TG := fun v σv H Q => ∃ d σ f, RD K H v d ∧ RS K ϖ H σv σ f ∧ Nd f ∧ match G d σ with
  | some σ' => ∀ σw H' h, RS K ϖ H' σw σ' h → Nd h → Fr H f H' h → Kp kp σv σw → Q σw H'
  | none => False
def tTgs (K : PySem.W.Frag) (ϖ : Pend) (kp : Nat → Bool) (G : List D → S → Option S) : TGs := fun vs σv H Q => ∃ ds σ f, RDs K H vs ds ∧ RS K ϖ H σv σ f ∧ Nd f ∧ match G ds σ with
  | some σ' => ∀ σw H' h, RS K ϖ H' σw σ' h → Nd h → Fr H f H' h → Kp kp σv σw → Q σw H'
  | none => False
def DTg (X : Cx) (ϖ : Pend) (kp : Nat → Bool) (tg : Expr) (G : D → S → Option S) : Prop := PG X tg (tTg X.K ϖ kp G)
def DTgs (X : Cx) (ϖ : Pend) (kp : Nat → Bool) (tg : List Expr) (G : List D → S → Option S) : Prop := PGs X tg (tTgs X.K ϖ kp G)
theorem _root_.L2.PG.imp {t t' : TG} (h : PG X e t) (i : ∀ v σ H Q, t' v σ H Q → t v σ H Q) : PG X e t' := ⟨fun pins s σ H v u Q I r w => h.run pins s σ H v u Q I r (i _ _ _ _ w)⟩
theorem _root_.L2.PGs.imp {t t' : TGs} (h : PGs X es t) (i : ∀ v σ H Q, t' v σ H Q → t v σ H Q) : PGs X es t' := ⟨fun pins s σ H v u Q I r w => h.run pins s σ H v u Q I r (i _ _ _ _ w)⟩
def tgN (i : Nat) : D → S → Option S := fun d σ => some (σ.set i (some (.val d)))
def tgNil : List D → S → Option S := fun ds σ => match ds with
  | [] => some σ
  | _ => none
def tgCons (G : D → S → Option S) (Gs : List D → S → Option S) : List D → S → Option S := fun ds σ => match ds with
  | d :: r => (G d σ).bind (Gs r)
  | _ => none
def tgT (n : Nat) (Gs : List D → S → Option S) : D → S → Option S := fun d σ => match d with
  | .tup ds => if ds.length = n then Gs ds σ else none
  | _ => none
theorem tg_name {i : Nat} {x : Str} (hN : X.N.Nodup) (hi : X.N[i]? = some x) (hx : Loc X.env.scope x) (hk : kp i = false := by rfl) (hf : X.fn x = true ∨ X.env.scope.names.lookup x = some .local := by first | exact .inl rfl | exact .inr rfl | assumption) : DTg X ϖ kp (.Name x pos) (tgN i) :=
  (pg_name hN hi hx hf).imp fun v σv H Q ⟨d, σ, f, rd, r, n, p⟩ => by
    obtain ⟨h', r', n', z⟩ := r.sto (i := i) (RT.vl rd) (n.le fun b => by show 0 + f b ≤ f b; omega)
    exact p _ H h' r' n' ((Fr.refl _ _).le fun b => by have : h' b ≤ 0 + f b := z b; omega) (.set hk)
theorem tgs_nil : DTgs X ϖ kp [] tgNil := pgs_nil.imp fun vs σv H Q ⟨ds, σ, f, rd, r, n, p⟩ => by
  cases rd with
  | nil => exact ⟨rfl, p σv H f r n (.refl _ _) (.refl _ _)⟩
  | cons _ _ => exact p.elim
theorem tgs_cons {G : D → S → Option S} {Gs : List D → S → Option S} (h1 : DTg X ϖ kp e G) (h2 : DTgs X ϖ kp es Gs) (hs : (assignEach (e :: es) X.env).map (·.2) = assign e X.env :: (assignEach es X.env).map (·.2) := by rfl) : DTgs X ϖ kp (e :: es) (tgCons G Gs) :=
  (pgs_cons h1 h2 hs).imp fun vs σv H Q ⟨ds, σ, f, rd, r, n, p⟩ => by
    cases rd with
    | nil => exact p.elim
    | @cons v vs d ds q qs =>
      refine ⟨v, vs, rfl, d, σ, f, q, r, n, ?_⟩
      unfold tgCons at p
      dsimp only at p
      cases e1 : G d σ with
      | none => rw [e1] at p; exact p.elim
      | some σ1 =>
        rw [e1] at p
        have p : match Gs ds σ1 with
          | some σ' => ∀ σw H' h, RS X.K ϖ H' σw σ' h → Nd h → Fr H f H' h → Kp kp σv σw → Q σw H'
          | none => False := p
        refine fun σw H1 h1 r1 n1 w1 k1 => ⟨ds, σ1, h1, qs.stb w1.stb, r1, n1, ?_⟩
        cases e2 : Gs ds σ1 with
        | none => rw [e2] at p; exact p.elim
        | some σ2 => rw [e2] at p; exact fun σx H2 h2 r2 n2 w2 k2 => p σx H2 h2 r2 n2 (w1.trans w2) (k1.trans k2)
theorem tg_tup {k n : Nat} {Gs : List D → S → Option S} (hc : X.calm = true) (h : DTgs X ϖ kp es Gs) (hn : (assignEach es X.env).length = n := by rfl) (hst : (assignEach es X.env).findIdx? (·.1) = none := by rfl) : DTg X ϖ kp (.Tuple es k pos) (tgT n Gs) :=
  (pg_tup hc h hn hst).imp fun v σv H Q ⟨d, σ, f, rd, r, nn, p⟩ => by
    unfold tgT at p
    cases rd with
    | tup sq q =>
      dsimp only at p
      split at p
      · rename_i σ' ee
        split at ee
        · rename_i hl
          refine ⟨_, _, rfl, sq, by rw [q.length]; exact hl, _, σ, f, q, r, nn, ?_⟩
          rw [ee]
          exact p
        · cases ee
      · exact p.elim
    | _ => exact p.elim
/-- target = e, by the value's parts -/
def sAsgT (G : D → S → Option S) (F : S → R T) : S → O := fun σ => (F σ).then fun t σ1 => match t with
  | .val d => (match G d σ1 with
    | some σ2 => .nx σ2
    | none => .stuck)
  | _ => .stuck
theorem ds_asg {tg : Expr} {G : D → S → Option S} (he : DE X ϖ W e F) (hg : DTg X ϖ kp tg G) (hs : swapsWithSole [tg] e pos.line X.env = pure false := by rfl) (hw : swappedStores [tg] e X.env = pure none := by rfl)
    (h1 : (assignEach [tg] X.env).map (·.2) = [assign tg X.env] := by rfl) : DS X ϖ W kp (.Assign [tg] e pos) (sAsgT G F) := by
  refine (ps_asg he hg hs hw h1).imp fun Dn σv H q => ?_
  refine (evS (Rl := RV X.K) (F := F) q).mono fun v H1 ⟨t, g, σ, h, r, s, n, p⟩ => ?_
  have r : RT X.K H1 v t g := r
  cases t with
  | val d =>
    refine ⟨d, σ, h, r.un, s, n.le (z_le _ _), ?_⟩
    dsimp only at p
    cases e1 : G d σ with
    | none => rw [e1] at p; exact p.elim
    | some σ2 =>
      rw [e1] at p
      exact fun σw H' h' r' n' w k => p σw H' h' r' n' (w.ge (z_le _ _)) k
  | _ => exact p.elim
/-- a, b = e1, e2 -/
def sPar (i j : Nat) (As : S → R (List G)) : S → O := fun σ => (As σ).then fun xs σ1 => match rds xs σ1 with
  | some ts => (match vals? ts with
    | some [d, d'] => .nx ((σ1.set i (some (.val d))).set j (some (.val d')))
    | _ => .stuck)
  | none => .stuck
theorem ds_par {i j : Nat} {x y : Str} {px py pt : Pos} {kt k2 pt2} (hc : X.calm = true) (hN : X.N.Nodup) (hi : X.N[i]? = some x) (hj : X.N[j]? = some y) (hij : i ≠ j)
    (hx : X.env.scope.names.lookup x = some .local) (hy : X.env.scope.names.lookup y = some .local) (ha : DGs X ϖ W [a, b] As)
    (hw : swappedStores [.Tuple [.Name x px, .Name y py] kt pt] (.Tuple [a, b] k2 pt2) X.env = pure (some [x, y])) (hki : kp i = false := by rfl) (hkj : kp j = false := by rfl)
    (hs : swapsWithSole [.Tuple [.Name x px, .Name y py] kt pt] (.Tuple [a, b] k2 pt2) pos.line X.env = pure false := by rfl) : DS X ϖ W kp (.Assign [.Tuple [.Name x px, .Name y py] kt pt] (.Tuple [a, b] k2 pt2) pos) (sPar i j As) := by
  refine (ps_par hc hN hi hj hij hx hy ha hw hs).imp fun Dn σv H q => ?_
  refine (evS (Rl := ROs X.K σv) (F := As) q).mono fun vs H1 ⟨xs, g, σ, h, r, s, n, p⟩ => ?_
  split at p
  · rename_i ts e1
    obtain ⟨f1, q1⟩ := ROs.rds (hs := s) r e1
    split at p
    · rename_i d d' e2
      have rd := q1.vals e2
      cases rd with
      | @cons v _ _ _ rv rr =>
        cases rr with
        | @cons w _ _ _ rw' rn =>
          cases rn
          have nh : Nd h := n.le (z_le _ _)
          obtain ⟨h1, r1, n1, z1⟩ := s.sto (i := i) (RT.vl rv) (nh.le fun b => by show 0 + h b ≤ h b; omega)
          obtain ⟨h2, r2, n2, z2⟩ := r1.sto (i := j) (RT.vl rw') (n1.le fun b => by show 0 + h1 b ≤ h1 b; omega)
          exact ⟨v, w, rfl, p.nx' r2 n2 (fun b => by have := z1 b; have := z2 b; simp only [Nat.zero_add] at *; omega) ((Kp.set hki).trans (.set hkj))⟩
    · exact p.elim
  · exact p.elim

/-! ### what is walked -/
structure WalkD (K : PySem.W.Frag) (J : It) (ds : List D) (Gd : Hp → Prop) : Prop where
  goes : ∀ i H, i < ds.length → Gd H → J.go i H
  stops : ∀ H, Gd H → J.stop ds.length H
  yields : ∀ i H x H', i < ds.length → Gd H → J.yld i H x H' → ∃ d, ds[i]? = some d ∧ RD K H' x d ∧ Nw H H' (fun _ => 0)
  stays : ∀ H H', Gd H → Stb H H' → Gd H'
def tI (K : PySem.W.Frag) (ϖ : Pend) (W : WX) (F : S → R (List D)) : TI := fun σv H R => tX K ϖ W (fun H' J ds g => (∃ Gd, WalkD K J ds Gd ∧ Gd H') ∧ ∀ b, g b = 0) F σv H R
def DI (X : Cx) (ϖ : Pend) (W : WX) (tg it : Expr) (F : S → R (List D)) : Prop := PI X tg it (tI X.K ϖ W F)
theorem _root_.L2.PI.imp {tg : Expr} {t t' : TI} (h : PI X tg e t) (i : ∀ σ H Q, t' σ H Q → t σ H Q) : PI X tg e t' := ⟨fun pins s σ H R I w => h.run pins s σ H R I (i _ _ _ w)⟩
theorem _root_.L2.PI.or {tg : Expr} {t t' : TI} (h : PI X tg e t) (h' : PI X tg e t') : PI X tg e (fun σ H R => t σ H R ∨ t' σ H R) := ⟨fun pins s σ H R I w => w.elim (h.run pins s σ H R I) (h'.run pins s σ H R I)⟩
theorem wd_list {K : PySem.W.Frag} {a : Addr} {vs : List V} {ds : List D} : ∀ {H : Hp}, FzL K H a vs → RDs K H vs ds → ∃ Gd, WalkD K (Itl K a) ds Gd ∧ Gd H := fun {H} q r => by
  refine ⟨fun H => FzL K H a vs ∧ RDs K H vs ds, ⟨fun i H hi ⟨q, r⟩ => ?_, fun H ⟨q, r⟩ => ⟨vs, q.sq, by rw [r.length]; exact Nat.le_refl _⟩, fun i H x H' hi ⟨q, r⟩ y => ?_, fun H H' ⟨q, r⟩ s => ⟨fzL_stb s q, r.stb s⟩⟩, q, r⟩
  · have h : i < vs.length := by rw [r.length]; exact hi
    exact ⟨vs, vs[i], q.sq, by simp [h]⟩
  · obtain ⟨e, y⟩ := y
    subst e
    obtain ⟨d, e1, e2⟩ := r.getV (y vs q.sq)
    exact ⟨d, e1, e2, Nw.refl _⟩
theorem wd_tup {K : PySem.W.Frag} {a : Addr} {vs : List V} {ds : List D} : ∀ {H : Hp}, SqT K H a vs → RDs K H vs ds → ∃ Gd, WalkD K (Itt K a) ds Gd ∧ Gd H := fun {H} q r => by
  refine ⟨fun H => SqT K H a vs ∧ RDs K H vs ds, ⟨fun i H hi ⟨q, r⟩ => ?_, fun H ⟨q, r⟩ => ⟨vs, q, by rw [r.length]; exact Nat.le_refl _⟩, fun i H x H' hi ⟨q, r⟩ y => ?_, fun H H' ⟨q, r⟩ s => ⟨sqT_stb s q, r.stb s⟩⟩, q, r⟩
  · have h : i < vs.length := by rw [r.length]; exact hi
    exact ⟨vs, vs[i], q, by simp [h]⟩
  · obtain ⟨e, y⟩ := y
    subst e
    obtain ⟨d, e1, e2⟩ := r.getV (y vs q)
    exact ⟨d, e1, e2, Nw.refl _⟩
/-- the items of data: a tuple's, a frozen list's -/
def D.items : D → Option (List D)
  | .tup xs => some xs
  | .lst xs => some xs
  | _ => none
def iSeq (F : S → R T) : S → R (List D) := fun σ => (F σ).bind fun t σ1 => match t with
  | .val d => (match d.items with
    | some ds => .ok ds σ1
    | none => .stuck)
  | _ => .stuck
theorem di_seq {tg : Expr} (h : DE X ϖ W e F) : DI X ϖ W tg e (iSeq F) := by
  refine ((pi_list (tg := tg) h).or (pi_tup (tg := tg) h)).imp fun σv H Rk q => ?_
  obtain ⟨σ, f, hs, n, p⟩ := q
  unfold iSeq at p
  have dead : ∀ {P : Prop}, Post X.K ϖ W (fun H' J ds g => (∃ Gd, WalkD X.K J ds Gd ∧ Gd H') ∧ ∀ b, g b = 0) σv (R.stuck : DL.R (List D)) H f Rk → P := fun h => h.elim
  cases e1 : F σ with
  | stuck => rw [e1] at p; exact p.elim
  | exc C xs σ' =>
    rw [e1] at p
    refine .inl ⟨σ, f, hs, n, ?_⟩
    rw [e1]
    exact p
  | ok t σ' =>
    rw [e1] at p
    simp only [R.bind_ok] at p
    cases t with
    | val d =>
      cases d with
      | tup ds =>
        refine .inr ⟨σ, f, hs, n, ?_⟩
        rw [e1]
        intro v H' g h r s nd w
        have r : RT X.K H' v (.val (.tup ds)) g := r
        obtain ⟨a, vs, rfl, sq, rd⟩ := r.tup
        refine ⟨a, rfl, ⟨vs, sq⟩, p (Itt X.K a) H' (fun _ => 0) h ⟨wd_tup sq rd, fun _ => rfl⟩ s (nd.le fun b => by show 0 + h b ≤ g b + h b; omega) (w.le fun b => by show 0 + h b ≤ g b + h b; omega)⟩
      | lst ds =>
        refine .inl ⟨σ, f, hs, n, ?_⟩
        rw [e1]
        intro v H' g h r s nd w
        have r : RT X.K H' v (.val (.lst ds)) g := r
        cases r.un with
        | lst q rd => exact ⟨_, rfl, ⟨_, q.sq⟩, p (Itl X.K _) H' (fun _ => 0) h ⟨wd_list q rd, fun _ => rfl⟩ s (nd.le fun b => by show 0 + h b ≤ g b + h b; omega) (w.le fun b => by show 0 + h b ≤ g b + h b; omega)⟩
      | _ => exact p.elim
    | _ => exact p.elim
/-- ints from lo on -/
def iota (lo : Int) : Nat → List D
  | 0 => []
  | n + 1 => .int lo :: iota (lo + 1) n
theorem iota_len (lo : Int) : ∀ n, (iota lo n).length = n
  | 0 => rfl
  | n + 1 => by unfold iota; rw [List.length_cons, iota_len]
theorem iota_get : ∀ (lo : Int) (n i : Nat), i < n → (iota lo n)[i]? = some (.int (lo + i))
  | lo, n + 1, 0, _ => by simp [iota]
  | lo, n + 1, i + 1, h => by
    unfold iota
    rw [List.getElem?_cons_succ, iota_get (lo + 1) n i (by omega)]
    congr 2
    omega
theorem wd_range {K : PySem.W.Frag} {lo : Int} {n : Nat} {H : Hp} : ∃ Gd, WalkD K (Itr lo n) (iota lo n) Gd ∧ Gd H :=
  ⟨fun _ => True, ⟨fun i H hi _ => by rw [iota_len] at hi; exact hi, fun H _ => by rw [iota_len]; exact Nat.le_refl _, fun i H x H' hi _ y => by
    obtain ⟨e, y⟩ := y
    subst e; subst y
    rw [iota_len] at hi
    exact ⟨_, iota_get lo n i hi, .int _, Nw.refl _⟩, fun _ _ _ _ => True.intro⟩, True.intro⟩
def rngOk (i : Int) : Bool := decide (-(2 ^ 62) ≤ i ∧ i < 2 ^ 62)
def iRg1 : List T → Option (List D)
  | [.val (.int j)] => if rngOk j = true then some (iota 0 j.toNat) else none
  | _ => none
def iRg2 : List T → Option (List D)
  | [.val (.int i), .val (.int j)] => if rngOk i = true ∧ rngOk j = true then some (iota i (j - i).toNat) else none
  | _ => none
def iG (o : List T → Option (List D)) (As : S → R (List G)) : S → R (List D) := fun σ => (As σ).bind fun xs σ1 => match rds xs σ1 with
  | some ts => (match o ts with
    | some ds => .ok ds σ1
    | none => .stuck)
  | none => .stuck
theorem iG_end {K : PySem.W.Frag} {o : List T → Option (List D)} {σv : L2.St} {H : Hp} {R : It → Hp → Prop} (q : tI K ϖ W (iG o As) σv H R) :
    tGs K ϖ W As σv H (fun vs H1 => ∃ ts ds g, RTs K H1 vs ts g ∧ o ts = some ds ∧ ∀ J H2, Nw H1 H2 (fun _ => 0) → (∃ Gd, WalkD K J ds Gd ∧ Gd H2) → R J H2) := by
  refine (ev0 (Rl := ROs K σv) (F := As) q).mono fun vs H1 ⟨xs, g, σ, h, r, s, n, p⟩ => ?_
  split at p
  · rename_i ts e1
    obtain ⟨f1, q1⟩ := ROs.rds (hs := s) r e1
    split at p
    · rename_i ds e2
      refine ⟨ts, ds, f1, q1, e2, fun J H2 w wd => ?_⟩
      exact p J H2 (fun _ => 0) h ⟨wd, fun _ => rfl⟩ (w.rs s) (n.le fun b => by show 0 + h b ≤ g b + h b; omega) ((w.fr (z_le g h)).le fun b => by show 0 + h b ≤ 0 + h b; omega)
    · exact p.elim
  · exact p.elim
theorem di_range1 {tg : Expr} {p : Pos} (hg : Gl X "range") (hm : X.mg "range" = none) (ha : DGs X ϖ W [a] As) (hs : starEach [a] X.env = [(false, eval a X.env)] := by rfl) : DI X ϖ W tg (.Call (.Name "range" p) [a] [] pos) (iG iRg1 As) :=
  (pi_range1 hg hm ha hs).imp fun σv H R q => tX.mono (iG_end q) fun vs H1 ⟨ts, ds, g, r, e, k⟩ => by
    unfold iRg1 at e
    split at e
    · split at e
      · rename_i j hj
        cases e
        cases r with
        | cons r1 r2 _ =>
          cases r2
          have hj := of_decide_eq_true hj
          exact ⟨j, by rw [r1.int], hj.1, hj.2, k _ H1 (Nw.refl _) wd_range⟩
      · cases e
    · cases e
theorem di_range2 {tg : Expr} {p : Pos} (hg : Gl X "range") (hm : X.mg "range" = none) (ha : DGs X ϖ W [a, b] As) (hs : starEach [a, b] X.env = [(false, eval a X.env), (false, eval b X.env)] := by rfl) (hs2 : starEach [b] X.env = [(false, eval b X.env)] := by rfl) : DI X ϖ W tg (.Call (.Name "range" p) [a, b] [] pos) (iG iRg2 As) :=
  (pi_range2 hg hm ha hs hs2).imp fun σv H R q => tX.mono (iG_end q) fun vs H1 ⟨ts, ds, g, r, e, k⟩ => by
    unfold iRg2 at e
    split at e
    · split at e
      · rename_i i j hj
        cases e
        cases r with
        | cons r1 r2 _ =>
          cases r2 with
          | cons r3 r4 _ =>
            cases r4
            have h1 := of_decide_eq_true hj.1
            have h2 := of_decide_eq_true hj.2
            exact ⟨i, j, by rw [r1.int, r3.int], ⟨h1.1, h1.2, h2.1, h2.2⟩, k _ H1 (Nw.refl _) wd_range⟩
      · cases e
    · cases e

/-! ### for, while -/
def loopO (G : D → S → Option S) (body : S → O) : List D → S → O
  | [], σ => .nx σ
  | d :: ds, σ => match G d σ with
    | none => .stuck
    | some σ1 => match body σ1 with
      | .nx σ2 => loopO G body ds σ2
      | .ct σ2 => loopO G body ds σ2
      | .bk σ2 => .nx σ2
      | o => o
def sFor (F : S → R (List D)) (G : D → S → Option S) (body : S → O) : S → O := fun σ => (F σ).then fun ds σ1 => loopO G body ds σ1
theorem ds_for {tg iter : Expr} {body : List Stmt} {F : S → R (List D)} {G : D → S → Option S} {gb : S → O} (hp : PassesOwn (model X.prog X.w) X.A X.env X.xe) (hc : X.calm = true) (hi : DI X ϖ W tg iter F) (hg : DTg X ϖ kp tg G) (hb : DSs X ϖ W kp body gb)
    (hs : ∀ x, foldedSetIterable iter X.env x = pure x := by intro _; rfl) : DS X ϖ W kp (.For tg iter body [] pos) (sFor F G gb) := by
  refine (ps_for hp hc hi hg hb hs).imp fun Dn σv H q => ?_
  refine (evS (Rl := fun H' J ds g => (∃ Gd, WalkD X.K J ds Gd ∧ Gd H') ∧ ∀ b, g b = 0) (F := F) q).mono fun J H1 ⟨ds, g, σ, h, ⟨⟨Gd, wd, gd⟩, z⟩, s, n, p⟩ => ?_
  have eg : (fun b => g b + h b) = h := by funext b; rw [z b]; omega
  rw [eg] at n p
  have w : Walk J ds.length Gd (fun i H x H' => ∃ d, ds[i]? = some d ∧ RD X.K H' x d ∧ Nw H H' (fun _ => 0)) := ⟨wd.goes, wd.stops, wd.yields⟩
  refine for_it w (fun i σw H2 => ∃ σ2 h2, RS X.K ϖ H2 σw σ2 h2 ∧ Nd h2 ∧ Gd H2 ∧ SPost X.K ϖ W kp (loopO G gb (ds.drop i) σ2) Dn σw H2 h2) ⟨σ, h, s, n, gd, p⟩ (fun i σw H2 _ ⟨_, _, _, _, gd, _⟩ => gd) ?_ ?_
  · rintro i x σw H2 H3 hi ⟨σ2, h2, r2, n2, gd2, p2⟩ ⟨d, e1, rd, nw⟩
    have e2 : ds.drop i = d :: ds.drop (i + 1) := by
      obtain ⟨h1, h2⟩ := List.getElem?_eq_some_iff.mp e1
      rw [(List.drop_eq_getElem_cons h1), h2]
    rw [e2] at p2
    unfold loopO at p2
    refine ⟨d, σ2, h2, rd, nw.rs r2, n2, ?_⟩
    cases eg : G d σ2 with
    | none => rw [eg] at p2; exact p2.elim
    | some σ3 =>
      rw [eg] at p2
      dsimp only at p2 ⊢
      intro σx H4 h4 r4 n4 w4 k4
      have w24 : Fr H2 h2 H4 h4 := (((nw.fr (h := h2) (f := h2) fun _ => Nat.le_refl _).le fun b => by show h2 b ≤ 0 + h2 b; omega)).trans w4
      refine ⟨σ3, h4, r4, n4, ?_⟩
      have gd4 : Gd H4 := wd.stays _ _ gd2 w24.stb
      cases eb : gb σ3 with
      | nx σ5 =>
        rw [eb] at p2
        exact fun σy H5 h5 r5 n5 w5 k5 => ⟨σ5, h5, r5, n5, wd.stays _ _ gd4 w5.stb, p2.fr (w24.trans w5) (k4.trans k5)⟩
      | ct σ5 =>
        rw [eb] at p2
        exact fun σy H5 h5 r5 n5 w5 k5 => ⟨σ5, h5, r5, n5, wd.stays _ _ gd4 w5.stb, p2.fr (w24.trans w5) (k4.trans k5)⟩
      | bk σ5 =>
        rw [eb] at p2
        exact fun σy H5 h5 r5 n5 w5 k5 => p2 σy H5 h5 r5 n5 (w24.trans w5) (k4.trans k5)
      | rt t σ5 =>
        rw [eb] at p2
        exact SPost.fr (o := .rt t σ5) p2 w24 k4
      | exc C xs σ5 =>
        rw [eb] at p2
        exact SPost.fr (o := .exc C xs σ5) p2 w24 k4
      | stuck =>
        rw [eb] at p2
        exact p2
  · rintro σw H2 ⟨σ2, h2, r2, n2, gd2, p2⟩
    rw [List.drop_length] at p2
    exact p2.nx' r2 n2 (fun _ => Nat.le_refl _) (.refl _ _)
def whileO (B : S → R Bool) (body : S → O) : Nat → S → O
  | 0, _ => .stuck
  | n + 1, σ => (B σ).then fun b σ1 => if b = true then (match body σ1 with
      | .nx σ2 => whileO B body n σ2
      | .ct σ2 => whileO B body n σ2
      | .bk σ2 => .nx σ2
      | o => o) else .nx σ1
def sWhile (fuel : S → Nat) (B : S → R Bool) (body : S → O) : S → O := fun σ => whileO B body (fuel σ) σ
theorem ds_while {body : List Stmt} {B : S → R Bool} {gb : S → O} (fuel : S → Nat) (hp : PassesOwn (model X.prog X.w) X.A X.env X.xe) (hc : DT X ϖ W c B) (hb : DSs X ϖ W kp body gb) : DS X ϖ W kp (.While c body [] pos) (sWhile fuel B gb) := by
  refine (ps_while hp hc hb).imp fun Dn σv H ⟨σ, f, r, n, p⟩ => ?_
  refine ⟨fun m σw H2 => ∃ σ2 h2, RS X.K ϖ H2 σw σ2 h2 ∧ Nd h2 ∧ SPost X.K ϖ W kp (whileO B gb m σ2) Dn σw H2 h2, ⟨fuel σ, σ, f, r, n, p⟩, ?_⟩
  rintro m σw H2 ⟨σ2, h2, r2, n2, p2⟩
  cases m with
  | zero => exact p2.elim
  | succ m =>
    have q : ∃ σ f, RS X.K ϖ H2 σw σ f ∧ Nd f ∧ SPost X.K ϖ W kp ((B σ).then fun b σ1 => if b = true then (match gb σ1 with
      | .nx σ2 => whileO B gb m σ2
      | .ct σ2 => whileO B gb m σ2
      | .bk σ2 => .nx σ2
      | o => o) else .nx σ1) Dn σw H2 f := ⟨σ2, h2, r2, n2, p2⟩
    refine tX.mono (evSB (B := B) q) fun b H3 ⟨σ3, h3, r3, n3, p3⟩ => ?_
    cases b with
    | false => exact p3.nx' r3 n3 (fun _ => Nat.le_refl _) (.refl _ _)
    | true =>
      have p3 : SPost X.K ϖ W kp (match gb σ3 with
        | .nx σ2 => whileO B gb m σ2
        | .ct σ2 => whileO B gb m σ2
        | .bk σ2 => .nx σ2
        | o => o) Dn σw H3 h3 := p3
      rw [if_pos rfl]
      refine ⟨fun σx H4 => ∃ σ4 h4, RS X.K ϖ H4 σx σ4 h4 ∧ Nd h4 ∧ SPost X.K ϖ W kp (whileO B gb m σ4) Dn σx H4 h4, fun σx H4 q => ⟨m, Nat.lt_succ_self m, q⟩, σ3, h3, r3, n3, ?_⟩
      cases eb : gb σ3 with
      | nx σ5 =>
        rw [eb] at p3
        exact fun σy H5 h5 r5 n5 w5 k5 => ⟨σ5, h5, r5, n5, p3.fr w5 k5⟩
      | ct σ5 =>
        rw [eb] at p3
        exact fun σy H5 h5 r5 n5 w5 k5 => ⟨σ5, h5, r5, n5, p3.fr w5 k5⟩
      | bk σ5 =>
        rw [eb] at p3
        exact fun σy H5 h5 r5 n5 w5 k5 => p3 σy H5 h5 r5 n5 w5 k5
      | rt t σ5 =>
        rw [eb] at p3
        exact p3
      | exc C xs σ5 =>
        rw [eb] at p3
        exact p3
      | stuck =>
        rw [eb] at p3
        exact p3
end
end DL

set_option Elab.async false
set_option linter.all false
set_option maxRecDepth 100000
set_option maxHeartbeats 4200000
/-! DL5: defs and their calls. -/
namespace DL
open PySem PySem.Spec PyProof.Rows L2

inductive Rf where
  | ok (t : T) (ps : S)
  | exc (C : Addr) (xs : List (Str × D)) (ps : S)
  | stuck
/-- what a def does of its arguments; ps: what stands in the parameters behind it -/
abbrev Fn := List T → Rf
def spF (K : PySem.W.Frag) (F : Fn) : Sp := fun vs H Q E => ∃ ts f, RTs K H vs ts f ∧ Nd f ∧ match F ts with
  | .ok t ps => ∀ v H' g h, RT K H' v t g → RS K Pend.no H' (vs.map some) ps h → Nd (fun b => g b + h b) → Fr H f H' (fun b => g b + h b) → Q v H'
  | .exc C xs ps => ∀ d ws H' h, H' d = some (.xd ws) → RK K H' ws xs → RS K Pend.no H' (vs.map some) ps h → Nd h → Fr H f H' h → E (.ref C) (some d) H'
  | .stuck => False
/-- the parameters behind a def's body: those that are stored again are forgotten (data: as it was) -/
def msk (kp : Nat → Bool) : Nat → List T → S → S
  | _, [], _ => []
  | j, t :: ts, [] => none :: msk kp (j + 1) ts []
  | j, t :: ts, s :: σ => (if kp j = true then s else match t with
    | .val d => some (.val d)
    | _ => none) :: msk kp (j + 1) ts σ
def strt (N : Nat) (ts : List T) : S := ts.map some ++ List.replicate (N - ts.length) none
def mkFn (n N : Nat) (kp : Nat → Bool) (g : S → O) : Fn := fun ts => if ts.length = n then match g (strt N ts) with
  | .rt t σ => .ok t (msk kp 0 ts σ)
  | .nx σ => .ok (.val .non) (msk kp 0 ts σ)
  | .exc C xs σ => .exc C xs (msk kp 0 ts σ)
  | _ => .stuck else .stuck
section
variable {K : PySem.W.Frag} {ϖ : Pend} {H H' : Hp}
theorem rs_repl : ∀ (n : Nat) {f : Fp}, (∀ b, f b = 0) → RS K Pend.no H (List.replicate n none) (List.replicate n none) f
  | 0, _, z => .nil True.intro z
  | n + 1, _, z => .non (rs_repl n z)
theorem rs_start : ∀ {vs : List V} {ts : List T} {f : Fp} (n : Nat), RTs K H vs ts f → RS K Pend.no H (vs.map some ++ List.replicate n none) (ts.map some ++ List.replicate n none) f
  | _, _, _, n, .nil z => rs_repl n z
  | _, _, _, n, .cons q r z => .som q (rs_start n r) z
/-- behind the body -/
theorem rs_msk {kp : Nat → Bool} : ∀ {vs : List V} {ts : List T} {σw : L2.St} {σ : S} {f g : Fp} (j : Nat), RTs K H vs ts g → Stb H H' → RS K ϖ H' σw σ f → (∀ i, kp (j + i) = true → ∀ v, vs[i]? = some v → σw[i]? = some (some v)) →
    ∃ h, RS K Pend.no H' (vs.map some) (msk kp j ts σ) h ∧ ∀ b, h b ≤ f b
  | _, _, _, _, f, _, j, .nil _, s, r, k => ⟨fun _ => 0, .nil True.intro fun _ => rfl, fun _ => Nat.zero_le _⟩
  | _, _, _, _, f, _, j, .cons q rs z, s, .nil p z', k => by
    obtain ⟨h, r', le⟩ := rs_msk (kp := kp) (σw := []) (σ := []) (j + 1) rs s (.nil p z') fun i e v ev => by
      have := k (i + 1) (by rw [show j + (i + 1) = j + 1 + i by omega]; exact e) v (by simpa using ev)
      simp at this
    exact ⟨h, .non r', le⟩
  | v :: vs, t :: ts, x :: σw, _, f, _, j, .cons q rs z, s, .non r, k => by
    obtain ⟨h, r', le⟩ := rs_msk (kp := kp) (j + 1) rs s r fun i e w ev => by
      have := k (i + 1) (by rw [show j + (i + 1) = j + 1 + i by omega]; exact e) w (by simpa using ev)
      simpa using this
    by_cases hk : kp j = true
    · refine ⟨h, ?_, le⟩
      show RS K Pend.no H' (some v :: vs.map some) ((if kp j = true then none else _) :: msk kp (j + 1) ts _) h
      rw [if_pos hk]
      exact .non r'
    · cases t with
      | val d =>
        refine ⟨h, ?_, le⟩
        show RS K Pend.no H' (some v :: vs.map some) ((if kp j = true then none else some (.val d)) :: msk kp (j + 1) ts _) h
        rw [if_neg hk]
        exact .som (.vl (q.un.stb s)) r' fun b => (Nat.zero_add _).symm
      | _ =>
        refine ⟨h, ?_, le⟩
        show RS K Pend.no H' (some v :: vs.map some) ((if kp j = true then none else none) :: msk kp (j + 1) ts _) h
        rw [if_neg hk]
        exact .non r'
  | v :: vs, t :: ts, _, _, f, _, j, .cons q rs z, s, .som (v := x) (t := u) (g := g1) (h := h1) q1 r z1, k => by
    obtain ⟨h, r', le⟩ := rs_msk (kp := kp) (j + 1) rs s r fun i e w ev => by
      have := k (i + 1) (by rw [show j + (i + 1) = j + 1 + i by omega]; exact e) w (by simpa using ev)
      simpa using this
    by_cases hk : kp j = true
    · have ex : x = v := by
        have := k 0 hk v rfl
        simpa using this
      subst ex
      refine ⟨fun b => g1 b + h b, ?_, fun b => by have := le b; have := z1 b; show g1 b + h b ≤ f b; omega⟩
      show RS K Pend.no H' (some x :: vs.map some) ((if kp j = true then some u else _) :: msk kp (j + 1) ts _) _
      rw [if_pos hk]
      exact .som q1 r' fun b => rfl
    · cases t with
      | val d =>
        refine ⟨h, ?_, fun b => by have := le b; have := z1 b; omega⟩
        show RS K Pend.no H' (some v :: vs.map some) ((if kp j = true then some u else some (.val d)) :: msk kp (j + 1) ts _) h
        rw [if_neg hk]
        exact .som (.vl (q.un.stb s)) r' fun b => (Nat.zero_add _).symm
      | _ =>
        refine ⟨h, ?_, fun b => by have := le b; have := z1 b; omega⟩
        show RS K Pend.no H' (some v :: vs.map some) ((if kp j = true then some u else none) :: msk kp (j + 1) ts _) h
        rw [if_neg hk]
        exact .non r'
end
/-- room for calls, and no repr is under way -/
structure Rm (k : Nat) (A : Around) : Prop where
  rm : Room k A
  gd : A.guards = some []
theorem Rm.mono {j k : Nat} {A : Around} (r : Rm k A) (h : j ≤ k) : Rm j A := ⟨r.rm.mono h, r.gd⟩
theorem Rm.deeper {k : Nat} {A : Around} (r : Rm (k + 1) A) (env : Env) : Rm k (A.deeper env) := ⟨r.rm.deeper env, r.gd⟩
theorem Rm.un {k : Nat} {A : Around} (r : Rm k A) : A.units + 64 < cLine := by have := r.rm.un; omega
/-- what a def promises where no repr is under way -/
structure FnG (P : Program) (w : World) (K : PySem.W.Frag) (mg : Str → Option Value) (base : Heap) (k : Nat) (f : Addr) (fd : FuncData) (ps : List Str) (sp : Sp) : Prop where
  len : ∀ (vs : List V) H Q E, sp vs H Q E → vs.length = ps.length
  run : ∀ (A : Around) (outer : List Env) (s : Shared) (H : Hp) (args : Args) (us : List Value) (vs : List V) (Q : VK) (E : XK), Rm k A → Env0 P w K mg base A outer s H → BindsTo s fd args (ps.zip us) → Vals vs us → sp vs H Q E →
    codeAny (model P w) A (.call (.ref f) args) (CR (L2.CX P w) outer P w H s Q E) s
theorem FnG.mono {P : Program} {w : World} {K : PySem.W.Frag} {mg : Str → Option Value} {base : Heap} {j k : Nat} {f : Addr} {fd : FuncData} {ps : List Str} {sp : Sp} (F : FnG P w K mg base j f fd ps sp) (h : j ≤ k) : FnG P w K mg base k f fd ps sp :=
  ⟨F.len, fun A outer s H args us vs Q E r => F.run A outer s H args us vs Q E (r.mono h)⟩
/-- by its body -/
theorem fng_of {P : Program} {w : World} {K : PySem.W.Frag} {mg : Str → Option Value} {base : Heap} {k : Nat} {f : Addr} {nm qual : Str} {prm : Arguments} {body : List Stmt} {sc : Scope} {dV kV dc pm cdv ct oc : Value} {an od : Option Addr} {osl : Array (Option Value)} {N ps : List Str} {sp : Sp}
    (lk : K.lookup f = some ⟨oc, od, .func (PySem.W.fnOf nm qual prm body sc dV kV dc pm an cdv ct), osl⟩) (hcd : PySem.W.codeIn K cdv qual = true) (T : FnScope N ps sc) (len : ∀ vs H Q E, sp vs H Q E → vs.length = ps.length)
    (hb : ∀ (A : Around) (outer : List Env) (s : Shared) (H : Hp) (vs : List V) (Q : VK) (E : XK), Rm k (A.deeper (envOfC qual sc s.heap.objs.size f cdv)) → sp vs H Q E →
      ∃ t, PSs (cxOf (L2.CX P w) P w K mg base N qual sc f cdv A outer s H E) body t ∧ t { nx := fun _ H' => Q .non H', rt := Q } (L2.start N vs) H) :
    FnG P w K mg base (k + 1) f (PySem.W.fnOf nm qual prm body sc dV kV dc pm an cdv ct) ps sp := by
  refine ⟨len, fun A outer s H args us vs Q E rm en bd rv hsp => ?_⟩
  have kIn : K.In s.heap := en.mod.kin.keeps fun b o e => (en.bs b o e).1
  have loc : ∀ y ∈ ps.zip us, sc.names.lookup y.1 = some .local ∨ (sc.names.lookup y.1 = some .cell ∧ ((cellsFrom (s.heap.objs.size + 1) sc.names []).lookup y.1).isSome = true) := fun ⟨n, v⟩ hy =>
    (T.par n (List.of_mem_zip hy).1).imp id fun q => ⟨q, PySem.W.cellsFrom_some _ _ _ (.inl q)⟩
  refine codeAny_call_function rm.rm.depth (kIn _ _ lk) rfl T.co T.gen rfl (PySem.W.codeRec_of kIn hcd) (bd _ _ _ _ (wpAny_newFunctionEnv_cells T.kind loc fun env he s1 x => ?_))
  subst he
  refine ⟨(en.mod.nolimit.keeps fun b o e => (en.bs b o e).1).keeps x.toInCall.keep, codeAny_func ?_⟩
  obtain ⟨t, ht, hq⟩ := hb A outer s H vs Q E (rm.deeper _) hsp
  refine wpAny_mono (ht.run [] s1 (L2.start N vs) H _ (inv_start T rm.rm.hd en (len _ _ _ _ hsp) rv x) hq) (fun fl s' hs => ?_) fun e s' hs => hs
  cases fl with
  | ret u => obtain ⟨v, σ', H', J, r, q⟩ := hs; exact ⟨v, H', J.os, J.bare, J.base, J.hok, r, q⟩
  | next => obtain ⟨σ', H', J, q⟩ := hs; exact ⟨V.non, H', J.os, J.bare, J.base, J.hok, rfl, q⟩
  | brk => obtain ⟨_, _, _, q⟩ := hs; exact q.elim
  | cont => obtain ⟨_, _, _, q⟩ := hs; exact q.elim
section
variable {P : Program} {w : World} {K : PySem.W.Frag} {mg : Str → Option Value} {base : Heap}
/-- A DEF, BY ITS BODY -/
theorem dl_fn {x qual : Str} {st : Stmt} {f : Addr} {fd : FuncData} {N ps : List Str} {k : Nat} {kp : Nat → Bool} {g : S → O} (F : Fun K x qual st f fd) (Sc : FnScope N ps (defScope st)) (hN : ps.length ≤ N.length)
    (hbody : ∀ (cdv : Value) (A : Around) (outer : List Env) (s : Shared) (H : Hp) (E : XK), Rm k (A.deeper (envOfC qual (defScope st) s.heap.objs.size f cdv)) →
      DSs (cxOf (L2.CX P w) P w K mg base N qual (defScope st) f cdv A outer s H E) Pend.no (fun c d _ H => E c d H) kp (defBody st) g) : FnG P w K mg base (k + 1) f fd ps (spF K (mkFn ps.length N.length kp g)) := by
  obtain ⟨_, _, _, _, _, _, cdv, _, _, rfl, lk, hcd⟩ := F.ex
  refine fng_of lk hcd Sc (fun vs H Q E ⟨ts, f, r, n, p⟩ => ?_) fun A outer s H vs Q E hr ⟨ts, f, r, n, p⟩ => ⟨_, hbody cdv A outer s H E hr, ?_⟩
  · unfold mkFn at p
    by_cases hl : ts.length = ps.length
    · rw [r.length, hl]
    · rw [if_neg hl] at p; exact p.elim
  · unfold mkFn at p
    by_cases hl : ts.length = ps.length
    · rw [if_pos hl] at p
      have hv : vs.length = ts.length := r.length
      refine ⟨strt N.length ts, f, ?_, n, ?_⟩
      · unfold L2.start strt
        rw [hv]
        exact rs_start _ r
      · have kk : ∀ {σw : L2.St}, Kp kp (L2.start N vs) σw → ∀ i, kp (0 + i) = true → ∀ v, vs[i]? = some v → σw[i]? = some (some v) := fun {σw} k i e v ev => by
          rw [Nat.zero_add] at e
          rw [k i e]
          unfold L2.start
          have hi : i < (vs.map some).length := by rw [List.length_map]; exact (List.getElem?_eq_some_iff.mp ev).1
          rw [List.getElem?_append_left hi, List.getElem?_map, ev]
          rfl
        cases e : g (strt N.length ts) with
        | rt t σ =>
          rw [e] at p
          intro v σw H' gt ht q rs nd fr k
          obtain ⟨h', r', le⟩ := rs_msk (kp := kp) 0 r fr.stb rs (kk k)
          exact p v H' gt h' q r' (nd.le fun b => by have := le b; show gt b + h' b ≤ gt b + ht b; omega) (fr.le fun b => by have := le b; show gt b + h' b ≤ gt b + ht b; omega)
        | nx σ =>
          rw [e] at p
          intro σw H' ht rs nd fr k
          obtain ⟨h', r', le⟩ := rs_msk (kp := kp) 0 r fr.stb rs (kk k)
          exact p .non H' (fun _ => 0) h' (.vl .non) r' (nd.le fun b => by have := le b; show 0 + h' b ≤ ht b; omega) (fr.le fun b => by have := le b; show 0 + h' b ≤ ht b; omega)
        | exc C xs σ =>
          rw [e] at p
          intro d ws σw H' ht ed rk rs nd fr k
          obtain ⟨h', r', le⟩ := rs_msk (kp := kp) 0 r fr.stb rs (kk k)
          exact p d ws H' h' ed rk r' (nd.le le) (fr.le le)
        | bk σ => rw [e] at p; exact p.elim
        | ct σ => rw [e] at p; exact p.elim
        | stuck => rw [e] at p; exact p.elim
    · rw [if_neg hl] at p; exact p.elim
end
/-- a def of the text, with what it does -/
structure Def (P : Program) (w : World) (K : PySem.W.Frag) (mg : Str → Option Value) (base : Heap) (x : Str) (k : Nat) (F : Fn) : Prop where
  ex : ∃ (f : Addr) (fd : FuncData) (ps : List Str), mg x = some (.ref f) ∧ PySem.W.keepIn K (.ref f) = true ∧ Binds K fd ps [] ∧ FnG P w K mg base k f fd ps (spF K F)
theorem Def.mono {P : Program} {w : World} {K : PySem.W.Frag} {mg : Str → Option Value} {base : Heap} {x : Str} {j k : Nat} {F : Fn} (h : Def P w K mg base x j F) (l : j ≤ k) : Def P w K mg base x k F := by
  obtain ⟨f, fd, ps, a, b, c, d⟩ := h.ex
  exact ⟨f, fd, ps, a, b, c, d.mono l⟩

/-! ### calls -/
/-- the arguments, taken out of the slots -/
def takeG : List G → S → Option (List T × S)
  | [], σ => some ([], σ)
  | .inr t :: r, σ => (takeG r σ).map fun q => (t :: q.1, q.2)
  | .inl i :: r, σ => match look σ i with
    | some (.val d) => (takeG r σ).map fun q => (.val d :: q.1, q.2)
    | some t => (takeG r (σ.set i none)).map fun q => (t :: q.1, q.2)
    | none => none
/-- .. and put back -/
def backG : List G → S → S → S
  | .inl i :: r, some t :: ps, σ => match σ[i]? with
    | some none => backG r ps (σ.set i (some t))
    | _ => backG r ps σ
  | _ :: r, _ :: ps, σ => backG r ps σ
  | _, _, σ => σ
def callF (F : Fn) (xs : List G) (σ : S) : R T := match takeG xs σ with
  | none => .stuck
  | some (ts, σ1) => match F ts with
    | .ok t ps => .ok t (backG xs ps σ1)
    | .exc C ys ps => .exc C ys (backG xs ps σ1)
    | .stuck => .stuck
def eCall (F : Fn) (As : S → R (List G)) : S → R T := fun σ => (As σ).bind fun xs σ1 => callF F xs σ1
section
variable {K : PySem.W.Frag} {ϖ : Pend} {σv : L2.St} {H H' : Hp}
theorem take_ok : ∀ {vs : List V} {xs : List G} {g h : Fp} {σ σ1 : S} {ts : List T}, ROs K σv H vs xs g → RS K ϖ H σv σ h → takeG xs σ = some (ts, σ1) → ∃ g1 h1, RTs K H vs ts g1 ∧ RS K ϖ H σv σ1 h1 ∧ ∀ b, g1 b + h1 b = g b + h b
  | _, [], g, h, σ, σ1, ts, .nil z, hs, e => by
    have e := Option.some.inj e
    have e1 : ts = [] := (congrArg Prod.fst e).symm
    have e2 : σ1 = σ := (congrArg Prod.snd e).symm
    subst e1; subst e2
    exact ⟨fun _ => 0, h, .nil fun _ => rfl, hs, fun b => by rw [z b]⟩
  | _, .inr t :: r, g, h, σ, σ1, ts, .cons (.tmp q) rs z, hs, e => by
    unfold takeG at e
    obtain ⟨⟨us, σ2⟩, e1, e2⟩ := Option.map_eq_some_iff.mp e
    have e3 : t :: us = ts := congrArg Prod.fst e2
    have e4 : σ2 = σ1 := congrArg Prod.snd e2
    subst e3; subst e4
    obtain ⟨g1, h1, a, b, c⟩ := take_ok rs hs e1
    exact ⟨_, h1, .cons q a fun _ => rfl, b, fun x => by have := c x; rw [z x]; omega⟩
  | _, .inl i :: r, g, h, σ, σ1, ts, .cons (.ref ev z0) rs z, hs, e => by
    unfold takeG at e
    split at e
    · rename_i d ed
      obtain ⟨⟨us, σ2⟩, e1, e2⟩ := Option.map_eq_some_iff.mp e
      have e3 : T.val d :: us = ts := congrArg Prod.fst e2
      have e4 : σ2 = σ1 := congrArg Prod.snd e2
      subst e3; subst e4
      obtain ⟨g1, h1, a, b, c⟩ := take_ok rs hs e1
      obtain ⟨v', gx, hx, ev', q, _, _⟩ := hs.out (look_some ed)
      rw [ev] at ev'; cases ev'
      exact ⟨g1, h1, .cons (.vl q.un) a fun b => (Nat.zero_add _).symm, b, fun x => by have := c x; rw [z x, z0 x]; omega⟩
    · rename_i t hne et
      obtain ⟨⟨us, σ2⟩, e1, e2⟩ := Option.map_eq_some_iff.mp e
      have e3 : t :: us = ts := congrArg Prod.fst e2
      have e4 : σ2 = σ1 := congrArg Prod.snd e2
      subst e3; subst e4
      obtain ⟨v', gx, hx, ev', q, r', zz⟩ := hs.out (look_some et)
      rw [ev] at ev'; cases ev'
      obtain ⟨g1, h1, a, b, c⟩ := take_ok rs r' e1
      exact ⟨_, h1, .cons q a fun _ => rfl, b, fun x => by have := c x; rw [z x, z0 x, zz x]; omega⟩
    · cases e
theorem back_ok : ∀ {vs : List V} {xs : List G} {g0 g h : Fp} {σ ps : S} {H0 : Hp}, ROs K σv H0 vs xs g0 → RS K Pend.no H (vs.map some) ps g → RS K ϖ H σv σ h → ∃ h1, RS K ϖ H σv (backG xs ps σ) h1 ∧ ∀ b, h1 b ≤ g b + h b
  | _, [], g0, g, h, σ, ps, H0, .nil _, r, hs => by
    have e : backG [] ps σ = σ := by cases ps <;> rfl
    rw [e]
    exact ⟨h, hs, fun b => Nat.le_add_left _ _⟩
  | v :: vs, .inr t :: xs, g0, g, h, σ, _, H0, .cons _ rs _, r, hs => by
    have r : RS K Pend.no H (some v :: vs.map some) _ g := r
    cases r with
    | non r =>
      obtain ⟨h1, a, b⟩ := back_ok rs r hs
      exact ⟨h1, a, b⟩
    | som q r1 z =>
      obtain ⟨h1, a, b⟩ := back_ok rs r1 hs
      exact ⟨h1, a, fun x => by have := b x; rw [z x]; omega⟩
  | v :: vs, .inl i :: xs, g0, g, h, σ, _, H0, .cons (.ref ev _) rs _, r, hs => by
    have r : RS K Pend.no H (some v :: vs.map some) _ g := r
    cases r with
    | non r =>
      obtain ⟨h1, a, b⟩ := back_ok rs r hs
      exact ⟨h1, a, b⟩
    | @som _ t _ σp _ gx hx q r1 z =>
      cases e : σ[i]? with
      | none =>
        obtain ⟨h1, a, b⟩ := back_ok rs r1 hs
        refine ⟨h1, ?_, fun x => by have := b x; rw [z x]; omega⟩
        unfold backG
        rw [e]
        exact a
      | some o =>
        cases o with
        | none =>
          have hi : i < σ.length := (List.getElem?_eq_some_iff.mp e).1
          have es : σ.set i none = σ := by
            obtain ⟨h1, h2⟩ := List.getElem?_eq_some_iff.mp e
            rw [← h2, List.set_getElem_self]
          have hs' : RS K ϖ H σv (σ.set i none) h := by rw [es]; exact hs
          obtain ⟨h1, a, b⟩ := back_ok rs r1 (hs'.putSame hi ev q)
          refine ⟨h1, ?_, fun x => by have : h1 x ≤ hx x + (gx x + h x) := b x; rw [z x]; omega⟩
          unfold backG
          rw [e]
          exact a
        | some t' =>
          obtain ⟨h1, a, b⟩ := back_ok rs r1 hs
          refine ⟨h1, ?_, fun x => by have := b x; rw [z x]; omega⟩
          unfold backG
          rw [e]
          exact a
end
section
variable {X : Cx} {ϖ : Pend} {W : WX} {kp : Nat → Bool} {e a b c : Expr} {es : List Expr} {As : S → R (List G)} {pos : Pos}
theorem eCall_of {F : Fn} {σv : L2.St} {H : Hp} {Q : VK} (h : tE X.K ϖ W (eCall F As) σv H Q) : tCallS (spF X.K F) (WE W) (tGs X.K ϖ W As) σv H Q := by
  refine (ev0 (Rl := ROs X.K σv) (Rm := RV X.K) (F := As) (k := fun xs σ1 => callF F xs σ1) h).mono fun vs H1 ⟨xs, g, σ, h, r, s, n, p⟩ => ?_
  unfold callF at p
  cases et : takeG xs σ with
  | none => rw [et] at p; exact p.elim
  | some q =>
    obtain ⟨ts, σ1⟩ := q
    rw [et] at p
    obtain ⟨g1, h1, rt, rs, eq⟩ := take_ok r s et
    have n1 : Nd fun b => g1 b + h1 b := n.le fun b => Nat.le_of_eq (eq b)
    refine ⟨ts, g1, rt, n1.le fun b => by show g1 b ≤ g1 b + h1 b; omega, ?_⟩
    dsimp only at p
    have kept : ∀ {H2 : Hp} {f2 : Fp}, Fr H1 g1 H2 f2 → RS X.K ϖ H2 σv σ1 h1 := fun {H2 f2} w => rs.keep w.stb fun b o hb eo => w.keep b o eo (by have : g1 b + h1 b ≤ 1 := n1 b; omega)
    have wide : ∀ {H2 : Hp} {f2 : Fp}, Fr H1 g1 H2 f2 → Fr H1 (fun b => g b + h b) H2 (fun b => h1 b + f2 b) := fun {H2 f2} w => (w.beside (g := h1)).ge fun b => by have := eq b; show h1 b + g1 b ≤ g b + h b; omega
    have apart : ∀ {H2 : Hp} {f2 : Fp}, Fr H1 g1 H2 f2 → Nd f2 → Nd fun b => h1 b + f2 b := fun {H2 f2} w n2 => w.apart rs.own (n1.le fun b => by show h1 b + g1 b ≤ g1 b + h1 b; omega) n2
    cases ef : F ts with
    | stuck => rw [ef] at p; exact p
    | ok t ps =>
      rw [ef] at p
      intro v H2 g2 h2 q r2 n2 w2
      obtain ⟨h3, r3, le⟩ := back_ok r r2 (kept w2)
      have n3 := apart w2 n2
      have lle : ∀ b, g2 b + h3 b ≤ h1 b + (g2 b + h2 b) := fun b => by have := le b; omega
      exact p v H2 g2 h3 q r3 (n3.le lle) ((wide w2).le lle)
    | exc C ys ps =>
      rw [ef] at p
      intro d ws H2 h2 ed rk r2 n2 w2
      obtain ⟨h3, r3, le⟩ := back_ok r r2 (kept w2)
      have n3 := apart w2 n2
      have lle : ∀ b, h3 b ≤ h1 b + h2 b := fun b => by have := le b; omega
      exact p d ws H2 h3 ed rk r3 (n3.le lle) ((wide w2).le lle)
theorem run_fnG {k : Nat} {f : Addr} {fd : FuncData} {ps : List Str} {sp : Sp} {E : L2.St → XK} {pins : List (Addr × Obj)} {σ : L2.St} {H : Hp} {s : Shared} {Q : VK} {us : List Value} {vs : List V} (F : FnG X.prog X.w X.K X.mg X.base k f fd ps sp) (hr : Rm k X.A) (hb : Binds X.K fd ps []) (hx : PassesAt (L2.CX X.prog X.w) X σ (E σ))
    (J : Inv X pins σ H s) (r : Vals vs us) (h : sp vs H Q (E σ)) : wpAny (model X.prog X.w) X.A (call (.ref f) us) (EP X pins σ Q) X.xe s := by
  have bd := hb s us J.kIn (by rw [List.append_nil, ← r.length]; exact F.len _ _ _ _ h)
  rw [List.append_nil] at bd
  refine wpAny_call (codeAny_mono (F.run X.A X.stack s H ⟨us, []⟩ us vs Q (E σ) hr J.env0 bd r h) fun q s' hq => ?_)
  cases q with
  | error e => exact hx pins H s e s' J hq
  | ok fl =>
    cases fl with
    | ret u => exact J.after hq
    | next => exact hq.elim
    | brk => exact hq.elim
    | cont => exact hq.elim
theorem d_call {F : Fn} {x : Str} {k : Nat} {p : Pos} (G : Def X.prog X.w X.K X.mg X.base x k F) (hr : Rm k X.A) (hg : Gl X x) (tk : Takes X W) (ha : DGs X ϖ W (e :: es) As) (hdb : (x == ("__debug__" : Str)) = false := by decide)
    (he : starEach (e :: es) X.env = (false, eval e X.env) :: starEach es X.env := by rfl) (hpl : (backTo pos (starEach es X.env)).any (·.1) = false := by rfl) : DE X ϖ W (.Call (.Name x p) (e :: es) [] pos) (eCall F As) := by
  obtain ⟨f, fd, ps, hm, hk, hb, hF⟩ := G.ex
  refine ⟨fun pins s σ H Q I h => ?_⟩
  have h : tCallS (spF X.K F) (WE W) (tGs X.K ϖ W As) σ H Q := eCall_of h
  refine wpAny_Call_Name_kw (ld_glob (X := X) I hg hm ?_ hdb)
  have ha : PA X (e :: es) (tGs X.K ϖ W As) := ha
  exact PySem.W.callWith_K (h₀ := X.base) I.ok.mod.kin hk (thn (ha.run pos pins s σ H _ I h) fun us s1 ⟨vs, H1, J, r, q⟩ => ⟨J.kIn, run_fnG hF hr hb (passAt tk σ) J r q⟩) he hpl
/-- a call without arguments -/
theorem d_call0 {F : Fn} {x : Str} {k : Nat} {p : Pos} (G : Def X.prog X.w X.K X.mg X.base x k F) (hr : Rm k X.A) (hg : Gl X x) (tk : Takes X W) (hdb : (x == ("__debug__" : Str)) = false := by decide) : DE X ϖ W (.Call (.Name x p) [] [] pos) (fun σ => callF F [] σ) := by
  obtain ⟨f, fd, ps, hm, hk, hb, hF⟩ := G.ex
  refine ⟨fun pins s σ H Q I h => ?_⟩
  have h : tCallS (spF X.K F) (WE W) (tGs X.K ϖ W fun σ => .ok [] σ) σ H Q := eCall_of h
  refine wpAny_Call_Name_kw (ld_glob (X := X) I hg hm ?_ hdb)
  obtain ⟨σ', f', r, n, q⟩ := h
  have q : Post X.K ϖ W (ROs X.K σ) σ (.ok [] σ') H f' (fun vs H1 => spF X.K F vs H1 Q (WE W σ)) := q
  exact PySem.W.callWith_K0 I.kIn hk (run_fnG (us := []) hF hr hb (passAt tk σ) I .nil (q [] H (fun _ => 0) f' (.nil fun _ => rfl) r (n.le fun b => by show 0 + f' b ≤ f' b; omega) ((Fr.refl H f').le fun b => by show 0 + f' b ≤ f' b; omega)))
end
end DL

set_option Elab.async false
set_option linter.all false
set_option maxRecDepth 100000
set_option maxHeartbeats 4200000
/-! DLX: an own error over ValueError whose __init__ (its own or that of a class above) says super().__init__(..) and stores its parameters. -/
namespace PySem
namespace DLX
open PySem.W PySem.Calls PyProof.Rows PySem.HandSPX PySem.Spec

/-- what stands in the text of __init__: parameters, the call, the stores -/
structure Init (st : Stmt) (ps : List Str) : Prop where
  fn : ∃ (p1 : Pos) (qs : List Pos) (p3 p4 p5 p7 p8 : Pos) (rs : List Pos) (zs : List (Pos × Pos × Pos × Pos)), rs.length = ps.length ∧ zs.length = ps.length ∧
    L2.defArgs st = { posonlyargs := [], args := { arg := "self", annotation := none, pos := p1 } :: (ps.zip qs).map fun q => { arg := q.1, annotation := none, pos := q.2 }, vararg := none, kwonlyargs := [], kw_defaults := [], kwarg := none, defaults := [] } ∧
    L2.defBody st = (.Expr (.Call (.Attribute (.Call (.Name "super" p3) [] [] p4) "__init__" p5) ((ps.zip rs).map fun q => .Name q.1 q.2) [] p7) p8) ::
      ((ps.zip zs).map fun q => .Assign [.Attribute (.Name "self" q.2.1) q.1 q.2.2.1] (.Name q.1 q.2.2.2.1) q.2.2.2.2) ∧
    (∀ env : Env, ∃ pl : Sem Bool, eval (.Call (.Attribute (.Call (.Name "super" p3) [] [] p4) "__init__" p5) ((ps.zip rs).map fun q => .Name q.1 q.2) [] p7) env = (do
      let ov ← attributeBase (.Call (.Name "super" p3) [] [] p4) "__init__" env (eval (.Call (.Name "super" p3) [] [] p4) env)
      standAt p5.atName
      let (m, first) ← holding [ov] (getMethod ov "__init__" pl)
      callWith p7 m first (backTo p7 (starEach ((ps.zip rs).map fun q => .Name q.1 q.2) env)) [])) ∧
    (∀ env : Env, swapsWith (.Call (.Attribute (.Call (.Name "super" p3) [] [] p4) "__init__" p5) ((ps.zip rs).map fun q => .Name q.1 q.2) [] p7) none p8.line env = pure false)
  kind : (L2.defScope st).kind = .function
  co : (L2.defScope st).isCoroutine = false
  gen : (L2.defScope st).isGenerator = false
  cell : ∀ x ∈ (L2.defScope st).names, x.2 ≠ .cell
  self : (L2.defScope st).names.lookup ("self" : Str) = some .local
  loc : ∀ x ∈ ps, (L2.defScope st).names.lookup x = some .local
  sup : (L2.defScope st).names.lookup ("super" : Str) = some .globalImplicit
  cls : (L2.defScope st).names.lookup ("__class__" : Str) = some .free

/-- what the written part says of the class at C and of its __init__ at fI, found in the class at D -/
structure SupTxt (P : Program) (K : Frag) (mg : Str → Option Value) (st : Stmt) (C D fI : Addr) (ps : List Str) : Prop where
  cls : ∃ nm q N bs bm sn sub ab col dd k0 k1 k2 k3 k5, K.lookup C = some (excClassObj nm q C N bs bm true sn sub ab col dd k0 k1 k2 k3 k5 "ValueError.__new__") ∧ refsVE bm = true
  sa : findIn K (.ref C) "__setattr__" = some (some (.builtin "object.__setattr__"))
  ga : findIn K (.ref C) "__getattribute__" = some (some (.builtin "BaseException.__getattribute__"))
  gg : findIn K (.ref C) "__getattr__" = some none
  noN : ∀ x ∈ ps, findIn K (.ref C) x = some none
  iC : findIn K (.ref C) "__init__" = some (some (.ref fI))
  tI : typeIn K (.ref fI) = some (.type "function")
  kC : keepIn K (.ref C) = true
  exC : subIn K (.ref C) (.type "BaseException") = some true
  veC : subIn K (.ref C) (.type "ValueError") = some true
  tyC : typeIn K (.ref C) = some (.type "type")
  hdC : hasDictIn K C = true
  opq : nsIn K cStatics "thirdparty.any" = some none
  sin : ks_superIn K C D "__init__" = some (some (.builtin "ValueError.__init__"))
  sub : mroIn K C (.ref D) = some true
  clD : ∃ cd, clsIn K D = some cd
  msup : mg "super" = none
  ini : Init st ps
  top : (P.main.scope.names.lookup ("super" : Str)).isSome = false
  fn : ∃ (oc : Value) (od an : Option Addr) (doc pm kV ct : Value) (osl : Array (Option Value)) (q : Str) (cc cda : Addr) (ccl cl : Value) (cdd cld : Option Addr) (vs : Array Value) (ccs csl : Array (Option Value)) (file : Str) (tf : Tok),
    K.lookup fI = some ⟨oc, od, .func (fnX "__init__" q (L2.defArgs st) (L2.defBody st) (L2.defScope st) [("__class__", cc)] .none kV doc pm an (.ref cda) ct), osl⟩ ∧ codeIn K (.ref cda) q = true ∧
    K.lookup cda = some ⟨ccl, cdd, .fields vs, ccs⟩ ∧ vs[2]? = some (.str file tf) ∧ ((P.main.file : Str) == file) = true ∧ K.lookup cc = some ⟨cl, cld, .cell (some (.ref D)), csl⟩ ∧
    ∀ (s : Shared) (x : Addr) (us : List Value), us.length = ps.length → BindsTo s (fnX "__init__" q (L2.defArgs st) (L2.defBody st) (L2.defScope st) [("__class__", cc)] .none kV doc pm an (.ref cda) ct) ⟨.ref x :: us, []⟩ (("self", .ref x) :: ps.zip us)
/-- the module's facts over a heap -/
structure Top0 (mg : Str → Option Value) (h : Heap) : Prop where
  glob : h.Ns mainGlobals mg
  blt : ∃ mb, h.Ns builtinsNs mb ∧ ∀ x : Str, x ≠ "__name__" → mb x = bootBuiltins x
theorem Top0.keeps {mg : Str → Option Value} {h h' : Heap} (t : Top0 mg h) (k : ∀ b o, h.get? b = some o → h'.get? b = some o) : Top0 mg h' := by
  obtain ⟨mb, h1, h2⟩ := t.blt
  exact ⟨t.glob.keeps k, mb, h1.keeps k, h2⟩
section
variable {prog : Program} {w : World} {A : Around} {E : Value → Shared → Prop} {K : Frag} {mg : Str → Option Value} {C D fI : Addr} {st : Stmt} {ps : List Str}
/-- super(), its __init__ bound to the object -/
theorem sup_get {body : List Stmt} {scope : Scope} {q : Str} {L cc cda x : Addr} {t0 : Addr} {p0 p1 : Pos} {attr : Str} {whole : Sem Value} {s : Shared} {m : Str → Option Value} {fd : FuncData} {ar : Arg} {vs : Array Value} {file : Str} {tf : Tok}
    {oc ccl cl : Value} {od cdd cld : Option Addr} {osl ccs csl : Array (Option Value)} {cdD : ClassData} {Q : Value → Shared → Prop}
    (X : K.In s.heap) (T : Top0 mg s.heap) (hn : s.heap.Ns L m) (hf : K.lookup fI = some ⟨oc, od, .func fd, osl⟩) (hp : (fd.params.posonlyargs ++ fd.params.args).head? = some ar) (hv : m ar.arg = some (.ref x)) (hx : s.heap.get? x = some (excO C t0))
    (hcode : K.lookup cda = some ⟨ccl, cdd, .fields vs, ccs⟩) (hvs : vs[2]? = some (.str file tf))
    (hfile : ((prog.main.file : Str) == file) = true) (hcell : K.lookup cc = some ⟨cl, cld, .cell (some (.ref D)), csl⟩) (hD : clsIn K D = some cdD) (hsub : mroIn K C (.ref D) = some true) (hsuper : mg "super" = none)
    (hat : (attr == ("__class__" : Str)) = false) (hks : scope.names.lookup ("super" : Str) = some .globalImplicit) (hkc : scope.names.lookup ("__class__" : Str) = some .free)
    (hka : scope.names.lookup ar.arg = some .local) (hk : scope.kind = .function) (htop : (prog.main.scope.names.lookup ("super" : Str)).isSome = false)
    (h : ∀ so h', h'.get? so = some (ks_superObj D x C) → (∀ y o, s.heap.get? y = some o → h'.get? y = some o) → Q (.ref so) { s with heap := h' }) :
    _root_.PySem.wpAt (model prog w) A (.func body (ksEnv q scope L fI (.ref cda) cc)) (attributeBase (.Call (.Name "super" p0) [] [] p1) attr (ksEnv q scope L fI (.ref cda) cc) whole) Q E s := by
  obtain ⟨hh, g, d, t, os⟩ := s
  have clsD : ∃ o, hh.get? D = some o ∧ o.data = .cls cdD := by
    unfold clsIn at hD
    split at hD
    · cases hD; exact ⟨_, X _ _ (by assumption), rfl⟩
    · cases hD
  obtain ⟨oD, hD1, hD2⟩ := clsD
  obtain ⟨mb, hb1, hb2⟩ := T.blt
  refine ks_wpAt_super_base (env := ksEnv q scope L fI (.ref cda) cc) hks hkc hat rfl (X _ _ hf) rfl hp rfl (X _ _ hcode) rfl hvs hfile htop ?_
  refine ks_loadName_global hk hks (loadGlobal_builtin (env := ksEnv q scope L fI (.ref cda) cc) T.glob hsuper hb1 ((hb2 _ (by decide +kernel)).trans (by decide +kernel : bootBuiltins "super" = some (.type "super"))) ⟨rfl, ?_⟩)
  refine wpAny_loadName_free hk hkc rfl ⟨_, X _ _ hcell, rfl⟩ (wpAny_loadName_local hk hka hn hv (ks_wpAny_isType_cls hD1 hD2 ⟨rfl, ?_⟩))
  exact ks_wpAny_call_super hD1 hD2 hx rfl (fun c e => by cases e) (looks_mroIn X hsub) fun h' e k => h _ h' e k
/-- .. called -/
theorem sup_call {u x t0 : Addr} {h : Heap} {g : Array GenState} {d : Drawn} {t : Nat} {os : OsState} {nm q : Str} {N : Addr} {bs bm : List Value} {hdct : Bool} {sn : List Str} {sub : List Value} {ab : Bool} {col : Option Bool} {dd : Option Addr} {k0 k1 k2 k3 k5 : Option Value} {rest : List Value} {Q : Value → Shared → Prop}
    (hC : h.get? C = some (excClassObj nm q C N bs bm hdct sn sub ab col dd k0 k1 k2 k3 k5 "ValueError.__new__")) (he : h.get? x = some (excO C t0)) (hu : h.get? u = some (kxs_mw "ValueError.__init__" x)) (hrest : rest.length ≤ sizeLine)
    (hq : ∀ h' t1, (∀ b o, b ≠ x → h.get? b = some o → h'.get? b = some o) → h'.get? x = some (excO C t1) → Q .none ⟨h', g, d, t, os⟩) :
    wpAny (model prog w) A (call (.ref u) rest) Q E (⟨h, g, d, t, os⟩ : Shared) := by
  have isMw : (Value.type "method-wrapper" == Value.type "method" || Value.type "method-wrapper" == Value.type "builtin_function_or_method" || Value.type "method-wrapper" == Value.type "method-wrapper") = true := by decide
  refine wpAny_call (codeAny_of_tree (?_ : wpAny _ A.in1 (callAny (.ref u) ⟨rest, []⟩) _ _ _))
  simp only [callAny]
  refine wpAny_bind (wpAny_load hu ?_); simp only [kxs_mw, isMw, if_true]
  refine W.KFB.if_so (by decide) (wpAny_bind (ESX.check_bound F.excBase_ValueError hC he rfl (wpAny_bind (wpAny_pure (wpAny_pure ?_)))))
  refine ⟨Code.quiet_builtin _ (by decide +kernel), codeAny_builtin F.excBase_ValueError.initEntry ?_⟩
  rw [Around.under_plainId F.excBase_ValueError.init.plain _]
  wp_walk
  refine hq _ h.objs.size (fun b o ne ho => ?_) ?_
  · rw [Heap.get?_update_other _ _ (Ne.symm ne)]; exact Heap.get?_push_of_some _ ho
  · rw [Heap.get?_update_self _ (Heap.get?_push_of_some _ he) (rfl)]; rfl
/-- what stands in the own dict behind the stores so far (the last one first) -/
def stf : List (Str × Value) → Str → Option Value
  | [], _ => none
  | p :: r, y => if y = p.1 then some p.2 else stf r y
theorem stf_within : ∀ l : List (Str × Value), Within (stf l) (l.map (·.1))
  | [] => fun y h => absurd rfl h
  | p :: r => fun y h => by
    by_cases e : y = p.1
    · subst e; simp
    · have h' : stf r y ≠ none := by unfold stf at h; rwa [if_neg e] at h
      exact List.mem_cons_of_mem _ (stf_within r y h')
/-- what __init__ leaves of a fresh exception at x -/
structure IEnd (h h' : Heap) (x C : Addr) (kvs : List (Str × Value)) : Prop where
  keep : ∀ b o, b ≠ x → h.get? b = some o → h'.get? b = some o
  obj : ∃ dx t1, h'.get? x = some { cls := .ref C, dict := some dx, data := .fields #[.ref t1, .none, .none, .none, .bool false, .none] } ∧ h.objs.size ≤ dx ∧ dx ≠ x ∧ h'.Ns1 dx (stf kvs)
variable {R : Result → Shared → Prop}
abbrev sto (q : Str × (Pos × Pos × Pos × Pos)) : Stmt := .Assign [.Attribute (.Name "self" q.2.1) q.1 q.2.2.1] (.Name q.1 q.2.2.2.1) q.2.2.2.2
/-- the further stores -/
theorem sup_more {q : Str} {scope : Scope} {L cc cda x : Addr} {h0 : Heap} {m : Str → Option Value} {nm qn : Str} {N : Addr} {bs bm : List Value} {sn : List Str} {sub : List Value} {ab : Bool} {col : Option Bool} {dd : Option Addr} {k0 k1 k2 k3 k5 : Option Value} {Q : Flow → Shared → Prop}
    (hk : scope.kind = .function) (hs : scope.names.lookup ("self" : Str) = some .local) (hms : m "self" = some (.ref x)) (hC : K.lookup C = some (excClassObj nm qn C N bs bm true sn sub ab col dd k0 k1 k2 k3 k5 "ValueError.__new__")) (hbm : refsVE bm = true)
    (sa : findIn K (.ref C) "__setattr__" = some (some (.builtin "object.__setattr__"))) (hx0 : h0.objs.size ≤ L) (hxl : x < h0.objs.size) (h00 : K.In h0) (hlx : K.lookup x = none) :
    ∀ (l : List (Str × (Pos × Pos × Pos × Pos))) (dn : List (Str × Value)) (s : Shared) (dx t1 : Addr), (∀ y ∈ l, scope.names.lookup y.1 = some .local ∧ findIn K (.ref C) y.1 = some none ∧ (y.1 == ("__debug__" : Str)) = false ∧ ∃ v, m y.1 = some v) → dn.length + l.length ≤ 900 →
      (∀ b o, b ≠ x → h0.get? b = some o → s.heap.get? b = some o) → s.heap.get? x = some { cls := .ref C, dict := some dx, data := .fields #[.ref t1, .none, .none, .none, .bool false, .none] } → h0.objs.size ≤ dx → dx ≠ x → dx ≠ L → s.heap.Ns1 dx (stf dn) → s.heap.Ns L m →
      (∀ h' tk, IEnd h0 h' x C ((l.map fun y => (y.1, (m y.1).getD .none)).reverse ++ dn) → Q .next { s with heap := h', toks := tk }) → wpAny (model prog w) A (execs (l.map sto) (ksEnv q scope L fI (.ref cda) cc)) Q E s
  | [], dn, s, dx, t1, _, _, k, ox, d1, d2, d3, ns, _, hq => wpAny_execs_nil (hq s.heap s.toks ⟨k, dx, t1, ox, d1, d2, ns⟩)
  | y :: l, dn, s, dx, t1, hl, hz, k, ox, d1, d2, d3, ns, nl, hq => by
    obtain ⟨l1, l2, l3, v, hv⟩ := hl y List.mem_cons_self
    have hcl : clsIn K C = some { name := nm, bases := bs, mro := .ref C :: bm, ns := N, qualname := qn, hasDict := true, slotNames := sn, subclasses := sub, abstract := ab, collection := col, hasDel := false } := by unfold clsIn; rw [hC] <;> rfl
    have X : K.In s.heap := fun b o e => k b o (fun z => by rw [z, hlx] at e; cases e) (h00 b o e)
    rw [List.map_cons]
    refine wpAny_execs_cons (plainObj_wpAny_Assign_Attribute (wpAny_Name (wpAny_loadName_local hk l1 nl hv (wpAny_Name (wpAny_loadName_local hk hs nl hms ?_) (by decide))) l3) (by rfl))
    have hz1 : dn.length + (l.length + 1) ≤ 900 := hz
    obtain ⟨hp, g, d, t, os⟩ := s
    obtain ⟨oD, _, _, hoD, _, _⟩ := ns.count (stf_within dn)
    refine set_plain X (ox := { cls := .ref C, dict := some dx, data := .fields #[.ref t1, .none, .none, .none, .bool false, .none] }) (od := some oD) ⟨ox, rfl, rfl, hoD⟩ sa ?_
    refine PySem.OEX.osa_old X ox ns (stf_within dn) (by rw [List.length_map]; omega) hcl (show refsVE (.ref C :: bm) = true from hbm) rfl l2 (fun h' tk' k' hn => ?_)
    refine sup_more hk hs hms hC hbm sa hx0 hxl h00 hlx l ((y.1, v) :: dn) ⟨h', g, d, tk', os⟩ dx t1 (fun z hz => hl z (List.mem_cons_of_mem _ hz)) (by rw [List.length_cons]; omega) (fun b o hb e => k' b o (fun z => ?_) (k b o hb e)) (k' _ _ (Ne.symm d2) ox) d1 d2 d3 hn ?_ fun h2 tk2 ie => ?_
    · rw [z] at e; exact absurd (Nat.lt_of_lt_of_le (Heap.lt_size e) d1) (Nat.lt_irrefl _)
    · obtain ⟨o, es, ep, ho, r⟩ := nl
      exact ⟨o, es, ep, k' _ _ (Ne.symm d3) ho, r⟩
    · refine hq h2 tk2 ?_
      rw [List.map_cons, List.reverse_cons, List.append_assoc, hv]
      exact ie
theorem stf_in : ∀ (l : List (Str × Value)) (y : Str), stf l y = l.lookup y
  | [], _ => rfl
  | p :: r, y => by
    unfold stf
    rw [stf_in r y]
    obtain ⟨a, b⟩ := p
    rw [List.lookup_cons]
    by_cases e : y = a
    · subst e; simp
    · rw [if_neg e, show (y == a) = false by simpa using e]
theorem lookup_rev : ∀ {l : List (Str × Value)} {y : Str} {v : Value}, (l.map (·.1)).Nodup → (y, v) ∈ l → l.reverse.lookup y = some v
  | p :: r, y, v, nd, h => by
    rw [List.reverse_cons, List.lookup_append]
    rw [List.map_cons, List.nodup_cons] at nd
    rcases (List.mem_cons.mp h) with e | h
    · subst e
      have hn : r.reverse.lookup y = none := by
        rw [List.lookup_eq_none_iff]
        rintro ⟨q, qv⟩ hq
        have : q ≠ y := fun z => nd.1 (by rw [← z]; exact List.mem_map.mpr ⟨(q, qv), List.mem_reverse.mp hq, rfl⟩)
        simpa using fun z : y = q => this z.symm
      rw [hn]; simp
    · rw [lookup_rev nd.2 h]; rfl
theorem zip_fst : ∀ {α β : Type} {a : List α} {b : List β}, b.length = a.length → (a.zip b).map (·.1) = a
  | _, _, [], _, _ => rfl
  | _, _, x :: a, [], h => by simp at h
  | _, _, x :: a, y :: b, h => by rw [List.zip_cons_cons, List.map_cons, zip_fst (by simpa using h)]
/-- names, one by one -/
theorem names_ev {env : Env} {m : Str → Option Value} (hk : env.scope.kind = .function) : ∀ (l : List (Str × Pos)) (pos : Pos) (s : Shared) (Q : List Value → Shared → Prop), s.heap.Ns env.locals m → (∀ y ∈ l, env.kindOf y.1 = some .local ∧ (y.1 == ("__debug__" : Str)) = false ∧ ∃ v, m y.1 = some v) →
    Q (l.map fun y => (m y.1).getD .none) s → wpAny (model prog w) A (spliced (backTo pos (starEach (l.map fun q => .Name q.1 q.2) env))) Q E s
  | [], pos, s, Q, hn, hl, hq => spliced_nil hq
  | y :: l, pos, s, Q, hn, hl, hq => by
    obtain ⟨h1, h2, v, hv⟩ := hl y List.mem_cons_self
    show wpAny _ _ (spliced ((false, eval (.Name y.1 y.2) env) :: backTo pos (starEach (l.map fun q => .Name q.1 q.2) env))) _ _ _
    refine spliced_cons (wpAny_Name (wpAny_loadName_local hk h1 hn hv ?_) h2)
    refine names_ev hk l pos s _ hn (fun z hz => hl z (List.mem_cons_of_mem _ hz)) ?_
    rw [List.map_cons, hv] at hq
    exact hq
theorem names_plain {env : Env} : ∀ (l : List (Str × Pos)) (pos : Pos), (backTo pos (starEach (l.map fun q => .Name q.1 q.2) env)).any (·.1) = false
  | [], _ => rfl
  | y :: l, pos => by
    show (false || (backTo pos (starEach (l.map fun q => .Name q.1 q.2) env)).any (·.1)) = false
    rw [names_plain l pos]; rfl
theorem zip_mem {α β : Type} : ∀ {a : List α} {b : List β} {p : α × β}, p ∈ a.zip b → p.1 ∈ a
  | [], _, p, h => by simp at h
  | x :: a, [], p, h => by simp at h
  | x :: a, y :: b, p, h => by
    rw [List.zip_cons_cons] at h
    rcases (List.mem_cons.mp h) with e | h
    · subst e; exact List.mem_cons_self
    · exact List.mem_cons_of_mem _ (zip_mem h)
theorem zip_find {α β : Type} : ∀ {a : List α} {b : List β} {x : α}, b.length = a.length → x ∈ a → ∃ y, (x, y) ∈ a.zip b
  | x :: a, [], z, h, _ => by simp at h
  | x :: a, y :: b, z, h, hz => by
    rcases (List.mem_cons.mp hz) with e | hz
    · subst e; exact ⟨y, by rw [List.zip_cons_cons]; exact List.mem_cons_self⟩
    · obtain ⟨y', h'⟩ := zip_find (b := b) (by simpa using h) hz
      exact ⟨y', by rw [List.zip_cons_cons]; exact List.mem_cons_of_mem _ h'⟩
theorem zip_look {m : Str → Option Value} {γ : Type} : ∀ {ps : List Str} {us : List Value} {zs : List γ}, us.length = ps.length → zs.length = ps.length → (∀ p ∈ ps.zip us, m p.1 = some p.2) → ((ps.zip zs).map fun y => (y.1, (m y.1).getD .none)) = ps.zip us
  | [], [], _, _, _, _ => rfl
  | p :: ps, u :: us, z :: zs, h1, h2, h => by
    rw [List.zip_cons_cons, List.zip_cons_cons, List.map_cons, zip_look (by simpa using h1) (by simpa using h2) fun q hq => h q (by rw [List.zip_cons_cons]; exact List.mem_cons_of_mem _ hq)]
    rw [h (p, u) (by rw [List.zip_cons_cons]; exact List.mem_cons_self)]
    rfl
theorem zip_val {m : Str → Option Value} {γ : Type} : ∀ {ps : List Str} {us : List Value} {zs : List γ}, us.length = ps.length → zs.length = ps.length → (∀ p ∈ ps.zip us, m p.1 = some p.2) → ((ps.zip zs).map fun y => (m y.1).getD .none) = us
  | [], [], _, _, _, _ => rfl
  | p :: ps, u :: us, z :: zs, h1, h2, h => by
    rw [List.zip_cons_cons, List.map_cons, zip_val (us := us) (by simpa using h1) (by simpa using h2) fun q hq => h q (by rw [List.zip_cons_cons]; exact List.mem_cons_of_mem _ hq)]
    rw [h (p, u) (by rw [List.zip_cons_cons]; exact List.mem_cons_self)]
    rfl
/-- __init__ of a fresh exception -/
theorem sup_init (T : SupTxt prog K mg st C D fI ps) {x t0 : Addr} {us : List Value} {s : Shared} (hps : ps ≠ []) (hnd : (("self" : Str) :: ps).Nodup) (hne : ∀ p ∈ ps, (p == ("__debug__" : Str)) = false) (hl : us.length = ps.length) (hlen : ps.length ≤ 100)
    (X : K.In s.heap) (T0 : Top0 mg s.heap) (hlim : s.heap.NoLimit) (hx : s.heap.get? x = some (excO C t0)) (hnx : K.lookup x = none) (hroom : A.depth < recursionLimit)
    (hq : ∀ h' tk, IEnd s.heap h' x C (ps.zip us).reverse → R (.ok (.ret .none)) { s with heap := h', toks := tk }) :
    codeAny (model prog w) A (.call (.ref fI) ⟨.ref x :: us, []⟩) R s := by
  obtain ⟨oc, od, an, doc, pm, kV, ct, osl, q, cc, cda, ccl, cl, cdd, cld, vs, ccs, csl, file, tf, ho, hcd, hcode, hvs, hfile, hcell, hbind⟩ := T.fn
  obtain ⟨nm, qn, N, bs, bm, sn, sub, ab, col, dd, k0, k1, k2, k3, k5, hC, hbm⟩ := T.cls
  obtain ⟨cdD, hD⟩ := T.clD
  obtain ⟨p1, qs, p3, p4, p5, p7, p8, rs, zs, erl, ezl, eA, eB, eev, esw⟩ := T.ini.fn
  have hxl : x < s.heap.objs.size := Heap.lt_size hx
  have hbk : (((("self" : Str), Value.ref x) :: ps.zip us).map (·.1)) = ("self" : Str) :: ps := by rw [List.map_cons, zip_fst hl]
  have hnd' : (((("self" : Str), Value.ref x) :: ps.zip us).map (·.1)).Nodup := by rw [hbk]; exact hnd
  refine ks_codeAny_call_defAt (fd := fnX "__init__" q (L2.defArgs st) (L2.defBody st) (L2.defScope st) [("__class__", cc)] .none kV doc pm an (.ref cda) ct) (body := L2.defBody st) (binds := ("self", .ref x) :: ps.zip us)
    hroom (X _ _ ho) rfl hlim (codeRec_of X hcd) rfl (hbind s x us hl) T.ini.cell (fun y hy => ?_) (fun h₁ hns hk₁ => ?_) T.ini.co T.ini.gen T.ini.kind
  · rcases List.mem_cons.mp hy with e | hy
    · subst e; exact T.ini.self
    · exact T.ini.loc _ (zip_mem hy)
  show _root_.PySem.wpAt (model prog w) (A.deeper (ksEnv q (L2.defScope st) s.heap.objs.size fI (.ref cda) cc)) (.func (L2.defBody st) (ksEnv q (L2.defScope st) s.heap.objs.size fI (.ref cda) cc)) (execs (L2.defBody st) (ksEnv q (L2.defScope st) s.heap.objs.size fI (.ref cda) cc)) _ _ _
  generalize hm : (fun y => ((("self" : Str), Value.ref x) :: ps.zip us).reverse.lookup y) = m at hns
  have ms : m "self" = some (.ref x) := by rw [← hm]; exact lookup_rev hnd' List.mem_cons_self
  have mp : ∀ p ∈ ps.zip us, m p.1 = some p.2 := fun p hp => by rw [← hm]; exact lookup_rev hnd' (List.mem_cons_of_mem _ hp)
  have X₁ : K.In h₁ := X.keeps hk₁
  have hx₁ := hk₁ _ _ hx
  have hlocs : ∀ {γ : Type} (zs : List γ), ∀ y ∈ ps.zip zs, (L2.defScope st).names.lookup y.1 = some .local ∧ findIn K (.ref C) y.1 = some none ∧ (y.1 == ("__debug__" : Str)) = false ∧ ∃ v, m y.1 = some v := fun zs y hy => by
    have hm := zip_mem hy
    obtain ⟨v, hv⟩ := zip_find hl hm
    exact ⟨T.ini.loc _ hm, T.noN _ hm, hne _ hm, v, mp _ hv⟩
  have hel : ∀ {γ : Type} {zs : List γ}, zs.length = ps.length → ((ps.zip zs).map fun y => (m y.1).getD .none) = us := fun {γ zs} e => zip_val hl e mp
  obtain ⟨cdC, hcC⟩ : ∃ cd, clsIn K C = some cd := ⟨_, by unfold clsIn; rw [hC] <;> rfl⟩
  obtain ⟨pl, eev⟩ := eev (ksEnv q (L2.defScope st) s.heap.objs.size fI (.ref cda) cc)
  have hex := congrArg (fun b => execs b (ksEnv q (L2.defScope st) s.heap.objs.size fI (.ref cda) cc)) eB
  rw [hex]
  refine ks_wpAt_execs_cons (ks_wpAt_Expr_any (ks_wpAt_MethodCall (pl := pl) (sup_get (C := C) (D := D) (m := m) (t0 := t0) (x := x) X₁ (T0.keeps hk₁) hns ho (ar := { arg := "self", annotation := none, pos := p1 }) ?hp ms hx₁ hcode hvs hfile hcell hD T.sub T.msup (by decide) T.ini.sup T.ini.cls T.ini.self T.ini.kind T.top fun so h₂ hso k₂ => ?_) eev) (by unfold interactive; rw [show (ksEnv q (L2.defScope st) s.heap.objs.size fI (.ref cda) cc).scope.kind = .function from T.ini.kind]; rfl) (esw _))
  case hp =>
    show ((L2.defArgs st).posonlyargs ++ (L2.defArgs st).args).head? = _
    rw [eA]; rfl
  have X₂ : K.In h₂ := X₁.keeps k₂
  have hx₂ := k₂ _ _ hx₁
  have I₂ : InstAt h₂ x (excO C t0) C none := ⟨hx₂, rfl, rfl, trivial⟩
  have al : alongIn K "__init__" ((cdC.mro.dropWhile (· != .ref D)).drop 1) = some (some (.builtin "ValueError.__init__")) := by
    have := T.sin
    unfold ks_superIn at this
    rw [hcC] at this
    exact this
  refine kxs_getMethod kxs_ValueError hso (looks_opaque X₂ T.opq) (l₀ := cdC.mro) (fun A Q E s k q => wpAny_bind ((looks_clsIn X₂ hcC) A _ E s k (wpAny_pure q))) rfl X₂ al (I₂.type.andThen (looks_subIn X₂ T.veC)) (ks_ne X₂ I₂ hcC) (by decide) ?_
  have k₃ : ∀ b o, h₂.get? b = some o → (h₂.push (kxs_mw "ValueError.__init__" x)).get? b = some o := fun b o e => Heap.get?_push_of_some _ e
  have n₃ : (h₂.push (kxs_mw "ValueError.__init__" x)).Ns s.heap.objs.size m := (hns.keeps k₂).keeps k₃
  have hu₃ : (h₂.push (kxs_mw "ValueError.__init__" x)).get? h₂.objs.size = some (kxs_mw "ValueError.__init__" x) := Heap.get?_push_at rfl rfl
  have hcl : clsIn K C = some { name := nm, bases := bs, mro := .ref C :: bm, ns := N, qualname := qn, hasDict := true, slotNames := sn, subclasses := sub, abstract := ab, collection := col, hasDel := false } := by unfold clsIn; rw [hC] <;> rfl
  have hus : us.length ≤ sizeLine := by rw [hl, sizeLine_eq]; omega
  -- the arguments, the call
  refine kxs_callWith (i := "ValueError.__init__") (x := x) (names_plain _ _) ?_
  have done : ∀ (s' : Shared), s'.heap = h₂.push (kxs_mw "ValueError.__init__" x) → s'.gens = s.gens → s'.drawn = s.drawn → s'.os = s.os → KxsAt "ValueError.__init__" h₂.objs.size x s'.heap ∧
      wpAny (model prog w) (A.deeper (ksEnv q (L2.defScope st) s.heap.objs.size fI (.ref cda) cc)) (call (.ref h₂.objs.size) us) (fun _ s'' => wpAny (model prog w) (A.deeper (ksEnv q (L2.defScope st) s.heap.objs.size fI (.ref cda) cc)) (execs ((ps.zip zs).map sto) (ksEnv q (L2.defScope st) s.heap.objs.size fI (.ref cda) cc))
        (fun f s' => R (.ok (.ret (match f with | .ret v => v | _ => .none))) s') (fun _ _ => False) s'') (fun _ _ => False) s' := by
    rintro s' e1 e2 e3 e4
    refine ⟨by rw [e1]; exact hu₃, ?_⟩
    obtain ⟨hp, g, d, t, os⟩ := s'
    have e1 : hp = h₂.push (kxs_mw "ValueError.__init__" x) := e1
    have e2 : g = s.gens := e2
    have e3 : d = s.drawn := e3
    have e4 : os = s.os := e4
    subst e1 e2 e3 e4
    refine sup_call (C := C) (t0 := t0) ((X₂.keeps k₃) _ _ hC) (k₃ _ _ hx₂) hu₃ hus fun h₄ t1 k₄ hx₄ => ?_
    have k₀₄ : ∀ b o, b ≠ x → s.heap.get? b = some o → h₄.get? b = some o := fun b o hb e => k₄ b o hb (k₃ _ _ (k₂ _ _ (hk₁ _ _ e)))
    have X₄ : K.In h₄ := fun b o e => k₀₄ b o (fun z => by rw [z, hnx] at e; cases e) (X b o e)
    have hLx : s.heap.objs.size ≠ x := Nat.ne_of_gt hxl
    have n₄ : h₄.Ns s.heap.objs.size m := by
      obtain ⟨o, es, ep, ho, r⟩ := n₃
      exact ⟨o, es, ep, k₄ _ _ hLx ho, r⟩
    have hL4 : s.heap.objs.size < h₄.objs.size := n₄.lt
    -- the first store
    cases hp : ps with
    | nil => exact absurd hp hps
    | cons p ps' =>
      cases hz : zs with
      | nil => rw [hp, hz] at ezl; simp at ezl
      | cons z zs' =>
        rw [List.zip_cons_cons, List.map_cons]
        obtain ⟨l1, l2, l3, v, hv⟩ := hlocs zs (p, z) (by rw [hp, hz, List.zip_cons_cons]; exact List.mem_cons_self)
        refine wpAny_execs_cons (plainObj_wpAny_Assign_Attribute (wpAny_Name (wpAny_loadName_local T.ini.kind l1 n₄ hv (wpAny_Name (wpAny_loadName_local T.ini.kind T.ini.self n₄ ms ?_) (by decide))) l3) (by rfl))
        refine set_plain X₄ (ox := excO C t1) (od := none) ⟨hx₄, rfl, rfl, trivial⟩ T.sa ?_
        refine exc_osa X₄ hx₄ hcl (show refsVE (.ref C :: bm) = true from hbm) rfl l2 (fun h₅ tk₅ dx k₅ dn dne hx₅ hn₅ => ?_)
        have hz' : s.heap.objs.size ≤ dx := Nat.le_trans (Nat.le_of_lt hL4) dn
        have dL : dx ≠ s.heap.objs.size := Nat.ne_of_gt (Nat.lt_of_lt_of_le hL4 dn)
        have n₅ : h₅.Ns s.heap.objs.size m := by
          obtain ⟨o, es, ep, ho, r⟩ := n₄
          exact ⟨o, es, ep, k₅ _ _ hLx ho, r⟩
        have hfin : ∀ h' tk, IEnd s.heap h' x C (((ps'.zip zs').map fun y => (y.1, (m y.1).getD .none)).reverse ++ [(p, v)]) → R (.ok (.ret .none)) { heap := h', gens := s.gens, drawn := s.drawn, toks := tk, os := s.os } := fun h' tk ie => by
          refine hq h' tk ?_
          have e := zip_look (m := m) hl ezl mp
          rw [← e, hp, hz, List.zip_cons_cons, List.map_cons, List.reverse_cons]
          rw [hv]
          exact ie
        have e1 : (fun y => if y = p then some v else none) = stf [(p, v)] := by funext y; rfl
        rw [e1] at hn₅
        refine sup_more (s := ⟨h₅, s.gens, s.drawn, tk₅, s.os⟩) (h0 := s.heap) T.ini.kind T.ini.self ms hC hbm T.sa (Nat.le_refl _) hxl X hnx (ps'.zip zs') [(p, v)] dx t1 (fun y hy => hlocs zs y (by rw [hp, hz, List.zip_cons_cons]; exact List.mem_cons_of_mem _ hy)) ?_ (fun b o hb e => k₅ b o hb (k₀₄ b o hb e)) hx₅ hz' dne dL hn₅ n₅ hfin
        rw [List.length_zip]
        have : ps.length = ps'.length + 1 := by rw [hp]; rfl
        show 1 + _ ≤ _
        omega
  have hargs : ∀ (s' : Shared) (Q : List Value → Shared → Prop), s'.heap = h₂.push (kxs_mw "ValueError.__init__" x) → Q us s' → ∀ E, wpAny (model prog w) (A.deeper (ksEnv q (L2.defScope st) s.heap.objs.size fI (.ref cda) cc)) (spliced (backTo p7 (starEach ((ps.zip rs).map fun q => .Name q.1 q.2) (ksEnv q (L2.defScope st) s.heap.objs.size fI (.ref cda) cc)))) Q E s' := fun s' Q e hQ E => by
    refine names_ev (m := m) T.ini.kind (ps.zip rs) p7 s' Q (by rw [e]; exact n₃) (fun y hy => ?_) (by rw [hel erl]; exact hQ)
    obtain ⟨l1, _, l3, v, hv⟩ := hlocs rs y hy
    exact ⟨l1, l3, v, hv⟩
  obtain ⟨xe, rest, exr⟩ : ∃ xe rest, backTo p7 (starEach ((ps.zip rs).map fun q => .Name q.1 q.2) (ksEnv q (L2.defScope st) s.heap.objs.size fI (.ref cda) cc)) = (false, xe) :: rest := by
    cases hp : ps with
    | nil => exact absurd hp hps
    | cons p ps' =>
      cases hr : rs with
      | nil => rw [hp, hr] at erl; simp at erl
      | cons r rs' => exact ⟨_, _, rfl⟩
  rw [exr]
  refine evalArgs_plain ?_
  rw [← exr]
  refine hargs _ _ rfl ?_ _
  obtain ⟨h5, h6⟩ := done ⟨h₂.push (kxs_mw "ValueError.__init__" x), s.gens, s.drawn, s.toks + ((("self" : Str), Value.ref x) :: ps.zip us).length + 1, s.os⟩ rfl rfl rfl rfl
  refine ⟨h5, ?_⟩
  rw [List.nil_append]
  exact wpAny_mono h6 (fun _ s'' h7 => wpAt_of_wpAny (wpAny_mono h7 (fun _ _ q => q) fun _ _ z => z.elim)) fun _ _ z => z.elim
/-- a made exception -/
structure OMade (h h' : Heap) (e C d : Addr) (kvs : List (Str × Value)) : Prop where
  keep : ∀ b o, h.get? b = some o → h'.get? b = some o
  new : h.objs.size ≤ e
  obj : ∃ oe vs, h'.get? e = some oe ∧ oe.cls = .ref C ∧ oe.dict = some d ∧ oe.data = .fields vs ∧ vs[1]? = some .none
  dbig : h.objs.size ≤ d
  dne : d ≠ e
  ns : h'.Ns1 d (stf kvs)
theorem sup_made (T : SupTxt prog K mg st C D fI ps) {us : List Value} {s : Shared} (hps : ps ≠ []) (hnd : (("self" : Str) :: ps).Nodup) (hne : ∀ p ∈ ps, (p == ("__debug__" : Str)) = false) (hl : us.length = ps.length) (hlen : ps.length ≤ 100)
    (X : K.In s.heap) (T0 : Top0 mg s.heap) (hlim : s.heap.NoLimit) (hroom : A.depth + 1 < recursionLimit)
    (hq : ∀ h' tk e d, OMade s.heap h' e C d (ps.zip us).reverse → R (.ok (.ret (.ref e))) { s with heap := h', toks := tk }) :
    codeAny (model prog w) A (.call (.ref C) ⟨us, []⟩) R s := by
  obtain ⟨nm, q, N, bs, bm, sn, sub, ab, col, dd, k0, k1, k2, k3, k5, hC, hbm⟩ := T.cls
  obtain ⟨hp, g, dr, tk, os⟩ := s
  have k : ∀ b o, hp.get? b = some o → ((hp.push (kdv_tup us)).push (excO C hp.objs.size)).get? b = some o := fun b o e => Heap.get?_push_of_some _ (Heap.get?_push_of_some _ e)
  have hget : ((hp.push (kdv_tup us)).push (excO C hp.objs.size)).get? (hp.objs.size + 1) = some (excO C hp.objs.size) := by heap_get
  have hnx : K.lookup (hp.objs.size + 1) = none := by
    cases e : K.lookup (hp.objs.size + 1) with
    | none => rfl
    | some o =>
      have z : hp.get? (hp.objs.size + 1) = some o := X _ _ e
      exact absurd (Nat.lt_of_succ_lt (Heap.lt_size z)) (Nat.lt_irrefl _)
  have hus : us.length ≤ sizeLine := by rw [hl, sizeLine_eq]; omega
  refine call_own F.excBase_ValueError (fun X => refsVE_contains X bm hbm) (X _ _ hC) (looks_findIn X T.iC) (fun self => bind_fn X self T.tI) hus ?_
  refine sup_init (s := ⟨(hp.push (kdv_tup us)).push (excO C hp.objs.size), g, dr, tk, os⟩) T hps hnd hne hl hlen (X.keeps k) (T0.keeps k) (hlim.keeps k) hget hnx ?_ fun h' tk' ⟨k', dx, t1, hx, dn, dne, hns⟩ => ?_
  · show A.depth + 1 < recursionLimit
    exact hroom
  · have old : ∀ b o, hp.get? b = some o → h'.get? b = some o := fun b o e => k' b o (Nat.ne_of_lt (Nat.lt_succ_of_lt (Heap.lt_size e))) (k b o e)
    have z : hp.objs.size + 1 + 1 ≤ dx := by
      first
        | (simpa only [Heap.size_push] using dn)
        | exact dn
        | (have q := dn; rw [Heap.size_push, Heap.size_push] at q; exact q)
    exact ⟨rfl, hq h' tk' (hp.objs.size + 1) dx ⟨old, Nat.le_succ _, ⟨_, _, hx, rfl, rfl, rfl, rfl⟩, Nat.le_trans (Nat.le_trans (Nat.le_succ _) (Nat.le_succ _)) z, dne, hns⟩⟩
end
end DLX
end PySem
namespace DL
open PySem PySem.Spec PyProof.Rows L2 PySem.DLX
theorem relO_stf : ∀ {l : List (Str × V)} {l' : List (Str × Value)}, KV l l' → ∀ f, RelO (l.lookup f) (stf l' f)
  | _, _, .nil, f => True.intro
  | (a, v) :: l, (b, u) :: l', .cons ⟨e, r⟩ t, f => by
    have e : a = b := e
    subst e
    unfold stf
    rw [List.lookup_cons]
    by_cases h : f = a
    · subst h
      rw [if_pos rfl]
      simp only [beq_self_eq_true]
      exact r
    · rw [if_neg h, show (f == a) = false by simpa using h]
      exact relO_stf t f
theorem kv_app {l m : List (Str × V)} {l' m' : List (Str × Value)} : KV l l' → KV m m' → KV (l ++ m) (l' ++ m')
  | .nil, s => s
  | .cons r t, s => .cons r (kv_app t s)
theorem kv_rev : ∀ {l : List (Str × V)} {l' : List (Str × Value)}, KV l l' → KV l.reverse l'.reverse
  | _, _, .nil => .nil
  | _, _, .cons r t => by rw [List.reverse_cons, List.reverse_cons]; exact kv_app (kv_rev t) (.cons r .nil)
theorem kv_zip : ∀ {ps : List Str} {vs : List V} {us : List Value}, Vals vs us → KV (ps.zip vs) (ps.zip us)
  | [], _, _, _ => .nil
  | _ :: _, _, _, .nil => .nil
  | p :: ps, _, _, .cons r t => .cons ⟨rfl, r⟩ (kv_zip t)
section
variable {X : Cx} {st : Stmt} {C D' fI : Addr} {ps : List Str}
/-- C(e, ..) -/
def tMkSup (C : Addr) (ps : List Str) (ta : TA) : L2.St → Hp → XK → Prop := fun σ H Q => ta σ H fun vs H1 => vs.length = ps.length ∧ ∀ d, H1 d = none → Q (.ref C) (some d) (upd H1 d (.xd (ps.zip vs).reverse))
theorem top0_of {pins : List (Addr × Obj)} {σ : L2.St} {H : Hp} {s : Shared} (I : Inv X pins σ H s) : Top0 X.mg s.heap := by
  obtain ⟨mb, h1, h2⟩ := (I.mod.blt)
  exact ⟨I.mod.glob.keeps I.bk, mb, h1.keeps I.bk, h2⟩
theorem pmk_sup {e : Expr} {es : List Expr} {x : Str} {ta : TA} {p pos : Pos} {k : Nat} (T : SupTxt X.prog X.K X.mg st C D' fI ps) (gC : X.mg x = some (.ref C)) (hps : ps ≠ []) (hnd : (("self" : Str) :: ps).Nodup) (hne : ∀ p ∈ ps, (p == ("__debug__" : Str)) = false) (hlen : ps.length ≤ 100) (hr : Room k X.A) (ha : PA X (e :: es) ta) (hg : Gl X x)
    (hdb : (x == ("__debug__" : Str)) = false := by decide) (he : starEach (e :: es) X.env = (false, eval e X.env) :: starEach es X.env := by rfl) (hpl : (backTo pos (starEach es X.env)).any (·.1) = false := by rfl) : PMk X (.Call (.Name x p) (e :: es) [] pos) (tMkSup C ps ta) := by
  intro pins s σ H Q I h
  refine wpAny_Call_Name_kw (ld_glob (X := X) I hg gC ?_ hdb)
  refine PySem.W.callWith_K (h₀ := X.base) I.ok.mod.kin T.kC (thn (ha.run pos pins s σ H _ I h) fun us s1 hh => ?_) he hpl
  obtain ⟨vs, H1, I1, r1, hl, q1⟩ := hh
  refine ⟨I1.kIn, ?_⟩
  show wpAny _ X.A (call (.ref C) us) _ _ _
  have hlim := I1.nolimit
  have t0 := top0_of I1
  obtain ⟨hp, g, dr, tk, os⟩ := s1
  refine wpAny_call (sup_made T hps hnd hne (by rw [← r1.length]; exact hl) hlen I1.kIn t0 hlim (by have := hr.dp; omega) fun h' tk' e d M => ?_)
  show MkP X pins σ Q (.ref e) ⟨h', g, dr, tk', os⟩
  obtain ⟨oe, fv, hoe, hc, hd, hdat, h1⟩ := M.obj
  have hns := M.ns
  obtain ⟨G', g1, g2⟩ := restrict h' fun b => decide (b ≠ e)
  have gk : ∀ b, b ≠ e → G'.get? b = h'.get? b := fun b hb => g1 b (decide_eq_true hb)
  have ge : G'.get? e = none := g2 e (by simp)
  have old : ∀ b o, hp.get? b = some o → G'.get? b = some o := fun b o q => (gk b (Nat.ne_of_lt (Nat.lt_of_lt_of_le (Heap.lt_size q) M.new))).trans (M.keep b o q)
  have ob : ObjOk X.prog X.w (upd H1 d (.xd (ps.zip vs).reverse)) G' d (.xd (ps.zip vs).reverse) :=
    ⟨_, hns.at (fun o q => (gk d M.dne).trans q), relO_stf (kv_rev (kv_zip r1))⟩
  have J : Inv X pins σ (upd H1 d (.xd (ps.zip vs).reverse)) ⟨G', g, dr, tk', os⟩ := I1.laid (t' := tk') old M.dbig ob
  refine ⟨e, oe, fv, ⟨G', g, dr, tk', os⟩, _, .ref C, some d, rfl, J, fun b o q => ?_, ge, hoe, ⟨hc, hd⟩, hdat, h1, ?_, rfl, I1.bare, raises_own T.exC T.tyC, q1 d (I1.hok.fresh M.dbig)⟩
  · by_cases hb : b = e
    · have q' : G'.get? b = some o := q
      rw [hb, ge] at q'; cases q'
    · exact (gk b hb).symm.trans q
  · rw [upd_ne (Ne.symm M.dne)]
    exact I1.hok.fresh M.new
/-- raise C(e, ..) -/
def sRaise (C : Addr) (ps : List Str) (As : S → R (List G)) : S → O := fun σ => (As σ).then fun xs σ1 => match rds xs σ1 with
  | some ts => (match vals? ts with
    | some ds => if ds.length = ps.length then .exc C (ps.zip ds).reverse σ1 else .stuck
    | none => .stuck)
  | none => .stuck
theorem RK.app {κ : Type} {K : PySem.W.Frag} {H : Hp} {l l' : List (κ × V)} {m m' : List (κ × D)} : RK K H l m → RK K H l' m' → RK K H (l ++ l') (m ++ m')
  | .nil, s => s
  | .cons q r, s => .cons q (RK.app r s)
theorem RK.rev {κ : Type} {K : PySem.W.Frag} {H : Hp} : ∀ {l : List (κ × V)} {m : List (κ × D)}, RK K H l m → RK K H l.reverse m.reverse
  | _, _, .nil => .nil
  | _, _, .cons q r => by rw [List.reverse_cons, List.reverse_cons]; exact RK.app (RK.rev r) (.cons q .nil)
theorem RK.zip {κ : Type} {K : PySem.W.Frag} {H : Hp} : ∀ {ps : List κ} {vs : List V} {ds : List D}, RDs K H vs ds → RK K H (ps.zip vs) (ps.zip ds)
  | [], _, _, _ => .nil
  | _ :: _, _, _, .nil => .nil
  | p :: ps, _, _, .cons q r => .cons q (RK.zip r)
theorem ds_raise {ϖ : Pend} {W : WX} {kp : Nat → Bool} {e : Expr} {es : List Expr} {x : Str} {As : S → R (List G)} {p pos pos2 : Pos} {k : Nat} (hc : X.calm = true) (T : SupTxt X.prog X.K X.mg st C D' fI ps) (gC : X.mg x = some (.ref C)) (hps : ps ≠ []) (hnd : (("self" : Str) :: ps).Nodup) (hne : ∀ p ∈ ps, (p == ("__debug__" : Str)) = false) (hlen : ps.length ≤ 100) (hr : Room k X.A) (tk : Takes X W) (ha : DGs X ϖ W (e :: es) As) (hg : Gl X x)
    (hdb : (x == ("__debug__" : Str)) = false := by decide) (he : starEach (e :: es) X.env = (false, eval e X.env) :: starEach es X.env := by rfl) (hpl : (backTo pos (starEach es X.env)).any (·.1) = false := by rfl) : DS X ϖ W kp (.Raise (some (.Call (.Name x p) (e :: es) [] pos)) none pos2) (sRaise C ps As) := by
  refine (ps_raise hc tk (pmk_sup T gC hps hnd hne hlen hr ha hg hdb he hpl)).imp fun Dn σv H q => ?_
  refine (evS (Rl := ROs X.K σv) (F := As) q).mono fun vs H1 ⟨xs, g, σ, h, r, s, n, p⟩ => ?_
  split at p
  · rename_i ts e1
    obtain ⟨f1, q1⟩ := ROs.rds (hs := s) r e1
    split at p
    · rename_i ds e2
      split at p
      · rename_i hl
        have rd := q1.vals e2
        refine ⟨by rw [rd.length]; exact hl, fun d hd => ?_⟩
        have w : Nw H1 (upd H1 d (.xd (ps.zip vs).reverse)) (fun _ => 0) := Nw.laid0 hd
        exact p d _ σv _ h upd_same (RK.rev (RK.zip (rd.stb w.stb))) (w.rs s) (n.le (z_le _ _)) ((w.fr (z_le g h)).le fun b => by show h b ≤ 0 + h b; omega) (.refl _ _)
      · exact p.elim
    · exact p.elim
  · exact p.elim
end
end DL

set_option Elab.async false
set_option linter.all false
set_option maxRecDepth 100000
set_option maxHeartbeats 4200000
/-! DLY: try with several clauses, what their suites do. -/
namespace DL
open PySem PySem.Spec PyProof.Rows L2

/-- a clause's ends: its name is gone -/
def goneD (oi : Option Nat) (D : Ends) : Ends := match oi with
  | none => D
  | some i => { D with nx := fun σ' H' => D.nx (σ'.set i none) H', bk := fun σ' H' => D.bk (σ'.set i none) H', ct := fun σ' H' => D.ct (σ'.set i none) H' }
def heldS (oi : Option Nat) (a : Addr) (σ : L2.St) : L2.St := match oi with
  | none => σ
  | some i => σ.set i (some (.ref a))
abbrev Su := Addr → Value → Option Addr → TS
/-- the wish for what the body raises, clause by clause -/
def wCl (K : PySem.W.Frag) (Wout : WX) (D : Ends) : List (Value × Option Nat × Su) → WX
  | [] => Wout
  | (c, oi, ts) :: r => fun cls d σ H => ∃ b, PySem.W.exmOne K cls c = some b ∧ (b = true → ∀ a, H a = none → ts a cls d (goneD oi D) (heldS oi a σ) H) ∧ (b = false → wCl K Wout D r cls d σ H)
/-! ### suites on data -/
theorem RS.hole {K : PySem.W.Frag} {ϖ : Pend} {H : Hp} {o : Option V} : ∀ {σv : L2.St} {σ : S} {f : Fp} (i : Nat), RS K ϖ H σv (σ.set i none) f → RS K ϖ H (σv.set i o) (σ.set i none) f
  | [], [], _, _, r => r
  | x :: σv, [], _, _, r => by cases r
  | [], s :: σ, _, i, r => by cases i <;> cases r
  | x :: σv, s :: σ, _, 0, r => by
    rw [List.set_cons_zero] at r ⊢
    cases r with
    | non r => exact .non r
  | x :: σv, s :: σ, f, i + 1, r => by
    rw [List.set_cons_succ] at r ⊢
    cases r with
    | non r => exact .non (RS.hole i r)
    | som q r z => exact .som q (RS.hole i r) z
/-- what a suite does, of the error's class and fields -/
abbrev SuF := Addr → List (Str × D) → S → O
def tSu (K : PySem.W.Frag) (ϖ : Pend) (kp : Nat → Bool) (oi : Option Nat) (g : SuF) : Su := fun a cls d Dn σv H => ∃ C dd vs xs σ f, cls = .ref C ∧ d = some dd ∧ (∀ i, oi = some i → σv[i]? = some (some (.ref a))) ∧ H dd = some (.xd vs) ∧ RK K H vs xs ∧ RS K ϖ H σv σ f ∧ Nd f ∧
  SPost K ϖ (fun _ _ _ _ => False) kp (g C xs σ) Dn σv H f
def DSu (X : Cx) (ϖ : Pend) (kp : Nat → Bool) (oi : Option Nat) (sts : List Stmt) (g : SuF) : Prop := ∀ (a : Addr) (oe : Obj) (C dd : Addr) (pn : List (Addr × Obj)), Zc (.ref C) (some dd) oe → (∃ vs, oe.data = .fields vs) →
  PSs (X.suite a ((a, oe) :: pn)) sts (fun Dn σv H => ∃ vs xs σ f, (∀ i, oi = some i → σv[i]? = some (some (.ref a))) ∧ H dd = some (.xd vs) ∧ RK X.K H vs xs ∧ RS X.K ϖ H σv σ f ∧ Nd f ∧ SPost X.K ϖ (fun _ _ _ _ => False) kp (g C xs σ) Dn σv H f)
theorem DSu.su {X : Cx} {ϖ : Pend} {kp : Nat → Bool} {oi : Option Nat} {sts : List Stmt} {g : SuF} (h : DSu X ϖ kp oi sts g) (a : Addr) (oe : Obj) (cls : Value) (d : Option Addr) (pn : List (Addr × Obj)) (hz : Zc cls d oe) (hf : ∃ vs, oe.data = .fields vs) :
    PSs (X.suite a ((a, oe) :: pn)) sts (tSu X.K ϖ kp oi g a cls d) := by
  refine ⟨fun pins s σ H D I q => ?_⟩
  obtain ⟨C, dd, vs, xs, σ', f, e1, e2, h1, h2, h3, h4, h5, h6⟩ := q
  subst e1; subst e2
  exact (h a oe C dd pn hz hf).run pins s σ H D I ⟨vs, xs, σ', f, h1, h2, h3, h4, h5, h6⟩
/-- a clause on data: the classes that it is asked of, with the answers; where the name stands; the suite -/
structure Hd where
  m : List (Addr × Bool)
  oi : Option Nat
  g : SuF
def finO (oi : Option Nat) (o : O) : O := match oi with
  | none => o
  | some i => match o with
    | .nx σ => .nx (σ.set i none)
    | .bk σ => .bk (σ.set i none)
    | .ct σ => .ct (σ.set i none)
    | o => o
def entO (oi : Option Nat) (σ : S) (k : S → O) : O := match oi with
  | none => k σ
  | some i => if i < σ.length then k (σ.set i none) else .stuck
def noX (o : O) : O := match o with
  | .exc _ _ _ => .stuck
  | o => o
def hGo : List Hd → Addr → List (Str × D) → S → O
  | [], C, xs, σ => .exc C xs σ
  | h :: r, C, xs, σ => match h.m.lookup C with
    | some true => finO h.oi (noX (entO h.oi σ (h.g C xs)))
    | some false => hGo r C xs σ
    | none => .stuck
def sTry (body : S → O) (hds : List Hd) : S → O := fun σ => match body σ with
  | .exc C xs σ1 => hGo hds C xs σ1
  | o => o
section
variable {X : Cx} {ϖ : Pend} {kp : Nat → Bool} {W : WX} {body : List Stmt} {h₀ : ExceptHandler} {hds : List ExceptHandler} {l : List (Value × Option Nat × Su)} {hs : List Hd} {pos : Pos} {g : S → O}
theorem fin_ok {K : PySem.W.Frag} {oi : Option Nat} {o : O} {Dn : Ends} {σv : L2.St} {H : Hp} {f : Fp} (hk : ∀ i, oi = some i → kp i = false) (p : SPost K ϖ W kp (finO oi o) Dn σv H f) : SPost K ϖ W kp o (goneD oi Dn) σv H f := by
  cases oi with
  | none => exact p
  | some i =>
    have k := hk i rfl
    have go : ∀ {σw : L2.St} {σ : S} {H' : Hp} {h : Fp}, RS K ϖ H' σw σ h → Nd h → Fr H f H' h → Kp kp σv σw → ∃ h', RS K ϖ H' (σw.set i none) (σ.set i none) h' ∧ Nd h' ∧ Fr H f H' h' ∧ Kp kp σv (σw.set i none) := fun r n w q => by
      obtain ⟨h', r', le⟩ := r.drop i
      exact ⟨h', r'.hole i, n.le le, w.le le, q.trans (.set k)⟩
    cases o with
    | nx σ => intro σw H' h r n w q; obtain ⟨h', a, b, c, d⟩ := go r n w q; exact p _ H' h' a b c d
    | bk σ => intro σw H' h r n w q; obtain ⟨h', a, b, c, d⟩ := go r n w q; exact p _ H' h' a b c d
    | ct σ => intro σw H' h r n w q; obtain ⟨h', a, b, c, d⟩ := go r n w q; exact p _ H' h' a b c d
    | rt t σ => exact p
    | exc C xs σ => exact p
    | stuck => exact p
theorem noX_ok {K : PySem.W.Frag} {o : O} {Dn : Ends} {σv : L2.St} {H : Hp} {f : Fp} {W' : WX} (p : SPost K ϖ W kp (noX o) Dn σv H f) : SPost K ϖ W' kp o Dn σv H f := by
  cases o with
  | exc C xs σ => exact p.elim
  | stuck => exact p.elim
  | nx σ => exact p
  | bk σ => exact p
  | ct σ => exact p
  | rt t σ => exact p
/-- the clauses, by what they are asked and what their suites do -/
inductive ClsF (K : PySem.W.Frag) (ϖ : Pend) (kp : Nat → Bool) : List (Value × Option Nat × Su) → List Hd → Prop
  | nil : ClsF K ϖ kp [] []
  | cons {c : Value} {h : Hd} {l : List (Value × Option Nat × Su)} {r : List Hd} (hm : ∀ C b, h.m.lookup C = some b → PySem.W.exmOne K (.ref C) c = some b) (hk : ∀ i, h.oi = some i → kp i = false) (t : ClsF K ϖ kp l r) :
      ClsF K ϖ kp ((c, h.oi, tSu K ϖ kp h.oi h.g) :: l) (h :: r)
theorem go_ok {K : PySem.W.Frag} {Wout : WX} {l : List (Value × Option Nat × Su)} {hs : List Hd} (h : ClsF K ϖ kp l hs) {C dd : Addr} {vs : List (Str × V)} {xs : List (Str × D)} {σ : S} {σw : L2.St} {H : Hp} {f : Fp} {Dn : Ends}
    (e : H dd = some (.xd vs)) (rk : RK K H vs xs) (r : RS K ϖ H σw σ f) (n : Nd f) (p : SPost K ϖ Wout kp (hGo hs C xs σ) Dn σw H f) : wCl K Wout Dn l (.ref C) (some dd) σw H := by
  induction h with
  | nil => exact p dd vs σw H f e rk r n (.refl _ _) (.refl _ _)
  | @cons c h l hs hm hk t ih =>
    unfold hGo at p
    cases em : h.m.lookup C with
    | none => rw [em] at p; exact p.elim
    | some b =>
      rw [em] at p
      refine ⟨b, hm C b em, fun hb a na => ?_, fun hb => ?_⟩
      · subst hb
        have p := noX_ok (W' := fun _ _ _ _ => False) (fin_ok hk p)
        cases eo : h.oi with
        | none =>
          rw [eo] at p
          exact ⟨C, dd, vs, xs, σ, f, rfl, rfl, (fun i z => by cases z), e, rk, r, n, p⟩
        | some i =>
          rw [eo] at p
          unfold entO at p
          dsimp only at p
          by_cases hi : i < σ.length
          · rw [if_pos hi] at p
            obtain ⟨h', r', le⟩ := r.drop i
            refine ⟨C, dd, vs, xs, σ.set i none, h', rfl, rfl, (fun j z => by cases z; show (σw.set i (some (.ref a)))[i]? = _; rw [List.getElem?_set_self (by rw [r.length]; exact hi)]), e, rk, r'.hole i, n.le le, ?_⟩
            exact p.fr ((Fr.refl H f).le le) (.set (hk i eo))
          · rw [if_neg hi] at p
            exact p.elim
      · subst hb
        exact ih p
/-- TRY with one clause that gives the error a name -/
theorem ds_try1 {x n : Str} {c : Value} {i : Nat} {b₀ : Stmt} {suite : List Stmt} {np pos' : Pos} {m : List (Addr × Bool)} {gs : SuF} (hst : X.stack = X.env :: X.outer) (hf : X.env.frame = some X.env.locals) (hN : X.N.Nodup) (hi : X.N[i]? = some n) (hln : X.env.kindOf n = some .local) (hc : Names X x c) (tk : Takes X W)
    (hm : ∀ C b, m.lookup C = some b → PySem.W.exmOne X.K (.ref C) c = some b)
    (hb : ∀ (W : WX) (pn : List (Addr × Obj)) (xe : Value → Shared → Prop), Takes (X.tr pn xe) W → PassesOwn (model X.prog X.w) X.A X.env xe → DSs (X.tr pn xe) ϖ W kp body g)
    (hsu : DSu X ϖ kp (some i) (b₀ :: suite) gs) (hk : kp i = false := by rfl) : DS X ϖ W kp (.Try body [.ExceptHandler (some (.Name x np)) (some n) (b₀ :: suite) pos'] [] [] pos) (sTry g [⟨m, some i, gs⟩]) := by
  have cl : ClsF X.K ϖ kp [(c, some i, tSu X.K ϖ kp (some i) gs)] [⟨m, some i, gs⟩] := .cons (h := ⟨m, some i, gs⟩) hm (fun j e => by cases e; exact hk) .nil
  refine (ps_try_as (tb := fun W => sS X.K ϖ W kp g) (ts := tSu X.K ϖ kp (some i) gs) hst hf hN hi hln hc tk hb hsu.su).imp fun Dn σv H ⟨σ, f, r, n, p⟩ => ⟨σ, f, r, n, ?_⟩
  have conv : ∀ cls d σ H, wCl X.K W Dn [(c, some i, tSu X.K ϖ kp (some i) gs)] cls d σ H → wAs X.K c i (tSu X.K ϖ kp (some i) gs) W Dn cls d σ H := fun cls d σ H w => w
  unfold sTry at p
  cases e : g σ with
  | nx σ' => rw [e] at p; exact p
  | bk σ' => rw [e] at p; exact p
  | ct σ' => rw [e] at p; exact p
  | rt t σ' => rw [e] at p; exact p
  | stuck => rw [e] at p; exact p
  | exc C xs σ' =>
    rw [e] at p
    exact fun d vs σw H' h ed rk r' n' w k => conv _ _ _ _ (go_ok cl ed rk r' n' (p.fr w k))
end

/-! ### what a suite says of its error -/
abbrev PxF := Addr → List (Str × D) → Option D
def tPx (K : PySem.W.Frag) (a dd : Addr) (oi : Option Nat) (o : List (Str × D) → Option D) : TE := fun σv H Q => (∀ i, oi = some i → σv[i]? = some (some (.ref a))) ∧ ∃ vs xs x, H dd = some (.xd vs) ∧ RK K H vs xs ∧ o xs = some x ∧ ∀ v H', RD K H' v x → Nw H H' (fun _ => 0) → Q v H'
def DPx (X : Cx) (oi : Option Nat) (e : Expr) (px : PxF) : Prop := ∀ (a : Addr) (oe : Obj) (C dd : Addr) (pn : List (Addr × Obj)), Zc (.ref C) (some dd) oe → (∃ vs, oe.data = .fields vs) →
  PE (X.suite a ((a, oe) :: pn)) e (tPx X.K a dd oi (px C))
def tPa (K : PySem.W.Frag) (a dd : Addr) (oi : Option Nat) (o : List (Str × D) → Option (List D)) : TA := fun σv H Q => (∀ i, oi = some i → σv[i]? = some (some (.ref a))) ∧ ∃ vs xs x, H dd = some (.xd vs) ∧ RK K H vs xs ∧ o xs = some x ∧ ∀ us H', RDs K H' us x → Nw H H' (fun _ => 0) → Q us H'
def DPa (X : Cx) (oi : Option Nat) (es : List Expr) (pa : Addr → List (Str × D) → Option (List D)) : Prop := ∀ (a : Addr) (oe : Obj) (C dd : Addr) (pn : List (Addr × Obj)), Zc (.ref C) (some dd) oe → (∃ vs, oe.data = .fields vs) →
  PA (X.suite a ((a, oe) :: pn)) es (tPa X.K a dd oi (pa C))
def tPb (K : PySem.W.Frag) (a dd : Addr) (oi : Option Nat) (o : List (Str × D) → Option Bool) : TT := fun σv H Q => (∀ i, oi = some i → σv[i]? = some (some (.ref a))) ∧ ∃ vs xs x, H dd = some (.xd vs) ∧ RK K H vs xs ∧ o xs = some x ∧ Q x H
def DPb (X : Cx) (oi : Option Nat) (e : Expr) (pb : Addr → Option Bool) : Prop := ∀ (a : Addr) (oe : Obj) (C dd : Addr) (pn : List (Addr × Obj)), Zc (.ref C) (some dd) oe → (∃ vs, oe.data = .fields vs) →
  PT (X.suite a ((a, oe) :: pn)) e (tPb X.K a dd oi (fun _ => pb C))
theorem Nw.rk {K : PySem.W.Frag} {H H' : Hp} {g : Fp} {κ : Type} (n : Nw H H' g) {vs : List (κ × V)} {xs : List (κ × D)} (r : RK K H vs xs) : RK K H' vs xs := r.stb n.stb
theorem Nw.tr0 {H H1 H2 : Hp} (a : Nw H H1 (fun _ => 0)) (b : Nw H1 H2 (fun _ => 0)) : Nw H H2 (fun _ => 0) := ⟨fun c o e => b.same c o (a.same c o e), fun _ z => absurd rfl z, fun _ => Nat.zero_le _⟩
section
variable {X : Cx} {ϖ : Pend} {kp : Nat → Bool} {oi : Option Nat} {e b c : Expr} {es : List Expr} {px py : PxF} {pos : Pos} {pa : Addr → List (Str × D) → Option (List D)} {pb pc : Addr → Option Bool}
/-- a constant -/
theorem px_const {v : V} {d : D} (h : ∀ a pn, PE (X.suite a pn) e (tC v)) (r : ∀ H, RD X.K H v d) : DPx X oi e (fun _ _ => some d) := fun a oe C dd pn _ _ =>
  (h a _).imp fun σv H Q ⟨_, vs, xs, x, _, _, e, q⟩ => by cases e; exact q v H (r H) (Nw.refl H)
/-- e.f -/
def pxAttr (cs : List Addr) (f : Str) : PxF := fun C xs => if cs.contains C = true then xs.lookup f else none
theorem RK.look {K : PySem.W.Frag} {H : Hp} : ∀ {vs : List (Str × V)} {xs : List (Str × D)} {f : Str} {x : D}, RK K H vs xs → xs.lookup f = some x → ∃ v, vs.lookup f = some v ∧ RD K H v x
  | _, _, _, _, .nil, e => by cases e
  | (k, v) :: vs, (_, d) :: xs, f, x, .cons q r, e => by
    rw [List.lookup_cons] at e ⊢
    cases h : f == k with
    | true => rw [h] at e; cases e; exact ⟨v, rfl, q⟩
    | false => rw [h] at e; exact RK.look r e
theorem px_attr {i : Nat} {n : Str} (cs : List Addr) (hC : ∀ C ∈ cs, XfC X.K C ∧ PySem.W.findIn X.K (.ref C) n = some none) (he : ∀ a pn, PE (X.suite a pn) e (tVar i)) (hb : attributeBase e n X.env (eval e X.env) = eval e X.env := by rfl) :
    DPx X (some i) (.Attribute e n pos) (pxAttr cs n) := fun a oe C dd pn hz hf => by
  by_cases hc : cs.contains C = true
  · obtain ⟨T, hno⟩ := hC C (List.contains_iff_mem.mp hc)
    refine (pe_xf T hno hz hf (he a _) hb).imp fun σv H Q ⟨ha, vs, xs, x, ed, rk, e, q⟩ => ?_
    unfold pxAttr at e
    rw [if_pos hc] at e
    obtain ⟨v, l, rv⟩ := rk.look e
    exact ⟨.ref a, ha i rfl, rfl, rfl, dd, vs, v, rfl, ed, l, q v H rv (Nw.refl H)⟩
  · refine ⟨fun pins s σ H Q I ⟨ha, vs, xs, x, ed, rk, e, q⟩ => ?_⟩
    unfold pxAttr at e
    rw [if_neg hc] at e
    cases e
theorem pa_nil : DPa X oi [] (fun _ _ => some []) := fun a oe C dd pn _ _ => (L2.pa_nil).imp fun σv H Q ⟨_, vs, xs, x, _, _, e, q⟩ => by cases e; exact q [] H .nil (Nw.refl H)
theorem pa_cons (h1 : DPx X oi e px) (h2 : DPa X oi es pa) (hs : starEach (e :: es) X.env = (false, eval e X.env) :: starEach es X.env := by rfl) : DPa X oi (e :: es) (fun C xs => (px C xs).bind fun d => (pa C xs).map (d :: ·)) := fun a oe C dd pn hz hf =>
  (L2.pa_cons (h1 a oe C dd pn hz hf) (h2 a oe C dd pn hz hf) hs).imp fun σv H Q ⟨ha, vs, xs, x, ed, rk, e, q⟩ => by
    obtain ⟨d, e1, e2⟩ := Option.bind_eq_some_iff.mp e
    obtain ⟨ds, e3, e4⟩ := Option.map_eq_some_iff.mp e2
    subst e4
    exact ⟨ha, vs, xs, d, ed, rk, e1, fun v H1 rv n1 => ⟨ha, vs, xs, ds, n1.same _ _ ed, n1.rk rk, e3, fun us H2 rs n2 => q _ _ (.cons (rv.stb n2.stb) rs) (n1.tr0 n2)⟩⟩
theorem px_tup {x1 : Nat} (h : DPa X oi es pa) : DPx X oi (.Tuple es x1 pos) (fun C xs => (pa C xs).bind fun ds => if ds.length ≤ sizeLine then some (.tup ds) else none) := fun a oe C dd pn hz hf =>
  (pe_tup (h a oe C dd pn hz hf)).imp fun σv H Q ⟨ha, vs, xs, x, ed, rk, e, q⟩ => by
    obtain ⟨ds, e1, e2⟩ := Option.bind_eq_some_iff.mp e
    split at e2
    · rename_i hl
      cases e2
      exact ⟨ha, vs, xs, ds, ed, rk, e1, fun us H1 rs n1 => ⟨by rw [rs.length]; exact hl, fun p hp => q _ _ (.tup (.of upd_same) (rs.stb (.fresh hp))) (n1.tr0 (Nw.laid0 hp))⟩⟩
    · cases e2
theorem px_if (hc : DPb X oi c pb) (ha : DPx X oi e px) (hb : DPx X oi b py) : DPx X oi (.IfExp c e b pos) (fun C xs => (pb C).bind fun t => if t = true then px C xs else py C xs) := fun a oe C dd pn hz hf =>
  (pe_ifExp (hc a oe C dd pn hz hf) (ha a oe C dd pn hz hf) (hb a oe C dd pn hz hf)).imp fun σv H Q ⟨ha, vs, xs, x, ed, rk, e, q⟩ => by
    obtain ⟨t, e1, e2⟩ := Option.bind_eq_some_iff.mp e
    refine ⟨ha, vs, xs, t, ed, rk, e1, ?_⟩
    cases t with
    | true => exact ⟨ha, vs, xs, x, ed, rk, e2, q⟩
    | false => exact ⟨ha, vs, xs, x, ed, rk, e2, q⟩
/-- return .. -/
theorem su_ret (h : DPx X oi e px) : DSu X ϖ kp oi [.Return (some e) pos] (fun C xs σ => match px C xs with | some d => .rt (.val d) σ | none => .stuck) := fun a oe C dd pn hz hf =>
  pss_one ((ps_ret (h a oe C dd pn hz hf)).imp fun Dn σv H ⟨vs, xs, σ, f, ha, ed, rk, r, n, p⟩ => by
    cases e : px C xs with
    | none => simp only [e] at p; exact p.elim
    | some d =>
      simp only [e] at p
      refine ⟨ha, vs, xs, d, ed, rk, e, fun v H' rv nw => p v σv H' (fun _ => 0) f (.vl rv) (nw.rs r) (n.le fun b => by show 0 + f b ≤ f b; omega) ((nw.fr fun _ => Nat.le_refl _)) (.refl _ _)⟩)
/-- x = .. -/
theorem su_set {j : Nat} {x : Str} {pos' : Pos} (hN : X.N.Nodup) (hj : X.N[j]? = some x) (hx : Loc X.env.scope x) (h : DPx X oi e px) (hk : kp j = false := by rfl) (hs : swapsWith e (some (.Name x pos')) pos.line X.env = pure false := by rfl) (hf : X.fn x = true ∨ X.env.scope.names.lookup x = some .local := by first | exact .inl rfl | exact .inr rfl | assumption) :
    DSu X ϖ kp oi [.Assign [.Name x pos'] e pos] (fun C xs σ => match px C xs with | some d => .nx (σ.set j (some (.val d))) | none => .stuck) := fun a oe C dd pn hz hfl =>
  pss_one ((ps_set (X := X.suite a ((a, oe) :: pn)) hN hj hx (h a oe C dd pn hz hfl) hs hf).imp fun Dn σv H ⟨vs, xs, σ, f, ha, ed, rk, r, n, p⟩ => by
    cases e : px C xs with
    | none => simp only [e] at p; exact p.elim
    | some d =>
      simp only [e] at p
      refine ⟨ha, vs, xs, d, ed, rk, e, fun v H' rv nw => ?_⟩
      obtain ⟨h', r', n', z⟩ := (nw.rs r).sto (i := j) (RT.vl rv) (n.le fun b => by show 0 + f b ≤ f b; omega)
      exact p _ H' h' r' n' ((nw.fr (h := f) (f := f) fun _ => Nat.le_refl _).le z) (.set hk))
end
end DL

set_option Elab.async false
set_option linter.all false
set_option maxRecDepth 100000
set_option maxHeartbeats 4200000
/-! DLI: isinstance, of data and of a caught error that has fields. -/
namespace PySem.DLI
open PySem PySem.W PySem.Calls PyProof.Rows PySem.Spec
section
variable {prog : Program} {w : World} {A : Around} {E : Value → Shared → Prop} {s : Shared} {K : Frag} {y B : Addr} {oy : Obj} {oz : Option Obj}
theorem obj_data {nm : Str} {v g : Value} (h1 : (clsIn K B).isSome = true) (h2 : findIn K (.ref B) nm = some (some v)) (h3 : specialIn K v "__get__" = some (some g)) (h4 : takesIn K v = some true) : findObj K B oz nm = some (.bind g v) := by
  obtain ⟨cd, e⟩ := Option.isSome_iff_exists.mp h1
  unfold findObj
  rw [e, Option.bind_some, h2, Option.bind_some]
  simp [h3, h4]
theorem own_class {Q : Option Value → Shared → Prop} (T : L2.ExcC K B) (X : K.In s.heap) (I : InstAt s.heap y oy B oz) (h : Q (some (.ref B)) { s with toks := s.toks + 1 }) : wpAny (model prog w) A (getAttr? (.ref y) "__class__") Q E s := by
  have hf : findObj K B oz "__class__" = some (.bind (.builtin "getset_descriptor.__get__") (.builtin "object.__class__")) := obj_data (by obtain ⟨cd, hc, _⟩ := any_some T.hd; rw [hc]; rfl) T.ha T.hn T.ht
  obtain ⟨hp, gs, dr, tk, os⟩ := s
  have l0 := I.type (M := model prog w)
  have l1 := looks_findIn (M := model prog w) X T.hg
  have l2 := looks_findIn (M := model prog w) X T.hk
  have l3 := looks_find (M := model prog w) X I hf
  have sub : Looks (model prog w) hp (isInstance (.ref y) (.type "BaseException")) true := l0.andThen (looks_subIn X T.hs)
  have z0 : (false && onTheHeap (Value.builtin "BaseException.__getattribute__")) = false := rfl
  have z2 : (Value.builtin "BaseException.__getattribute__" == Value.builtin "object.__getattribute__") = false := by decide +kernel
  have z1 : (onTheHeap (Value.ref B) && Value.builtin "BaseException.__getattribute__" == Value.builtin "object.__getattribute__") = false := by rw [z2]; rfl
  unfold getAttr?; unfold getAttrBy? getAttrBy
  refine wpAny_bind (wpAny_mkText (wpAny_bind (wpAny_attempt (wpAny_holding (wpAny_bind (l0.at (wpAny_bind (l1.at ?_))))))))
  show wpAny _ _ (if (onTheHeap (Value.ref B) && Value.builtin "BaseException.__getattribute__" == Value.builtin "object.__getattribute__") = true then _ else _) _ _ _
  rw [z1, if_neg Bool.false_ne_true]
  unfold getAttrByItsOwn; unfold hookBefore
  refine wpAny_bind ?_
  rw [if_pos (show onTheHeap (Value.ref B) = true from rfl)]
  refine l2.at (wpAny_bind (wpAny_attempt (wpAny_holding ?_)))
  unfold callGetattribute
  rw [z0, if_neg Bool.false_ne_true]
  unfold boundAndCalled
  rw [PySem.F.excAttr_ValueError.ga.bind (.ref y)]
  refine wpAny_bind (wpAny_pure ?_); show wpAny _ _ (call (.builtin "BaseException.__getattribute__") [.ref y, .str "__class__" tk]) _ _ _
  refine wpAny_call (codeAny_call_builtin (F.excAttr_ValueError.ga.plain) (F.entry_bexc_ga) ?_)
  refine @check_slot (model prog w) _ _ ⟨hp, gs, dr, tk + 1, os⟩ "BaseException.__getattribute__" "BaseException" "__getattribute__" (.ref y) [.str "__class__" tk] [] _ (by decide +kernel) (by decide +kernel) sub (PySem.F.args_bexc_ga (.ref y) (.str "__class__" tk)) ?_
  unfold Builtin.«object.__getattribute__»; refine wpAny_bind (wpAny_of_eq (a := ((Value.ref y : Value), [Value.str "__class__" tk])) (by first | rfl | (simp only [slotArgs]; rfl)) ?_)
  refine wpAny_bind (wpAny_pure (wpAny_bind (l0.at (wpAny_bind (l3.at ?_)))))
  show wpAny _ _ (holding [Value.builtin "object.__class__"] (call (.builtin "getset_descriptor.__get__") [.builtin "object.__class__", .ref y, .ref B]) >>= ret) _ _ _
  refine wpAny_bind (wpAny_holding (wpAny_call (class_get (s := ⟨hp, gs, dr, tk + 1, os⟩) (ox := oy) (od := oz) X I T.hm ?_)))
  refine wpAny_pure ?_
  show wpAny _ _ (handedOut (.ref B)) _ _ _
  rw [handedOut_of (v := .ref B) rfl]
  first
    | exact wpAny_pure h | exact wpAny_pure (wpAny_pure h) | exact wpAny_pure (wpAny_bind (wpAny_pure (wpAny_pure h)))
theorem kit_own (T : L2.ExcC K B) : KitX K (.ref y) (.ref B) (fun h => ∃ oz, InstAt h y oy B oz) where
  ty := fun _ _ _ ⟨_, I⟩ => I.type
  it := fun _ _ X _ => by
    obtain ⟨cdB, hcB, _⟩ := any_some T.hd
    unfold clsIn at hcB
    split at hcB
    · rename_i c1 d1 cd1 sl1 ho
      exact fun A1 Q1 E1 s1 k q => by
        unfold isType loadHead; exact wpAny_bind (wpAny_loadPart (k _ _ (X _ _ ho)) (wpAny_pure q))
    · cases hcB
  ne := fun hp tp dd its n sl X htp => by
    obtain ⟨cdB, hcB, _⟩ := any_some T.hd
    refine (Bool.eq_false_iff.mpr fun q => ?_); have e : B = tp := Value.ref.inj (beq_iff_eq.mp q)
    subst e
    unfold clsIn at hcB
    split at hcB
    · rename_i c1 d1 cd1 sl1 ho
      cases (X _ _ ho).symm.trans htp
    · cases hcB
  ca := fun X ⟨_, I⟩ k => own_class T X I k
end
end PySem.DLI
namespace DL
open PySem PySem.Spec PyProof.Rows L2
/-- isinstance(e, c), e the caught error, with fields -/
theorem call_isD {X : Cx} {a B dd : Addr} {oe : Obj} {pn : List (Addr × Obj)} (C : ExcC X.K B) (hz : Zc (.ref B) (some dd) oe) (hf : ∃ vs, oe.data = .fields vs) : CallR (X.suite a ((a, oe) :: pn)) (.builtin "isinstance")
    (fun xs H Q => (∃ fs, H dd = some (.xd fs)) ∧ rIsE X.K B a xs H Q) := by
  intro pins s σ H xs us Q I r ⟨⟨fs, hfs⟩, h⟩
  obtain ⟨c, cv, bb, rfl, hcv, e, q⟩ := h
  cases r with
  | cons rx rr =>
    cases rr with
    | cons rt rr =>
      cases rr
      cases rx
      cases hcv _ rt
      obtain ⟨hget, _⟩ := I.pin (a, oe) (List.mem_append_left _ List.mem_cons_self)
      obtain ⟨vs, hv⟩ := hf
      have hx : ObjOk X.prog X.w H s.heap dd (.xd fs) := I.hok dd _ hfs
      obtain ⟨mA, hns, hr⟩ := hx
      obtain ⟨od, ho, hl⟩ := lookIn_ns hns
      have J : PySem.W.InstAt s.heap a oe B (some od) := ⟨hget, hz.1, by unfold PySem.W.notCls; rw [hv] <;> rfl, by rw [hz.2]; exact ho⟩
      exact PySem.W.kia_one (PySem.DLI.kit_own C) I.kIn ⟨_, J⟩ e (fun z => nomatch z) fun tk => ⟨.bl bb, H, I.kept (t' := tk) fun _ _ z => z, rfl, q⟩
section
variable {X : Cx} {e : Expr} {i : Nat} {pos : Pos}
/-- the table of the answers: of class B, isinstance(.., c)? -/
theorem pb_is {cn : Str} {c : Addr} {p1 p2 : Pos} (m : List (Addr × Bool)) (hm : ∀ C b, m.lookup C = some b → ExcC X.K C ∧ PySem.W.kitOne X.K (.ref C) (.ref c) = some b) (he : ∀ a pn, PE (X.suite a pn) e (tVar i)) (gC : Gl X cn) (mC : X.mg cn = some (.ref c)) (hg : Gl X "isinstance") (hmg : X.mg "isinstance" = none)
    (hdb : (cn == ("__debug__" : Str)) = false := by decide) (hs : starEach [e, .Name cn p1] X.env = (false, eval e X.env) :: starEach [.Name cn p1] X.env := by rfl) (hs1 : starEach [.Name cn p1] X.env = (false, eval (.Name cn p1) X.env) :: starEach [] X.env := by rfl) (hpl : (backTo pos (starEach [.Name cn p1] X.env)).any (·.1) = false := by rfl) :
    DPb X (some i) (.Call (.Name "isinstance" p2) [e, .Name cn p1] [] pos) (fun C => m.lookup C) := fun a oe C dd pn hz hf => by
  cases e1 : m.lookup C with
  | none => exact ⟨fun pins s σ H Q I ⟨_, vs, xs, x, _, _, e, _⟩ => by
    have e : m.lookup C = some x := e
    rw [e1] at e; cases e⟩
  | some b =>
    obtain ⟨T, hk⟩ := hm C b e1
    refine PT.imp (pt_val (pe_callB (X := X.suite a ((a, oe) :: pn)) (x := "isinstance") (id := "isinstance") (call_isD T hz hf) hg hmg rfl (L2.pa_cons (he a _) (L2.pa_cons (pe_glob (X := X.suite a ((a, oe) :: pn)) (v := .ref c) gC mC rfl hdb) L2.pa_nil hs1) hs) (by decide) (by decide) hs hpl)) fun σv H Q q => ?_
    obtain ⟨ha, vs, xs, x, ed, rk, e, q⟩ := q
    have e : m.lookup C = some x := e
    rw [e1] at e; cases e
    exact ⟨.ref a, ha i rfl, ⟨vs, ed⟩, .ref c, .ref c, b, rfl, fun u r => r, hk, b, rfl, q⟩
theorem pb_and {e f : Expr} {i : Nat} {pos : Pos} {b c : Addr → Option Bool} (h1 : DPb X (some i) e b) (h2 : DPb X (some i) f c) : DPb X (some i) (.BoolOp .And [e, f] pos) (fun C => (b C).bind fun t => if t = true then c C else some false) := fun a oe C dd pn hz hf => by
  refine PT.imp (PW.pt (pw_and (h1 a oe C dd pn hz hf) (pw_and1 (h2 a oe C dd pn hz hf)))) fun σv H Q q => ?_
  obtain ⟨ha, vs, xs, x, ed, rk, e, q⟩ := q
  obtain ⟨t, e1, e2⟩ := Option.bind_eq_some_iff.mp e
  refine ⟨ha, vs, xs, t, ed, rk, e1, ?_⟩
  cases t with
  | true => exact ⟨ha, vs, xs, x, ed, rk, e2, q⟩
  | false => cases e2; exact q
/-! ### isinstance of data -/
def D.ty : D → String
  | .non => "NoneType"
  | .bl _ => "bool"
  | .int _ => "int"
  | .str _ => "str"
  | .tup _ => "tuple"
  | .lst _ => "list"
def T.ty : T → String
  | .val d => d.ty
  | .lst _ => "list"
  | .ll _ => "list"
  | .dK _ => "dict"
  | .dT _ => "dict"
theorem RD.ty {K : PySem.W.Frag} {H : Hp} {v : V} {d : D} (h : RD K H v d) : TyX K H v (.type d.ty) := by
  cases h with
  | non => exact .base .non
  | bl b => exact .base (.bl b)
  | int i => exact .base (.int i)
  | str x => exact .base (.str x)
  | tup q r =>
    rcases q with (q | ⟨o, q⟩) | ⟨o, its, n, q, c, _⟩
    · exact .base (.tup q)
    · exact .fTuple q
    · exact .kTuple q c
  | lst q r =>
    rcases q with ⟨o, q⟩ | ⟨o, its, n, q, c, _⟩
    · exact .base (.frz q)
    · exact .kList q c
theorem RT.ty {K : PySem.W.Frag} {H : Hp} {v : V} {t : T} {f : Fp} (h : RT K H v t f) : TyX K H v (.type t.ty) := by
  cases h with
  | val q _ => exact q.ty
  | lst e _ _ => exact .base (.lst e)
  | ll e _ _ => exact .base (.lst e)
  | dK e _ _ => exact .base (.dK e)
  | dT e _ _ => exact .base (.dT e)
/-- isinstance(e, ty) -/
def isTy (ty : String) (o : String) : Bool := if ty = "int" then o == "int" || o == "bool" else o == ty
def eIs (ty : String) (A : S → R G) : S → R T := fun σ => (A σ).bind fun x σ1 => match rdG x σ1 with
  | some t => .ok (.val (.bl (isTy ty t.ty))) σ1
  | none => .stuck
def tyOk (ty : String) : Bool := (["NoneType", "bool", "int", "str", "tuple", "list", "dict"]).all fun o => decide (kitB o ty = some (isTy ty o))
theorem tyOk_at {ty : String} (h : tyOk ty = true) (t : T) : kitB t.ty ty = some (isTy ty t.ty) := by
  unfold tyOk at h
  rw [List.all_eq_true] at h
  refine of_decide_eq_true (h _ ?_)
  cases t with
  | val d => cases d <;> simp [T.ty, D.ty]
  | _ => simp [T.ty]
theorem d_is {ϖ : Pend} {W : WX} {A : S → R G} {ty : String} {x : Str} {p1 p2 : Pos} (hA : DG X ϖ W e A) (hk : tyOk ty = true) (hb : bootBuiltins x = some (.type ty)) (gx : Gl X x) (mx : X.mg x = none) (hg : Gl X "isinstance") (hmg : X.mg "isinstance" = none)
    (hn : x ≠ "__name__" := by decide) (hdb : (x == ("__debug__" : Str)) = false := by decide) (hs : starEach [e, .Name x p1] X.env = (false, eval e X.env) :: starEach [.Name x p1] X.env := by rfl) (hs1 : starEach [.Name x p1] X.env = (false, eval (.Name x p1) X.env) :: starEach [] X.env := by rfl) (hpl : (backTo pos (starEach [.Name x p1] X.env)).any (·.1) = false := by rfl) :
    DE X ϖ W (.Call (.Name "isinstance" p2) [e, .Name x p1] [] pos) (eIs ty A) := by
  refine PE.imp (pe_callB (x := "isinstance") (id := "isinstance") call_isi hg hmg rfl (L2.pa_cons hA (L2.pa_cons (pe_bltn (v := .ty ty) gx mx hb rfl hn hdb) L2.pa_nil hs1) hs) (by decide) (by decide) hs hpl) fun σv H Q q => ?_
  refine (ev0 (Rl := RO X.K σv) (Rm := RV X.K) (F := A) q).mono fun v H1 ⟨x, g, σ, h1, r1, s1, n1, p1⟩ => ?_
  split at p1
  · rename_i t e1
    obtain ⟨f1, q1⟩ := RO.rd r1 s1 e1
    exact ⟨v, .ty ty, .type t.ty, .type ty, isTy ty t.ty, rfl, .ty ty, q1.ty, kit_ty (tyOk_at hk t), p1.fin0 (.bl _) s1 (n1.le (z_le _ _)) (z_le _ _)⟩
  · exact p1.elim
theorem tyOk_int : tyOk "int" = true := by decide +kernel
theorem tyOk_bool : tyOk "bool" = true := by decide +kernel
theorem tyOk_str : tyOk "str" = true := by decide +kernel
theorem tyOk_tuple : tyOk "tuple" = true := by decide +kernel
theorem tyOk_list : tyOk "list" = true := by decide +kernel
end
end DL

set_option Elab.async false
set_option linter.all false
set_option maxRecDepth 100000
set_option maxHeartbeats 4200000
/-! DLM: comprehensions. -/
namespace DL
open PySem PySem.Spec PyProof.Rows L2

/-- nothing is raised -/
def R.nox {α : Type} (r : R α) : R α := match r with
  | .exc _ _ _ => .stuck
  | r => r
section
variable {α β γ δ : Type} {K : PySem.W.Frag} {ϖ : Pend} {W W' : WX} {Rl : Hp → β → α → Fp → Prop} {Rm : Hp → δ → γ → Fp → Prop} {σv σw : L2.St} {H H' H0 : Hp} {f g h f0 : Fp}
theorem evN {F : S → R α} {k : α → S → R γ} {σ : S} {P : Hp → Prop} {Q : δ → Hp → Prop} (hP : ∀ H', Stb H H' → (∀ b o, g b ≠ 0 → H b = some o → H' b = some o) → P H') (own : OwnFp H g) (hs : RS K ϖ H σw σ h) (nd : Nd fun b => g b + h b)
    (q : Post K ϖ W Rm σv ((F σ).nox.bind k) H (fun b => g b + h b) Q) :
    tX K ϖ W' Rl F σw H (fun u H2 => ∃ t2 g2 σ2 h2, Rl H2 u t2 g2 ∧ P H2 ∧ Stb H H2 ∧ OwnFp H2 g ∧ RS K ϖ H2 σw σ2 h2 ∧ Nd (fun b => g b + (g2 b + h2 b)) ∧ Post K ϖ W Rm σv (k t2 σ2) H2 (fun b => g b + (g2 b + h2 b)) Q) := by
  refine ⟨σ, h, hs, nd.le fun b => by show h b ≤ g b + h b; omega, ?_⟩
  cases e : F σ with
  | stuck => rw [e] at q; exact q
  | exc C xs σ' => rw [e] at q; exact q.elim
  | ok t2 σ2 =>
    rw [e] at q
    intro v H2 g2 h2 a b n w
    have w' := w.beside (g := g)
    have kp : ∀ b o, g b ≠ 0 → H b = some o → H2 b = some o := fun b o hb e => w.keep b o e (by have := nd b; have : g b + h b ≤ 1 := this; omega)
    refine ⟨t2, g2, σ2, h2, a, hP H2 w.stb kp, w.stb, fun b hb => ?_, b, w.apart own nd n, Post.fr (r := k t2 σ2) q w'⟩
    obtain ⟨o, eo, wo⟩ := own b hb
    exact ⟨o, kp b o hb eo, wo⟩
end
def wipeS (σ : S) : List Nat → S
  | [] => σ
  | v :: vs => wipeS (σ.set v none) vs
/-- the data that stood in the slots vs, put back -/
def keepS (σ1 : S) : List Nat → S → S
  | [], σ => σ
  | v :: vs, σ => keepS σ1 vs (match σ1[v]? with
    | some (some (.val d)) => σ.set v (some (.val d))
    | _ => σ)
section
variable {K : PySem.W.Frag} {ϖ : Pend} {H H1 : Hp} {σv : L2.St}
theorem RS.wipeIn : ∀ (vs : List Nat) {σ : S} {f : Fp}, RS K ϖ H σv σ f → ∃ h, RS K ϖ H (wipe σv vs) (wipeS σ vs) h ∧ ∀ b, h b ≤ f b := by
  intro vs
  induction vs with
  | nil => exact fun r => ⟨_, r, fun _ => Nat.le_refl _⟩
  | cons v vs ih =>
    intro σ f r
    obtain ⟨h, r1, z⟩ := r.drop v
    obtain ⟨h2, r2, z2⟩ := ih r1
    have e : ∀ (vs : List Nat) (σ : S), wipeS (σ.set v none) vs = (wipeS σ vs).set v none := by
      intro vs
      induction vs with
      | nil => exact fun _ => rfl
      | cons u vs ih =>
        intro σ
        show wipeS ((σ.set v none).set u none) vs = (wipeS (σ.set u none) vs).set v none
        rw [← ih]
        by_cases hu : v = u
        · subst hu; rfl
        · rw [List.set_comm _ _ hu]
    refine ⟨h2, ?_, fun b => Nat.le_trans (z2 b) (z b)⟩
    show RS K ϖ H ((wipe σv vs).set v none) (wipeS (σ.set v none) vs) h2
    rw [e] at r2 ⊢
    exact r2.hole v
theorem RS.wipeOut : ∀ (vs : List Nat) {σ : S} {f : Fp}, RS K ϖ H (wipe σv vs) σ f → ∃ h, RS K ϖ H σv (wipeS σ vs) h ∧ ∀ b, h b ≤ f b := by
  intro vs
  induction vs with
  | nil => exact fun r => ⟨_, r, fun _ => Nat.le_refl _⟩
  | cons v vs ih =>
    intro σ f r
    have r : RS K ϖ H ((wipe σv vs).set v none) σ f := r
    obtain ⟨h, r1, z⟩ := r.drop v
    have r2 := r1.hole (o := (wipe σv vs)[v]?.join) v
    have e : ((wipe σv vs).set v none).set v (wipe σv vs)[v]?.join = wipe σv vs := by
      rw [List.set_set]
      cases h : (wipe σv vs)[v]? with
      | none => exact List.set_eq_of_length_le (List.getElem?_eq_none_iff.mp h)
      | some o =>
        obtain ⟨h1, h2⟩ := List.getElem?_eq_some_iff.mp h
        show (wipe σv vs).set v o = _
        rw [← h2, List.set_getElem_self]
    rw [e] at r2
    obtain ⟨h3, r3, z3⟩ := ih r2
    exact ⟨h3, r3, fun b => Nat.le_trans (z3 b) (z b)⟩
theorem RS.keepIn {σ1 : S} {f1 : Fp} (r1 : RS K ϖ H1 σv σ1 f1) (s : Stb H1 H) : ∀ (vs : List Nat) {σ : S} {f : Fp}, RS K ϖ H σv σ f → ∃ h, RS K ϖ H σv (keepS σ1 vs σ) h ∧ ∀ b, h b ≤ f b := by
  intro vs
  induction vs with
  | nil => exact fun r => ⟨_, r, fun _ => Nat.le_refl _⟩
  | cons v vs ih =>
    intro σ f r
    unfold keepS
    split
    · rename_i d e
      obtain ⟨x, _, _, ev, q, _, _⟩ := r1.out e
      obtain ⟨h, r2, z⟩ := r.drop v
      by_cases hi : v < σ.length
      · obtain ⟨h3, r3, z3⟩ := ih (r2.putSame (t := .val d) (g := fun _ => 0) hi ev (.vl (q.un.stb s)))
        exact ⟨h3, r3, fun b => by have := z3 b; have := z b; simp only [Nat.zero_add] at *; omega⟩
      · rw [List.set_eq_of_length_le (by omega)]
        exact ih r
    · exact ih r
theorem wipe_at {σ : L2.St} : ∀ (vs : List Nat) (i : Nat), (wipe σ vs)[i]? = if i ∈ vs then (if i < σ.length then some none else none) else σ[i]?
  | [], i => by simp [wipe]
  | v :: vs, i => by
    unfold wipe
    by_cases hi : i = v
    · subst hi
      by_cases hl : i < σ.length
      · rw [List.getElem?_set_self (by rw [wipe_length]; exact hl)]; simp [hl]
      · rw [List.getElem?_eq_none (by rw [List.length_set, wipe_length]; omega)]; simp [hl]
    · rw [List.getElem?_set_ne (Ne.symm hi), wipe_at vs i]
      simp [hi]
theorem wipe_same {σ σ2 : L2.St} {vs : List Nat} (hl : σ2.length = σ.length) (k : ∀ i, i ∉ vs → σ2[i]? = σ[i]?) : wipe σ2 vs = wipe σ vs := by
  refine List.ext_getElem? fun i => ?_
  rw [wipe_at, wipe_at]
  by_cases hi : i ∈ vs
  · rw [if_pos hi, if_pos hi, hl]
  · rw [if_neg hi, if_neg hi, k i hi]
theorem wipe_twice (σ : L2.St) (vs : List Nat) : wipe (wipe σ vs) vs = wipe σ vs := wipe_same (wipe_length _ _) fun i hi => by rw [wipe_at, if_neg hi]
end
/-! ### tests of a comprehension -/
def DTs (X : Cx) (ϖ : Pend) (W : WX) (ifs : List Expr) (B : S → R Bool) : Prop := PTs X ifs (tT X.K ϖ W B)
def bYes : S → R Bool := fun σ => .ok true σ
theorem _root_.L2.PTs.imp {X : Cx} {e : List Expr} {t t' : TT} (h : PTs X e t) (i : ∀ σ H Q, t' σ H Q → t σ H Q) : PTs X e t' := ⟨fun pins s σ H Q I w => h.run pins s σ H Q I (i _ _ _ w)⟩
theorem ts_nil {X : Cx} {ϖ : Pend} {W : WX} : DTs X ϖ W [] bYes := pts_nil.imp fun σv H Q ⟨σ, h, r, n, p⟩ => by
  have p : Post X.K ϖ W RB σv (.ok true σ) H h Q := p
  exact p.finB r n fun _ => Nat.le_refl _
theorem ts_one {X : Cx} {ϖ : Pend} {W : WX} {c : Expr} {B : S → R Bool} (h : DT X ϖ W c B) : DTs X ϖ W [c] B := pts_one h
/-- one turn behind another -/
def lcLoop (vs : List Nat) (G : D → S → Option S) (B : S → R Bool) (E : S → R T) : List D → List D → S → R (List D)
  | [], acc, σ => .ok acc σ
  | d :: ds, acc, σ => match G d σ with
    | none => .stuck
    | some σ1 => if σ1.length = σ.length then (B σ1).nox.bind fun b σ2 => if b = true then (eV E σ2).nox.bind fun t σ3 => (match t with
        | .val x => if acc.length < sizeLine then lcLoop vs G B E ds (acc ++ [x]) (wipeS σ3 vs) else .stuck
        | _ => .stuck) else lcLoop vs G B E ds acc (wipeS σ2 vs) else .stuck
def eLC (vs : List Nat) (F : S → R (List D)) (G : D → S → Option S) (B : S → R Bool) (E : S → R T) : S → R T := fun σ => (F σ).bind fun ds σ1 => (lcLoop vs G B E ds [] (wipeS σ1 vs)).nox.bind fun acc σ2 => .ok (.lst acc) (keepS σ1 vs (wipeS σ2 vs))
abbrev kpV (vs : List Nat) : Nat → Bool := fun i => !(vs.contains i)
section
variable {X : Cx} {ϖ : Pend} {W : WX}
theorem lc_of {vs : List Nat} {F : S → R (List D)} {G : D → S → Option S} {B : S → R Bool} {E : S → R T} {σv : L2.St} {H : Hp} {Q : VK} (q : tE X.K ϖ W (eLC vs F G B E) σv H Q) :
    tLc (tI X.K ϖ W F) (tTg X.K ϖ (kpV vs) G) (tT X.K ϖ (fun _ _ _ _ => False) B) (tE X.K ϖ (fun _ _ _ _ => False) (eV E)) vs σv H Q := by
  refine (ev0 (Rl := fun H' J ds g => (∃ Gd, WalkD X.K J ds Gd ∧ Gd H') ∧ ∀ b, g b = 0) (Rm := RV X.K) (F := F) q).mono fun J H1 ⟨ds, g, σ, h, ⟨⟨Gd, wd, gd⟩, z⟩, s, n, p⟩ => ?_
  have eg : (fun b => g b + h b) = h := by funext b; rw [z b]; omega
  rw [eg] at n p
  intro D hD
  have w : Walk J ds.length Gd (fun i H x H' => ∃ d, ds[i]? = some d ∧ RD X.K H' x d ∧ Nw H H' (fun _ => 0)) := ⟨wd.goes, wd.stops, wd.yields⟩
  let Pv : Nat → Hp → Prop := fun i H2 => ∃ acc us σ2 h2, H2 D = some (.lst us) ∧ RDs X.K H2 us acc ∧ RS X.K ϖ H2 (wipe σv vs) σ2 h2 ∧ Nd (fun b => one D b + h2 b) ∧ Gd H2 ∧ Stb H1 H2 ∧
    Post X.K ϖ W (RV X.K) σv ((lcLoop vs G B E (ds.drop i) acc σ2).nox.bind fun acc σ2 => .ok (.lst acc) (keepS σ vs (wipeS σ2 vs))) H2 (fun b => one D b + h2 b) Q
  have st0 : Stb H1 (upd H1 D (.lst [])) := .fresh hD
  refine lc_it w Pv ?_ (fun i H2 _ ⟨_, _, _, _, _, _, _, _, gd, _⟩ => gd) ?_ ?_
  · obtain ⟨h0, r0, z0⟩ := s.wipeIn vs
    have nw : Nw H1 (upd H1 D (.lst [])) (one D) := Nw.laid hD
    have r1 := nw.rs r0
    exact ⟨[], [], _, h0, upd_same, .nil, r1, nw.ndw r0.own (n.le z0), wd.stays _ _ gd st0, st0, Post.fr p (nw.fr z0)⟩
  · rintro i x H2 H3 hi ⟨acc, us, σ2, h2, eD, ra, r2, n2, gd2, st2, p2⟩ ⟨d, e1, rd, nw⟩
    have e2 : ds.drop i = d :: ds.drop (i + 1) := by
      obtain ⟨h1, h2⟩ := List.getElem?_eq_some_iff.mp e1
      rw [(List.drop_eq_getElem_cons h1), h2]
    rw [e2] at p2
    unfold lcLoop at p2
    have own2 : OwnFp H2 (one D) := fun b hb => ⟨.lst us, by rw [of_one hb]; exact eD, rfl⟩
    refine ⟨d, σ2, h2, rd, nw.rs r2, n2.le fun b => by show h2 b ≤ one D b + h2 b; omega, ?_⟩
    cases eg : G d σ2 with
    | none => rw [eg] at p2; exact p2.elim
    | some σ3 =>
      rw [eg] at p2
      dsimp only at p2 ⊢
      by_cases hl : σ3.length = σ2.length
      · rw [if_pos hl] at p2
        intro σx H4 h4 r4 n4 w4 k4
        have w24 : Fr H2 h2 H4 h4 := (((nw.fr (h := h2) (f := h2) fun _ => Nat.le_refl _).le fun b => by show h2 b ≤ 0 + h2 b; omega)).trans w4
        have kD : H4 D = some (.lst us) := w24.keep _ _ eD (by have : one D D + h2 D ≤ 1 := n2 D; rw [one_same] at this; omega)
        have gd4 : Gd H4 := wd.stays _ _ gd2 w24.stb
        have ew : wipe σx vs = wipe σv vs := by
          rw [← wipe_twice σv vs]
          refine wipe_same ?_ fun i hi => k4 i (by show (!(vs.contains i)) = true; simpa using hi)
          rw [r4.length, r2.length]; exact hl
        have own4 : OwnFp H4 (one D) := fun b hb => ⟨.lst us, by rw [of_one hb]; exact kD, rfl⟩
        have n4' : Nd fun b => one D b + h4 b := w24.apart own2 n2 n4
        refine ⟨ew, ?_⟩
        have w24b := w24.beside (g := one D)
        have p4 := Post.fr p2 w24b
        have assoc : ∀ {α β γ : Type} (r : R α) (k : α → S → R β) (k' : β → S → R γ), ((r.bind k).nox.bind k') = r.nox.bind fun a σ => (k a σ).nox.bind k' := fun r k k' => by cases r <;> rfl
        have noxx : ∀ {α : Type} (r : R α), r.nox.nox = r.nox := fun r => by cases r <;> rfl
        rw [assoc, noxx] at p4
        refine (evN (W' := fun _ _ _ _ => False) (Rl := RB) (g := one D) (P := fun H => H D = some (.lst us) ∧ RDs X.K H us acc) (fun H' st kp => ⟨kp D _ (by rw [one_same]; omega) kD, (ra.stb w24.stb).stb st⟩) own4 r4 n4' p4).mono fun b H5 ⟨c, g5, σ5, h5, ⟨ec, z5⟩, ⟨kD5, ra5⟩, st5, own5, r5, n5, p5⟩ => ?_
        subst ec
        have eg5 : (fun b => one D b + (g5 b + h5 b)) = fun b => one D b + h5 b := by funext b; rw [z5 b]; omega
        rw [eg5] at n5 p5
        have gd5 : Gd H5 := wd.stays _ _ gd4 st5
        have st05 : Stb H1 H5 := (st2.trans w24.stb).trans st5
        have fin : ∀ {H7 : Hp} {us' : List V} {acc' : List DL.D} {σ7 : S} {h7 : Fp}, H7 D = some (.lst us') → RDs X.K H7 us' acc' → RS X.K ϖ H7 σx σ7 h7 → Nd (fun b => one D b + h7 b) → Stb H5 H7 → Post X.K ϖ W (RV X.K) σv ((lcLoop vs G B E (ds.drop (i + 1)) acc' (wipeS σ7 vs)).nox.bind fun acc σ2 => .ok (.lst acc) (keepS σ vs (wipeS σ2 vs))) H7 (fun b => one D b + h7 b) Q → Pv (i + 1) H7 := fun {H7 us' acc' σ7 h7} a b c d e f => by
          obtain ⟨h8, r8, z8⟩ := c.wipeIn vs
          rw [ew] at r8
          have le : ∀ b, one D b + h8 b ≤ one D b + h7 b := fun b => by have := z8 b; omega
          exact ⟨acc', us', _, h8, a, b, r8, d.le le, wd.stays _ _ gd5 e, st05.trans e, Post.fr f ((Fr.refl _ _).le le)⟩
        cases b with
        | false =>
          have p5 : Post X.K ϖ W (RV X.K) σv ((lcLoop vs G B E (ds.drop (i + 1)) acc (wipeS σ5 vs)).nox.bind fun acc σ2 => .ok (.lst acc) (keepS σ vs (wipeS σ2 vs))) H5 (fun b => one D b + h5 b) Q := p5
          exact fin kD5 ra5 r5 n5 (.refl _) p5
        | true =>
          rw [if_pos rfl] at p5 ⊢
          rw [assoc, noxx] at p5
          refine (evN (W' := fun _ _ _ _ => False) (Rl := RV X.K) (g := one D) (P := fun H => H D = some (.lst us) ∧ RDs X.K H us acc) (fun H' st kp => ⟨kp D _ (by rw [one_same]; omega) kD5, ra5.stb st⟩) own5 r5 n5 p5).mono fun y H6 ⟨t, g6, σ6, h6, ry, ⟨kD6, ra6⟩, st6, own6, r6, n6, p6⟩ => ?_
          have ry : RT X.K H6 y t g6 := ry
          cases t with
          | val x =>
            dsimp only at p6
            by_cases hz : acc.length < sizeLine
            · rw [if_pos hz] at p6
              refine ⟨us, kD6, by rw [ra6.length]; exact hz, ?_⟩
              have ez : (fun b => one D b + (g6 b + h6 b)) = fun b => one D b + h6 b := by funext b; rw [ry.z b]; omega
              rw [ez] at n6 p6
              have hd : one D D + h6 D ≤ 1 := n6 D
              rw [one_same] at hd
              have wr : Fr H6 (fun b => one D b + h6 b) (upd H6 D (.lst (us ++ [y]))) (fun b => one D b + h6 b) := Fr.write kD6 rfl (by show one D D + h6 D ≠ 0; rw [one_same]; omega)
              exact fin upd_same ((ra6.stb wr.stb).append (.cons (ry.un.stb wr.stb) .nil)) (r6.keep wr.stb fun b o hb e => by rw [upd_ne (fun z => by rw [z] at hb; omega)]; exact e) n6 (st6.trans wr.stb) (Post.fr p6 wr)
            · rw [if_neg hz] at p6; exact p6.elim
          | _ => exact p6.elim
      · rw [if_neg hl] at p2; exact p2.elim
  · rintro H2 ⟨acc, us, σ2, h2, eD, ra, r2, n2, gd2, st2, p2⟩
    rw [List.drop_length] at p2
    obtain ⟨h3, r3, z3⟩ := r2.wipeOut vs
    obtain ⟨h4, r4, z4⟩ := RS.keepIn s st2 vs r3
    have p2 : Post X.K ϖ W (RV X.K) σv (.ok (.lst acc) (keepS σ vs (wipeS σ2 vs))) H2 (fun b => one D b + h2 b) Q := p2
    have le : ∀ b, one D b + h4 b ≤ one D b + h2 b := fun b => by have := z3 b; have := z4 b; omega
    exact p2 (.ref D) H2 (one D) h4 (.lst eD ra fun _ => rfl) r4 (n2.le le) ((Fr.refl _ _).le le)
theorem d_lc {vs : List Nat} {F : S → R (List D)} {G : D → S → Option S} {B : S → R Bool} {E : S → R T} {elt tg iter : Expr} {ifs : List Expr} {scope : Scope} {own : List (Str × Nat)} {pos : Pos} (hc : X.calm = true) (hN : X.N.Nodup) (hi : DI X ϖ W tg iter F) (ok : BlkOk X.N X.env.scope scope own) (hv : own.map (·.2) = vs)
    (hg : ∀ (s : Shared) (H : Hp) (C : Addr) (cl : List (Str × Addr)) (fp : List Addr), DTg (X.blk s H scope (compEnvC scope cl C X.env) fp) ϖ (kpV vs) tg G) (ht : ∀ (s : Shared) (H : Hp) (C : Addr) (cl : List (Str × Addr)) (fp : List Addr), DTs (X.blk s H scope (compEnvC scope cl C X.env) fp) ϖ (fun _ _ _ _ => False) ifs B)
    (he : ∀ (s : Shared) (H : Hp) (C : Addr) (cl : List (Str × Addr)) (fp : List Addr), DE (X.blk s H scope (compEnvC scope cl C X.env) fp) ϖ (fun _ _ _ _ => False) elt E) (hs : ∀ x, foldedSetIterable iter X.env x = pure x := by intro _; rfl) :
    DE X ϖ W (.ListComp elt [⟨tg, iter, ifs, 0⟩] scope pos) (eLC vs F G B E) := by
  subst hv
  exact PE.imp (pe_lc (wi := tI X.K ϖ W F) (g := tTg X.K ϖ (kpV (List.map (fun x : Str × Nat => x.2) own)) G) (tt := tT X.K ϖ (fun _ _ _ _ => False) B) (te := tE X.K ϖ (fun _ _ _ _ => False) (eV E)) hc hN hi ok hg ht (fun s H C cl fp => d_V (he s H C cl fp)) hs) fun σv H Q q => lc_of q
/-- x = [..] on one line -/
theorem ds_setLc {kp : Nat → Bool} {vs : List Nat} {F : S → R (List D)} {G : D → S → Option S} {B : S → R Bool} {E : S → R T} {i : Nat} {y : Str} {py : Pos} {elt tg iter : Expr} {ifs : List Expr} {scope : Scope} {own : List (Str × Nat)} {pos spos : Pos} (hc : X.calm = true) (hN : X.N.Nodup) (hy : X.N[i]? = some y) (hyl : X.env.scope.names.lookup y = some .local)
    (hk : X.env.scope.kind = .function) (hl : (py.line == pos.line) = true) (ha : (scope.names.any fun (n, k) => n == y && (k == .local || k == .cell)) = false) (hi : DI X ϖ W tg iter F) (ok : BlkOk X.N X.env.scope scope own) (hv : own.map (·.2) = vs)
    (hg : ∀ (s : Shared) (H : Hp) (C : Addr) (cl : List (Str × Addr)) (fp : List Addr), DTg (X.blk s H scope (compEnvC scope cl C X.env) fp) ϖ (kpV vs) tg G) (ht : ∀ (s : Shared) (H : Hp) (C : Addr) (cl : List (Str × Addr)) (fp : List Addr), DTs (X.blk s H scope (compEnvC scope cl C X.env) fp) ϖ (fun _ _ _ _ => False) ifs B)
    (he : ∀ (s : Shared) (H : Hp) (C : Addr) (cl : List (Str × Addr)) (fp : List Addr), DE (X.blk s H scope (compEnvC scope cl C X.env) fp) ϖ (fun _ _ _ _ => False) elt E) (hkp : kp i = false := by rfl) (hs : ∀ x, foldedSetIterable iter X.env x = pure x := by intro _; rfl) :
    DS X ϖ W kp (.Assign [.Name y py] (.ListComp elt [⟨tg, iter, ifs, 0⟩] scope pos) spos) (sAsg i (eLC vs F G B E)) := by
  subst hv
  refine PS.imp (ps_setLc (wi := tI X.K ϖ W F) (g := tTg X.K ϖ (kpV (List.map (fun x : Str × Nat => x.2) own)) G) (tt := tT X.K ϖ (fun _ _ _ _ => False) B) (te := tE X.K ϖ (fun _ _ _ _ => False) (eV E)) hc hN hy hyl (sw_true hk hyl hl ha) hi ok hg ht (fun s H C cl fp => d_V (he s H C cl fp)) hs) fun Dn σv H q => ?_
  exact lc_of (asg_end hkp q)
end
end DL

set_option Elab.async false
set_option linter.all false
set_option maxRecDepth 100000
set_option maxHeartbeats 4200000
/-! DLN: append, stores into lists, slices, built-in calls. -/
namespace DL
open PySem PySem.Spec PyProof.Rows L2

theorem RTs.nil' {K : PySem.W.Frag} {H : Hp} {vs : List V} {f : Fp} (h : RTs K H vs [] f) : vs = [] := by cases h; rfl
theorem RTs.one {K : PySem.W.Frag} {H : Hp} {vs : List V} {t : T} {f : Fp} (h : RTs K H vs [t] f) : ∃ v g, vs = [v] ∧ RT K H v t g := by
  cases h with
  | cons q r _ => cases r; exact ⟨_, _, rfl, q⟩
theorem RTs.two {K : PySem.W.Frag} {H : Hp} {vs : List V} {t u : T} {f : Fp} (h : RTs K H vs [t, u] f) : ∃ v w g g', vs = [v, w] ∧ RT K H v t g ∧ RT K H w u g' := by
  cases h with
  | cons q r _ => obtain ⟨w, g, rfl, q2⟩ := r.one; exact ⟨_, _, _, _, rfl, q, q2⟩
theorem sqL_own {K : PySem.W.Frag} {H : Hp} {a : Addr} {vs : List V} (h : H a = some (.lst vs)) : SqL K H a vs := .inl (.inl h)
theorem RT.own1 {K : PySem.W.Frag} {H : Hp} {v : V} {xs : List D} {g : Fp} (h : RT K H v (.lst xs) g) : ∃ a vs, v = .ref a ∧ H a = some (.lst vs) ∧ RDs K H vs xs ∧ ∀ b, g b = one a b := by
  cases h with
  | lst e q z => exact ⟨_, _, rfl, e, q, z⟩
/-- the list in a slot is written -/
theorem RS.wr {K : PySem.W.Frag} {ϖ : Pend} {H : Hp} {σv : L2.St} {σ : S} {h : Fp} {i : Nat} {xs : List D} (hs : RS K ϖ H σv σ h) (nh : Nd h) (e : look σ i = some (.lst xs)) :
    ∃ a vs, σv[i]? = some (some (.ref a)) ∧ H a = some (.lst vs) ∧ RDs K H vs xs ∧ h a ≠ 0 ∧ ∀ ws ys, RDs K H ws ys → RS K ϖ (upd H a (.lst ws)) σv (σ.set i (some (.lst ys))) h ∧ Fr H h (upd H a (.lst ws)) h := by
  obtain ⟨v, g, h', ev, q, r, z⟩ := hs.out (look_some e)
  obtain ⟨a, vs, rfl, ea, rd, zz⟩ := q.own1
  have hi : i < σ.length := (List.getElem?_eq_some_iff.mp (look_some e)).1
  have ha : h a ≠ 0 := by rw [z a, zz a, one_same]; omega
  have hz : h' a = 0 := by have := nh a; rw [z a, zz a, one_same] at this; omega
  refine ⟨a, vs, ev, ea, rd, ha, fun ws ys rd' => ?_⟩
  have wr : Fr H h (upd H a (.lst ws)) h := Fr.write ea rfl ha
  have r2 : RS K ϖ (upd H a (.lst ws)) σv (σ.set i none) h' := r.keep wr.stb fun b o hb e => by rw [upd_ne (fun z => hb (by rw [z]; exact hz))]; exact e
  have r3 := r2.putSame (t := .lst ys) (g := one a) hi ev (.lst upd_same (rd'.stb wr.stb) fun _ => rfl)
  have eqh : (fun b => one a b + h' b) = h := by funext b; rw [z b, zz b]
  rw [eqh] at r3
  exact ⟨r3, wr⟩
section
variable {X : Cx} {ϖ : Pend} {W : WX} {kp : Nat → Bool} {e a b c : Expr} {es : List Expr} {F : S → R T} {A B : S → R G} {As : S → R (List G)} {pos : Pos}
/-- what a list's slot holds, with one more -/
def appT (t : T) (d : D) : Option T := match t with
  | .lst xs => if xs.length < sizeLine then some (.lst (xs ++ [d])) else none
  | _ => none
/-- x.append(e), x by its slot -/
def eApp (i : Nat) (F : S → R T) : S → R T := fun σ => match look σ i with
  | some (.lst _) => (eV F σ).bind fun t σ1 => (match t, look σ1 i with
    | .val d, some u => (match appT u d with
      | some u' => .ok (.val .non) (σ1.set i (some u'))
      | none => .stuck)
    | _, _ => .stuck)
  | _ => .stuck
theorem d_app {o e : Expr} {i : Nat} {apos cpos : Pos} (ho : PE X o (tVar i)) (he : DE X ϖ W e F) (hbase : attributeBase o "append" X.env (eval o X.env) = eval o X.env := by rfl)
    (hfew : ((backTo cpos (starEach [e] X.env)).all (fun x => !x.1) && (backToKw cpos (keywordEach [] X.env)).all (fun x => x.1.isSome) && decide ([e].length + ([] : List Keyword).length + (if ([] : List Keyword).isEmpty then 0 else 1) < 30)) = true := by rfl)
    (hline : (apos.endLine == cpos.line) = true := by rfl) (hs : starEach [e] X.env = (false, eval e X.env) :: starEach [] X.env := by rfl) (hplain : (backTo cpos (starEach [] X.env)).any (·.1) = false := by rfl) : DE X ϖ W (.Call (.Attribute o "append" apos) [e] [] cpos) (eApp i F) := by
  refine PE.imp (pe_bm PySem.F.plainAttrs_list PySem.F.slot_list_append PySem.F.type_list_append mt_append ho (L2.pa_cons (d_V he) L2.pa_nil hs) hbase hfew hline hs hplain) fun σv H Q ⟨σ, f, hs, n, p⟩ => ?_
  unfold eApp at p
  split at p
  · rename_i xs el
    obtain ⟨a, vs, ev, ea, rd, _, _⟩ := hs.wr n el
    refine ⟨.ref a, ev, .inl ⟨rfl, vs, sqL_own ea⟩, ?_⟩
    refine (ev0 (Rl := RV X.K) (Rm := RV X.K) (F := eV F) ⟨σ, f, hs, n, p⟩).mono fun y H1 ⟨t, g1, σ1, h1, ry0, r1, n1, p1⟩ => ?_
    have ry : RT X.K H1 y t g1 := ry0
    have nh : Nd h1 := n1.le (z_le _ _)
    split at p1
    · rename_i d u el1
      unfold appT at p1
      split at p1
      · rename_i u' eu
        split at eu
        · rename_i ys
          split at eu
          · rename_i hl
            cases eu
            obtain ⟨a', ws, ev', ea', rd', _, wr⟩ := r1.wr nh el1
            rw [ev] at ev'; cases ev'
            obtain ⟨r3, w3⟩ := wr (ws ++ [y]) (ys ++ [d]) (rd'.append (.cons ry.un .nil))
            refine ⟨a, ws, y, rfl, rfl, ea', by rw [rd'.length]; exact hl, p1 .non _ (fun _ => 0) h1 (.vl .non) r3 (nh.le fun b => by show 0 + h1 b ≤ h1 b; omega) ?_⟩
            exact (w3.ge (g := fun b => g1 b + h1 b) (z_le _ _)).le fun b => by show 0 + h1 b ≤ h1 b; omega
          · cases eu
        · cases eu
      · exact p1.elim
    · exact p1.elim
  · exact p.elim
/-! ### x[k] = e -/
def setT (t : T) (k : Int) (d : D) : Option T := match t with
  | .lst xs => (ixN xs.length k).map fun j => .lst (xs.set j d)
  | _ => none
def sSub (i : Nat) (J F : S → R T) : S → O := fun σ => (eV F σ).then fun t σ1 => match t, look σ1 i with
  | .val d, some (.lst _) => (J σ1).then fun k σ2 => (match k, look σ2 i with
    | .val (.int k), some u => (match setT u k d with
      | some u' => .nx (σ2.set i (some u'))
      | none => .stuck)
    | _, _ => .stuck)
  | _, _ => .stuck
/-- as evP, ahead of a statement's end -/
theorem evT {K : PySem.W.Frag} {α β : Type} {Rl : Hp → β → α → Fp → Prop} {F : S → R α} {k : α → S → O} {σ : S} {σv : L2.St} {H : Hp} {g h : Fp} {Dn : Ends} {P : Hp → Prop} (hP : ∀ H', Stb H H' → (∀ b o, g b ≠ 0 → H b = some o → H' b = some o) → P H') (own : OwnFp H g) (hs : RS K ϖ H σv σ h) (nd : Nd fun b => g b + h b)
    (q : SPost K ϖ W kp ((F σ).then k) Dn σv H (fun b => g b + h b)) :
    tX K ϖ W Rl F σv H (fun u H2 => ∃ t2 g2 σ2 h2, Rl H2 u t2 g2 ∧ P H2 ∧ RS K ϖ H2 σv σ2 h2 ∧ Nd (fun b => g b + (g2 b + h2 b)) ∧ SPost K ϖ W kp (k t2 σ2) Dn σv H2 (fun b => g b + (g2 b + h2 b))) := by
  refine ⟨σ, h, hs, nd.le fun b => by show h b ≤ g b + h b; omega, ?_⟩
  cases e : F σ with
  | stuck => rw [e] at q; exact q
  | exc C xs σ' =>
    rw [e] at q
    exact fun d vs' H' h' a b c n w => q d vs' σv H' h' a b c n ((w.beside (g := g)).le fun b => by show h' b ≤ g b + h' b; omega) (.refl _ _)
  | ok t2 σ2 =>
    rw [e] at q
    intro v H2 g2 h2 a b n w
    have w' := w.beside (g := g)
    have kp : ∀ b o, g b ≠ 0 → H b = some o → H2 b = some o := fun b o hb e => w.keep b o e (by have := nd b; have : g b + h b ≤ 1 := this; omega)
    exact ⟨t2, g2, σ2, h2, a, hP H2 w.stb kp, b, w.apart own nd n, SPost.fr q w' (.refl _ _)⟩
theorem ds_sub {o j : Expr} {i : Nat} {J : S → R T} {tpos : Pos} (ho : PE X o (tVar i)) (hj : DE X ϖ W j J) (he : DE X ϖ W e F)
    (ha : ∀ v, assign (.Subscript o j tpos) X.env v = (do
      let a1 ← holding [v] (eval o X.env)
      let a2 ← holding [v, a1] (eval j X.env)
      standAt tpos
      holding [v, a1, a2] (setItem a1 a2 v)
      release [v, a1, a2] []) := by intro _; rfl)
    (hs : swapsWithSole [.Subscript o j tpos] e pos.line X.env = pure false := by rfl) (hw : swappedStores [.Subscript o j tpos] e X.env = pure none := by rfl) (h1 : (assignEach [.Subscript o j tpos] X.env).map (·.2) = [assign (.Subscript o j tpos) X.env] := by rfl) :
    DS X ϖ W kp (.Assign [.Subscript o j tpos] e pos) (sSub i J F) := by
  refine (ps_asg (d_V he) (pg_sub ho hj set_list ha) hs hw h1).imp fun Dn σv H q => ?_
  refine (evS (Rl := RV X.K) (F := eV F) q).mono fun v H1 ⟨t, g, σ, h, r0, s, n, p⟩ => ?_
  have r : RT X.K H1 v t g := r0
  have nh : Nd h := n.le (z_le _ _)
  split at p
  · rename_i d xs el
    obtain ⟨a, vs, ev, ea, rd, _, _⟩ := s.wr nh el
    refine ⟨.ref a, ev, ?_⟩
    have rv := r.un
    have eg : (fun b => g b + h b) = fun b => (0 : Nat) + h b := by funext b; rw [r.z b]
    rw [eg] at p
    refine (evT (W := W) (kp := kp) (Rl := RV X.K) (F := J) (g := fun _ => 0) (P := fun H2 => RD X.K H2 v d) (fun H' st _ => rv.stb st) (fun b hb => absurd rfl hb) s (nh.le fun b => by show 0 + h b ≤ h b; omega) p).mono fun y H2 ⟨t2, g2, σ2, h2, r20, rv2, s2, n2, p2⟩ => ?_
    have r2 : RT X.K H2 y t2 g2 := r20
    have nh2 : Nd h2 := n2.le fun b => by show h2 b ≤ 0 + (g2 b + h2 b); omega
    split at p2
    · rename_i k u el2
      split at p2
      · rename_i u' eu
        unfold setT at eu
        split at eu
        · rename_i ys
          obtain ⟨j, ej, e3⟩ := Option.map_eq_some_iff.mp eu
          subst e3
          obtain ⟨a', ws, ev', ea', rd', _, wr⟩ := s2.wr nh2 el2
          rw [ev] at ev'; cases ev'
          obtain ⟨r3, w3⟩ := wr (ws.set j v) (ys.set j d) (rd'.set rv2 j)
          refine ⟨a, ws, k, j, rfl, r2.int, ea', by rw [rd'.length]; exact ej, ?_⟩
          exact p2 σv _ h2 r3 nh2 (w3.ge fun b => by show h2 b ≤ 0 + (g2 b + h2 b); omega) (.refl _ _)
        · cases eu
      · exact p2.elim
    · exact p2.elim
  · exact p.elim

/-! ### slices -/
def cutD (xs : List D) (lo hi : Option Int) : List D := (xs.drop (HT.sIx xs.length 0 lo)).take (HT.sIx xs.length xs.length hi - HT.sIx xs.length 0 lo)
def slT (t : T) (lo hi : Option Int) : Option T := match t with
  | .lst xs => some (.lst (cutD xs lo hi))
  | .val (.lst xs) => some (.lst (cutD xs lo hi))
  | .val (.tup xs) => some (.val (.tup (cutD xs lo hi)))
  | .val (.str z) => if z.length ≤ sizeLine then some (.val (.str (cutS z lo hi))) else none
  | _ => none
def DO (X : Cx) (ϖ : Pend) (W : WX) (o : Option Expr) (F : S → R (Option Int)) : Prop := PO X o (tX X.K ϖ W (fun _ x y g => x = y ∧ ∀ b, g b = 0) F)
theorem _root_.L2.PO.imp {o : Option Expr} {t t' : TO} (h : PO X o t) (i : ∀ σ H Q, t' σ H Q → t σ H Q) : PO X o t' := ⟨fun pins s σ H Q I w => h.run pins s σ H Q I (i _ _ _ w)⟩
def oNo : S → R (Option Int) := fun σ => .ok none σ
def oSo (F : S → R T) : S → R (Option Int) := fun σ => (F σ).bind fun t σ1 => match t with
  | .val (.int i) => .ok (some i) σ1
  | _ => .stuck
theorem do_no : DO X ϖ W none oNo := po_none.imp fun σv H Q ⟨σ, f, r, n, p⟩ => by
  have p : Post X.K ϖ W (fun _ x y g => x = y ∧ ∀ b, g b = 0) σv (.ok none σ) H f Q := p
  exact p none H (fun _ => 0) f ⟨rfl, fun _ => rfl⟩ r (n.le fun b => by show 0 + f b ≤ f b; omega) ((Fr.refl _ _).le fun b => by show 0 + f b ≤ f b; omega)
theorem do_so (h : DE X ϖ W e F) : DO X ϖ W (some e) (oSo F) := by
  refine (po_some h).imp fun σv H Q q => ?_
  refine (ev0 (Rl := RV X.K) (F := F) q).mono fun v H1 ⟨t, g, σ, f, r0, s, n, p⟩ => ?_
  have r : RT X.K H1 v t g := r0
  split at p
  · rename_i i
    exact ⟨i, r.int, p (some i) H1 (fun _ => 0) f ⟨rfl, fun _ => rfl⟩ s (n.le fun b => by show 0 + f b ≤ g b + f b; omega) ((Fr.refl _ _).le fun b => by show 0 + f b ≤ g b + f b; omega)⟩
  · exact p.elim
theorem cut_rd {K : PySem.W.Frag} {H : Hp} {vs : List V} {ds : List D} (h : RDs K H vs ds) (lo hi : Option Int) : RDs K H (cutV vs lo hi) (cutD ds lo hi) := by
  unfold cutV cutD
  rw [h.length]
  exact (h.drop _).take _
def rSlD (K : PySem.W.Frag) : V → Option Int → Option Int → Hp → VK → Prop := fun x lo hi H Q => rSlL K x lo hi H Q ∨ rSlA K x lo hi H Q ∨ rSlS x lo hi H Q
theorem sl_D : SlR X (rSlD X.K) := sl_list.or (sl_tupA.or sl_str)
theorem sl_of {K : PySem.W.Frag} {x : V} {t t' : T} {g : Fp} {H : Hp} {Q : VK} {lo hi : Option Int} (r : RT K H x t g) (e : slT t lo hi = some t') (q : ∀ z H' g, RT K H' z t' g → Nw H H' g → Q z H') : rSlD K x lo hi H Q := by
  unfold slT at e
  split at e
  · cases e
    obtain ⟨a, vs, rfl, ea, rd, _⟩ := r.own1
    exact .inl ⟨a, vs, rfl, sqL_own ea, fun p hp => q _ _ _ (.lst upd_same ((cut_rd rd lo hi).stb (.fresh hp)) fun _ => rfl) (Nw.laid hp)⟩
  · cases e
    cases r.un with
    | @lst a vs _ fz rd => exact .inl ⟨a, vs, rfl, fz.sq, fun p hp => q _ _ _ (.lst upd_same ((cut_rd rd lo hi).stb (.fresh hp)) fun _ => rfl) (Nw.laid hp)⟩
  · cases e
    obtain ⟨a, vs, rfl, sq, rd⟩ := r.tup
    refine .inr (.inl ⟨a, vs, rfl, sq, fun hw => ?_, fun _ p hp => q _ _ _ (.vl (.tup (.of upd_same) ((cut_rd rd lo hi).stb (.fresh hp)))) (Nw.laid0 hp)⟩)
    refine q _ _ _ (.vl (.tup sq ?_)) (Nw.refl H)
    have := cut_rd rd lo hi
    have e : cutV vs lo hi = vs := by
      unfold cutV
      rw [hw.1, hw.2, List.drop_zero, Nat.sub_zero, List.take_length]
    rw [e] at this
    exact this
  · split at e
    · rename_i hz
      cases e
      exact .inr (.inr ⟨_, r.str, hz, q _ _ _ (.vl (.str _)) (Nw.refl H)⟩)
    · cases e
  · cases e
/-- data, or a name's place -/
def heldG : G → Bool
  | .inl _ => true
  | .inr (.val _) => true
  | _ => false
def eSl (A : S → R G) (L U : S → R (Option Int)) : S → R T := fun σ => (A σ).bind fun x σ1 => if heldG x = true then (L σ1).bind fun l σ2 => (U σ2).bind fun u σ3 => match rdG x σ3 with
    | some t => lift (slT t l u) σ3
    | none => .stuck
  else .stuck
theorem d_slice {lo hi : Option Expr} {L U : S → R (Option Int)} {p2 : Pos} (ha : DG X ϖ W a A) (hl : DO X ϖ W lo L) (hu : DO X ϖ W hi U) : DE X ϖ W (.Subscript a (.Slice lo hi none p2) pos) (eSl A L U) := by
  refine PE.imp (pe_slice sl_D ha hl hu) fun σv H Q q => ?_
  refine (ev0 (Rl := RO X.K σv) (Rm := RV X.K) (F := A) q).mono fun v H1 ⟨x, g, σ, h, r, s, n, p⟩ => ?_
  by_cases hx : heldG x = true
  · rw [if_pos hx] at p
    have z : ∀ b, g b = 0 := by
      cases x with
      | inl i =>
        cases r with
        | ref _ z => exact z
      | inr t =>
        cases r with
        | tmp r =>
          cases t with
          | val d => exact r.z
          | _ => cases hx
    have r : RO X.K σv H1 v x (fun _ => 0) := by
      cases r with
      | ref e _ => exact .ref e fun _ => rfl
      | tmp r => exact .tmp (r.congr fun b => (z b).symm)
    have eg : (fun b => g b + h b) = fun b => (0 : Nat) + h b := by funext b; rw [z b]
    rw [eg] at p
    have nh : Nd h := n.le (z_le _ _)
    refine (evP (W := W) (Rl := fun _ x y g => x = y ∧ ∀ b, g b = 0) (F := L) (g := fun _ => 0) (P := fun H2 => RO X.K σv H2 v x (fun _ => 0)) (fun H' st k => r.keep st k) (fun b hb => absurd rfl hb) s (nh.le fun b => by show 0 + h b ≤ h b; omega) p).mono fun l H2 ⟨l', g2, σ2, h2, ⟨el, zl⟩, r2, _, s2, n2, p2⟩ => ?_
    subst el
    have nh2 : Nd h2 := n2.le fun b => by show h2 b ≤ 0 + (g2 b + h2 b); omega
    have eg2 : (fun b => (0 : Nat) + (g2 b + h2 b)) = fun b => (0 : Nat) + h2 b := by funext b; rw [zl b]; omega
    rw [eg2] at p2
    refine (evP (W := W) (Rl := fun _ x y g => x = y ∧ ∀ b, g b = 0) (F := U) (g := fun _ => 0) (P := fun H2 => RO X.K σv H2 v x (fun _ => 0)) (fun H' st k => r2.keep st k) (fun b hb => absurd rfl hb) s2 (nh2.le fun b => by show 0 + h2 b ≤ h2 b; omega) p2).mono fun u H3 ⟨u', g3, σ3, h3, ⟨eu, zu⟩, r3, _, s3, n3, p3⟩ => ?_
    subst eu
    have nh3 : Nd h3 := n3.le fun b => by show h3 b ≤ 0 + (g3 b + h3 b); omega
    split at p3
    · rename_i t et
      obtain ⟨f1, q1⟩ := r3.rd s3 et
      unfold lift at p3
      cases e : slT t l u with
      | none => rw [e] at p3; exact p3.elim
      | some t' =>
        rw [e] at p3
        exact sl_of q1 e fun z H' g q nw => p3.fin nw q s3 nh3 fun b => by show h3 b ≤ 0 + (g3 b + h3 b); omega
    · exact p3.elim
  · rw [if_neg hx] at p; exact p.elim

/-! ### built-in calls -/
def oLen : List T → Option T
  | [.val (.tup xs)] => some (.val (.int xs.length))
  | [.val (.lst xs)] => some (.val (.int xs.length))
  | [.lst xs] => some (.val (.int xs.length))
  | [.ll xs] => some (.val (.int xs.length))
  | [.val (.str z)] => if z.length ≤ sizeLine then some (.val (.int z.length)) else none
  | _ => none
theorem b_len : CallT X (.builtin "len") oLen := .of call_len fun H xs ts t g1 Q rs0 e q => by
  unfold oLen at e
  split at e
  · cases e
    obtain ⟨v, g, rfl, r⟩ := rs0.one
    obtain ⟨a, vs, rfl, sq, rd⟩ := r.tup
    exact ⟨_, _, rfl, .inr ⟨vs, sq, rfl⟩, by rw [rd.length]; exact q _ H _ (.vl (.int _)) (Nw.refl H)⟩
  · cases e
    obtain ⟨v, g, rfl, r⟩ := rs0.one
    cases r.un with
    | lst fz rd => exact ⟨_, _, rfl, .inl ⟨_, fz.sq, rfl⟩, by rw [rd.length]; exact q _ H _ (.vl (.int _)) (Nw.refl H)⟩
  · cases e
    obtain ⟨v, g, rfl, r⟩ := rs0.one
    obtain ⟨a, vs, rfl, ea, rd, _⟩ := r.own1
    exact ⟨_, _, rfl, .inl ⟨_, sqL_own ea, rfl⟩, by rw [rd.length]; exact q _ H _ (.vl (.int _)) (Nw.refl H)⟩
  · cases e
    obtain ⟨v, g, rfl, r⟩ := rs0.one
    cases r with
    | ll ea rl _ => exact ⟨_, _, rfl, .inl ⟨_, sqL_own ea, rfl⟩, by rw [rl.length]; exact q _ H _ (.vl (.int _)) (Nw.refl H)⟩
  · split at e
    · rename_i hz
      cases e
      obtain ⟨v, g, rfl, r⟩ := rs0.one
      have ev := r.str
      subst ev
      exact ⟨_, _, rfl, ⟨hz, rfl⟩, q _ H _ (.vl (.int _)) (Nw.refl H)⟩
    · cases e
  · cases e
def oAbs : List T → Option T
  | [.val (.int i)] => some (.val (.int (if i < 0 then -i else i)))
  | _ => none
theorem b_abs : CallT X (.builtin "abs") oAbs := .of call_abs fun H xs ts t g1 Q rs0 e q => by
  unfold oAbs at e
  split at e
  · cases e
    obtain ⟨v, g, rfl, r⟩ := rs0.one
    exact ⟨_, by rw [r.int], q _ H _ (.vl (.int _)) (Nw.refl H)⟩
  · cases e
def oInt1 : List T → Option T
  | [.val (.int i)] => some (.val (.int i))
  | [.val (.bl k)] => some (.val (.int (if k then 1 else 0)))
  | _ => none
theorem b_int : CallT X (.type "int") oInt1 := .of call_int1 fun H xs ts t g1 Q rs0 e q => by
  unfold oInt1 at e
  split at e
  · cases e
    obtain ⟨v, g, rfl, r⟩ := rs0.one
    exact .inl ⟨_, by rw [r.int], q _ H _ (.vl (.int _)) (Nw.refl H)⟩
  · cases e
    obtain ⟨v, g, rfl, r⟩ := rs0.one
    exact .inr ⟨_, by rw [r.bl], q _ H _ (.vl (.int _)) (Nw.refl H)⟩
  · cases e
def oStrI : List T → Option T
  | [.val (.int i)] => if i.natAbs.log2 < 1920 then some (.val (.str (toString i))) else none
  | _ => none
theorem b_str : CallT X (.type "str") oStrI := .of call_str_int fun H xs ts t g1 Q rs0 e q => by
  unfold oStrI at e
  split at e
  · split at e
    · rename_i hz
      cases e
      obtain ⟨v, g, rfl, r⟩ := rs0.one
      exact ⟨_, by rw [r.int], hz, q _ H _ (.vl (.str _)) (Nw.refl H)⟩
    · cases e
  · cases e
def oTuple : List T → Option T
  | [.lst xs] => some (.val (.tup xs))
  | [.val (.lst xs)] => some (.val (.tup xs))
  | [.val (.tup xs)] => some (.val (.tup xs))
  | _ => none
theorem b_tuple : CallT X (.type "tuple") oTuple := .of call_tuple_of fun H xs ts t g1 Q rs0 e q => by
  unfold oTuple at e
  split at e
  · cases e
    obtain ⟨v, g, rfl, r⟩ := rs0.one
    obtain ⟨a, vs, rfl, ea, rd, _⟩ := r.own1
    exact ⟨a, vs, rfl, .inl ⟨sqL_own ea, fun l hl => q _ _ _ (.vl (.tup (.of upd_same) (rd.stb (.fresh hl)))) (Nw.laid0 hl)⟩⟩
  · cases e
    obtain ⟨v, g, rfl, r⟩ := rs0.one
    cases r.un with
    | @lst a vs _ fz rd => exact ⟨a, vs, rfl, .inl ⟨fz.sq, fun l hl => q _ _ _ (.vl (.tup (.of upd_same) (rd.stb (.fresh hl)))) (Nw.laid0 hl)⟩⟩
  · cases e
    obtain ⟨v, g, rfl, r⟩ := rs0.one
    obtain ⟨a, vs, rfl, sq, rd⟩ := r.tup
    exact ⟨a, vs, rfl, .inr ⟨sq, q _ H _ (.vl (.tup sq rd)) (Nw.refl H)⟩⟩
  · cases e
def ints? : List D → Option (List Int)
  | [] => some []
  | .int i :: r => (ints? r).map (i :: ·)
  | _ => none
def bools? : List D → Option (List Bool)
  | [] => some []
  | .bl i :: r => (bools? r).map (i :: ·)
  | _ => none
theorem RDs.int? {K : PySem.W.Frag} {H : Hp} : ∀ {vs : List V} {ds : List D} {ns : List Int}, RDs K H vs ds → ints? ds = some ns → vs = ns.map V.int
  | _, _, _, .nil, e => by cases e; rfl
  | _, .int i :: ds, ns, .cons q r, e => by
    obtain ⟨ms, e1, e2⟩ := Option.map_eq_some_iff.mp e
    subst e2
    cases q
    rw [List.map_cons, RDs.int? r e1]
theorem RDs.bool? {K : PySem.W.Frag} {H : Hp} : ∀ {vs : List V} {ds : List D} {ns : List Bool}, RDs K H vs ds → bools? ds = some ns → vs = ns.map V.bl
  | _, _, _, .nil, e => by cases e; rfl
  | _, .bl i :: ds, ns, .cons q r, e => by
    obtain ⟨ms, e1, e2⟩ := Option.map_eq_some_iff.mp e
    subst e2
    cases q
    rw [List.map_cons, RDs.bool? r e1]
def oSum : List T → Option T
  | [t] => (t.ls.bind ints?).map fun ns => .val (.int ns.sum)
  | _ => none
theorem b_sum (hc : X.calm = true) : CallT X (.builtin "sum") oSum := .of (cr_sum hc) fun H xs ts t g1 Q rs0 e q => by
  unfold oSum at e
  split at e
  · obtain ⟨ns, e1, e2⟩ := Option.map_eq_some_iff.mp e
    obtain ⟨ds, e3, e4⟩ := Option.bind_eq_some_iff.mp e1
    subst e2
    obtain ⟨v, g, rfl, r⟩ := rs0.one
    obtain ⟨a, vs, rfl, sq, rd⟩ := r.ls e3
    have := rd.int? e4
    subst this
    exact ⟨a, ns, rfl, sq, q _ H _ (.vl (.int _)) (Nw.refl H)⟩
  · cases e
def oAll : List T → Option T
  | [t] => (t.ls.bind bools?).map fun ns => .val (.bl (ns.all id))
  | _ => none
theorem b_all (hc : X.calm = true) : CallT X (.builtin "all") oAll := .of (cr_all hc) fun H xs ts t g1 Q rs0 e q => by
  unfold oAll at e
  split at e
  · obtain ⟨ns, e1, e2⟩ := Option.map_eq_some_iff.mp e
    obtain ⟨ds, e3, e4⟩ := Option.bind_eq_some_iff.mp e1
    subst e2
    obtain ⟨v, g, rfl, r⟩ := rs0.one
    obtain ⟨a, vs, rfl, sq, rd⟩ := r.ls e3
    have := rd.bool? e4
    subst this
    exact ⟨a, ns, rfl, sq, q _ H _ (.vl (.bl _)) (Nw.refl H)⟩
  · cases e
def oAny : List T → Option T
  | [t] => (t.ls.bind bools?).map fun ns => .val (.bl (ns.any id))
  | _ => none
theorem b_any (hc : X.calm = true) : CallT X (.builtin "any") oAny := .of (cr_any hc) fun H xs ts t g1 Q rs0 e q => by
  unfold oAny at e
  split at e
  · obtain ⟨ns, e1, e2⟩ := Option.map_eq_some_iff.mp e
    obtain ⟨ds, e3, e4⟩ := Option.bind_eq_some_iff.mp e1
    subst e2
    obtain ⟨v, g, rfl, r⟩ := rs0.one
    obtain ⟨a, vs, rfl, sq, rd⟩ := r.ls e3
    have := rd.bool? e4
    subst this
    exact ⟨a, ns, rfl, sq, q _ H _ (.vl (.bl _)) (Nw.refl H)⟩
  · cases e
def maxI : List Int → Option Int
  | [] => none
  | i :: r => some (r.foldl max i)
def minI : List Int → Option Int
  | [] => none
  | i :: r => some (r.foldl min i)
theorem maxI_is : ∀ {ns : List Int} {m m' : Int}, maxI ns = some m → m' ∈ ns → (∀ y ∈ ns, y ≤ m') → m' = m
  | i :: r, m, m', e, hm, hy => by
    have e : r.foldl max i = m := Option.some.inj e
    have key : ∀ (r : List Int) (i : Int), i ≤ r.foldl max i ∧ (∀ y ∈ r, y ≤ r.foldl max i) ∧ (r.foldl max i = i ∨ r.foldl max i ∈ r) := by
      intro r
      induction r with
      | nil => intro i; exact ⟨Int.le_refl _, by simp, .inl rfl⟩
      | cons j r ih =>
        intro i
        obtain ⟨h1, h2, h3⟩ := ih (max i j)
        rw [List.foldl_cons]
        refine ⟨by omega, fun y hy => ?_, ?_⟩
        · rcases List.mem_cons.mp hy with e | e
          · subst e; omega
          · exact h2 y e
        · rcases h3 with h | h
          · rw [h]
            by_cases hij : i ≤ j
            · exact .inr (by rw [Int.max_eq_right hij]; exact List.mem_cons_self)
            · exact .inl (Int.max_eq_left (by omega))
          · exact .inr (List.mem_cons_of_mem _ h)
    obtain ⟨h1, h2, h3⟩ := key r i
    have a : m' ≤ m := by
      rw [← e]
      rcases List.mem_cons.mp hm with z | z
      · rw [z]; exact h1
      · exact h2 _ z
    have b : m ≤ m' := by
      rw [← e]
      rcases h3 with h | h
      · rw [h]; exact hy i List.mem_cons_self
      · exact hy _ (List.mem_cons_of_mem _ h)
    omega
theorem minI_is : ∀ {ns : List Int} {m m' : Int}, minI ns = some m → m' ∈ ns → (∀ y ∈ ns, m' ≤ y) → m' = m
  | i :: r, m, m', e, hm, hy => by
    have e : r.foldl min i = m := Option.some.inj e
    have key : ∀ (r : List Int) (i : Int), r.foldl min i ≤ i ∧ (∀ y ∈ r, r.foldl min i ≤ y) ∧ (r.foldl min i = i ∨ r.foldl min i ∈ r) := by
      intro r
      induction r with
      | nil => intro i; exact ⟨Int.le_refl _, by simp, .inl rfl⟩
      | cons j r ih =>
        intro i
        obtain ⟨h1, h2, h3⟩ := ih (min i j)
        rw [List.foldl_cons]
        refine ⟨by omega, fun y hy => ?_, ?_⟩
        · rcases List.mem_cons.mp hy with e | e
          · subst e; omega
          · exact h2 y e
        · rcases h3 with h | h
          · rw [h]
            by_cases hij : i ≤ j
            · exact .inl (Int.min_eq_left hij)
            · exact .inr (by rw [Int.min_eq_right (by omega)]; exact List.mem_cons_self)
          · exact .inr (List.mem_cons_of_mem _ h)
    obtain ⟨h1, h2, h3⟩ := key r i
    have a : m ≤ m' := by
      rw [← e]
      rcases List.mem_cons.mp hm with z | z
      · rw [z]; exact h1
      · exact h2 _ z
    have b : m' ≤ m := by
      rw [← e]
      rcases h3 with h | h
      · rw [h]; exact hy i List.mem_cons_self
      · exact hy _ (List.mem_cons_of_mem _ h)
    omega
def oMaxL : List T → Option T
  | [t] => ((t.ls.bind ints?).bind maxI).map fun m => .val (.int m)
  | _ => none
def oMinL : List T → Option T
  | [t] => ((t.ls.bind ints?).bind minI).map fun m => .val (.int m)
  | _ => none
theorem b_maxL (hc : X.calm = true) : CallT X (.builtin "max") oMaxL := .of (cr_max hc) fun H xs ts t g1 Q rs0 e q => by
  unfold oMaxL at e
  split at e
  · obtain ⟨m, e0, e2⟩ := Option.map_eq_some_iff.mp e
    obtain ⟨ns, e1, em⟩ := Option.bind_eq_some_iff.mp e0
    obtain ⟨ds, e3, e4⟩ := Option.bind_eq_some_iff.mp e1
    subst e2
    obtain ⟨v, g, rfl, r⟩ := rs0.one
    obtain ⟨a, vs, rfl, sq, rd⟩ := r.ls e3
    have := rd.int? e4
    subst this
    refine ⟨a, ns, rfl, sq, ?_, fun m' h1 h2 => ?_⟩
    · cases ns with
      | nil => cases em
      | cons _ _ => exact Nat.zero_lt_succ _
    · rw [maxI_is em h1 h2]; exact q _ H _ (.vl (.int _)) (Nw.refl H)
  · cases e
theorem b_minL (hc : X.calm = true) : CallT X (.builtin "min") oMinL := .of (cr_min hc) fun H xs ts t g1 Q rs0 e q => by
  unfold oMinL at e
  split at e
  · obtain ⟨m, e0, e2⟩ := Option.map_eq_some_iff.mp e
    obtain ⟨ns, e1, em⟩ := Option.bind_eq_some_iff.mp e0
    obtain ⟨ds, e3, e4⟩ := Option.bind_eq_some_iff.mp e1
    subst e2
    obtain ⟨v, g, rfl, r⟩ := rs0.one
    obtain ⟨a, vs, rfl, sq, rd⟩ := r.ls e3
    have := rd.int? e4
    subst this
    refine ⟨a, ns, rfl, sq, ?_, fun m' h1 h2 => ?_⟩
    · cases ns with
      | nil => cases em
      | cons _ _ => exact Nat.zero_lt_succ _
    · rw [minI_is em h1 h2]; exact q _ H _ (.vl (.int _)) (Nw.refl H)
  · cases e
def oMax2 : List T → Option T
  | [.val (.int i), .val (.int j)] => some (.val (.int (if j > i then j else i)))
  | _ => none
def oMin2 : List T → Option T
  | [.val (.int i), .val (.int j)] => some (.val (.int (if j < i then j else i)))
  | _ => none
theorem b_max2 (hc : X.calm = true) : CallT X (.builtin "max") oMax2 := .of (call_max2 hc) fun H xs ts t g1 Q rs0 e q => by
  unfold oMax2 at e
  split at e
  · cases e
    obtain ⟨v, w, _, _, rfl, r1, r2⟩ := rs0.two
    exact ⟨_, _, by rw [r1.int, r2.int], q _ H _ (.vl (.int _)) (Nw.refl H)⟩
  · cases e
theorem b_min2 (hc : X.calm = true) : CallT X (.builtin "min") oMin2 := .of (call_min2 hc) fun H xs ts t g1 Q rs0 e q => by
  unfold oMin2 at e
  split at e
  · cases e
    obtain ⟨v, w, _, _, rfl, r1, r2⟩ := rs0.two
    exact ⟨_, _, by rw [r1.int, r2.int], q _ H _ (.vl (.int _)) (Nw.refl H)⟩
  · cases e
def oMax : List T → Option T := oOrs oMax2 oMaxL
def oMin : List T → Option T := oOrs oMin2 oMinL
theorem b_max (hc : X.calm = true) : CallT X (.builtin "max") oMax := (b_max2 hc).or (b_maxL hc)
theorem b_min (hc : X.calm = true) : CallT X (.builtin "min") oMin := (b_min2 hc).or (b_minL hc)
end
end DL

set_option Elab.async false
set_option linter.all false
set_option maxRecDepth 100000
set_option maxHeartbeats 4200000
/-! DLR: repr of data. -/
namespace DL
open PySem PySem.Spec PyProof.Rows L2

/-- what a slot holds, as data (nothing is frozen by it) -/
def T.dt : T → Option D
  | .val d => some d
  | .lst xs => some (.lst xs)
  | _ => none
theorem RT.dtp {K : PySem.W.Frag} {H : Hp} {v : V} {t : T} {d : D} {g : Fp} (h : RT K H v t g) (e : t.dt = some d) : Dp K H v d.py := by
  cases t with
  | val a => cases e; exact h.un.dp
  | lst xs => cases e; exact h.dp rfl
  | _ => cases e
def D.shows (d : D) : Bool := d.py.showable && decide (d.py.shown.length ≤ sizeLine) && decide (d.py.depth ≤ 60)
def oRepr : List T → Option T
  | [t] => t.dt.bind fun d => if d.shows = true then some (.val (.str d.py.shown)) else none
  | _ => none
mutual
theorem D.nodict : ∀ d : D, d.py.hasDict = false
  | .non => rfl
  | .bl _ => rfl
  | .int _ => rfl
  | .str _ => rfl
  | .tup xs => by unfold D.py PyData.hasDict; exact D.nodicts xs
  | .lst xs => by unfold D.py PyData.hasDict; exact D.nodicts xs
theorem D.nodicts : ∀ ds : List D, PyData.hasDictAll (D.pys ds) = false
  | [] => rfl
  | x :: xs => by unfold D.pys PyData.hasDictAll; rw [D.nodict x, D.nodicts xs]; rfl
end
section
variable {X : Cx}
theorem b_repr {k : Nat} (hr : Rm k X.A) : CallT X (.builtin "repr") oRepr := by
  intro pins s σ H xs us ts t g1 Q I rv rt e q
  have hu := hr.un
  unfold oRepr at e
  split at e
  · rename_i t0
    obtain ⟨d, e1, e2⟩ := Option.bind_eq_some_iff.mp e
    split at e2
    · rename_i hs
      cases e2
      unfold D.shows at hs
      simp only [Bool.and_eq_true, decide_eq_true_eq] at hs
      obtain ⟨⟨h1, h2⟩, h3⟩ := hs
      obtain ⟨v, g, rfl, r⟩ := rt.one
      cases rv with
      | cons ru rn =>
        rename_i u us'
        cases rn
        obtain ⟨as, rd⟩ := Dp.reads I _ v u (r.dtp e1) ru
        have fin : ∀ (h' : Heap) (u' tk : Tok), (∀ b o, s.heap.get? b = some o → h'.get? b = some o) → EP X pins σ Q (.str d.py.shown u') { s with heap := h', toks := tk } := fun h' u' tk hk =>
          ⟨.str _, H, I.kept (t' := tk) hk, ⟨_, rfl⟩, q _ H _ (.vl (.str _)) (Nw.refl H)⟩
        have fin0 : ∀ (u' tk : Tok), EP X pins σ Q (.str d.py.shown u') { s with toks := tk } := fun u' tk => fin s.heap u' tk fun _ _ e => e
        have big : (∃ a, u = .ref a) → wpAny (model X.prog X.w) X.A (call (.builtin "repr") [u]) (EP X pins σ Q) X.xe s := by
          rintro ⟨a, rfl⟩
          exact repr_of_reads' rd h1 (fun h => by rw [D.nodict] at h; cases h) hr.gd (by omega) (fun _ _ e => e) fin h2
        have ref_of : (∃ a, v = .ref a) → ∃ a, u = .ref a := by
          rintro ⟨a, rfl⟩
          exact ⟨a, ru⟩
        cases d with
        | tup xs =>
          refine big (ref_of ?_)
          cases t0 with
          | val d' => cases e1; obtain ⟨a, _, e, _⟩ := r.tup; exact ⟨a, e⟩
          | _ => cases e1
        | lst xs =>
          refine big (ref_of ?_)
          cases t0 with
          | val d' => cases e1; cases r.un; exact ⟨_, rfl⟩
          | lst xs => cases e1; obtain ⟨a, _, e, _⟩ := r.own1; exact ⟨a, e⟩
          | _ => cases e1
        | non =>
          cases t0 with
          | val d' =>
            cases e1
            cases r.un
            obtain rfl : u = Value.none := ru
            exact PySem.P.repr_of_none (by have q := fin0 s.toks (s.toks + 1); rwa [show (D.py .non).shown = ("None" : Str) from PyData.shown_none] at q)
          | _ => cases e1
        | bl b =>
          cases t0 with
          | val d' =>
            cases e1
            cases r.un
            obtain rfl : u = Value.bool b := ru
            exact PySem.P.repr_of_bool (by have q := fin0 s.toks (s.toks + 1); rwa [show (D.py (.bl b)).shown = _ from PyData.shown_bool b] at q)
          | _ => cases e1
        | int i =>
          cases t0 with
          | val d' =>
            cases e1
            cases r.un
            obtain ⟨t, rfl⟩ := (show ∃ t, u = Value.int i t from ru)
            have hz : i.natAbs.log2 < 1920 := by
              have h1 : PyData.showable (.int i) = true := h1
              simpa [PyData.showable] using h1
            exact PySem.P.repr_of_int hz (by have q := fin0 s.toks (s.toks + 1); rwa [show (D.py (.int i)).shown = _ from PyData.shown_int i] at q)
          | _ => cases e1
        | str x =>
          cases t0 with
          | val d' =>
            cases e1
            cases r.un
            obtain ⟨t, rfl⟩ := (show ∃ t, u = Value.str x t from ru)
            have e3 : (D.py (.str x)).shown = reprText x := PyData.shown_str x
            exact PySem.P.repr_of_str (by have q := fin0 s.toks (s.toks + 1); rwa [e3] at q) (by rw [← e3]; exact h2)
          | _ => cases e1
    · cases e2
  · cases e
end
end DL

set_option Elab.async false
set_option linter.all false
set_option maxRecDepth 100000
set_option maxHeartbeats 4200000
/-! DLG: constants of the module, defs of the text, the law's end. -/
namespace DL
open PySem PySem.Spec PyProof.Rows L2

/-- a constant of the module, as data -/
structure KC (mg : Str → Option Value) (K : PySem.W.Frag) (x : Str) (d : D) : Prop where
  ex : ∃ u v, mg x = some u ∧ RelV v u ∧ ∀ H, RD K H v d
theorem d_glob {X : Cx} {ϖ : Pend} {W : WX} {x : Str} {d : D} {pos : Pos} (c : KC X.mg X.K x d) (hg : Gl X x) (hd : (x == ("__debug__" : Str)) = false := by decide) : DE X ϖ W (.Name x pos) (eC d) := by
  obtain ⟨u, v, h1, h2, h3⟩ := c.ex
  exact d_const (pe_glob hg h1 h2 hd) h3
mutual
/-- a value that stands in the written part, as data -/
inductive KV (K : PySem.W.Frag) : Value → D → Prop
  | non : KV K .none .non
  | bl (b : Bool) : KV K (.bool b) (.bl b)
  | int (i : Int) (t : Tok) : KV K (.int i t) (.int i)
  | str (x : Str) (t : Tok) : KV K (.str x t) (.str x)
  | tup {a : Addr} {dd : Option Addr} {us : List Value} {n : Nat} {sl : Array (Option Value)} {ds : List D} : K.lookup a = some ⟨.type "tuple", dd, .seq us.toArray n, sl⟩ → us.length ≤ sizeLine → KVs K us ds → KV K (.ref a) (.tup ds)
  | lst {a : Addr} {us : List Value} {n : Nat} {sl : Array (Option Value)} {ds : List D} : K.lookup a = some ⟨.type "list", none, .seq us.toArray n, sl⟩ → us.length ≤ sizeLine → KVs K us ds → KV K (.ref a) (.lst ds)
inductive KVs (K : PySem.W.Frag) : List Value → List D → Prop
  | nil : KVs K [] []
  | cons {u : Value} {us : List Value} {d : D} {ds : List D} : KV K u d → KVs K us ds → KVs K (u :: us) (d :: ds)
end
mutual
theorem KV.rd {K : PySem.W.Frag} {u : Value} {d : D} (h : KV K u d) : ∃ v, RelV v u ∧ ∀ H, RD K H v d := by
  cases h with
  | non => exact ⟨.non, rfl, fun _ => .non⟩
  | bl b => exact ⟨.bl b, rfl, fun _ => .bl b⟩
  | int i t => exact ⟨.int i, ⟨t, rfl⟩, fun _ => .int i⟩
  | str x t => exact ⟨.str x, ⟨t, rfl⟩, fun _ => .str x⟩
  | tup e hz q =>
    obtain ⟨vs, h1, h2⟩ := KVs.rd q
    exact ⟨.ref _, rfl, fun H => .tup (.inr ⟨_, _, _, e, rfl, rfl, by rw [List.size_toArray]; exact hz, by simpa using h1⟩) (h2 H)⟩
  | lst e hz q =>
    obtain ⟨vs, h1, h2⟩ := KVs.rd q
    exact ⟨.ref _, rfl, fun H => .lst (.inr ⟨_, _, _, e, rfl, rfl, rfl, by rw [List.size_toArray]; exact hz, by simpa using h1⟩) (h2 H)⟩
theorem KVs.rd {K : PySem.W.Frag} {us : List Value} {ds : List D} (h : KVs K us ds) : ∃ vs, Vals vs us ∧ ∀ H, RDs K H vs ds := by
  cases h with
  | nil => exact ⟨[], .nil, fun _ => .nil⟩
  | cons q r =>
    obtain ⟨v, h1, h2⟩ := KV.rd q
    obtain ⟨vs, h3, h4⟩ := KVs.rd r
    exact ⟨v :: vs, .cons h1 h3, fun H => .cons (h2 H) (h4 H)⟩
end
theorem kc_mk {mg : Str → Option Value} {K : PySem.W.Frag} {x : Str} {u : Value} {d : D} (h : mg x = some u) (k : KV K u d) : KC mg K x d := by
  obtain ⟨v, h1, h2⟩ := k.rd
  exact ⟨⟨u, v, h, h1, h2⟩⟩
/-- a def of the text, where it stands -/
def FunIn (K : PySem.W.Frag) (mg : Str → Option Value) (x : Str) (st : Stmt) (ps : List Str) : Prop := ∃ f fd, mg x = some (.ref f) ∧ Fun K x x st f fd ∧ Binds K fd ps []
theorem dfn_mk {P : Program} {w : World} {K : PySem.W.Frag} {mg : Str → Option Value} {base : Heap} {x : Str} {st : Stmt} {N ps : List Str} {k : Nat} {kp : Nat → Bool} {g : S → O} {Ft : Fn} {f : Addr} {fd : FuncData} (F : Fun K x x st f fd) (Sc : FnScope N ps (defScope st)) (hN : ps.length ≤ N.length) (eF : Ft = mkFn ps.length N.length kp g)
    (hbody : ∀ (f : Addr) (cdv : Value) (A : Around) (outer : List Env) (s : Shared) (H : Hp) (E : XK), Rm k (A.deeper (envOfC x (defScope st) s.heap.objs.size f cdv)) →
      DSs (cxOf (L2.CX P w) P w K mg base N x (defScope st) f cdv A outer s H E) Pend.no (fun c d _ H => E c d H) kp (defBody st) g) : FnG P w K mg base (k + 1) f fd ps (spF K Ft) := by
  subst eF
  exact dl_fn F Sc hN (hbody f)
theorem df_mk {P : Program} {w : World} {K : PySem.W.Frag} {mg : Str → Option Value} {base : Heap} {x : Str} {st : Stmt} {N ps : List Str} {k : Nat} {kp : Nat → Bool} {g : S → O} {Ft : Fn} (I : FunIn K mg x st ps) (Sc : FnScope N ps (defScope st)) (hN : ps.length ≤ N.length) (eF : Ft = mkFn ps.length N.length kp g)
    (hbody : ∀ (f : Addr) (cdv : Value) (A : Around) (outer : List Env) (s : Shared) (H : Hp) (E : XK), Rm k (A.deeper (envOfC x (defScope st) s.heap.objs.size f cdv)) →
      DSs (cxOf (L2.CX P w) P w K mg base N x (defScope st) f cdv A outer s H E) Pend.no (fun c d _ H => E c d H) kp (defBody st) g) : Def P w K mg base x (k + 1) Ft := by
  obtain ⟨f, fd, hm, F, hb⟩ := I
  subst eF
  exact ⟨⟨f, fd, ps, hm, F.kp, hb, dl_fn F Sc hN (hbody f)⟩⟩
/-- the law's call, from a state in which the script alone may be tracked -/
theorem lawG {P : Program} {w : World} {K : PySem.W.Frag} {mg mb : Str → Option Value} {k : Nat} {fa a : Addr} {fd : FuncData} {x : Str} {s1 : Shared} {vs : List Value} {ns : List Int} {Ft : Fn} {ps : S}
    (KX : K.In s1.heap) (hns : s1.heap.Ns mainGlobals mg) (hb : s1.heap.Ns builtinsNs mb) (hbb : ∀ x : Str, x ≠ "__name__" → mb x = bootBuiltins x) (hlim : s1.heap.NoLimit) (hg : s1.gens = #[])
    (ha : s1.heap.get? a = some { cls := .type "list", data := .seq vs.toArray }) (hi : IntsAre vs ns) (hl : ns.length ≤ sizeLine) (hr : Rm k callerA)
    (F : ∀ base : Heap, K.In base → base.Ns mainGlobals mg → FnG P w K mg base k fa fd [x] (spF K Ft)) (hbind : ∀ (s : Shared) (u : Value), BindsTo s fd ⟨[u], []⟩ [(x, u)])
    (hF : Ft [.val (.lst (ns.map D.int))] = .ok (.val (.bl true)) ps) :
    codeAny (model P w) callerA (.call (.ref fa) ⟨[.ref a], []⟩) (fun r s' => r = .ok (.ret (.bool true)) ∧ OldK s1.heap s'.heap ∧ s'.os = s1.os ∧ AllBare s'.gens) s1 := by
  have rv := vals_ints hi
  obtain ⟨H, frz, hok, only, offK⟩ : ∃ H : Hp, FzL K H a (ns.map V.int) ∧ HOk P w H s1.heap ∧ (∀ b u, H b = some u → b = a ∧ ∃ o v, u = .frz o v) ∧ (H a ≠ none → K.lookup a = none) := by
    cases hk : K.lookup a with
    | some o =>
      have e := KX a o hk
      rw [ha] at e; cases e
      exact ⟨fun _ => none, .inr ⟨_, vs.toArray, _, hk, rfl, rfl, rfl, by rw [List.size_toArray, hi.length]; exact hl, by simpa using rv⟩, fun b u z => (by cases (show (none : Option HO) = some u from z)), fun b u z => (by cases (show (none : Option HO) = some u from z)), fun z => absurd rfl z⟩
    | none =>
      refine ⟨fun b => if b = a then some (.frz { cls := .type "list", data := .seq vs.toArray } (.lst (ns.map V.int))) else none, .inl ⟨_, if_pos rfl⟩, fun b u z => ?_, fun b u z => ?_, fun _ => rfl⟩
      · by_cases e : b = a
        · cases (if_pos e).symm.trans z
          subst e
          exact ⟨ha, (by rw [List.length_map]; exact hl), vs, _, rv, ha⟩
        · cases (if_neg e).symm.trans z
      · by_cases e : b = a
        · cases (if_pos e).symm.trans z
          exact ⟨e, _, _, rfl⟩
        · cases (if_neg e).symm.trans z
  have noD : ∀ {b : Addr} {o : Obj} {es : Array DictEntry} {ep : Nat}, s1.heap.get? b = some o → o.data = .dict es ep → H b = none := fun {b o es ep} e d => by
    cases q : H b with
    | none => rfl
    | some u =>
      obtain ⟨e', _⟩ := only b u q
      subst e'
      rw [ha] at e; cases e
      cases (show Data.seq vs.toArray _ = Data.dict es ep from d)
  have ns_ : ∀ {b : Addr} {m : Str → Option Value}, s1.heap.Ns b m → (hidT s1.heap H).Ns b m := fun {b m} ⟨o, es, ep, e, d, r⟩ => ⟨o, es, ep, hidT_get e (noD e d), d, r⟩
  have kb : K.In (hidT s1.heap H) := fun b o e => hidT_get (KX b o e) (by
    cases q : H b with
    | none => rfl
    | some u =>
      obtain ⟨e', _⟩ := only b u q
      subst e'
      rw [offK (by rw [q]; simp)] at e; cases e)
  have M : Mod K mg (hidT s1.heap H) := ⟨kb, ns_ hns, ⟨mb, ns_ hb, hbb⟩, let ⟨mc, h1, h2⟩ := hlim; ⟨mc, ns_ h1, h2⟩⟩
  have e0 : Env0 P w K mg (hidT s1.heap H) callerA [] s1 H := ⟨rfl, M, fun b o e => of_hidT e, Nat.le_of_eq (hidT_size _ _), trivial, fun b hb => absurd (show b ∈ ([] : List Addr) from hb) (by simp), hok, .of_eq hg⟩
  have sp : spF K Ft [.ref a] H (fun v _ => v = .bl true) (fun _ _ _ => False) := by
    refine ⟨_, fun _ => 0, .cons (.vl (.lst frz (RDs.ints ns))) (.nil (f := fun _ => 0) fun _ => rfl) fun _ => rfl, fun _ => Nat.zero_le _, ?_⟩
    rw [hF]
    exact fun v H' g h r _ _ _ => r.bl
  refine codeAny_mono ((F _ kb (ns_ hns)).run callerA [] s1 H ⟨[.ref a], []⟩ [.ref a] [.ref a] _ _ hr e0 (hbind s1 (.ref a)) (.cons rfl .nil) sp) fun r s' h => ?_
  cases r with
  | error e =>
    obtain ⟨_, _, _, _, _, _, _, _, _, _, _, _, z⟩ := (show L2.CX P w [] H s1 (fun _ _ _ => False) e s' from h)
    exact z.elim
  | ok fl =>
    cases fl with
    | next => exact False.elim h
    | brk => exact False.elim h
    | cont => exact False.elim h
    | ret u =>
      obtain ⟨v, H', so, bare, un, hok', r', q⟩ := h
      have q : v = .bl true := q
      subst q
      obtain rfl : u = .bool true := r'
      refine ⟨rfl, OldK.of_keep fun b o e => ?_, so, bare⟩
      cases q : H b with
      | none => exact un.keep b o e q (fun z => absurd (show b ∈ ([] : List Addr) from z) (by simp)) (by simp)
      | some u =>
        obtain ⟨_, ob, xs, z⟩ := only b u q
        subst z
        obtain ⟨e1, _⟩ := hok b _ q
        obtain ⟨e2, _⟩ := hok' b _ (un.frzs b ob _ q)
        rw [e] at e1; cases e1
        exact e2
/-- what the head leaves, from the law's function -/
theorem walkG {l : PySem.W.OpenLaw} {n k : Nat} {q : Program} {loose : List Str} {XP : (Str → Option Value) → Heap → Prop} {YP : World → Heap → Prop} {d : DefRec} {K : Params → PySem.W.Frag} {x : Str}
    (hn : l.most = some n) (hn2 : n ≤ sizeLine) (hdf : d.params.defaults = []) (hr : Rm k callerA) (hY : ∀ (w : World) (h : Heap), YP w h → (K w.params).In h)
    (F : ∀ (w : World) (mg : Str → Option Value) (fa : Addr) (h : Heap), (K w.params).In h → h.Ns mainGlobals mg → mg d.name = some (.ref fa) →
      ∃ (fd : FuncData) (Ft : Fn), (∀ (s : Shared) (u : Value), BindsTo s fd ⟨[u], []⟩ [(x, u)]) ∧ (∀ base : Heap, (K w.params).In base → base.Ns mainGlobals mg → FnG l.prog w (K w.params) mg base k fa fd [x] (spF (K w.params) Ft)) ∧
        ∀ ns : List Int, ns.length ≤ n → ∃ ps, Ft [.val (.lst (ns.map D.int))] = .ok (.val (.bl true)) ps) :
    PySem.W.WalkO q loose XP YP l.row.toRowW d [] (fun f us => PySem.call f us) := by
  refine Att.attach_call hn hdf fun w s0 s₁ mg mb fa o pm cd doc a vs ns G Y ho hd hcd hmg hobj hints hlen hg => ?_
  obtain ⟨fd, Ft, hb, hF, hp⟩ := F w mg fa _ (hY w _ Y) G.T.g hmg
  obtain ⟨ps, e⟩ := hp ns hlen
  exact lawG (hY w _ Y) G.T.g G.T.b G.T.builtins G.T.nolimit hg hobj hints (Nat.le_trans hlen hn2) hr hF hb e
/-! ### names for what the generator prints -/
def pxC (d : D) : PxF := fun _ _ => some d
def paNil : Addr → List (Str × D) → Option (List D) := fun _ _ => some []
def paCons (px : PxF) (pa : Addr → List (Str × D) → Option (List D)) : Addr → List (Str × D) → Option (List D) := fun C xs => (px C xs).bind fun d => (pa C xs).map (d :: ·)
def pxTup (pa : Addr → List (Str × D) → Option (List D)) : PxF := fun C xs => (pa C xs).bind fun ds => if ds.length ≤ sizeLine then some (.tup ds) else none
def pxIf (pb : Addr → Option Bool) (px py : PxF) : PxF := fun C xs => (pb C).bind fun t => if t = true then px C xs else py C xs
def pbIs (m : List (Addr × Bool)) : Addr → Option Bool := fun C => m.lookup C
def pbAnd (b c : Addr → Option Bool) : Addr → Option Bool := fun C => (b C).bind fun t => if t = true then c C else some false
def suRet (px : PxF) : SuF := fun C xs σ => match px C xs with
  | some d => .rt (.val d) σ
  | none => .stuck
def suSet (j : Nat) (px : PxF) : SuF := fun C xs σ => match px C xs with
  | some d => .nx (σ.set j (some (.val d)))
  | none => .stuck
/-- a while's turns are at most what stands in the slot i -/
def fuelI (i : Nat) : S → Nat := fun σ => match look σ i with
  | some (.val (.int j)) => j.natAbs + 1
  | _ => 0
/-- an own error class that is made by super().__init__ -/
def SupEx (P : Program) (K : PySem.W.Frag) (mg : Str → Option Value) (C : Addr) (ps : List Str) : Prop := ∃ st D' fI, PySem.DLX.SupTxt P K mg st C D' fI ps
theorem ds_raiseX {X : Cx} {C : Addr} {ps : List Str} {ϖ : Pend} {W : WX} {kp : Nat → Bool} {e : Expr} {es : List Expr} {x : Str} {As : S → R (List G)} {p pos pos2 : Pos} {k : Nat} (hc : X.calm = true) (T : SupEx X.prog X.K X.mg C ps) (gC : X.mg x = some (.ref C)) (hps : ps ≠ []) (hnd : (("self" : Str) :: ps).Nodup) (hne : ∀ p ∈ ps, (p == ("__debug__" : Str)) = false) (hlen : ps.length ≤ 100) (hr : Rm k X.A) (tk : Takes X W) (ha : DGs X ϖ W (e :: es) As) (hg : Gl X x)
    (hdb : (x == ("__debug__" : Str)) = false := by decide) (he : starEach (e :: es) X.env = (false, eval e X.env) :: starEach es X.env := by rfl) (hpl : (backTo pos (starEach es X.env)).any (·.1) = false := by rfl) : DS X ϖ W kp (.Raise (some (.Call (.Name x p) (e :: es) [] pos)) none pos2) (sRaise C ps As) := by
  obtain ⟨st, D', fI, T⟩ := T
  exact ds_raise hc T gC hps hnd hne hlen hr.rm tk ha hg hdb he hpl
theorem rm_caller {k : Nat} (h : k ≤ 20 := by decide) : Rm k callerA := ⟨Room.mono ⟨rfl, by decide, by decide⟩ h, rfl⟩
end DL

set_option Elab.async false
set_option linter.all false
set_option maxRecDepth 100000
set_option maxHeartbeats 4200000
set_option exponentiation.threshold 10000
/-! DLQ: how the functions are evaluated. -/
namespace DL
open PySem PySem.Spec PyProof.Rows L2
section
variable {α β : Type} {i j n : Nat} {d : D} {F C : S → R T} {A B : S → R G} {As : S → R (List G)} {P Q : S → R Bool} {σ : S} {o o' : T → T → Option T} {g1 g2 : S → O} {x y : G} {t : T}
@[simp] theorem q_eV : eV F σ = (F σ).bind fun t σ' => match t.fz with
  | some d => .ok (.val d) σ'
  | none => .stuck := rfl
@[simp] theorem q_eN : eN i σ = match σ[i]? with
  | some (some t) => (match t.fz with
    | some d => .ok (.val d) (σ.set i (some (.val d)))
    | none => .stuck)
  | _ => .stuck := rfl
@[simp] theorem q_eM : eM i σ = match σ[i]? with
  | some (some (.val d)) => .ok (.val d) σ
  | some (some t) => .ok t (σ.set i none)
  | _ => .stuck := rfl
@[simp] theorem q_fzv : (T.val d).fz = some d := rfl
@[simp] theorem q_fzl {xs : List D} : (T.lst xs).fz = some (.lst xs) := rfl
@[simp] theorem q_eC : eC d σ = .ok (.val d) σ := rfl
@[simp] theorem q_gN : gN i σ = match σ[i]? with
  | some (some _) => .ok (.inl i) σ
  | _ => .stuck := rfl
@[simp] theorem q_gE : gE F σ = (F σ).bind fun t σ1 => .ok (.inr t) σ1 := rfl
@[simp] theorem q_gNil : gNil σ = .ok [] σ := rfl
@[simp] theorem q_gCons : gCons A As σ = (A σ).bind fun x σ1 => (As σ1).bind fun xs σ2 => .ok (x :: xs) σ2 := rfl
@[simp] theorem q_rdl : rdG (.inl i) σ = (σ[i]?).join := by
  show look σ i = _
  unfold look
  cases σ[i]? <;> rfl
@[simp] theorem q_look : look σ i = (σ[i]?).join := by
  unfold look
  cases σ[i]? <;> rfl
@[simp] theorem q_rdr : rdG (.inr t) σ = some t := rfl
@[simp] theorem q_rds0 : rds [] σ = some [] := rfl
@[simp] theorem q_rds {xs : List G} : rds (x :: xs) σ = match rdG x σ, rds xs σ with
  | some t, some ts => some (t :: ts)
  | _, _ => none := rfl
@[simp] theorem q_lift : lift (some t) σ = .ok t σ := rfl
@[simp] theorem q_lift0 : lift none σ = .stuck := rfl
@[simp] theorem q_op1 {o : T → Option T} : op1 o x σ = match rdG x σ with
  | some t => lift (o t) σ
  | _ => .stuck := rfl
@[simp] theorem q_op2 : op2 o x y σ = match rdG x σ, rdG y σ with
  | some t, some u => lift (o t u) σ
  | _, _ => .stuck := rfl
@[simp] theorem q_opL {o : List T → Option T} {xs : List G} : opL o xs σ = match rds xs σ with
  | some ts => lift (o ts) σ
  | _ => .stuck := rfl
@[simp] theorem q_eB : eB o A B σ = (A σ).bind fun x σ1 => (B σ1).bind fun y σ2 => op2 o x y σ2 := rfl
@[simp] theorem q_eU {o : T → Option T} : eU o A σ = (A σ).bind fun x σ1 => op1 o x σ1 := rfl
@[simp] theorem q_eCB {o : List T → Option T} : eCB o As σ = (As σ).bind fun xs σ1 => opL o xs σ1 := rfl
@[simp] theorem q_eCh {Z : S → R G} : eCh o o' A B Z σ = (A σ).bind fun x σ1 => (B σ1).bind fun y σ2 => (op2 o x y σ2).bind fun z σ3 => match z with
  | .val (.bl true) => (Z σ3).bind fun u σ4 => op2 o' y u σ4
  | .val (.bl false) => .ok (.val (.bl false)) σ3
  | _ => .stuck := rfl
@[simp] theorem q_tst {b : Bool} : tst (.val (.bl b)) σ = .ok b σ := rfl
@[simp] theorem q_bV : bV F σ = (F σ).bind tst := rfl
@[simp] theorem q_bT : bT A σ = (A σ).bind tru := rfl
@[simp] theorem q_tru : tru x σ = match rdG x σ with
  | some t => (match truT t with
    | some b => .ok b σ
    | none => .stuck)
  | none => .stuck := rfl
@[simp] theorem q_bNot : bNot P σ = (P σ).bind fun b σ1 => .ok (!b) σ1 := rfl
@[simp] theorem q_bAnd : bAnd P Q σ = (P σ).bind fun b σ1 => if b = true then Q σ1 else .ok false σ1 := rfl
@[simp] theorem q_bOr : bOr P Q σ = (P σ).bind fun b σ1 => if b = true then .ok true σ1 else Q σ1 := rfl
@[simp] theorem q_eAnd : eAnd F C σ = (F σ).bind fun t σ1 => match t with
  | .val (.bl true) => C σ1
  | .val (.bl false) => .ok (.val (.bl false)) σ1
  | _ => .stuck := rfl
@[simp] theorem q_eOr : eOr F C σ = (F σ).bind fun t σ1 => match t with
  | .val (.bl true) => .ok (.val (.bl true)) σ1
  | .val (.bl false) => C σ1
  | _ => .stuck := rfl
@[simp] theorem q_eNot : eNot F σ = (F σ).bind fun t σ1 => match t with
  | .val (.bl b) => .ok (.val (.bl (!b))) σ1
  | _ => .stuck := rfl
@[simp] theorem q_eIf : eIf P F C σ = (P σ).bind fun b σ1 => if b = true then F σ1 else C σ1 := rfl
@[simp] theorem q_sNx : sNx σ = .nx σ := rfl
@[simp] theorem q_sAsg : sAsg i F σ = (F σ).then fun t σ1 => .nx (σ1.set i (some t)) := rfl
@[simp] theorem q_sExpr : sExpr F σ = (F σ).then fun _ σ1 => .nx σ1 := rfl
@[simp] theorem q_sRet : sRet F σ = (F σ).then fun t σ1 => .rt t σ1 := rfl
@[simp] theorem q_sIf : sIf P g1 g2 σ = (P σ).then fun b σ1 => if b = true then g1 σ1 else g2 σ1 := rfl
@[simp] theorem q_sSeq : sSeq g1 g2 σ = match g1 σ with
  | .nx σ' => g2 σ'
  | o => o := rfl
@[simp] theorem q_sPar : sPar i j As σ = (As σ).then fun xs σ1 => match rds xs σ1 with
  | some ts => (match vals? ts with
    | some [d, d'] => .nx ((σ1.set i (some (.val d))).set j (some (.val d')))
    | _ => .stuck)
  | none => .stuck := rfl
@[simp] theorem q_v0 : vals? [] = some [] := rfl
@[simp] theorem q_v1 {r : List T} : vals? (.val d :: r) = (vals? r).map (d :: ·) := rfl
@[simp] theorem q_iG {o : List T → Option (List D)} : iG o As σ = (As σ).bind fun xs σ1 => match rds xs σ1 with
  | some ts => (match o ts with
    | some ds => .ok ds σ1
    | none => .stuck)
  | none => .stuck := rfl
@[simp] theorem q_iSeq : iSeq F σ = (F σ).bind fun t σ1 => match t with
  | .val d => (match d.items with
    | some ds => .ok ds σ1
    | none => .stuck)
  | _ => .stuck := rfl
@[simp] theorem q_sFor {I : S → R (List D)} {Tg : D → S → Option S} {gb : S → O} : sFor I Tg gb σ = (I σ).then fun ds σ1 => loopO Tg gb ds σ1 := rfl
@[simp] theorem q_tgN : tgN i d σ = some (σ.set i (some (.val d))) := rfl
@[simp] theorem q_eIs {ty : String} : eIs ty A σ = (A σ).bind fun x σ1 => match rdG x σ1 with
  | some t => .ok (.val (.bl (isTy ty t.ty))) σ1
  | none => .stuck := rfl
@[simp] theorem q_eApp : eApp i F σ = match look σ i with
  | some (.lst _) => (eV F σ).bind fun t σ1 => (match t, look σ1 i with
    | .val d, some u => (match appT u d with
      | some u' => .ok (.val .non) (σ1.set i (some u'))
      | none => .stuck)
    | _, _ => .stuck)
  | _ => .stuck := rfl
@[simp] theorem q_sSub {J : S → R T} : sSub i J F σ = (eV F σ).then fun t σ1 => match t, look σ1 i with
  | .val d, some (.lst _) => (J σ1).then fun k σ2 => (match k, look σ2 i with
    | .val (.int k), some u => (match setT u k d with
      | some u' => .nx (σ2.set i (some u'))
      | none => .stuck)
    | _, _ => .stuck)
  | _, _ => .stuck := rfl
@[simp] theorem q_oNo : oNo σ = .ok none σ := rfl
@[simp] theorem q_oSo : oSo F σ = (F σ).bind fun t σ1 => match t with
  | .val (.int i) => .ok (some i) σ1
  | _ => .stuck := rfl
@[simp] theorem q_held1 : heldG (.inl i) = true := rfl
@[simp] theorem q_held2 : heldG (.inr (.val d)) = true := rfl
@[simp] theorem q_eSl {L U : S → R (Option Int)} : eSl A L U σ = (A σ).bind fun x σ1 => if heldG x = true then (L σ1).bind fun l σ2 => (U σ2).bind fun u σ3 => match rdG x σ3 with
    | some t => lift (slT t l u) σ3
    | none => .stuck
  else .stuck := rfl
@[simp] theorem q_bYes : bYes σ = .ok true σ := rfl
@[simp] theorem q_tk0 : takeG [] σ = some ([], σ) := rfl
@[simp] theorem q_tk1 {r : List G} : takeG (.inr t :: r) σ = (takeG r σ).map fun q => (t :: q.1, q.2) := rfl
@[simp] theorem q_tk2 {r : List G} : takeG (.inl i :: r) σ = match look σ i with
  | some (.val d) => (takeG r σ).map fun q => (.val d :: q.1, q.2)
  | some t => (takeG r (σ.set i none)).map fun q => (t :: q.1, q.2)
  | none => none := rfl
@[simp] theorem q_bk1 {r : List G} {ps : S} : backG (.inl i :: r) (some t :: ps) σ = match σ[i]? with
  | some none => backG r ps (σ.set i (some t))
  | _ => backG r ps σ := rfl
@[simp] theorem q_bk2 {r : List G} {ps : S} {u : Option T} : backG (.inr t :: r) (u :: ps) σ = backG r ps σ := by cases u <;> rfl
@[simp] theorem q_bk3 {r : List G} {ps : S} : backG (.inl i :: r) (none :: ps) σ = backG r ps σ := rfl
@[simp] theorem q_bk4 {ps : S} : backG [] ps σ = σ := by cases ps <;> rfl
@[simp] theorem q_bk5 {r : List G} : backG r [] σ = σ := by
  cases r with
  | nil => rfl
  | cons h t => cases h <;> rfl
@[simp] theorem q_callF {Ft : Fn} {xs : List G} : callF Ft xs σ = match takeG xs σ with
  | none => .stuck
  | some (ts, σ1) => match Ft ts with
    | .ok t ps => .ok t (backG xs ps σ1)
    | .exc C ys ps => .exc C ys (backG xs ps σ1)
    | .stuck => .stuck := rfl
@[simp] theorem q_eCall {Ft : Fn} : eCall Ft As σ = (As σ).bind fun xs σ1 => callF Ft xs σ1 := rfl
@[simp] theorem oAdd_i (i j : Int) : oAdd (.val (.int i)) (.val (.int j)) = some (.val (.int (i + j))) := rfl
@[simp] theorem oSub_i (i j : Int) : oSub (.val (.int i)) (.val (.int j)) = some (.val (.int (i - j))) := rfl
@[simp] theorem oNeg_i (i : Int) : oNeg (.val (.int i)) = some (.val (.int (-i))) := rfl
theorem oMul_i {i j : Int} (h : mulOk i j = true) : oMul (.val (.int i)) (.val (.int j)) = some (.val (.int (i * j))) := by simp [oMul, oOr, oInt, h]
theorem oMod_i {i j : Int} (h : j ≠ 0) : oMod (.val (.int i)) (.val (.int j)) = some (.val (.int (i.fmod j))) := by simp [oMod, oInt, h]
theorem oDiv_i {i j : Int} (h : divOk i j = true) : oDiv (.val (.int i)) (.val (.int j)) = some (.val (.int (i.fdiv j))) := by simp [oDiv, oInt, h]
@[simp] theorem oLt_i (i j : Int) : oLt (.val (.int i)) (.val (.int j)) = some (.val (.bl (decide (i < j)))) := rfl
@[simp] theorem oLe_i (i j : Int) : oLe (.val (.int i)) (.val (.int j)) = some (.val (.bl (decide (i ≤ j)))) := rfl
@[simp] theorem oGt_i (i j : Int) : oGt (.val (.int i)) (.val (.int j)) = some (.val (.bl (decide (j < i)))) := rfl
@[simp] theorem oGe_i (i j : Int) : oGe (.val (.int i)) (.val (.int j)) = some (.val (.bl (decide (j ≤ i)))) := rfl
@[simp] theorem oInt_i (i : Int) : oInt1 [.val (.int i)] = some (.val (.int i)) := rfl
@[simp] theorem oAbs_i (i : Int) : oAbs [.val (.int i)] = some (.val (.int (if i < 0 then -i else i))) := rfl
@[simp] theorem oLen_l {xs : List D} : oLen [.lst xs] = some (.val (.int xs.length)) := rfl
@[simp] theorem oLen_f {xs : List D} : oLen [.val (.lst xs)] = some (.val (.int xs.length)) := rfl
@[simp] theorem oLen_t {xs : List D} : oLen [.val (.tup xs)] = some (.val (.int xs.length)) := rfl
@[simp] theorem oEq_i (i j : Int) : oEq (.val (.int i)) (.val (.int j)) = some (.val (.bl (decide (i = j)))) := by
  have : D.eqv (.int i) (.int j) = decide (i = j) := by
    show PyData.eqv (.int i) (.int j) = _
    unfold PyData.eqv
    first | rfl | (simp [PyData.num?]; done) | simp
  have hd : min (D.int i).dep (D.int j).dep ≤ 63 := Nat.le_trans (Nat.min_le_left _ _) (by show PyData.depth _ ≤ 63; simp [D.py, PyData.depth])
  simp only [oEq, if_pos hd, this]
@[simp] theorem oNe_i (i j : Int) : oNe (.val (.int i)) (.val (.int j)) = some (.val (.bl (!decide (i = j)))) := by
  have : D.eqv (.int i) (.int j) = decide (i = j) := by
    show PyData.eqv (.int i) (.int j) = _
    unfold PyData.eqv
    first | rfl | (simp [PyData.num?]; done) | simp
  have hd : min (D.int i).dep (D.int j).dep ≤ 63 := Nat.le_trans (Nat.min_le_left _ _) (by show PyData.depth _ ≤ 63; simp [D.py, PyData.depth])
  simp only [oNe, if_pos hd, this]
end
theorem atI_int {ds : List Int} {i : Int} (h0 : 0 ≤ i) (h1 : i < ds.length) : ∃ d ∈ ds, atI (ds.map D.int) i = some (.int d) := by
  have hj : i.toNat < ds.length := by omega
  refine ⟨ds[i.toNat], List.getElem_mem _, ?_⟩
  unfold atI ixN
  rw [List.length_map, if_pos h0, if_pos h1]
  simp [hj]
theorem log2_le {i : Int} {n : Nat} (h : i.natAbs < 2 ^ n) (hn : 0 < n) : i.natAbs.log2 < n := by
  by_cases z : i.natAbs = 0
  · rw [z]; simpa using hn
  · exact (Nat.log2_lt z).mpr h
theorem mul_ok {i j : Int} (h1 : i.natAbs < 2 ^ 4000) (h2 : j.natAbs < 2 ^ 4000) : mulOk i j = true := by
  have a := log2_le h1 (by decide)
  have b := log2_le h2 (by decide)
  exact decide_eq_true (show _ < _ by omega)
theorem div_ok {i j : Int} (h0 : j ≠ 0) (h2 : j.natAbs < 2 ^ 4000) : divOk i j = true := by
  have b := log2_le h2 (by decide)
  exact decide_eq_true ⟨h0, by omega⟩
theorem sm_ok {i : Int} (h0 : -(2 ^ 64) ≤ i) (h1 : i ≤ 2 ^ 64) : i.natAbs < 2 ^ 4000 := Nat.lt_of_le_of_lt (by omega : i.natAbs ≤ 2 ^ 64) (Nat.pow_lt_pow_right (by decide) (by decide))
theorem loop_inv {G : D → S → Option S} {body : S → O} {Inv : Nat → S → Prop} : ∀ (ds : List D) (σ : S), (∀ i d σ, ds[i]? = some d → Inv i σ → ∃ σ1, G d σ = some σ1 ∧ ∃ σ2, (body σ1 = .nx σ2 ∨ body σ1 = .ct σ2) ∧ Inv (i + 1) σ2) → Inv 0 σ →
    ∃ σ', loopO G body ds σ = .nx σ' ∧ Inv ds.length σ' := by
  intro ds
  induction ds generalizing Inv with
  | nil => exact fun σ _ h0 => ⟨σ, rfl, h0⟩
  | cons d ds ih =>
    intro σ hs h0
    obtain ⟨σ1, e1, σ2, e2, h1⟩ := hs 0 d σ rfl h0
    obtain ⟨σ3, e3, h3⟩ := ih (Inv := fun i => Inv (i + 1)) σ2 (fun i d σ e h => hs (i + 1) d σ (by simpa using e) h) h1
    refine ⟨σ3, ?_, h3⟩
    unfold loopO
    rw [e1]
    rcases e2 with e2 | e2 <;> (simp only [e2]; exact e3)
theorem fmod_pos {a b : Int} (h : 0 < b) : 0 ≤ a.fmod b ∧ a.fmod b < b := ⟨Int.fmod_nonneg_of_pos a h, Int.fmod_lt_of_pos a h⟩
/-! ### a def's answer -/
def GO (kp : Nat → Bool) (ts : List T) (P : T → S → Prop) : O → Prop
  | .rt t σ => P t (msk kp 0 ts σ)
  | .nx σ => P (.val .non) (msk kp 0 ts σ)
  | _ => False
theorem gives {n N : Nat} {kp : Nat → Bool} {g : S → O} {ts : List T} {P : T → S → Prop} (hl : ts.length = n) (h : GO kp ts P (g (strt N ts))) : ∃ t ps, mkFn n N kp g ts = .ok t ps ∧ P t ps := by
  unfold mkFn
  rw [if_pos hl]
  cases e : g (strt N ts) with
  | rt t σ => rw [e] at h; exact ⟨_, _, rfl, h⟩
  | nx σ => rw [e] at h; exact ⟨_, _, rfl, h⟩
  | _ => rw [e] at h; exact h.elim
theorem seq_nx {P : O → Prop} {g1 g2 : S → O} {σ σ' : S} (h : g1 σ = .nx σ') (k : P (g2 σ')) : P (sSeq g1 g2 σ) := by unfold sSeq; rw [h]; exact k
theorem go_rt {kp : Nat → Bool} {ts : List T} {P : T → S → Prop} {o : O} {t : T} {σ : S} (h : o = .rt t σ) (k : P t (msk kp 0 ts σ)) : GO kp ts P o := by rw [h]; exact k
/-- a loop whose turns all go through -/
theorem for_nx {I : S → R (List D)} {Tg : D → S → Option S} {gb : S → O} {σ σ1 : S} {ds : List D} {Inv : Nat → S → Prop} (hI : I σ = .ok ds σ1) (h0 : Inv 0 σ1)
    (hs : ∀ i d σ, ds[i]? = some d → Inv i σ → ∃ σ1, Tg d σ = some σ1 ∧ ∃ σ2, (gb σ1 = .nx σ2 ∨ gb σ1 = .ct σ2) ∧ Inv (i + 1) σ2) : ∃ σ', sFor I Tg gb σ = .nx σ' ∧ Inv ds.length σ' := by
  obtain ⟨σ', e, h⟩ := loop_inv (G := Tg) (body := gb) ds σ1 hs h0
  exact ⟨σ', by unfold sFor; rw [hI]; exact e, h⟩
theorem seq_for {P : O → Prop} {I : S → R (List D)} {Tg : D → S → Option S} {gb g2 : S → O} {σ σ1 : S} {ds : List D} {Inv : Nat → S → Prop} (hI : I σ = .ok ds σ1) (h0 : Inv 0 σ1)
    (hs : ∀ i d σ, ds[i]? = some d → Inv i σ → ∃ σ1, Tg d σ = some σ1 ∧ ∃ σ2, (gb σ1 = .nx σ2 ∨ gb σ1 = .ct σ2) ∧ Inv (i + 1) σ2) (k : ∀ σ', Inv ds.length σ' → P (g2 σ')) : P (sSeq (sFor I Tg gb) g2 σ) := by
  obtain ⟨σ', e, h⟩ := for_nx hI h0 hs
  exact seq_nx e (k σ' h)
theorem iota_at {lo : Int} {n i : Nat} {d : D} (h : (iota lo n)[i]? = some d) : i < n ∧ d = .int (lo + i) := by
  have hi : i < n := by
    have := (List.getElem?_eq_some_iff.mp h).1
    rwa [iota_len] at this
  rw [iota_get lo n i hi] at h
  exact ⟨hi, (Option.some.inj h).symm⟩
end DL

set_option Elab.async false
set_option linter.all false
set_option maxRecDepth 100000
set_option maxHeartbeats 4200000
set_option exponentiation.threshold 10000
/-! DLP: the part that all the laws begin with: drawing. -/
namespace DL
open PySem PySem.Spec PyProof.Rows L2
def f__law_draws : S → O :=
  sSeq (sAsg 1 (eCB oLst (gNil)))
  (sSeq (sFor (iSeq (eV (eSl (gN 0) (oNo) (oSo (eC (.int 63)))))) (tgN 2) (sSeq (sAsg 3 (eCB oAbs (gCons (gN 2) (gNil))))
  (sIf (bV (eB oGe (gN 3) (gE (eB oPow (gE (eC (.int 10))) (gE (eC (.int 18))))))) (sFor (iG iRg1 (gCons (gE (eC (.int 60))) (gNil))) (tgN 4) (sIf (bV (eB oGt (gN 3) (gE (eC (.int 0))))) (sSeq (sExpr (eApp 1 (eB oMod (gE (eCB oInt1 (gCons (gN 3) (gNil)))) (gE (eC (.int 1009))))))
  (sAsg 3 (eB oDiv (gN 3) (gE (eC (.int 1009)))))) (sNx))) (sSeq (sAsg 5 (eB oMod (gE (eCB oInt1 (gCons (gE (eB oAdd (gE (eB oMul (gN 3) (gE (eC (.int 48271))))) (gE (eC (.int 11))))) (gNil)))) (gE (eC (.int 2147483647)))))
  (sFor (iG iRg1 (gCons (gE (eC (.int 12))) (gNil))) (tgN 4) (sSeq (sAsg 5 (eB oMod (gE (eCB oInt1 (gCons (gE (eB oAdd (gE (eB oAdd (gE (eB oMul (gN 5) (gE (eC (.int 16807))))) (gE (eB oMul (gE (eC (.int 69621))) (gN 4))))) (gE (eC (.int 5))))) (gNil)))) (gE (eC (.int 2147483629)))))
  (sExpr (eApp 1 (eB oDiv (gN 5) (gE (eC (.int 1009))))))))))))
  (sRet (eM 1)))
def kp__law_draws : Nat → Bool := fun i => ([0] : List Nat).contains i
def F__law_draws : Fn := mkFn 1 6 kp__law_draws (f__law_draws)
def f__law_more : S → O :=
  sSeq (sAsg 2 (eB oMod (gE (eCB oInt1 (gCons (gE (eB oAdd (gE (eB oAdd (gE (eB oMul (gN 1) (gE (eC (.int 48271))))) (gE (eCB oLen (gCons (gN 0) (gNil)))))) (gE (eC (.int 11))))) (gNil)))) (gE (eC (.int 2147483629)))))
  (sSeq (sFor (iG iRg1 (gCons (gE (eC (.int 3))) (gNil))) (tgN 3) (sSeq (sIf (bT (gN 0)) (sAsg 2 (eB oAdd (gN 2) (gE (eB oIx (gN 0) (gE (eB oMod (gE (eCB oInt1 (gCons (gE (eB oAdd (gE (eB oMul (gN 1) (gE (eB oAdd (gN 3) (gE (eC (.int 5))))))) (gN 3))) (gNil)))) (gE (eCB oLen (gCons (gN 0) (gNil)))))))))) (sNx))
  (sAsg 2 (eB oMod (gE (eCB oInt1 (gCons (gE (eB oAdd (gE (eB oAdd (gE (eB oMul (gN 2) (gE (eC (.int 16807))))) (gE (eB oMul (gE (eC (.int 69621))) (gN 3))))) (gE (eC (.int 5))))) (gNil)))) (gE (eC (.int 2147483629)))))))
  (sRet (eB oDiv (gN 2) (gE (eC (.int 1009))))))
def kp__law_more : Nat → Bool := fun i => ([0, 1] : List Nat).contains i
def F__law_more : Fn := mkFn 2 4 kp__law_more (f__law_more)
def f__law_take : S → O :=
  sSeq (sAsg 3 (eB oIx (gN 1) (gE (eC (.int 0)))))
  (sSeq (sSub 1 (eC (.int 0)) (eB oAdd (gN 3) (gE (eC (.int 1)))))
  (sRet (eB oMod (gE (eCB oInt1 (gCons (gE (eIf (bV (eB oLt (gN 3) (gE (eCB oLen (gCons (gN 0) (gNil)))))) (eB oIx (gN 0) (gN 3)) (eCall F__law_more (gCons (gN 0) (gCons (gN 3) (gNil)))))) (gNil)))) (gN 2))))
def kp__law_take : Nat → Bool := fun i => ([0, 1, 2] : List Nat).contains i
def F__law_take : Fn := mkFn 3 4 kp__law_take (f__law_take)
def f__law_one : S → O :=
  sRet (eB oIx (gN 0) (gE (eCall F__law_take (gCons (gN 1) (gCons (gN 2) (gCons (gE (eCB oLen (gCons (gN 0) (gNil)))) (gNil)))))))
def kp__law_one : Nat → Bool := fun i => ([0, 1, 2] : List Nat).contains i
def F__law_one : Fn := mkFn 3 3 kp__law_one (f__law_one)
/-- draws that are small -/
def Small (ds : List Int) : Prop := ∀ d ∈ ds, 0 ≤ d ∧ d < 2147483648
theorem p_more {ds : List Int} {p : Int} (hd : Small ds) (h0 : 0 ≤ p) (h1 : p < 1000000) (hl : ds.length < 1000000) : ∃ t ps, F__law_more [.lst (ds.map .int), .val (.int p)] = .ok t ps ∧ ∃ r, t = .val (.int r) ∧ ps = [some (.lst (ds.map .int)), some (.val (.int p))] := by
  have m1 : mulOk p 48271 = true := mul_ok (sm_ok (by omega) (by omega)) (by decide)
  obtain ⟨b0, b1⟩ := fmod_pos (a := p * 48271 + ds.length + 11) (b := 2147483629) (by decide)
  unfold F__law_more f__law_more
  refine gives rfl ?_
  refine seq_nx (σ' := [some (.lst (ds.map .int)), some (.val (.int p)), some (.val (.int ((p * 48271 + ds.length + 11).fmod 2147483629))), none]) (by simp [strt, oMul_i m1, oMod_i]) ?_
  refine seq_for (ds := iota 0 3) (σ1 := [some (.lst (ds.map .int)), some (.val (.int p)), some (.val (.int ((p * 48271 + ds.length + 11).fmod 2147483629))), none])
    (Inv := fun _ σ => ∃ m o, 0 ≤ m ∧ m < 2147483629 ∧ σ = [some (.lst (ds.map .int)), some (.val (.int p)), some (.val (.int m)), o]) (by simp [iRg1, rngOk]) ⟨_, none, b0, b1, rfl⟩ ?_ ?_
  · rintro i d σ hi ⟨m, o, m0, m9, rfl⟩
    obtain ⟨hi, rfl⟩ := iota_at hi
    refine ⟨_, rfl, ?_⟩
    have fin : ∀ m', 0 ≤ m' → m' < 2 ^ 40 → ∃ σ2, ((sAsg 2 (eB oMod (gE (eCB oInt1 (gCons (gE (eB oAdd (gE (eB oAdd (gE (eB oMul (gN 2) (gE (eC (.int 16807))))) (gE (eB oMul (gE (eC (.int 69621))) (gN 3))))) (gE (eC (.int 5))))) (gNil)))) (gE (eC (.int 2147483629))))) [some (.lst (ds.map .int)), some (.val (.int p)), some (.val (.int m')), some (.val (.int (0 + i)))] = O.nx σ2) ∧ ∃ m o, 0 ≤ m ∧ m < 2147483629 ∧ σ2 = [some (.lst (ds.map .int)), some (.val (.int p)), some (.val (.int m)), o] := by
      intro m' a b
      have k1 : mulOk m' 16807 = true := mul_ok (sm_ok (by omega) (by omega)) (by decide)
      have k2 : mulOk 69621 i = true := mul_ok (by decide) (sm_ok (by omega) (by omega))
      obtain ⟨c0, c1⟩ := fmod_pos (a := m' * 16807 + 69621 * i + 5) (b := 2147483629) (by decide)
      exact ⟨[some (.lst (ds.map .int)), some (.val (.int p)), some (.val (.int ((m' * 16807 + 69621 * i + 5).fmod 2147483629))), some (.val (.int (0 + i)))], by simp [oMul_i k1, oMul_i k2, oMod_i], _, _, c0, c1, rfl⟩
    by_cases he : ds = []
    · subst he
      obtain ⟨σ2, e2, h2⟩ := fin m m0 (by omega)
      refine ⟨σ2, .inl (seq_nx (P := fun o => o = O.nx σ2) (σ' := [some (.lst (([] : List Int).map .int)), some (.val (.int p)), some (.val (.int m)), some (.val (.int (0 + i)))]) (by simp [truT]) e2), h2⟩
    · have hne : 0 < (ds.length : Int) := by
        have := List.length_pos_iff.mpr he
        omega
      have k3 : mulOk p (i + 5) = true := mul_ok (sm_ok (by omega) (by omega)) (sm_ok (by omega) (by omega))
      obtain ⟨q0, q1⟩ := fmod_pos (a := p * (i + 5) + i) hne
      obtain ⟨z, hz, ez⟩ := atI_int q0 q1
      obtain ⟨z0, z1⟩ := hd z hz
      obtain ⟨σ2, e2, h2⟩ := fin (m + z) (by omega) (by omega)
      have nl : (ds.length : Int) ≠ 0 := by omega
      refine ⟨σ2, .inl (seq_nx (P := fun o => o = O.nx σ2) (σ' := [some (.lst (ds.map .int)), some (.val (.int p)), some (.val (.int (m + z))), some (.val (.int (0 + i)))]) ?_ e2), h2⟩
      simp [truT, he, oMul_i k3, oMod_i nl, oIx, ez]
  · rintro σ' ⟨m, o, m0, m9, rfl⟩
    exact go_rt (t := .val (.int (m.fdiv 1009))) (σ := [some (.lst (ds.map .int)), some (.val (.int p)), some (.val (.int m)), o]) (by simp [oDiv_i (div_ok (by decide : (1009 : Int) ≠ 0) (by decide))]) ⟨_, rfl, rfl⟩
theorem p_take {ds : List Int} {p many : Int} (hd : Small ds) (h0 : 0 ≤ p) (h1 : p < 1000000) (hl : ds.length < 1000000) (hm : 0 < many) :
    ∃ r, 0 ≤ r ∧ r < many ∧ F__law_take [.lst (ds.map .int), .lst [.int p], .val (.int many)] = .ok (.val (.int r)) [some (.lst (ds.map .int)), some (.lst [.int (p + 1)]), some (.val (.int many))] := by
  have nm : many ≠ 0 := by omega
  have main : ∃ t ps, F__law_take [.lst (ds.map .int), .lst [.int p], .val (.int many)] = .ok t ps ∧ ∃ r, 0 ≤ r ∧ r < many ∧ t = .val (.int r) ∧ ps = [some (.lst (ds.map .int)), some (.lst [.int (p + 1)]), some (.val (.int many))] := by
    unfold F__law_take f__law_take
    refine gives rfl ?_
    refine seq_nx (σ' := [some (.lst (ds.map .int)), some (.lst [.int p]), some (.val (.int many)), some (.val (.int p))]) (by simp [strt, oIx, atI, ixN]) ?_
    refine seq_nx (σ' := [some (.lst (ds.map .int)), some (.lst [.int (p + 1)]), some (.val (.int many)), some (.val (.int p))]) (by simp [setT, ixN]) ?_
    by_cases hp : p < ds.length
    · obtain ⟨z, hz, ez⟩ := atI_int h0 hp
      obtain ⟨q0, q1⟩ := fmod_pos (a := z) hm
      exact go_rt (t := .val (.int (z.fmod many))) (σ := [some (.lst (ds.map .int)), some (.lst [.int (p + 1)]), some (.val (.int many)), some (.val (.int p))]) (by simp [hp, oIx, ez, oMod_i nm]) ⟨_, q0, q1, rfl, rfl⟩
    · obtain ⟨t, ps, e, r, rfl, rfl⟩ := p_more hd h0 h1 hl
      obtain ⟨q0, q1⟩ := fmod_pos (a := r) hm
      exact go_rt (t := .val (.int (r.fmod many))) (σ := [some (.lst (ds.map .int)), some (.lst [.int (p + 1)]), some (.val (.int many)), some (.val (.int p))]) (by simp [hp, e, oMod_i nm]) ⟨_, q0, q1, rfl, rfl⟩
  obtain ⟨t, ps, e, r, a, b, rfl, rfl⟩ := main
  exact ⟨r, a, b, e⟩
theorem atI_mem {xs : List D} {i : Int} (h0 : 0 ≤ i) (h1 : i < xs.length) : ∃ d ∈ xs, atI xs i = some d := by
  have hj : i.toNat < xs.length := by omega
  refine ⟨xs[i.toNat], List.getElem_mem _, ?_⟩
  unfold atI ixN
  rw [if_pos h0, if_pos h1]
  simp [hj]
theorem p_one {ds : List Int} {p : Int} {xs : List D} (hd : Small ds) (h0 : 0 ≤ p) (h1 : p < 1000000) (hl : ds.length < 1000000) (hx : xs ≠ []) :
    ∃ d ∈ xs, F__law_one [.lst xs, .lst (ds.map .int), .lst [.int p]] = .ok (.val d) [some (.lst xs), some (.lst (ds.map .int)), some (.lst [.int (p + 1)])] := by
  have hlen : 0 < (xs.length : Int) := by
    have := List.length_pos_iff.mpr hx
    omega
  obtain ⟨r, r0, r1, er⟩ := p_take hd h0 h1 hl hlen
  obtain ⟨d, hm, ed⟩ := atI_mem r0 r1
  refine ⟨d, hm, ?_⟩
  obtain ⟨t, ps, e, rfl, rfl⟩ : ∃ t ps, F__law_one [.lst xs, .lst (ds.map .int), .lst [.int p]] = .ok t ps ∧ t = .val d ∧ ps = [some (.lst xs), some (.lst (ds.map .int)), some (.lst [.int (p + 1)])] := by
    unfold F__law_one f__law_one
    refine gives rfl ?_
    exact go_rt (t := .val d) (σ := [some (.lst xs), some (.lst (ds.map .int)), some (.lst [.int (p + 1)])]) (by simp [strt, er, oIx, ed]) ⟨rfl, rfl⟩
  exact e
theorem cut_len {xs : List D} {n : Nat} : (cutD xs none (some (n : Int))).length ≤ n := by
  unfold cutD
  rw [HT.sIx_nat, HT.sIx_none]
  simp
  omega
theorem mem_cut {xs : List D} {lo hi : Option Int} {d : D} (h : d ∈ cutD xs lo hi) : d ∈ xs := List.mem_of_mem_drop (List.mem_of_mem_take h)
theorem p_draws (ns : List Int) : ∃ ds : List Int, Small ds ∧ ds.length < 1000000 ∧ ∃ ps, F__law_draws [.val (.lst (ns.map .int))] = .ok (.lst (ds.map .int)) ps ∧ ps = [some (.val (.lst (ns.map .int)))] := by
  have main : ∃ t ps, F__law_draws [.val (.lst (ns.map .int))] = .ok t ps ∧ ∃ ds : List Int, Small ds ∧ ds.length < 1000000 ∧ t = .lst (ds.map .int) ∧ ps = [some (.val (.lst (ns.map .int)))] := by
    unfold F__law_draws f__law_draws
    refine gives rfl ?_
    refine seq_nx (σ' := [some (.val (.lst (ns.map .int))), some (.lst []), none, none, none, none]) (by simp [strt, oLst]) ?_
    refine seq_for (ds := cutD (ns.map .int) none (some 63)) (σ1 := [some (.val (.lst (ns.map .int))), some (.lst []), none, none, none, none])
      (Inv := fun i σ => ∃ (ds : List Int) (a b c e : Option T), Small ds ∧ ds.length ≤ i * 60 ∧ σ = [some (.val (.lst (ns.map .int))), some (.lst (ds.map .int)), a, b, c, e]) (by simp [slT, D.items]) ⟨[], none, none, none, none, fun d h => (by cases h), Nat.zero_le _, rfl⟩ ?_ ?_
    · rintro i d σ hi ⟨ds, a, b, c, e, sm, ln, rfl⟩
      have hi63 : i < 63 := Nat.lt_of_lt_of_le (List.getElem?_eq_some_iff.mp hi).1 (cut_len (n := 63))
      obtain ⟨cell, _, rfl⟩ := List.mem_map.mp (mem_cut (List.mem_of_getElem? hi))
      refine ⟨_, rfl, ?_⟩
      have ab : (0 : Int) ≤ (if cell < 0 then -cell else cell) := by split <;> omega
      generalize hr : (if cell < 0 then -cell else cell) = rest at ab
      have p10 : oPow (.val (.int 10)) (.val (.int 18)) = some (.val (.int 1000000000000000000)) := by simp [oPow, oInt, powOk]
      have first : sAsg 3 (eCB oAbs (gCons (gN 2) (gNil))) [some (.val (.lst (ns.map .int))), some (.lst (ds.map .int)), some (.val (.int cell)), b, c, e] = .nx [some (.val (.lst (ns.map .int))), some (.lst (ds.map .int)), some (.val (.int cell)), some (.val (.int rest)), c, e] := by simp [hr]
      by_cases big : (1000000000000000000 : Int) ≤ rest
      · obtain ⟨σ2, e2, ds2, u, v, sm2, ln2, rfl⟩ : ∃ σ2, sFor (iG iRg1 (gCons (gE (eC (.int 60))) (gNil))) (tgN 4) (sIf (bV (eB oGt (gN 3) (gE (eC (.int 0))))) (sSeq (sExpr (eApp 1 (eB oMod (gE (eCB oInt1 (gCons (gN 3) (gNil)))) (gE (eC (.int 1009))))))
          (sAsg 3 (eB oDiv (gN 3) (gE (eC (.int 1009)))))) (sNx)) [some (.val (.lst (ns.map .int))), some (.lst (ds.map .int)), some (.val (.int cell)), some (.val (.int rest)), c, e] = .nx σ2 ∧
          ∃ (ds2 : List Int) (u v : Option T), Small ds2 ∧ ds2.length ≤ ds.length + 60 ∧ σ2 = [some (.val (.lst (ns.map .int))), some (.lst (ds2.map .int)), some (.val (.int cell)), u, v, e] := by
          obtain ⟨σ2, e2, ds2, r2, v, sm2, ln2, rfl⟩ := for_nx (I := iG iRg1 (gCons (gE (eC (.int 60))) (gNil))) (Tg := tgN 4) (gb := sIf (bV (eB oGt (gN 3) (gE (eC (.int 0))))) (sSeq (sExpr (eApp 1 (eB oMod (gE (eCB oInt1 (gCons (gN 3) (gNil)))) (gE (eC (.int 1009))))))
            (sAsg 3 (eB oDiv (gN 3) (gE (eC (.int 1009)))))) (sNx)) (σ := [some (.val (.lst (ns.map .int))), some (.lst (ds.map .int)), some (.val (.int cell)), some (.val (.int rest)), c, e]) (ds := iota 0 60) (σ1 := [some (.val (.lst (ns.map .int))), some (.lst (ds.map .int)), some (.val (.int cell)), some (.val (.int rest)), c, e])
            (Inv := fun i σ => ∃ (ds2 : List Int) (r : Int) (v : Option T), Small ds2 ∧ ds2.length ≤ ds.length + i ∧ σ = [some (.val (.lst (ns.map .int))), some (.lst (ds2.map .int)), some (.val (.int cell)), some (.val (.int r)), v, e]) (by simp [iRg1, rngOk]) ⟨ds, rest, c, sm, Nat.le_refl _, rfl⟩ (by
              rintro i d σ hi ⟨ds2, r, v, sm2, ln2, rfl⟩
              obtain ⟨hi, rfl⟩ := iota_at hi
              refine ⟨_, rfl, ?_⟩
              by_cases hr0 : 0 < r
              · obtain ⟨q0, q1⟩ := fmod_pos (a := r) (b := 1009) (by decide)
                have hz : ds2.length < sizeLine := Nat.lt_of_le_of_lt (by omega : ds2.length ≤ 4000) (by decide)
                refine ⟨[some (.val (.lst (ns.map .int))), some (.lst ((ds2 ++ [r.fmod 1009]).map .int)), some (.val (.int cell)), some (.val (.int (r.fdiv 1009))), some (.val (.int (0 + i))), e], .inl (by simp [hr0, oMod_i, appT, hz, oDiv_i (div_ok (by decide : (1009 : Int) ≠ 0) (by decide))]), ds2 ++ [r.fmod 1009], r.fdiv 1009, _, fun d hd => ?_, by rw [List.length_append]; simp; omega, rfl⟩
                rcases List.mem_append.mp hd with h | h
                · exact sm2 d h
                · rw [List.mem_singleton.mp h]; omega
              · exact ⟨[some (.val (.lst (ns.map .int))), some (.lst (ds2.map .int)), some (.val (.int cell)), some (.val (.int r)), some (.val (.int (0 + i))), e], .inl (by simp [hr0]), ds2, r, _, sm2, by omega, rfl⟩)
          exact ⟨_, e2, ds2, _, v, sm2, by rw [iota_len] at ln2; exact ln2, rfl⟩
        exact ⟨_, .inl (seq_nx (P := fun o => o = O.nx _) first (by simp only [q_sIf]; simp [p10, big]; simpa using e2)), ds2, _, _, v, e, sm2, by omega, rfl⟩
      · have rb : mulOk rest 48271 = true := mul_ok (sm_ok (by omega) (by omega)) (by decide)
        obtain ⟨q0, q1⟩ := fmod_pos (a := rest * 48271 + 11) (b := 2147483647) (by decide)
        obtain ⟨σ2, e2, ds2, m2, v, sm2, ln2, rfl⟩ := for_nx (I := iG iRg1 (gCons (gE (eC (.int 12))) (gNil))) (Tg := tgN 4) (gb := sSeq (sAsg 5 (eB oMod (gE (eCB oInt1 (gCons (gE (eB oAdd (gE (eB oAdd (gE (eB oMul (gN 5) (gE (eC (.int 16807))))) (gE (eB oMul (gE (eC (.int 69621))) (gN 4))))) (gE (eC (.int 5))))) (gNil)))) (gE (eC (.int 2147483629)))))
          (sExpr (eApp 1 (eB oDiv (gN 5) (gE (eC (.int 1009))))))) (σ := [some (.val (.lst (ns.map .int))), some (.lst (ds.map .int)), some (.val (.int cell)), some (.val (.int rest)), c, some (.val (.int ((rest * 48271 + 11).fmod 2147483647)))]) (ds := iota 0 12) (σ1 := [some (.val (.lst (ns.map .int))), some (.lst (ds.map .int)), some (.val (.int cell)), some (.val (.int rest)), c, some (.val (.int ((rest * 48271 + 11).fmod 2147483647)))])
          (Inv := fun i σ => ∃ (ds2 : List Int) (m : Int) (v : Option T), (Small ds2 ∧ 0 ≤ m ∧ m < 2147483648) ∧ ds2.length ≤ ds.length + i ∧ σ = [some (.val (.lst (ns.map .int))), some (.lst (ds2.map .int)), some (.val (.int cell)), some (.val (.int rest)), v, some (.val (.int m))]) (by simp [iRg1, rngOk]) ⟨ds, _, c, ⟨sm, q0, by omega⟩, Nat.le_refl _, rfl⟩ (by
            rintro i d σ hi ⟨ds2, m, v, ⟨sm2, m0, m1⟩, ln2, rfl⟩
            obtain ⟨hi, rfl⟩ := iota_at hi
            refine ⟨_, rfl, ?_⟩
            have k1 : mulOk m 16807 = true := mul_ok (sm_ok (by omega) (by omega)) (by decide)
            have k2 : mulOk 69621 i = true := mul_ok (by decide) (sm_ok (by omega) (by omega))
            obtain ⟨c0, c1⟩ := fmod_pos (a := m * 16807 + 69621 * i + 5) (b := 2147483629) (by decide)
            have hz : ds2.length < sizeLine := Nat.lt_of_le_of_lt (by omega : ds2.length ≤ 4000) (by decide)
            have f0 : ∀ x : Int, 0 ≤ x → x.fdiv 1009 = x / 1009 := fun x _ => Int.fdiv_eq_ediv_of_nonneg x (by decide)
            refine ⟨[some (.val (.lst (ns.map .int))), some (.lst ((ds2 ++ [((m * 16807 + 69621 * i + 5).fmod 2147483629).fdiv 1009]).map .int)), some (.val (.int cell)), some (.val (.int rest)), some (.val (.int (0 + i))), some (.val (.int ((m * 16807 + 69621 * i + 5).fmod 2147483629)))],
              .inl (by simp [oMul_i k1, oMul_i k2, oMod_i, appT, hz, oDiv_i (div_ok (by decide : (1009 : Int) ≠ 0) (by decide))]), ds2 ++ [((m * 16807 + 69621 * i + 5).fmod 2147483629).fdiv 1009], _, _, ⟨fun d hd => ?_, c0, by omega⟩, by rw [List.length_append]; simp; omega, rfl⟩
            rcases List.mem_append.mp hd with h | h
            · exact sm2 d h
            · rw [List.mem_singleton.mp h, f0 _ c0]; omega)
        rw [iota_len] at ln2
        exact ⟨_, .inl (seq_nx (P := fun o => o = O.nx _) first (by simp only [q_sIf]; simp [p10, big, oMul_i rb, oMod_i]; simpa using e2)), ds2, _, _, v, _, sm2.1, by omega, rfl⟩
    · rintro σ' ⟨ds, a, b, c, e, sm, ln, rfl⟩
      have : (cutD (ns.map D.int) none (some 63)).length ≤ 63 := cut_len (n := 63)
      exact go_rt (t := .lst (ds.map .int)) (σ := [some (.val (.lst (ns.map .int))), none, a, b, c, e]) (by simp) ⟨ds, sm, by omega, rfl, rfl⟩
  obtain ⟨t, ps, e, ds, a, b, rfl, h⟩ := main
  exact ⟨ds, a, b, ps, e, h⟩
end DL

set_option Elab.async false
set_option linter.all false
set_option maxRecDepth 100000
set_option maxHeartbeats 4200000
set_option exponentiation.threshold 10000
/-! DLS: what repr shows, bounded. -/
namespace DL
open PySem PySem.Spec PyProof.Rows L2
theorem int_short {i : Int} (h : i.natAbs < 2 ^ 1920) : PyData.leavesShort 1921 (.int i) = true := by
  have h1 : i.natAbs.log2 < 1920 := log2_le h (by decide)
  have h2 := int_text_len_1921 h1
  unfold PyData.leavesShort
  rw [PyData.shown_int]
  exact decide_eq_true h2
theorem shows_int {i : Int} (h : i.natAbs < 2 ^ 1920) : (D.int i).shows = true := by
  have h1 : i.natAbs.log2 < 1920 := log2_le h (by decide)
  have h2 := int_text_len_1921 h1
  unfold D.shows
  simp only [decide_eq_true_eq, Bool.and_eq_true]
  refine ⟨⟨?_, ?_⟩, ?_⟩
  · show PyData.showable (.int i) = true
    simpa [PyData.showable] using h1
  · show (PyData.int i).shown.length ≤ sizeLine
    rw [PyData.shown_int]
    exact Nat.le_trans h2 (by decide)
  · show PyData.depth (.int i) ≤ 60
    simp [PyData.depth]
theorem shows_pair {a b : Int} (h1 : a.natAbs < 2 ^ 1920) (h2 : b.natAbs < 2 ^ 1920) : (D.tup [.int a, .int b]).shows = true := by
  have l1 : a.natAbs.log2 < 1920 := log2_le h1 (by decide)
  have l2 : b.natAbs.log2 < 1920 := log2_le h2 (by decide)
  have s := PyData.shown_le 1921 (by decide) (D.tup [.int a, .int b]).py (by
    show PyData.leavesShort 1921 (.tuple [.int a, .int b]) = true
    unfold PyData.leavesShort PyData.leavesShortAll PyData.leavesShortAll PyData.leavesShortAll
    rw [int_short h1, int_short h2]; rfl)
  unfold D.shows
  simp only [decide_eq_true_eq, Bool.and_eq_true]
  refine ⟨⟨?_, ?_⟩, ?_⟩
  · show PyData.showable (.tuple [.int a, .int b]) = true
    simp [PyData.showable, PyData.showableAll, l1, l2]
  · refine Nat.le_trans s ?_
    show (1921 + 2) * PyData.weight (.tuple [.int a, .int b]) + 1921 ≤ sizeLine
    simp [PyData.weight, PyData.weightAll, sizeLine_eq]
    have e1 : (if a = 0 then 0 else a.natAbs.log2 + 1) ≤ 1920 := by split <;> omega
    have e2 : (if b = 0 then 0 else b.natAbs.log2 + 1) ≤ 1920 := by split <;> omega
    omega
  · show PyData.depth (.tuple [.int a, .int b]) ≤ 60
    simp [PyData.depth, PyData.depthAll]
theorem oRepr_v {d : D} (h : d.shows = true) : oRepr [.val d] = some (.val (.str d.py.shown)) := by
  simp [oRepr, T.dt, h]
theorem eqv_str (s u : Str) : D.eqv (.str s) (.str u) = (s == u) := by
  show PyData.eqv (.str s) (.str u) = _
  simp [PyData.eqv]
theorem dep_str (s : Str) : (D.str s).dep ≤ 63 := by
  show PyData.depth (.str s) ≤ 63
  simp [PyData.depth]
@[simp] theorem oNe_s (s u : Str) : oNe (.val (.str s)) (.val (.str u)) = some (.val (.bl (!(s == u)))) := by
  have h : min (D.str s).dep (D.str u).dep ≤ 63 := Nat.le_trans (Nat.min_le_left _ _) (dep_str s)
  simp only [oNe, if_pos h, eqv_str]
@[simp] theorem oEq_s (s u : Str) : oEq (.val (.str s)) (.val (.str u)) = some (.val (.bl (s == u))) := by
  have h : min (D.str s).dep (D.str u).dep ≤ 63 := Nat.le_trans (Nat.min_le_left _ _) (dep_str s)
  simp only [oEq, if_pos h, eqv_str]
theorem shows_under : (D.str "under").shows = true := by decide +kernel
end DL

set_option Elab.async false
set_option linter.all false
set_option maxRecDepth 100000
set_option maxHeartbeats 8200000
set_option pp.maxSteps 200
set_option pp.deepTerms false
namespace K01
open PySem PySem.Spec PyProof.Rows L2 DL
def top (i : Nat) : Stmt := PySem.Challenge.pw_standsfirm_k01_whole_fractions.main.body.getD i (.Pass ⟨0, 0, 0, 0⟩)
abbrev s__law_draws : Stmt := top 20
abbrev s__law_more : Stmt := top 21
abbrev s__law_take : Stmt := top 22
abbrev s__law_one : Stmt := top 23
abbrev s__law_fraction : Stmt := top 24
abbrev s__law_whole : Stmt := top 31
abbrev s__law_small : Stmt := top 32
abbrev s_is_integer : Stmt := top 2
abbrev s_divisor : Stmt := top 10
abbrev s_is_fraction : Stmt := top 14
abbrev s_is_small : Stmt := top 15
abbrev s_is_less : Stmt := top 13
abbrev s_compare : Stmt := top 18
abbrev s_fraction_of : Stmt := top 11
abbrev s_in_range : Stmt := top 3
abbrev s_fraction : Stmt := top 16
abbrev s_add : Stmt := top 12
abbrev s_total : Stmt := top 17
abbrev s__law_told : Stmt := top 33
abbrev s__law_sum : Stmt := top 26
abbrev s__law_less : Stmt := top 29
abbrev s__law_minus : Stmt := top 28
abbrev s_law : Stmt := top 34
def c_MAX_NUMBER : D := (.int 1000000000)
def c_ZERO : D := (.tup [(.int 0), (.int 1)])
structure Cl where
  FrameError : Addr
  ArgumentError : Addr
def Cl.m_ArgumentError (C : Cl) : List (Addr × Bool) := [(C.ArgumentError, true)]
def Cl.is_FrameError (C : Cl) : List (Addr × Bool) := [(C.ArgumentError, true)]
def Cl.cs_reason (C : Cl) : List Addr := [C.ArgumentError]
abbrev ps_ArgumentError : List Str := ["reason"]
def N__law_draws : List Str := ["script", "draws", "cell", "rest", "k", "mixed"]
def N__law_more : List Str := ["draws", "place", "mixed", "k"]
def N__law_take : List Str := ["draws", "at", "many", "place"]
def N__law_one : List Str := ["rows", "draws", "at"]
def f__law_fraction : S → O :=
  sSeq (sPar 2 3 (gCons (gE (eV (eCB oAbs (gCons (gN 0) (gNil))))) (gCons (gE (eV (eCB oAbs (gCons (gN 1) (gNil))))) (gNil))))
  (sSeq (sWhile (fuelI 3) (bV (eB oGt (gN 3) (gE (eC (.int 0))))) (sPar 2 3 (gCons (gE (eN 3)) (gCons (gE (eB oMod (gE (eCB oInt1 (gCons (gN 2) (gNil)))) (gN 3))) (gNil)))))
  (sSeq (sAsg 4 (eIf (bV (eB oLt (gN 1) (gE (eC (.int 0))))) (eU oNeg (gE (eC (.int 1)))) (eC (.int 1))))
  (sRet (eCB oTup (gCons (gE (eB oDiv (gE (eB oMul (gN 4) (gN 0))) (gN 2))) (gCons (gE (eB oDiv (gE (eB oMul (gN 4) (gN 1))) (gN 2))) (gNil)))))))
def N__law_fraction : List Str := ["over", "under", "one", "other", "sign"]
def kp__law_fraction : Nat → Bool := fun i => ([0, 1] : List Nat).contains i
def F__law_fraction : Fn := mkFn 2 5 kp__law_fraction (f__law_fraction)
def f__law_whole : S → O :=
  sSeq (sAsg 2 (eC (.int 1000000000)))
  (sSeq (sAsg 3 (eB oAdd (gE (eB oMul (gE (eCall F__law_take (gCons (gN 0) (gCons (gN 1) (gCons (gE (eC (.int 1009))) (gNil)))))) (gE (eC (.int 991080))))) (gE (eCall F__law_take (gCons (gN 0) (gCons (gN 1) (gCons (gE (eC (.int 991080))) (gNil))))))))
  (sSeq (sAsg 4 (eCall F__law_one (gCons (gE (eCB oLst (gCons (gE (eV (eCall F__law_take (gCons (gN 0) (gCons (gN 1) (gCons (gE (eC (.int 13))) (gNil))))))) (gCons (gE (eN 3)) (gCons (gE (eN 2)) (gCons (gE (eB oSub (gN 2) (gE (eCall F__law_take (gCons (gN 0) (gCons (gN 1) (gCons (gE (eC (.int 3))) (gNil)))))))) (gCons (gE (eB oMul (gE (eC (.int 360))) (gE (eCall F__law_take (gCons (gN 0) (gCons (gN 1) (gCons (gE (eC (.int 9))) (gNil)))))))) (gCons (gE (eB oPow (gE (eC (.int 2))) (gE (eC (.int 29))))) (gCons (gE (eC (.int 0))) (gNil)))))))))) (gCons (gN 0) (gCons (gN 1) (gNil))))))
  (sRet (eCall F__law_one (gCons (gE (eCB oLst (gCons (gE (eN 4)) (gCons (gE (eB oSub (gE (eC (.int 0))) (gN 4))) (gNil))))) (gCons (gN 0) (gCons (gN 1) (gNil))))))))
def N__law_whole : List Str := ["draws", "at", "great", "far", "number"]
def kp__law_whole : Nat → Bool := fun i => ([0, 1] : List Nat).contains i
def F__law_whole : Fn := mkFn 2 5 kp__law_whole (f__law_whole)
def f__law_small : S → O :=
  sSeq (sAsg 2 (eCB oAbs (gCons (gE (eCall F__law_whole (gCons (gN 0) (gCons (gN 1) (gNil))))) (gNil))))
  (sRet (eCall F__law_fraction (gCons (gE (eCall F__law_whole (gCons (gN 0) (gCons (gN 1) (gNil))))) (gCons (gE (eIf (bV (eB oGt (gN 2) (gE (eC (.int 0))))) (eN 2) (eC (.int 1)))) (gNil)))))
def N__law_small : List Str := ["draws", "at", "under"]
def kp__law_small : Nat → Bool := fun i => ([0, 1] : List Nat).contains i
def F__law_small : Fn := mkFn 2 3 kp__law_small (f__law_small)
def f_is_integer : S → O :=
  sRet (eAnd (eIs "int" (gN 0)) (eNot (eIs "bool" (gN 0))))
def N_is_integer : List Str := ["value"]
def kp_is_integer : Nat → Bool := fun i => ([0] : List Nat).contains i
def F_is_integer : Fn := mkFn 1 1 kp_is_integer (f_is_integer)
def f_divisor : S → O :=
  sSeq (sPar 0 1 (gCons (gE (eV (eCB oAbs (gCons (gN 0) (gNil))))) (gCons (gE (eV (eCB oAbs (gCons (gN 1) (gNil))))) (gNil))))
  (sSeq (sWhile (fuelI 1) (bV (eB oGt (gN 1) (gE (eC (.int 0))))) (sPar 0 1 (gCons (gE (eN 1)) (gCons (gE (eB oMod (gN 0) (gN 1))) (gNil)))))
  (sRet (eM 0)))
def N_divisor : List Str := ["first", "second"]
def kp_divisor : Nat → Bool := fun i => ([] : List Nat).contains i
def F_divisor : Fn := mkFn 2 2 kp_divisor (f_divisor)
def f_is_fraction : S → O :=
  sSeq (sIf (bOr (bNot (bV (eIs "tuple" (gN 0)))) (bOr (bV (eB oNe (gE (eCB oLen (gCons (gN 0) (gNil)))) (gE (eC (.int 2))))) (bOr (bNot (bV (eCall F_is_integer (gCons (gE (eB oIx (gN 0) (gE (eC (.int 0))))) (gNil))))) (bNot (bV (eCall F_is_integer (gCons (gE (eB oIx (gN 0) (gE (eC (.int 1))))) (gNil)))))))) (sRet (eC (.bl false))) (sNx))
  (sRet (eAnd (eB oGe (gE (eB oIx (gN 0) (gE (eC (.int 1))))) (gE (eC (.int 1)))) (eB oEq (gE (eCall F_divisor (gCons (gE (eB oIx (gN 0) (gE (eC (.int 0))))) (gCons (gE (eB oIx (gN 0) (gE (eC (.int 1))))) (gNil))))) (gE (eC (.int 1))))))
def N_is_fraction : List Str := ["value"]
def kp_is_fraction : Nat → Bool := fun i => ([0] : List Nat).contains i
def F_is_fraction : Fn := mkFn 1 1 kp_is_fraction (f_is_fraction)
def f_is_small : S → O :=
  sRet (eAnd (eCall F_is_fraction (gCons (gN 0) (gNil))) (eAnd (eB oLe (gE (eCB oAbs (gCons (gE (eB oIx (gN 0) (gE (eC (.int 0))))) (gNil)))) (gE (eC c_MAX_NUMBER))) (eB oLe (gE (eB oIx (gN 0) (gE (eC (.int 1))))) (gE (eC c_MAX_NUMBER)))))
def N_is_small : List Str := ["value"]
def kp_is_small : Nat → Bool := fun i => ([0] : List Nat).contains i
def F_is_small : Fn := mkFn 1 1 kp_is_small (f_is_small)
def f_is_less : S → O :=
  sRet (eB oLt (gE (eB oMul (gE (eB oIx (gN 0) (gE (eC (.int 0))))) (gE (eB oIx (gN 1) (gE (eC (.int 1))))))) (gE (eB oMul (gE (eB oIx (gN 1) (gE (eC (.int 0))))) (gE (eB oIx (gN 0) (gE (eC (.int 1))))))))
def N_is_less : List Str := ["first", "second"]
def kp_is_less : Nat → Bool := fun i => ([0, 1] : List Nat).contains i
def F_is_less : Fn := mkFn 2 2 kp_is_less (f_is_less)
def f_compare (C : Cl) : S → O :=
  sSeq (sIf (bNot (bV (eCall F_is_small (gCons (gN 0) (gNil))))) (sRaise C.ArgumentError (ps_ArgumentError) (gCons (gE (eC (.str "first"))) (gNil))) (sNx))
  (sSeq (sIf (bNot (bV (eCall F_is_small (gCons (gN 1) (gNil))))) (sRaise C.ArgumentError (ps_ArgumentError) (gCons (gE (eC (.str "second"))) (gNil))) (sNx))
  (sSeq (sIf (bV (eB oEq (gN 0) (gN 1))) (sRet (eC (.int 0))) (sNx))
  (sRet (eIf (bV (eCall F_is_less (gCons (gN 0) (gCons (gN 1) (gNil))))) (eU oNeg (gE (eC (.int 1)))) (eC (.int 1))))))
def N_compare : List Str := ["first", "second"]
def kp_compare : Nat → Bool := fun i => ([0, 1] : List Nat).contains i
def F_compare (C : Cl) : Fn := mkFn 2 2 kp_compare (f_compare C)
def f_fraction_of : S → O :=
  sSeq (sAsg 2 (eCall F_divisor (gCons (gN 0) (gCons (gN 1) (gNil)))))
  (sSeq (sIf (bV (eB oLt (gN 1) (gE (eC (.int 0))))) (sAsg 2 (eU oNeg (gN 2))) (sNx))
  (sRet (eCB oTup (gCons (gE (eB oDiv (gN 0) (gN 2))) (gCons (gE (eB oDiv (gN 1) (gN 2))) (gNil))))))
def N_fraction_of : List Str := ["over", "under", "common"]
def kp_fraction_of : Nat → Bool := fun i => ([0, 1] : List Nat).contains i
def F_fraction_of : Fn := mkFn 2 3 kp_fraction_of (f_fraction_of)
def f_in_range : S → O :=
  sRet (eAnd (eCall F_is_integer (gCons (gN 0) (gNil))) (eCh oLe oLe (gN 1) (gN 0) (gN 2)))
def N_in_range : List Str := ["value", "least", "most"]
def kp_in_range : Nat → Bool := fun i => ([0, 1, 2] : List Nat).contains i
def F_in_range : Fn := mkFn 3 3 kp_in_range (f_in_range)
def f_fraction (C : Cl) : S → O :=
  sSeq (sIf (bNot (bV (eCall F_in_range (gCons (gN 0) (gCons (gE (eU oNeg (gE (eC c_MAX_NUMBER)))) (gCons (gE (eC c_MAX_NUMBER)) (gNil))))))) (sRaise C.ArgumentError (ps_ArgumentError) (gCons (gE (eC (.str "over"))) (gNil))) (sNx))
  (sSeq (sIf (bOr (bNot (bV (eCall F_in_range (gCons (gN 1) (gCons (gE (eU oNeg (gE (eC c_MAX_NUMBER)))) (gCons (gE (eC c_MAX_NUMBER)) (gNil))))))) (bV (eB oEq (gN 1) (gE (eC (.int 0)))))) (sRaise C.ArgumentError (ps_ArgumentError) (gCons (gE (eC (.str "under"))) (gNil))) (sNx))
  (sRet (eCall F_fraction_of (gCons (gN 0) (gCons (gN 1) (gNil))))))
def N_fraction : List Str := ["over", "under"]
def kp_fraction : Nat → Bool := fun i => ([0, 1] : List Nat).contains i
def F_fraction (C : Cl) : Fn := mkFn 2 2 kp_fraction (f_fraction C)
def f_add : S → O :=
  sSeq (sIf (bV (eCh oEq oEq (gE (eB oIx (gN 0) (gE (eC (.int 1))))) (gE (eB oIx (gN 1) (gE (eC (.int 1))))) (gE (eC (.int 1))))) (sRet (eCB oTup (gCons (gE (eB oAdd (gE (eB oIx (gN 0) (gE (eC (.int 0))))) (gE (eB oIx (gN 1) (gE (eC (.int 0))))))) (gCons (gE (eC (.int 1))) (gNil))))) (sNx))
  (sRet (eCall F_fraction_of (gCons (gE (eB oAdd (gE (eB oMul (gE (eB oIx (gN 0) (gE (eC (.int 0))))) (gE (eB oIx (gN 1) (gE (eC (.int 1))))))) (gE (eB oMul (gE (eB oIx (gN 1) (gE (eC (.int 0))))) (gE (eB oIx (gN 0) (gE (eC (.int 1))))))))) (gCons (gE (eB oMul (gE (eB oIx (gN 0) (gE (eC (.int 1))))) (gE (eB oIx (gN 1) (gE (eC (.int 1))))))) (gNil)))))
def N_add : List Str := ["first", "second"]
def kp_add : Nat → Bool := fun i => ([0, 1] : List Nat).contains i
def F_add : Fn := mkFn 2 2 kp_add (f_add)
def f_total (C : Cl) : S → O :=
  sSeq (sIf (bOr (bNot (bV (eIs "tuple" (gN 0)))) (bNot (bV (eCB oAll (gCons (gE (eLC [2] (iSeq (eN 0)) (tgN 2) (bYes) (eCall F_is_small (gCons (gN 2) (gNil))))) (gNil)))))) (sRaise C.ArgumentError (ps_ArgumentError) (gCons (gE (eC (.str "parts"))) (gNil))) (sNx))
  (sSeq (sAsg 1 (eC c_ZERO))
  (sSeq (sFor (iSeq (eN 0)) (tgN 2) (sAsg 1 (eCall F_add (gCons (gN 1) (gCons (gN 2) (gNil))))))
  (sRet (eM 1))))
def N_total : List Str := ["parts", "found", "part"]
def kp_total : Nat → Bool := fun i => ([0] : List Nat).contains i
def F_total (C : Cl) : Fn := mkFn 1 3 kp_total (f_total C)
def f__law_told (C : Cl) : S → O :=
  sTry (sSeq (sIf (bV (eB oEq (gN 0) (gE (eC (.int 0))))) (sRet (eCall (F_fraction C) (gCons (gN 1) (gCons (gN 2) (gNil))))) (sNx))
  (sSeq (sIf (bV (eB oEq (gN 0) (gE (eC (.int 1))))) (sRet (eCall (F_total C) (gCons (gN 1) (gNil)))) (sNx))
  (sRet (eCall (F_compare C) (gCons (gN 1) (gCons (gN 2) (gNil))))))) (⟨C.m_ArgumentError, (some 3), suRet (pxIf (pbIs C.is_FrameError) (pxAttr C.cs_reason "reason") (pxC (.str "")))⟩ :: [])
def N__law_told : List Str := ["call", "one", "other", "e"]
def kp__law_told : Nat → Bool := fun i => ([0, 1, 2] : List Nat).contains i
def F__law_told (C : Cl) : Fn := mkFn 3 4 kp__law_told (f__law_told C)
def f__law_sum : S → O :=
  sRet (eCall F__law_fraction (gCons (gE (eB oAdd (gE (eB oMul (gE (eB oIx (gN 0) (gE (eC (.int 0))))) (gE (eB oIx (gN 1) (gE (eC (.int 1))))))) (gE (eB oMul (gE (eB oIx (gN 1) (gE (eC (.int 0))))) (gE (eB oIx (gN 0) (gE (eC (.int 1))))))))) (gCons (gE (eB oMul (gE (eB oIx (gN 0) (gE (eC (.int 1))))) (gE (eB oIx (gN 1) (gE (eC (.int 1))))))) (gNil))))
def N__law_sum : List Str := ["one", "other"]
def kp__law_sum : Nat → Bool := fun i => ([0, 1] : List Nat).contains i
def F__law_sum : Fn := mkFn 2 2 kp__law_sum (f__law_sum)
def f__law_less : S → O :=
  sRet (eB oLt (gE (eB oMul (gE (eB oIx (gN 0) (gE (eC (.int 0))))) (gE (eB oIx (gN 1) (gE (eC (.int 1))))))) (gE (eB oMul (gE (eB oIx (gN 1) (gE (eC (.int 0))))) (gE (eB oIx (gN 0) (gE (eC (.int 1))))))))
def N__law_less : List Str := ["one", "other"]
def kp__law_less : Nat → Bool := fun i => ([0, 1] : List Nat).contains i
def F__law_less : Fn := mkFn 2 2 kp__law_less (f__law_less)
def f__law_minus : S → O :=
  sRet (eCB oTup (gCons (gE (eB oSub (gE (eC (.int 0))) (gE (eB oIx (gN 0) (gE (eC (.int 0))))))) (gCons (gE (eB oIx (gN 0) (gE (eC (.int 1))))) (gNil))))
def N__law_minus : List Str := ["one"]
def kp__law_minus : Nat → Bool := fun i => ([0] : List Nat).contains i
def F__law_minus : Fn := mkFn 1 1 kp__law_minus (f__law_minus)
def f_law (C : Cl) : S → O :=
  sSeq (sAsg 1 (eCall F__law_draws (gCons (gN 0) (gNil))))
  (sSeq (sAsg 2 (eCB oLst (gCons (gE (eC (.int 0))) (gNil))))
  (sSeq (sFor (iG iRg1 (gCons (gE (eC (.int 4))) (gNil))) (tgN 3) (sSeq (sPar 4 5 (gCons (gE (eV (eCall F__law_whole (gCons (gN 1) (gCons (gN 2) (gNil)))))) (gCons (gE (eV (eCall F__law_whole (gCons (gN 1) (gCons (gN 2) (gNil)))))) (gNil))))
  (sSeq (sAsg 6 (eIf (bV (eB oNe (gN 5) (gE (eC (.int 0))))) (eCall F__law_fraction (gCons (gN 4) (gCons (gN 5) (gNil)))) (eC (.str "under"))))
  (sSeq (sAsg 7 (eCall (F__law_told C) (gCons (gE (eC (.int 0))) (gCons (gN 4) (gCons (gN 5) (gNil))))))
  (sSeq (sIf (bV (eB oNe (gE (eCB oRepr (gCons (gN 7) (gNil)))) (gE (eCB oRepr (gCons (gN 6) (gNil)))))) (sRet (eC (.bl false))) (sNx))
  (sSeq (sIf (bAnd (bV (eB oNe (gN 5) (gE (eC (.int 0))))) (bOr (bV (eB oNe (gE (eB oMul (gE (eB oIx (gN 7) (gE (eC (.int 0))))) (gN 5))) (gE (eB oMul (gE (eB oIx (gN 7) (gE (eC (.int 1))))) (gN 4))))) (bV (eB oLt (gE (eB oIx (gN 7) (gE (eC (.int 1))))) (gE (eC (.int 1))))))) (sRet (eC (.bl false))) (sNx))
  (sSeq (sPar 8 9 (gCons (gE (eV (eCall F__law_small (gCons (gN 1) (gCons (gN 2) (gNil)))))) (gCons (gE (eV (eCall F__law_small (gCons (gN 1) (gCons (gN 2) (gNil)))))) (gNil))))
  (sSeq (sIf (bV (eB oEq (gE (eCall F__law_take (gCons (gN 1) (gCons (gN 2) (gCons (gE (eC (.int 4))) (gNil)))))) (gE (eC (.int 0))))) (sAsg 9 (eN 8)) (sNx))
  (sSeq (sAsg 6 (eIf (bV (eB oEq (gN 8) (gN 9))) (eC (.int 0)) (eIf (bV (eCall F__law_less (gCons (gN 8) (gCons (gN 9) (gNil))))) (eU oNeg (gE (eC (.int 1)))) (eC (.int 1)))))
  (sIf (bOr (bV (eB oNe (gE (eCB oRepr (gCons (gE (eCall (F__law_told C) (gCons (gE (eC (.int 2))) (gCons (gN 8) (gCons (gN 9) (gNil)))))) (gNil)))) (gE (eCB oRepr (gCons (gN 6) (gNil)))))) (bV (eB oNe (gE (eCB oRepr (gCons (gE (eCall (F__law_told C) (gCons (gE (eC (.int 2))) (gCons (gN 9) (gCons (gN 8) (gNil)))))) (gNil)))) (gE (eCB oRepr (gCons (gE (eB oSub (gE (eC (.int 0))) (gN 6))) (gNil))))))) (sRet (eC (.bl false))) (sNx)))))))))))
  (sSeq (sAsg 10 (eLC [14] (iG iRg1 (gCons (gE (eCall F__law_take (gCons (gN 1) (gCons (gN 2) (gCons (gE (eCall F__law_one (gCons (gE (eCB oLst (gCons (gE (eC (.int 2))) (gCons (gE (eC (.int 6))) (gCons (gE (eC (.int 41))) (gNil)))))) (gCons (gN 1) (gCons (gN 2) (gNil)))))) (gNil)))))) (gNil))) (tgN 14) (bYes) (eCall F__law_small (gCons (gN 1) (gCons (gN 2) (gNil))))))
  (sSeq (sIf (bV (eB oEq (gE (eCall F__law_take (gCons (gN 1) (gCons (gN 2) (gCons (gE (eC (.int 2))) (gNil)))))) (gE (eC (.int 0))))) (sAsg 10 (eB oAdd (gN 10) (gE (eLC [11] (iSeq (eV (eSl (gN 10) (oNo) (oSo (eC (.int 20)))))) (tgN 11) (bYes) (eCall F__law_minus (gCons (gN 11) (gNil))))))) (sNx))
  (sSeq (sAsg 6 (eCB oTup (gCons (gE (eC (.int 0))) (gCons (gE (eC (.int 1))) (gNil)))))
  (sSeq (sFor (iSeq (eN 10)) (tgN 11) (sAsg 6 (eCall F__law_sum (gCons (gN 6) (gCons (gN 11) (gNil))))))
  (sSeq (sIf (bV (eB oNe (gE (eCB oRepr (gCons (gE (eCall (F__law_told C) (gCons (gE (eC (.int 1))) (gCons (gE (eCB oTuple (gCons (gN 10) (gNil)))) (gCons (gE (eC .non)) (gNil)))))) (gNil)))) (gE (eCB oRepr (gCons (gN 6) (gNil)))))) (sRet (eC (.bl false))) (sNx))
  (sSeq (sAsg 12 (eCall F__law_one (gCons (gE (eCB oLst (gCons (gE (eC .non)) (gCons (gE (eC (.bl true))) (gCons (gE (eC (.str "1"))) (gCons (gE (eCB oTup (gCons (gE (eC (.int 1))) (gCons (gE (eC (.int 1))) (gNil))))) (gCons (gE (eC (.int 1000000001))) (gCons (gE (eU oNeg (gE (eC (.int 1000000001))))) (gCons (gE (eB oPow (gE (eC (.int 10))) (gE (eC (.int 40))))) (gNil)))))))))) (gCons (gN 1) (gCons (gN 2) (gNil))))))
  (sSeq (sIf (bOr (bV (eB oNe (gE (eCall (F__law_told C) (gCons (gE (eC (.int 0))) (gCons (gN 12) (gCons (gE (eCall F__law_one (gCons (gE (eCB oLst (gCons (gE (eN 12)) (gCons (gE (eC (.int 0))) (gCons (gE (eC (.int 1))) (gNil)))))) (gCons (gN 1) (gCons (gN 2) (gNil)))))) (gNil)))))) (gE (eC (.str "over"))))) (bV (eB oNe (gE (eCall (F__law_told C) (gCons (gE (eC (.int 0))) (gCons (gE (eC (.int 5))) (gCons (gE (eCall F__law_one (gCons (gE (eCB oLst (gCons (gE (eN 12)) (gCons (gE (eC (.int 0))) (gNil))))) (gCons (gN 1) (gCons (gN 2) (gNil)))))) (gNil)))))) (gE (eC (.str "under")))))) (sRet (eC (.bl false))) (sNx))
  (sSeq (sAsg 13 (eCall F__law_one (gCons (gE (eCB oLst (gCons (gE (eC .non)) (gCons (gE (eC (.int 5))) (gCons (gE (eCB oTup (gCons (gE (eC (.int 2))) (gCons (gE (eC (.int 4))) (gNil))))) (gCons (gE (eCB oTup (gCons (gE (eC (.int 1))) (gCons (gE (eC (.int 0))) (gNil))))) (gCons (gE (eCB oTup (gCons (gE (eC (.int 1))) (gCons (gE (eU oNeg (gE (eC (.int 2))))) (gNil))))) (gCons (gE (eCB oTup (gCons (gE (eC (.int 0))) (gCons (gE (eC (.int 2))) (gNil))))) (gCons (gE (eCB oTup (gCons (gE (eC (.bl true))) (gCons (gE (eC (.int 1))) (gNil))))) (gCons (gE (eCB oTup (gCons (gE (eC (.int 1))) (gCons (gE (eC (.bl true))) (gNil))))) (gCons (gE (eCB oTup (gCons (gE (eC (.int 1))) (gNil)))) (gCons (gE (eCB oTup (gCons (gE (eC (.int 1))) (gCons (gE (eC (.int 1))) (gCons (gE (eC (.int 1))) (gNil)))))) (gCons (gE (eCB oTup (gCons (gE (eC (.int 1000000001))) (gCons (gE (eC (.int 1))) (gNil))))) (gCons (gE (eCB oTup (gCons (gE (eC (.int 1))) (gCons (gE (eC (.int 1000000001))) (gNil))))) (gCons (gE (eC (.str "11"))) (gCons (gE (eCB oTup (gNil))) (gNil))))))))))))))))) (gCons (gN 1) (gCons (gN 2) (gNil))))))
  (sSeq (sAsg 8 (eCall F__law_small (gCons (gN 1) (gCons (gN 2) (gNil)))))
  (sSeq (sIf (bOr (bV (eB oNe (gE (eCall (F__law_told C) (gCons (gE (eC (.int 2))) (gCons (gN 13) (gCons (gE (eCall F__law_one (gCons (gE (eCB oLst (gCons (gE (eN 8)) (gCons (gE (eN 13)) (gNil))))) (gCons (gN 1) (gCons (gN 2) (gNil)))))) (gNil)))))) (gE (eC (.str "first"))))) (bV (eB oNe (gE (eCall (F__law_told C) (gCons (gE (eC (.int 2))) (gCons (gN 8) (gCons (gN 13) (gNil)))))) (gE (eC (.str "second")))))) (sRet (eC (.bl false))) (sNx))
  (sRet (eB oEq (gE (eCall (F__law_told C) (gCons (gE (eC (.int 1))) (gCons (gE (eCall F__law_one (gCons (gE (eCB oLst (gCons (gE (eC .non)) (gCons (gE (eC (.int 5))) (gCons (gE (eC (.str ""))) (gCons (gE (eCB oTup (gCons (gE (eN 13)) (gNil)))) (gCons (gE (eCB oTup (gCons (gE (eN 8)) (gCons (gE (eN 13)) (gNil))))) (gCons (gE (eCB oTup (gCons (gE (eN 8)) (gCons (gE (eN 8)) (gCons (gE (eN 13)) (gCons (gE (eN 8)) (gNil))))))) (gNil))))))))) (gCons (gN 1) (gCons (gN 2) (gNil)))))) (gCons (gE (eC .non)) (gNil)))))) (gE (eC (.str "parts")))))))))))))))))
def N_law : List Str := ["script", "draws", "at", "turn", "over", "under", "due", "told", "one", "other", "parts", "part", "odd", "wrong", "k"]
def kp_law : Nat → Bool := fun i => ([0] : List Nat).contains i
def F_law (C : Cl) : Fn := mkFn 1 15 kp_law (f_law C)
structure Gs (mg : Str → Option Value) (K : PySem.W.Frag) (P : Program) (C : Cl) : Prop where
  n_abs : mg "abs" = none
  n_all : mg "all" = none
  n_bool : mg "bool" = none
  n_int : mg "int" = none
  n_isinstance : mg "isinstance" = none
  n_len : mg "len" = none
  n_range : mg "range" = none
  n_repr : mg "repr" = none
  n_tuple : mg "tuple" = none
  c_MAX_NUMBER : KC mg K "MAX_NUMBER" c_MAX_NUMBER
  c_ZERO : KC mg K "ZERO" c_ZERO
  k_FrameError : mg "FrameError" = some (.ref C.FrameError)
  k_ArgumentError : mg "ArgumentError" = some (.ref C.ArgumentError)
  t_ArgumentError : SupEx P K mg C.ArgumentError ps_ArgumentError
  m_ArgumentError : ∀ B b, C.m_ArgumentError.lookup B = some b → PySem.W.exmOne K (.ref B) (.ref C.ArgumentError) = some b
  i_FrameError : ∀ B b, C.is_FrameError.lookup B = some b → ExcC K B ∧ PySem.W.kitOne K (.ref B) (.ref C.FrameError) = some b
  x_reason : ∀ B ∈ C.cs_reason, XfC K B ∧ PySem.W.findIn K (.ref B) "reason" = some none
section
variable {P : Program} {w : World} {K : PySem.W.Frag} {mg : Str → Option Value} {base : Heap} {C : Cl}
theorem sc__law_draws : FnScope N__law_draws ["script"] (defScope s__law_draws) := ⟨rfl, rfl, rfl, by decide +kernel, rfl, by decide +kernel, by decide +kernel⟩
theorem d__law_draws (g : Gs mg K P C) (I : FunIn K mg "_law_draws" s__law_draws ["script"])  : Def P w K mg base "_law_draws" 1 F__law_draws :=
  df_mk I sc__law_draws (by decide) (kp := kp__law_draws) (g := f__law_draws) rfl fun f cdv A outer s H E hr =>
  ds_cons (ds_set (i := 1) sc__law_draws.nd rfl (.inl rfl) (d_lst (gs_nil)))
  (ds_cons (ds_for (passes_of rfl) rfl (di_seq (d_V (d_slice (g_name (pv 0)) (do_no) (do_so (d_const pe_int fun _ => .int _))))) (tg_name (i := 2) sc__law_draws.nd rfl (.inl rfl)) (ds_cons (ds_set (i := 3) sc__law_draws.nd rfl (.inl rfl) (d_callB (b_abs) rfl g.n_abs rfl (gs_cons (g_name (pv 2)) (gs_nil))))
  (ds_one (ds_if (d_cmpT ot_ge (g_name (pv 3)) (g_e (d_bin ot_pow (g_e (d_const pe_int fun _ => .int _)) (g_e (d_const pe_int fun _ => .int _))))) (ds_one (ds_for (passes_of rfl) rfl (di_range1 rfl g.n_range (gs_cons (g_e (d_const pe_int fun _ => .int _)) (gs_nil))) (tg_name (i := 4) sc__law_draws.nd rfl (.inl rfl)) (ds_one (ds_if (d_cmpT ot_gt (g_name (pv 3)) (g_e (d_const pe_int fun _ => .int _))) (ds_cons (ds_expr (d_app (pv 1) (d_bin ot_mod (g_e (d_callTy (b_int) rfl g.n_int rfl (gs_cons (g_name (pv 3)) (gs_nil)))) (g_e (d_const pe_int fun _ => .int _)))))
  (ds_one (ds_set (i := 3) sc__law_draws.nd rfl (.inl rfl) (d_bin ot_div (g_name (pv 3)) (g_e (d_const pe_int fun _ => .int _)))))) (ds_nil))))) (ds_cons (ds_set (i := 5) sc__law_draws.nd rfl (.inl rfl) (d_bin ot_mod (g_e (d_callTy (b_int) rfl g.n_int rfl (gs_cons (g_e (d_bin ot_add (g_e (d_bin ot_mul (g_name (pv 3)) (g_e (d_const pe_int fun _ => .int _)))) (g_e (d_const pe_int fun _ => .int _)))) (gs_nil)))) (g_e (d_const pe_int fun _ => .int _))))
  (ds_one (ds_for (passes_of rfl) rfl (di_range1 rfl g.n_range (gs_cons (g_e (d_const pe_int fun _ => .int _)) (gs_nil))) (tg_name (i := 4) sc__law_draws.nd rfl (.inl rfl)) (ds_cons (ds_set (i := 5) sc__law_draws.nd rfl (.inl rfl) (d_bin ot_mod (g_e (d_callTy (b_int) rfl g.n_int rfl (gs_cons (g_e (d_bin ot_add (g_e (d_bin ot_add (g_e (d_bin ot_mul (g_name (pv 5)) (g_e (d_const pe_int fun _ => .int _)))) (g_e (d_bin ot_mul (g_e (d_const pe_int fun _ => .int _)) (g_name (pv 4)))))) (g_e (d_const pe_int fun _ => .int _)))) (gs_nil)))) (g_e (d_const pe_int fun _ => .int _))))
  (ds_one (ds_expr (d_app (pv 1) (d_bin ot_div (g_name (pv 5)) (g_e (d_const pe_int fun _ => .int _))))))))))))))
  (ds_one (ds_ret (d_mv (pv 1)))))
theorem sc__law_more : FnScope N__law_more ["draws", "place"] (defScope s__law_more) := ⟨rfl, rfl, rfl, by decide +kernel, rfl, by decide +kernel, by decide +kernel⟩
theorem d__law_more (g : Gs mg K P C) (I : FunIn K mg "_law_more" s__law_more ["draws", "place"])  : Def P w K mg base "_law_more" 1 F__law_more :=
  df_mk I sc__law_more (by decide) (kp := kp__law_more) (g := f__law_more) rfl fun f cdv A outer s H E hr =>
  ds_cons (ds_set (i := 2) sc__law_more.nd rfl (.inl rfl) (d_bin ot_mod (g_e (d_callTy (b_int) rfl g.n_int rfl (gs_cons (g_e (d_bin ot_add (g_e (d_bin ot_add (g_e (d_bin ot_mul (g_name (pv 1)) (g_e (d_const pe_int fun _ => .int _)))) (g_e (d_callB (b_len) rfl g.n_len rfl (gs_cons (g_name (pv 0)) (gs_nil)))))) (g_e (d_const pe_int fun _ => .int _)))) (gs_nil)))) (g_e (d_const pe_int fun _ => .int _))))
  (ds_cons (ds_for (passes_of rfl) rfl (di_range1 rfl g.n_range (gs_cons (g_e (d_const pe_int fun _ => .int _)) (gs_nil))) (tg_name (i := 3) sc__law_more.nd rfl (.inl rfl)) (ds_cons (ds_if (d_truth (g_name (pv 0))) (ds_one (ds_set (i := 2) sc__law_more.nd rfl (.inl rfl) (d_bin ot_add (g_name (pv 2)) (g_e (d_ix (g_name (pv 0)) (g_e (d_bin ot_mod (g_e (d_callTy (b_int) rfl g.n_int rfl (gs_cons (g_e (d_bin ot_add (g_e (d_bin ot_mul (g_name (pv 1)) (g_e (d_bin ot_add (g_name (pv 3)) (g_e (d_const pe_int fun _ => .int _)))))) (g_name (pv 3)))) (gs_nil)))) (g_e (d_callB (b_len) rfl g.n_len rfl (gs_cons (g_name (pv 0)) (gs_nil))))))))))) (ds_nil))
  (ds_one (ds_set (i := 2) sc__law_more.nd rfl (.inl rfl) (d_bin ot_mod (g_e (d_callTy (b_int) rfl g.n_int rfl (gs_cons (g_e (d_bin ot_add (g_e (d_bin ot_add (g_e (d_bin ot_mul (g_name (pv 2)) (g_e (d_const pe_int fun _ => .int _)))) (g_e (d_bin ot_mul (g_e (d_const pe_int fun _ => .int _)) (g_name (pv 3)))))) (g_e (d_const pe_int fun _ => .int _)))) (gs_nil)))) (g_e (d_const pe_int fun _ => .int _)))))))
  (ds_one (ds_ret (d_bin ot_div (g_name (pv 2)) (g_e (d_const pe_int fun _ => .int _))))))
theorem sc__law_take : FnScope N__law_take ["draws", "at", "many"] (defScope s__law_take) := ⟨rfl, rfl, rfl, by decide +kernel, rfl, by decide +kernel, by decide +kernel⟩
theorem d__law_take (g : Gs mg K P C) (I : FunIn K mg "_law_take" s__law_take ["draws", "at", "many"]) (d__law_more : Def P w K mg base "_law_more" 1 F__law_more) : Def P w K mg base "_law_take" 2 F__law_take :=
  df_mk I sc__law_take (by decide) (kp := kp__law_take) (g := f__law_take) rfl fun f cdv A outer s H E hr =>
  ds_cons (ds_set (i := 3) sc__law_take.nd rfl (.inl rfl) (d_ix (g_name (pv 1)) (g_e (d_const pe_int fun _ => .int _))))
  (ds_cons (ds_sub (pv 1) (d_const pe_int fun _ => .int _) (d_bin ot_add (g_name (pv 3)) (g_e (d_const pe_int fun _ => .int _))))
  (ds_one (ds_ret (d_bin ot_mod (g_e (d_callTy (b_int) rfl g.n_int rfl (gs_cons (g_e (d_ifE (d_cmpT ot_lt (g_name (pv 3)) (g_e (d_callB (b_len) rfl g.n_len rfl (gs_cons (g_name (pv 0)) (gs_nil))))) (d_ix (g_name (pv 0)) (g_name (pv 3))) (d_call (d__law_more.mono (by decide)) hr rfl (takes_of rfl rfl rfl rfl) (gs_cons (g_name (pv 0)) (gs_cons (g_name (pv 3)) (gs_nil)))))) (gs_nil)))) (g_name (pv 2))))))
theorem sc__law_one : FnScope N__law_one ["rows", "draws", "at"] (defScope s__law_one) := ⟨rfl, rfl, rfl, by decide +kernel, rfl, by decide +kernel, by decide +kernel⟩
theorem d__law_one (g : Gs mg K P C) (I : FunIn K mg "_law_one" s__law_one ["rows", "draws", "at"]) (d__law_take : Def P w K mg base "_law_take" 2 F__law_take) : Def P w K mg base "_law_one" 3 F__law_one :=
  df_mk I sc__law_one (by decide) (kp := kp__law_one) (g := f__law_one) rfl fun f cdv A outer s H E hr =>
  ds_one (ds_ret (d_ix (g_name (pv 0)) (g_e (d_call (d__law_take.mono (by decide)) hr rfl (takes_of rfl rfl rfl rfl) (gs_cons (g_name (pv 1)) (gs_cons (g_name (pv 2)) (gs_cons (g_e (d_callB (b_len) rfl g.n_len rfl (gs_cons (g_name (pv 0)) (gs_nil)))) (gs_nil))))))))
theorem sc__law_fraction : FnScope N__law_fraction ["over", "under"] (defScope s__law_fraction) := ⟨rfl, rfl, rfl, by decide +kernel, rfl, by decide +kernel, by decide +kernel⟩
theorem d__law_fraction (g : Gs mg K P C) (I : FunIn K mg "_law_fraction" s__law_fraction ["over", "under"])  : Def P w K mg base "_law_fraction" 1 F__law_fraction :=
  df_mk I sc__law_fraction (by decide) (kp := kp__law_fraction) (g := f__law_fraction) rfl fun f cdv A outer s H E hr =>
  ds_cons (ds_par (i := 2) (j := 3) rfl sc__law_fraction.nd rfl rfl (by decide) rfl rfl (gs_cons (g_e (d_V (d_callB (b_abs) rfl g.n_abs rfl (gs_cons (g_name (pv 0)) (gs_nil))))) (gs_cons (g_e (d_V (d_callB (b_abs) rfl g.n_abs rfl (gs_cons (g_name (pv 1)) (gs_nil))))) (gs_nil))) rfl)
  (ds_cons (ds_while (fuelI 3) (passes_of rfl) (d_cmpT ot_gt (g_name (pv 3)) (g_e (d_const pe_int fun _ => .int _))) (ds_one (ds_par (i := 2) (j := 3) rfl sc__law_fraction.nd rfl rfl (by decide) rfl rfl (gs_cons (g_e (d_var (pv 3))) (gs_cons (g_e (d_bin ot_mod (g_e (d_callTy (b_int) rfl g.n_int rfl (gs_cons (g_name (pv 2)) (gs_nil)))) (g_name (pv 3)))) (gs_nil))) rfl)))
  (ds_cons (ds_set (i := 4) sc__law_fraction.nd rfl (.inl rfl) (d_ifE (d_cmpT ot_lt (g_name (pv 1)) (g_e (d_const pe_int fun _ => .int _))) (d_un ut_neg (g_e (d_const pe_int fun _ => .int _))) (d_const pe_int fun _ => .int _)))
  (ds_one (ds_ret (d_tup (gs_cons (g_e (d_bin ot_div (g_e (d_bin ot_mul (g_name (pv 4)) (g_name (pv 0)))) (g_name (pv 2)))) (gs_cons (g_e (d_bin ot_div (g_e (d_bin ot_mul (g_name (pv 4)) (g_name (pv 1)))) (g_name (pv 2)))) (gs_nil))))))))
theorem sc__law_whole : FnScope N__law_whole ["draws", "at"] (defScope s__law_whole) := ⟨rfl, rfl, rfl, by decide +kernel, rfl, by decide +kernel, by decide +kernel⟩
theorem d__law_whole (g : Gs mg K P C) (I : FunIn K mg "_law_whole" s__law_whole ["draws", "at"]) (d__law_take : Def P w K mg base "_law_take" 2 F__law_take) (d__law_one : Def P w K mg base "_law_one" 3 F__law_one) : Def P w K mg base "_law_whole" 4 F__law_whole :=
  df_mk I sc__law_whole (by decide) (kp := kp__law_whole) (g := f__law_whole) rfl fun f cdv A outer s H E hr =>
  ds_cons (ds_set (i := 2) sc__law_whole.nd rfl (.inl rfl) (d_const pe_int fun _ => .int _))
  (ds_cons (ds_set (i := 3) sc__law_whole.nd rfl (.inl rfl) (d_bin ot_add (g_e (d_bin ot_mul (g_e (d_call (d__law_take.mono (by decide)) hr rfl (takes_of rfl rfl rfl rfl) (gs_cons (g_name (pv 0)) (gs_cons (g_name (pv 1)) (gs_cons (g_e (d_const pe_int fun _ => .int _)) (gs_nil)))))) (g_e (d_const pe_int fun _ => .int _)))) (g_e (d_call (d__law_take.mono (by decide)) hr rfl (takes_of rfl rfl rfl rfl) (gs_cons (g_name (pv 0)) (gs_cons (g_name (pv 1)) (gs_cons (g_e (d_const pe_int fun _ => .int _)) (gs_nil))))))))
  (ds_cons (ds_set (i := 4) sc__law_whole.nd rfl (.inl rfl) (d_call (d__law_one.mono (by decide)) hr rfl (takes_of rfl rfl rfl rfl) (gs_cons (g_e (d_lst (gs_cons (g_e (d_V (d_call (d__law_take.mono (by decide)) hr rfl (takes_of rfl rfl rfl rfl) (gs_cons (g_name (pv 0)) (gs_cons (g_name (pv 1)) (gs_cons (g_e (d_const pe_int fun _ => .int _)) (gs_nil))))))) (gs_cons (g_e (d_var (pv 3))) (gs_cons (g_e (d_var (pv 2))) (gs_cons (g_e (d_bin ot_sub (g_name (pv 2)) (g_e (d_call (d__law_take.mono (by decide)) hr rfl (takes_of rfl rfl rfl rfl) (gs_cons (g_name (pv 0)) (gs_cons (g_name (pv 1)) (gs_cons (g_e (d_const pe_int fun _ => .int _)) (gs_nil)))))))) (gs_cons (g_e (d_bin ot_mul (g_e (d_const pe_int fun _ => .int _)) (g_e (d_call (d__law_take.mono (by decide)) hr rfl (takes_of rfl rfl rfl rfl) (gs_cons (g_name (pv 0)) (gs_cons (g_name (pv 1)) (gs_cons (g_e (d_const pe_int fun _ => .int _)) (gs_nil)))))))) (gs_cons (g_e (d_bin ot_pow (g_e (d_const pe_int fun _ => .int _)) (g_e (d_const pe_int fun _ => .int _)))) (gs_cons (g_e (d_const pe_int fun _ => .int _)) (gs_nil)))))))))) (gs_cons (g_name (pv 0)) (gs_cons (g_name (pv 1)) (gs_nil))))))
  (ds_one (ds_ret (d_call (d__law_one.mono (by decide)) hr rfl (takes_of rfl rfl rfl rfl) (gs_cons (g_e (d_lst (gs_cons (g_e (d_var (pv 4))) (gs_cons (g_e (d_bin ot_sub (g_e (d_const pe_int fun _ => .int _)) (g_name (pv 4)))) (gs_nil))))) (gs_cons (g_name (pv 0)) (gs_cons (g_name (pv 1)) (gs_nil)))))))))
theorem sc__law_small : FnScope N__law_small ["draws", "at"] (defScope s__law_small) := ⟨rfl, rfl, rfl, by decide +kernel, rfl, by decide +kernel, by decide +kernel⟩
theorem d__law_small (g : Gs mg K P C) (I : FunIn K mg "_law_small" s__law_small ["draws", "at"]) (d__law_whole : Def P w K mg base "_law_whole" 4 F__law_whole) (d__law_fraction : Def P w K mg base "_law_fraction" 1 F__law_fraction) : Def P w K mg base "_law_small" 5 F__law_small :=
  df_mk I sc__law_small (by decide) (kp := kp__law_small) (g := f__law_small) rfl fun f cdv A outer s H E hr =>
  ds_cons (ds_set (i := 2) sc__law_small.nd rfl (.inl rfl) (d_callB (b_abs) rfl g.n_abs rfl (gs_cons (g_e (d_call (d__law_whole.mono (by decide)) hr rfl (takes_of rfl rfl rfl rfl) (gs_cons (g_name (pv 0)) (gs_cons (g_name (pv 1)) (gs_nil))))) (gs_nil))))
  (ds_one (ds_ret (d_call (d__law_fraction.mono (by decide)) hr rfl (takes_of rfl rfl rfl rfl) (gs_cons (g_e (d_call (d__law_whole.mono (by decide)) hr rfl (takes_of rfl rfl rfl rfl) (gs_cons (g_name (pv 0)) (gs_cons (g_name (pv 1)) (gs_nil))))) (gs_cons (g_e (d_ifE (d_cmpT ot_gt (g_name (pv 2)) (g_e (d_const pe_int fun _ => .int _))) (d_var (pv 2)) (d_const pe_int fun _ => .int _))) (gs_nil))))))
theorem sc_is_integer : FnScope N_is_integer ["value"] (defScope s_is_integer) := ⟨rfl, rfl, rfl, by decide +kernel, rfl, by decide +kernel, by decide +kernel⟩
theorem d_is_integer (g : Gs mg K P C) (I : FunIn K mg "is_integer" s_is_integer ["value"])  : Def P w K mg base "is_integer" 1 F_is_integer :=
  df_mk I sc_is_integer (by decide) (kp := kp_is_integer) (g := f_is_integer) rfl fun f cdv A outer s H E hr =>
  ds_one (ds_ret (d_and (d_is (g_name (pv 0)) tyOk_int rfl rfl g.n_int rfl g.n_isinstance) (d_one (d_notV (d_is (g_name (pv 0)) tyOk_bool rfl rfl g.n_bool rfl g.n_isinstance)))))
theorem sc_divisor : FnScope N_divisor ["first", "second"] (defScope s_divisor) := ⟨rfl, rfl, rfl, by decide +kernel, rfl, by decide +kernel, by decide +kernel⟩
theorem d_divisor (g : Gs mg K P C) (I : FunIn K mg "divisor" s_divisor ["first", "second"])  : Def P w K mg base "divisor" 1 F_divisor :=
  df_mk I sc_divisor (by decide) (kp := kp_divisor) (g := f_divisor) rfl fun f cdv A outer s H E hr =>
  ds_cons (ds_par (i := 0) (j := 1) rfl sc_divisor.nd rfl rfl (by decide) rfl rfl (gs_cons (g_e (d_V (d_callB (b_abs) rfl g.n_abs rfl (gs_cons (g_name (pv 0)) (gs_nil))))) (gs_cons (g_e (d_V (d_callB (b_abs) rfl g.n_abs rfl (gs_cons (g_name (pv 1)) (gs_nil))))) (gs_nil))) rfl)
  (ds_cons (ds_while (fuelI 1) (passes_of rfl) (d_cmpT ot_gt (g_name (pv 1)) (g_e (d_const pe_int fun _ => .int _))) (ds_one (ds_par (i := 0) (j := 1) rfl sc_divisor.nd rfl rfl (by decide) rfl rfl (gs_cons (g_e (d_var (pv 1))) (gs_cons (g_e (d_bin ot_mod (g_name (pv 0)) (g_name (pv 1)))) (gs_nil))) rfl)))
  (ds_one (ds_ret (d_mv (pv 0)))))
theorem sc_is_fraction : FnScope N_is_fraction ["value"] (defScope s_is_fraction) := ⟨rfl, rfl, rfl, by decide +kernel, rfl, by decide +kernel, by decide +kernel⟩
theorem d_is_fraction (g : Gs mg K P C) (I : FunIn K mg "is_fraction" s_is_fraction ["value"]) (d_is_integer : Def P w K mg base "is_integer" 1 F_is_integer) (d_divisor : Def P w K mg base "divisor" 1 F_divisor) : Def P w K mg base "is_fraction" 2 F_is_fraction :=
  df_mk I sc_is_fraction (by decide) (kp := kp_is_fraction) (g := f_is_fraction) rfl fun f cdv A outer s H E hr =>
  ds_cons (ds_if (d_pw (w_or (d_not (d_val (d_is (g_name (pv 0)) tyOk_tuple rfl rfl g.n_tuple rfl g.n_isinstance))) (w_or (d_cmpT (ot_ne hr.un) (g_e (d_callB (b_len) rfl g.n_len rfl (gs_cons (g_name (pv 0)) (gs_nil)))) (g_e (d_const pe_int fun _ => .int _))) (w_or (d_not (d_val (d_call (d_is_integer.mono (by decide)) hr rfl (takes_of rfl rfl rfl rfl) (gs_cons (g_e (d_ix (g_name (pv 0)) (g_e (d_const pe_int fun _ => .int _)))) (gs_nil))))) (w_or1 (d_not (d_val (d_call (d_is_integer.mono (by decide)) hr rfl (takes_of rfl rfl rfl rfl) (gs_cons (g_e (d_ix (g_name (pv 0)) (g_e (d_const pe_int fun _ => .int _)))) (gs_nil)))))))))) (ds_one (ds_ret (d_const pe_bl fun _ => .bl _))) (ds_nil))
  (ds_one (ds_ret (d_and (d_cmp ot_ge (g_e (d_ix (g_name (pv 0)) (g_e (d_const pe_int fun _ => .int _)))) (g_e (d_const pe_int fun _ => .int _))) (d_one (d_cmp (ot_eq hr.un) (g_e (d_call (d_divisor.mono (by decide)) hr rfl (takes_of rfl rfl rfl rfl) (gs_cons (g_e (d_ix (g_name (pv 0)) (g_e (d_const pe_int fun _ => .int _)))) (gs_cons (g_e (d_ix (g_name (pv 0)) (g_e (d_const pe_int fun _ => .int _)))) (gs_nil))))) (g_e (d_const pe_int fun _ => .int _)))))))
theorem sc_is_small : FnScope N_is_small ["value"] (defScope s_is_small) := ⟨rfl, rfl, rfl, by decide +kernel, rfl, by decide +kernel, by decide +kernel⟩
theorem d_is_small (g : Gs mg K P C) (I : FunIn K mg "is_small" s_is_small ["value"]) (d_is_fraction : Def P w K mg base "is_fraction" 2 F_is_fraction) : Def P w K mg base "is_small" 3 F_is_small :=
  df_mk I sc_is_small (by decide) (kp := kp_is_small) (g := f_is_small) rfl fun f cdv A outer s H E hr =>
  ds_one (ds_ret (d_and (d_call (d_is_fraction.mono (by decide)) hr rfl (takes_of rfl rfl rfl rfl) (gs_cons (g_name (pv 0)) (gs_nil))) (d_and (d_cmp ot_le (g_e (d_callB (b_abs) rfl g.n_abs rfl (gs_cons (g_e (d_ix (g_name (pv 0)) (g_e (d_const pe_int fun _ => .int _)))) (gs_nil)))) (g_e (d_glob g.c_MAX_NUMBER rfl))) (d_one (d_cmp ot_le (g_e (d_ix (g_name (pv 0)) (g_e (d_const pe_int fun _ => .int _)))) (g_e (d_glob g.c_MAX_NUMBER rfl)))))))
theorem sc_is_less : FnScope N_is_less ["first", "second"] (defScope s_is_less) := ⟨rfl, rfl, rfl, by decide +kernel, rfl, by decide +kernel, by decide +kernel⟩
theorem d_is_less (g : Gs mg K P C) (I : FunIn K mg "is_less" s_is_less ["first", "second"])  : Def P w K mg base "is_less" 1 F_is_less :=
  df_mk I sc_is_less (by decide) (kp := kp_is_less) (g := f_is_less) rfl fun f cdv A outer s H E hr =>
  ds_one (ds_ret (d_cmp ot_lt (g_e (d_bin ot_mul (g_e (d_ix (g_name (pv 0)) (g_e (d_const pe_int fun _ => .int _)))) (g_e (d_ix (g_name (pv 1)) (g_e (d_const pe_int fun _ => .int _)))))) (g_e (d_bin ot_mul (g_e (d_ix (g_name (pv 1)) (g_e (d_const pe_int fun _ => .int _)))) (g_e (d_ix (g_name (pv 0)) (g_e (d_const pe_int fun _ => .int _))))))))
theorem sc_compare : FnScope N_compare ["first", "second"] (defScope s_compare) := ⟨rfl, rfl, rfl, by decide +kernel, rfl, by decide +kernel, by decide +kernel⟩
theorem d_compare (g : Gs mg K P C) (I : FunIn K mg "compare" s_compare ["first", "second"]) (d_is_small : Def P w K mg base "is_small" 3 F_is_small) (d_is_less : Def P w K mg base "is_less" 1 F_is_less) : Def P w K mg base "compare" 4 (F_compare C) :=
  df_mk I sc_compare (by decide) (kp := kp_compare) (g := f_compare C) rfl fun f cdv A outer s H E hr =>
  ds_cons (ds_if (d_not (d_val (d_call (d_is_small.mono (by decide)) hr rfl (takes_of rfl rfl rfl rfl) (gs_cons (g_name (pv 0)) (gs_nil))))) (ds_one (ds_raiseX rfl g.t_ArgumentError g.k_ArgumentError (by decide) (by decide +kernel) (by decide +kernel) (by decide) hr (takes_of rfl rfl rfl rfl) (gs_cons (g_e (d_const pe_str fun _ => .str _)) (gs_nil)) rfl)) (ds_nil))
  (ds_cons (ds_if (d_not (d_val (d_call (d_is_small.mono (by decide)) hr rfl (takes_of rfl rfl rfl rfl) (gs_cons (g_name (pv 1)) (gs_nil))))) (ds_one (ds_raiseX rfl g.t_ArgumentError g.k_ArgumentError (by decide) (by decide +kernel) (by decide +kernel) (by decide) hr (takes_of rfl rfl rfl rfl) (gs_cons (g_e (d_const pe_str fun _ => .str _)) (gs_nil)) rfl)) (ds_nil))
  (ds_cons (ds_if (d_cmpT (ot_eq hr.un) (g_name (pv 0)) (g_name (pv 1))) (ds_one (ds_ret (d_const pe_int fun _ => .int _))) (ds_nil))
  (ds_one (ds_ret (d_ifE (d_val (d_call (d_is_less.mono (by decide)) hr rfl (takes_of rfl rfl rfl rfl) (gs_cons (g_name (pv 0)) (gs_cons (g_name (pv 1)) (gs_nil))))) (d_un ut_neg (g_e (d_const pe_int fun _ => .int _))) (d_const pe_int fun _ => .int _))))))
theorem sc_fraction_of : FnScope N_fraction_of ["over", "under"] (defScope s_fraction_of) := ⟨rfl, rfl, rfl, by decide +kernel, rfl, by decide +kernel, by decide +kernel⟩
theorem d_fraction_of (g : Gs mg K P C) (I : FunIn K mg "fraction_of" s_fraction_of ["over", "under"]) (d_divisor : Def P w K mg base "divisor" 1 F_divisor) : Def P w K mg base "fraction_of" 2 F_fraction_of :=
  df_mk I sc_fraction_of (by decide) (kp := kp_fraction_of) (g := f_fraction_of) rfl fun f cdv A outer s H E hr =>
  ds_cons (ds_set (i := 2) sc_fraction_of.nd rfl (.inl rfl) (d_call (d_divisor.mono (by decide)) hr rfl (takes_of rfl rfl rfl rfl) (gs_cons (g_name (pv 0)) (gs_cons (g_name (pv 1)) (gs_nil)))))
  (ds_cons (ds_if (d_cmpT ot_lt (g_name (pv 1)) (g_e (d_const pe_int fun _ => .int _))) (ds_one (ds_set (i := 2) sc_fraction_of.nd rfl (.inl rfl) (d_un ut_neg (g_name (pv 2))))) (ds_nil))
  (ds_one (ds_ret (d_tup (gs_cons (g_e (d_bin ot_div (g_name (pv 0)) (g_name (pv 2)))) (gs_cons (g_e (d_bin ot_div (g_name (pv 1)) (g_name (pv 2)))) (gs_nil)))))))
theorem sc_in_range : FnScope N_in_range ["value", "least", "most"] (defScope s_in_range) := ⟨rfl, rfl, rfl, by decide +kernel, rfl, by decide +kernel, by decide +kernel⟩
theorem d_in_range (g : Gs mg K P C) (I : FunIn K mg "in_range" s_in_range ["value", "least", "most"]) (d_is_integer : Def P w K mg base "is_integer" 1 F_is_integer) : Def P w K mg base "in_range" 2 F_in_range :=
  df_mk I sc_in_range (by decide) (kp := kp_in_range) (g := f_in_range) rfl fun f cdv A outer s H E hr =>
  ds_one (ds_ret (d_and (d_call (d_is_integer.mono (by decide)) hr rfl (takes_of rfl rfl rfl rfl) (gs_cons (g_name (pv 0)) (gs_nil))) (d_one (d_chain ot_le ot_le (g_name (pv 1)) (g_name (pv 0)) (g_name (pv 2))))))
theorem sc_fraction : FnScope N_fraction ["over", "under"] (defScope s_fraction) := ⟨rfl, rfl, rfl, by decide +kernel, rfl, by decide +kernel, by decide +kernel⟩
theorem d_fraction (g : Gs mg K P C) (I : FunIn K mg "fraction" s_fraction ["over", "under"]) (d_in_range : Def P w K mg base "in_range" 2 F_in_range) (d_fraction_of : Def P w K mg base "fraction_of" 2 F_fraction_of) : Def P w K mg base "fraction" 3 (F_fraction C) :=
  df_mk I sc_fraction (by decide) (kp := kp_fraction) (g := f_fraction C) rfl fun f cdv A outer s H E hr =>
  ds_cons (ds_if (d_not (d_val (d_call (d_in_range.mono (by decide)) hr rfl (takes_of rfl rfl rfl rfl) (gs_cons (g_name (pv 0)) (gs_cons (g_e (d_un ut_neg (g_e (d_glob g.c_MAX_NUMBER rfl)))) (gs_cons (g_e (d_glob g.c_MAX_NUMBER rfl)) (gs_nil))))))) (ds_one (ds_raiseX rfl g.t_ArgumentError g.k_ArgumentError (by decide) (by decide +kernel) (by decide +kernel) (by decide) hr (takes_of rfl rfl rfl rfl) (gs_cons (g_e (d_const pe_str fun _ => .str _)) (gs_nil)) rfl)) (ds_nil))
  (ds_cons (ds_if (d_pw (w_or (d_not (d_val (d_call (d_in_range.mono (by decide)) hr rfl (takes_of rfl rfl rfl rfl) (gs_cons (g_name (pv 1)) (gs_cons (g_e (d_un ut_neg (g_e (d_glob g.c_MAX_NUMBER rfl)))) (gs_cons (g_e (d_glob g.c_MAX_NUMBER rfl)) (gs_nil))))))) (w_or1 (d_cmpT (ot_eq hr.un) (g_name (pv 1)) (g_e (d_const pe_int fun _ => .int _)))))) (ds_one (ds_raiseX rfl g.t_ArgumentError g.k_ArgumentError (by decide) (by decide +kernel) (by decide +kernel) (by decide) hr (takes_of rfl rfl rfl rfl) (gs_cons (g_e (d_const pe_str fun _ => .str _)) (gs_nil)) rfl)) (ds_nil))
  (ds_one (ds_ret (d_call (d_fraction_of.mono (by decide)) hr rfl (takes_of rfl rfl rfl rfl) (gs_cons (g_name (pv 0)) (gs_cons (g_name (pv 1)) (gs_nil)))))))
theorem sc_add : FnScope N_add ["first", "second"] (defScope s_add) := ⟨rfl, rfl, rfl, by decide +kernel, rfl, by decide +kernel, by decide +kernel⟩
theorem d_add (g : Gs mg K P C) (I : FunIn K mg "add" s_add ["first", "second"]) (d_fraction_of : Def P w K mg base "fraction_of" 2 F_fraction_of) : Def P w K mg base "add" 3 F_add :=
  df_mk I sc_add (by decide) (kp := kp_add) (g := f_add) rfl fun f cdv A outer s H E hr =>
  ds_cons (ds_if (d_chainT (ot_eq hr.un) (ot_eq hr.un) (g_e (d_ix (g_name (pv 0)) (g_e (d_const pe_int fun _ => .int _)))) (g_e (d_ix (g_name (pv 1)) (g_e (d_const pe_int fun _ => .int _)))) (g_e (d_const pe_int fun _ => .int _))) (ds_one (ds_ret (d_tup (gs_cons (g_e (d_bin ot_add (g_e (d_ix (g_name (pv 0)) (g_e (d_const pe_int fun _ => .int _)))) (g_e (d_ix (g_name (pv 1)) (g_e (d_const pe_int fun _ => .int _)))))) (gs_cons (g_e (d_const pe_int fun _ => .int _)) (gs_nil)))))) (ds_nil))
  (ds_one (ds_ret (d_call (d_fraction_of.mono (by decide)) hr rfl (takes_of rfl rfl rfl rfl) (gs_cons (g_e (d_bin ot_add (g_e (d_bin ot_mul (g_e (d_ix (g_name (pv 0)) (g_e (d_const pe_int fun _ => .int _)))) (g_e (d_ix (g_name (pv 1)) (g_e (d_const pe_int fun _ => .int _)))))) (g_e (d_bin ot_mul (g_e (d_ix (g_name (pv 1)) (g_e (d_const pe_int fun _ => .int _)))) (g_e (d_ix (g_name (pv 0)) (g_e (d_const pe_int fun _ => .int _)))))))) (gs_cons (g_e (d_bin ot_mul (g_e (d_ix (g_name (pv 0)) (g_e (d_const pe_int fun _ => .int _)))) (g_e (d_ix (g_name (pv 1)) (g_e (d_const pe_int fun _ => .int _)))))) (gs_nil))))))
theorem sc_total : FnScope N_total ["parts"] (defScope s_total) := ⟨rfl, rfl, rfl, by decide +kernel, rfl, by decide +kernel, by decide +kernel⟩
theorem d_total (g : Gs mg K P C) (I : FunIn K mg "total" s_total ["parts"]) (d_is_small : Def P w K mg base "is_small" 3 F_is_small) (d_add : Def P w K mg base "add" 3 F_add) : Def P w K mg base "total" 4 (F_total C) :=
  df_mk I sc_total (by decide) (kp := kp_total) (g := f_total C) rfl fun f cdv A outer s H E hr =>
  ds_cons (ds_if (d_pw (w_or (d_not (d_val (d_is (g_name (pv 0)) tyOk_tuple rfl rfl g.n_tuple rfl g.n_isinstance))) (w_or1 (d_not (d_val (d_callB (b_all rfl) rfl g.n_all rfl (gs_cons (g_e (d_lc rfl sc_total.nd (di_seq (d_var (pv 0))) (blkOk_by (N := N_total) (sc := defScope s_total) (own := [(("part" : Str), 2)]) (by decide +kernel)) rfl (fun s H C cl fp => tg_name (i := 2) sc_total.nd rfl (.inl rfl)) (fun s H C cl fp => ts_nil) (fun s H C cl fp => d_call (d_is_small.mono (by decide)) hr rfl takes0 (gs_cons (g_name (pv 2)) (gs_nil))))) (gs_nil)))))))) (ds_one (ds_raiseX rfl g.t_ArgumentError g.k_ArgumentError (by decide) (by decide +kernel) (by decide +kernel) (by decide) hr (takes_of rfl rfl rfl rfl) (gs_cons (g_e (d_const pe_str fun _ => .str _)) (gs_nil)) rfl)) (ds_nil))
  (ds_cons (ds_set (i := 1) sc_total.nd rfl (.inl rfl) (d_glob g.c_ZERO rfl))
  (ds_cons (ds_for (passes_of rfl) rfl (di_seq (d_var (pv 0))) (tg_name (i := 2) sc_total.nd rfl (.inl rfl)) (ds_one (ds_set (i := 1) sc_total.nd rfl (.inl rfl) (d_call (d_add.mono (by decide)) hr rfl (takes_of rfl rfl rfl rfl) (gs_cons (g_name (pv 1)) (gs_cons (g_name (pv 2)) (gs_nil)))))))
  (ds_one (ds_ret (d_mv (pv 1))))))
theorem sc__law_told : FnScope N__law_told ["call", "one", "other"] (defScope s__law_told) := ⟨rfl, rfl, rfl, by decide +kernel, rfl, by decide +kernel, by decide +kernel⟩
theorem d__law_told (g : Gs mg K P C) (I : FunIn K mg "_law_told" s__law_told ["call", "one", "other"]) (d_fraction : Def P w K mg base "fraction" 3 (F_fraction C)) (d_total : Def P w K mg base "total" 4 (F_total C)) (d_compare : Def P w K mg base "compare" 4 (F_compare C)) : Def P w K mg base "_law_told" 5 (F__law_told C) :=
  df_mk I sc__law_told (by decide) (kp := kp__law_told) (g := f__law_told C) rfl fun f cdv A outer s H E hr =>
  ds_one (ds_try1 (i := 3) (m := C.m_ArgumentError) rfl rfl sc__law_told.nd rfl rfl ⟨rfl, by decide, .inl g.k_ArgumentError⟩ (takes_of rfl rfl rfl rfl) g.m_ArgumentError (fun W pn xe tk po => ds_cons (ds_if (d_cmpT (ot_eq hr.un) (g_name (pv 0)) (g_e (d_const pe_int fun _ => .int _))) (ds_one (ds_ret (d_call (d_fraction.mono (by decide)) hr rfl tk (gs_cons (g_name (pv 1)) (gs_cons (g_name (pv 2)) (gs_nil)))))) (ds_nil))
  (ds_cons (ds_if (d_cmpT (ot_eq hr.un) (g_name (pv 0)) (g_e (d_const pe_int fun _ => .int _))) (ds_one (ds_ret (d_call (d_total.mono (by decide)) hr rfl tk (gs_cons (g_name (pv 1)) (gs_nil))))) (ds_nil))
  (ds_one (ds_ret (d_call (d_compare.mono (by decide)) hr rfl tk (gs_cons (g_name (pv 1)) (gs_cons (g_name (pv 2)) (gs_nil)))))))) (su_ret (px_if (pb_is C.is_FrameError g.i_FrameError (fun _ _ => pv 3) rfl g.k_FrameError rfl g.n_isinstance) (px_attr C.cs_reason g.x_reason (fun _ _ => pv 3)) (px_const (fun _ _ => pe_str) fun _ => .str _))))
theorem sc__law_sum : FnScope N__law_sum ["one", "other"] (defScope s__law_sum) := ⟨rfl, rfl, rfl, by decide +kernel, rfl, by decide +kernel, by decide +kernel⟩
theorem d__law_sum (g : Gs mg K P C) (I : FunIn K mg "_law_sum" s__law_sum ["one", "other"]) (d__law_fraction : Def P w K mg base "_law_fraction" 1 F__law_fraction) : Def P w K mg base "_law_sum" 2 F__law_sum :=
  df_mk I sc__law_sum (by decide) (kp := kp__law_sum) (g := f__law_sum) rfl fun f cdv A outer s H E hr =>
  ds_one (ds_ret (d_call (d__law_fraction.mono (by decide)) hr rfl (takes_of rfl rfl rfl rfl) (gs_cons (g_e (d_bin ot_add (g_e (d_bin ot_mul (g_e (d_ix (g_name (pv 0)) (g_e (d_const pe_int fun _ => .int _)))) (g_e (d_ix (g_name (pv 1)) (g_e (d_const pe_int fun _ => .int _)))))) (g_e (d_bin ot_mul (g_e (d_ix (g_name (pv 1)) (g_e (d_const pe_int fun _ => .int _)))) (g_e (d_ix (g_name (pv 0)) (g_e (d_const pe_int fun _ => .int _)))))))) (gs_cons (g_e (d_bin ot_mul (g_e (d_ix (g_name (pv 0)) (g_e (d_const pe_int fun _ => .int _)))) (g_e (d_ix (g_name (pv 1)) (g_e (d_const pe_int fun _ => .int _)))))) (gs_nil)))))
theorem sc__law_less : FnScope N__law_less ["one", "other"] (defScope s__law_less) := ⟨rfl, rfl, rfl, by decide +kernel, rfl, by decide +kernel, by decide +kernel⟩
theorem d__law_less (g : Gs mg K P C) (I : FunIn K mg "_law_less" s__law_less ["one", "other"])  : Def P w K mg base "_law_less" 1 F__law_less :=
  df_mk I sc__law_less (by decide) (kp := kp__law_less) (g := f__law_less) rfl fun f cdv A outer s H E hr =>
  ds_one (ds_ret (d_cmp ot_lt (g_e (d_bin ot_mul (g_e (d_ix (g_name (pv 0)) (g_e (d_const pe_int fun _ => .int _)))) (g_e (d_ix (g_name (pv 1)) (g_e (d_const pe_int fun _ => .int _)))))) (g_e (d_bin ot_mul (g_e (d_ix (g_name (pv 1)) (g_e (d_const pe_int fun _ => .int _)))) (g_e (d_ix (g_name (pv 0)) (g_e (d_const pe_int fun _ => .int _))))))))
theorem sc__law_minus : FnScope N__law_minus ["one"] (defScope s__law_minus) := ⟨rfl, rfl, rfl, by decide +kernel, rfl, by decide +kernel, by decide +kernel⟩
theorem d__law_minus (g : Gs mg K P C) (I : FunIn K mg "_law_minus" s__law_minus ["one"])  : Def P w K mg base "_law_minus" 1 F__law_minus :=
  df_mk I sc__law_minus (by decide) (kp := kp__law_minus) (g := f__law_minus) rfl fun f cdv A outer s H E hr =>
  ds_one (ds_ret (d_tup (gs_cons (g_e (d_bin ot_sub (g_e (d_const pe_int fun _ => .int _)) (g_e (d_ix (g_name (pv 0)) (g_e (d_const pe_int fun _ => .int _)))))) (gs_cons (g_e (d_ix (g_name (pv 0)) (g_e (d_const pe_int fun _ => .int _)))) (gs_nil)))))
theorem sc_law : FnScope N_law ["script"] (defScope s_law) := ⟨rfl, rfl, rfl, by decide +kernel, rfl, by decide +kernel, by decide +kernel⟩
theorem fn_law (g : Gs mg K P C) {f : Addr} {fd : FuncData} (I : Fun K "law" "law" s_law f fd) (d__law_draws : Def P w K mg base "_law_draws" 1 F__law_draws) (d__law_whole : Def P w K mg base "_law_whole" 4 F__law_whole) (d__law_fraction : Def P w K mg base "_law_fraction" 1 F__law_fraction) (d__law_told : Def P w K mg base "_law_told" 5 (F__law_told C)) (d__law_small : Def P w K mg base "_law_small" 5 F__law_small) (d__law_take : Def P w K mg base "_law_take" 2 F__law_take) (d__law_less : Def P w K mg base "_law_less" 1 F__law_less) (d__law_one : Def P w K mg base "_law_one" 3 F__law_one) (d__law_minus : Def P w K mg base "_law_minus" 1 F__law_minus) (d__law_sum : Def P w K mg base "_law_sum" 2 F__law_sum) : FnG P w K mg base 6 f fd ["script"] (spF K (F_law C)) :=
  dfn_mk I sc_law (by decide) (kp := kp_law) (g := f_law C) rfl fun f cdv A outer s H E hr =>
  ds_cons (ds_set (i := 1) sc_law.nd rfl (.inr rfl) (d_call (d__law_draws.mono (by decide)) hr rfl (takes_of rfl rfl rfl rfl) (gs_cons (g_name (pv 0)) (gs_nil))))
  (ds_cons (ds_set (i := 2) sc_law.nd rfl (.inr rfl) (d_lst (gs_cons (g_e (d_const pe_int fun _ => .int _)) (gs_nil))))
  (ds_cons (ds_for (passes_of rfl) rfl (di_range1 rfl g.n_range (gs_cons (g_e (d_const pe_int fun _ => .int _)) (gs_nil))) (tg_name (i := 3) sc_law.nd rfl (.inl rfl)) (ds_cons (ds_par (i := 4) (j := 5) rfl sc_law.nd rfl rfl (by decide) rfl rfl (gs_cons (g_e (d_V (d_call (d__law_whole.mono (by decide)) hr rfl (takes_of rfl rfl rfl rfl) (gs_cons (g_name (pv 1)) (gs_cons (g_name (pv 2)) (gs_nil)))))) (gs_cons (g_e (d_V (d_call (d__law_whole.mono (by decide)) hr rfl (takes_of rfl rfl rfl rfl) (gs_cons (g_name (pv 1)) (gs_cons (g_name (pv 2)) (gs_nil)))))) (gs_nil))) rfl)
  (ds_cons (ds_set (i := 6) sc_law.nd rfl (.inl rfl) (d_ifE (d_cmpT (ot_ne hr.un) (g_name (pv 5)) (g_e (d_const pe_int fun _ => .int _))) (d_call (d__law_fraction.mono (by decide)) hr rfl (takes_of rfl rfl rfl rfl) (gs_cons (g_name (pv 4)) (gs_cons (g_name (pv 5)) (gs_nil)))) (d_const pe_str fun _ => .str _)))
  (ds_cons (ds_set (i := 7) sc_law.nd rfl (.inl rfl) (d_call (d__law_told.mono (by decide)) hr rfl (takes_of rfl rfl rfl rfl) (gs_cons (g_e (d_const pe_int fun _ => .int _)) (gs_cons (g_name (pv 4)) (gs_cons (g_name (pv 5)) (gs_nil))))))
  (ds_cons (ds_if (d_cmpT (ot_ne hr.un) (g_e (d_callB (b_repr hr) rfl g.n_repr rfl (gs_cons (g_name (pv 7)) (gs_nil)))) (g_e (d_callB (b_repr hr) rfl g.n_repr rfl (gs_cons (g_name (pv 6)) (gs_nil))))) (ds_one (ds_ret (d_const pe_bl fun _ => .bl _))) (ds_nil))
  (ds_cons (ds_if (d_pw (w_and (d_cmpT (ot_ne hr.un) (g_name (pv 5)) (g_e (d_const pe_int fun _ => .int _))) (w_and1 (d_pw (w_or (d_cmpT (ot_ne hr.un) (g_e (d_bin ot_mul (g_e (d_ix (g_name (pv 7)) (g_e (d_const pe_int fun _ => .int _)))) (g_name (pv 5)))) (g_e (d_bin ot_mul (g_e (d_ix (g_name (pv 7)) (g_e (d_const pe_int fun _ => .int _)))) (g_name (pv 4))))) (w_or1 (d_cmpT ot_lt (g_e (d_ix (g_name (pv 7)) (g_e (d_const pe_int fun _ => .int _)))) (g_e (d_const pe_int fun _ => .int _))))))))) (ds_one (ds_ret (d_const pe_bl fun _ => .bl _))) (ds_nil))
  (ds_cons (ds_par (i := 8) (j := 9) rfl sc_law.nd rfl rfl (by decide) rfl rfl (gs_cons (g_e (d_V (d_call (d__law_small.mono (by decide)) hr rfl (takes_of rfl rfl rfl rfl) (gs_cons (g_name (pv 1)) (gs_cons (g_name (pv 2)) (gs_nil)))))) (gs_cons (g_e (d_V (d_call (d__law_small.mono (by decide)) hr rfl (takes_of rfl rfl rfl rfl) (gs_cons (g_name (pv 1)) (gs_cons (g_name (pv 2)) (gs_nil)))))) (gs_nil))) rfl)
  (ds_cons (ds_if (d_cmpT (ot_eq hr.un) (g_e (d_call (d__law_take.mono (by decide)) hr rfl (takes_of rfl rfl rfl rfl) (gs_cons (g_name (pv 1)) (gs_cons (g_name (pv 2)) (gs_cons (g_e (d_const pe_int fun _ => .int _)) (gs_nil)))))) (g_e (d_const pe_int fun _ => .int _))) (ds_one (ds_set (i := 9) sc_law.nd rfl (.inl rfl) (d_var (pv 8)))) (ds_nil))
  (ds_cons (ds_set (i := 6) sc_law.nd rfl (.inl rfl) (d_ifE (d_cmpT (ot_eq hr.un) (g_name (pv 8)) (g_name (pv 9))) (d_const pe_int fun _ => .int _) (d_ifE (d_val (d_call (d__law_less.mono (by decide)) hr rfl (takes_of rfl rfl rfl rfl) (gs_cons (g_name (pv 8)) (gs_cons (g_name (pv 9)) (gs_nil))))) (d_un ut_neg (g_e (d_const pe_int fun _ => .int _))) (d_const pe_int fun _ => .int _))))
  (ds_one (ds_if (d_pw (w_or (d_cmpT (ot_ne hr.un) (g_e (d_callB (b_repr hr) rfl g.n_repr rfl (gs_cons (g_e (d_call (d__law_told.mono (by decide)) hr rfl (takes_of rfl rfl rfl rfl) (gs_cons (g_e (d_const pe_int fun _ => .int _)) (gs_cons (g_name (pv 8)) (gs_cons (g_name (pv 9)) (gs_nil)))))) (gs_nil)))) (g_e (d_callB (b_repr hr) rfl g.n_repr rfl (gs_cons (g_name (pv 6)) (gs_nil))))) (w_or1 (d_cmpT (ot_ne hr.un) (g_e (d_callB (b_repr hr) rfl g.n_repr rfl (gs_cons (g_e (d_call (d__law_told.mono (by decide)) hr rfl (takes_of rfl rfl rfl rfl) (gs_cons (g_e (d_const pe_int fun _ => .int _)) (gs_cons (g_name (pv 9)) (gs_cons (g_name (pv 8)) (gs_nil)))))) (gs_nil)))) (g_e (d_callB (b_repr hr) rfl g.n_repr rfl (gs_cons (g_e (d_bin ot_sub (g_e (d_const pe_int fun _ => .int _)) (g_name (pv 6)))) (gs_nil)))))))) (ds_one (ds_ret (d_const pe_bl fun _ => .bl _))) (ds_nil))))))))))))
  (ds_cons (ds_setLc (i := 10) rfl sc_law.nd rfl rfl rfl rfl (by decide +kernel) (di_range1 rfl g.n_range (gs_cons (g_e (d_call (d__law_take.mono (by decide)) hr rfl (takes_of rfl rfl rfl rfl) (gs_cons (g_name (pv 1)) (gs_cons (g_name (pv 2)) (gs_cons (g_e (d_call (d__law_one.mono (by decide)) hr rfl (takes_of rfl rfl rfl rfl) (gs_cons (g_e (d_lst (gs_cons (g_e (d_const pe_int fun _ => .int _)) (gs_cons (g_e (d_const pe_int fun _ => .int _)) (gs_cons (g_e (d_const pe_int fun _ => .int _)) (gs_nil)))))) (gs_cons (g_name (pv 1)) (gs_cons (g_name (pv 2)) (gs_nil)))))) (gs_nil)))))) (gs_nil))) (blkOk_by (N := N_law) (sc := defScope s_law) (own := [(("k" : Str), 14)]) (by decide +kernel)) rfl (fun s H C cl fp => tg_name (i := 14) sc_law.nd rfl (.inl rfl)) (fun s H C cl fp => ts_nil) (fun s H C cl fp => d_call (d__law_small.mono (by decide)) hr rfl takes0 (gs_cons (g_name (pv 1)) (gs_cons (g_name (pv 2)) (gs_nil)))))
  (ds_cons (ds_if (d_cmpT (ot_eq hr.un) (g_e (d_call (d__law_take.mono (by decide)) hr rfl (takes_of rfl rfl rfl rfl) (gs_cons (g_name (pv 1)) (gs_cons (g_name (pv 2)) (gs_cons (g_e (d_const pe_int fun _ => .int _)) (gs_nil)))))) (g_e (d_const pe_int fun _ => .int _))) (ds_one (ds_set (i := 10) sc_law.nd rfl (.inl rfl) (d_bin ot_add (g_name (pv 10)) (g_e (d_lc rfl sc_law.nd (di_seq (d_V (d_slice (g_name (pv 10)) (do_no) (do_so (d_const pe_int fun _ => .int _))))) (blkOk_by (N := N_law) (sc := defScope s_law) (own := [(("part" : Str), 11)]) (by decide +kernel)) rfl (fun s H C cl fp => tg_name (i := 11) sc_law.nd rfl (.inl rfl)) (fun s H C cl fp => ts_nil) (fun s H C cl fp => d_call (d__law_minus.mono (by decide)) hr rfl takes0 (gs_cons (g_name (pv 11)) (gs_nil)))))))) (ds_nil))
  (ds_cons (ds_set (i := 6) sc_law.nd rfl (.inl rfl) (d_tup (gs_cons (g_e (d_const pe_int fun _ => .int _)) (gs_cons (g_e (d_const pe_int fun _ => .int _)) (gs_nil)))))
  (ds_cons (ds_for (passes_of rfl) rfl (di_seq (d_var (pv 10))) (tg_name (i := 11) sc_law.nd rfl (.inl rfl)) (ds_one (ds_set (i := 6) sc_law.nd rfl (.inl rfl) (d_call (d__law_sum.mono (by decide)) hr rfl (takes_of rfl rfl rfl rfl) (gs_cons (g_name (pv 6)) (gs_cons (g_name (pv 11)) (gs_nil)))))))
  (ds_cons (ds_if (d_cmpT (ot_ne hr.un) (g_e (d_callB (b_repr hr) rfl g.n_repr rfl (gs_cons (g_e (d_call (d__law_told.mono (by decide)) hr rfl (takes_of rfl rfl rfl rfl) (gs_cons (g_e (d_const pe_int fun _ => .int _)) (gs_cons (g_e (d_callTy (b_tuple) rfl g.n_tuple rfl (gs_cons (g_name (pv 10)) (gs_nil)))) (gs_cons (g_e (d_const pe_non fun _ => .non)) (gs_nil)))))) (gs_nil)))) (g_e (d_callB (b_repr hr) rfl g.n_repr rfl (gs_cons (g_name (pv 6)) (gs_nil))))) (ds_one (ds_ret (d_const pe_bl fun _ => .bl _))) (ds_nil))
  (ds_cons (ds_set (i := 12) sc_law.nd rfl (.inl rfl) (d_call (d__law_one.mono (by decide)) hr rfl (takes_of rfl rfl rfl rfl) (gs_cons (g_e (d_lst (gs_cons (g_e (d_const pe_non fun _ => .non)) (gs_cons (g_e (d_const pe_bl fun _ => .bl _)) (gs_cons (g_e (d_const pe_str fun _ => .str _)) (gs_cons (g_e (d_tup (gs_cons (g_e (d_const pe_int fun _ => .int _)) (gs_cons (g_e (d_const pe_int fun _ => .int _)) (gs_nil))))) (gs_cons (g_e (d_const pe_int fun _ => .int _)) (gs_cons (g_e (d_un ut_neg (g_e (d_const pe_int fun _ => .int _)))) (gs_cons (g_e (d_bin ot_pow (g_e (d_const pe_int fun _ => .int _)) (g_e (d_const pe_int fun _ => .int _)))) (gs_nil)))))))))) (gs_cons (g_name (pv 1)) (gs_cons (g_name (pv 2)) (gs_nil))))))
  (ds_cons (ds_if (d_pw (w_or (d_cmpT (ot_ne hr.un) (g_e (d_call (d__law_told.mono (by decide)) hr rfl (takes_of rfl rfl rfl rfl) (gs_cons (g_e (d_const pe_int fun _ => .int _)) (gs_cons (g_name (pv 12)) (gs_cons (g_e (d_call (d__law_one.mono (by decide)) hr rfl (takes_of rfl rfl rfl rfl) (gs_cons (g_e (d_lst (gs_cons (g_e (d_var (pv 12))) (gs_cons (g_e (d_const pe_int fun _ => .int _)) (gs_cons (g_e (d_const pe_int fun _ => .int _)) (gs_nil)))))) (gs_cons (g_name (pv 1)) (gs_cons (g_name (pv 2)) (gs_nil)))))) (gs_nil)))))) (g_e (d_const pe_str fun _ => .str _))) (w_or1 (d_cmpT (ot_ne hr.un) (g_e (d_call (d__law_told.mono (by decide)) hr rfl (takes_of rfl rfl rfl rfl) (gs_cons (g_e (d_const pe_int fun _ => .int _)) (gs_cons (g_e (d_const pe_int fun _ => .int _)) (gs_cons (g_e (d_call (d__law_one.mono (by decide)) hr rfl (takes_of rfl rfl rfl rfl) (gs_cons (g_e (d_lst (gs_cons (g_e (d_var (pv 12))) (gs_cons (g_e (d_const pe_int fun _ => .int _)) (gs_nil))))) (gs_cons (g_name (pv 1)) (gs_cons (g_name (pv 2)) (gs_nil)))))) (gs_nil)))))) (g_e (d_const pe_str fun _ => .str _)))))) (ds_one (ds_ret (d_const pe_bl fun _ => .bl _))) (ds_nil))
  (ds_cons (ds_set (i := 13) sc_law.nd rfl (.inl rfl) (d_call (d__law_one.mono (by decide)) hr rfl (takes_of rfl rfl rfl rfl) (gs_cons (g_e (d_lst (gs_cons (g_e (d_const pe_non fun _ => .non)) (gs_cons (g_e (d_const pe_int fun _ => .int _)) (gs_cons (g_e (d_tup (gs_cons (g_e (d_const pe_int fun _ => .int _)) (gs_cons (g_e (d_const pe_int fun _ => .int _)) (gs_nil))))) (gs_cons (g_e (d_tup (gs_cons (g_e (d_const pe_int fun _ => .int _)) (gs_cons (g_e (d_const pe_int fun _ => .int _)) (gs_nil))))) (gs_cons (g_e (d_tup (gs_cons (g_e (d_const pe_int fun _ => .int _)) (gs_cons (g_e (d_un ut_neg (g_e (d_const pe_int fun _ => .int _)))) (gs_nil))))) (gs_cons (g_e (d_tup (gs_cons (g_e (d_const pe_int fun _ => .int _)) (gs_cons (g_e (d_const pe_int fun _ => .int _)) (gs_nil))))) (gs_cons (g_e (d_tup (gs_cons (g_e (d_const pe_bl fun _ => .bl _)) (gs_cons (g_e (d_const pe_int fun _ => .int _)) (gs_nil))))) (gs_cons (g_e (d_tup (gs_cons (g_e (d_const pe_int fun _ => .int _)) (gs_cons (g_e (d_const pe_bl fun _ => .bl _)) (gs_nil))))) (gs_cons (g_e (d_tup (gs_cons (g_e (d_const pe_int fun _ => .int _)) (gs_nil)))) (gs_cons (g_e (d_tup (gs_cons (g_e (d_const pe_int fun _ => .int _)) (gs_cons (g_e (d_const pe_int fun _ => .int _)) (gs_cons (g_e (d_const pe_int fun _ => .int _)) (gs_nil)))))) (gs_cons (g_e (d_tup (gs_cons (g_e (d_const pe_int fun _ => .int _)) (gs_cons (g_e (d_const pe_int fun _ => .int _)) (gs_nil))))) (gs_cons (g_e (d_tup (gs_cons (g_e (d_const pe_int fun _ => .int _)) (gs_cons (g_e (d_const pe_int fun _ => .int _)) (gs_nil))))) (gs_cons (g_e (d_const pe_str fun _ => .str _)) (gs_cons (g_e (d_tup (gs_nil))) (gs_nil))))))))))))))))) (gs_cons (g_name (pv 1)) (gs_cons (g_name (pv 2)) (gs_nil))))))
  (ds_cons (ds_set (i := 8) sc_law.nd rfl (.inl rfl) (d_call (d__law_small.mono (by decide)) hr rfl (takes_of rfl rfl rfl rfl) (gs_cons (g_name (pv 1)) (gs_cons (g_name (pv 2)) (gs_nil)))))
  (ds_cons (ds_if (d_pw (w_or (d_cmpT (ot_ne hr.un) (g_e (d_call (d__law_told.mono (by decide)) hr rfl (takes_of rfl rfl rfl rfl) (gs_cons (g_e (d_const pe_int fun _ => .int _)) (gs_cons (g_name (pv 13)) (gs_cons (g_e (d_call (d__law_one.mono (by decide)) hr rfl (takes_of rfl rfl rfl rfl) (gs_cons (g_e (d_lst (gs_cons (g_e (d_var (pv 8))) (gs_cons (g_e (d_var (pv 13))) (gs_nil))))) (gs_cons (g_name (pv 1)) (gs_cons (g_name (pv 2)) (gs_nil)))))) (gs_nil)))))) (g_e (d_const pe_str fun _ => .str _))) (w_or1 (d_cmpT (ot_ne hr.un) (g_e (d_call (d__law_told.mono (by decide)) hr rfl (takes_of rfl rfl rfl rfl) (gs_cons (g_e (d_const pe_int fun _ => .int _)) (gs_cons (g_name (pv 8)) (gs_cons (g_name (pv 13)) (gs_nil)))))) (g_e (d_const pe_str fun _ => .str _)))))) (ds_one (ds_ret (d_const pe_bl fun _ => .bl _))) (ds_nil))
  (ds_one (ds_ret (d_cmp (ot_eq hr.un) (g_e (d_call (d__law_told.mono (by decide)) hr rfl (takes_of rfl rfl rfl rfl) (gs_cons (g_e (d_const pe_int fun _ => .int _)) (gs_cons (g_e (d_call (d__law_one.mono (by decide)) hr rfl (takes_of rfl rfl rfl rfl) (gs_cons (g_e (d_lst (gs_cons (g_e (d_const pe_non fun _ => .non)) (gs_cons (g_e (d_const pe_int fun _ => .int _)) (gs_cons (g_e (d_const pe_str fun _ => .str _)) (gs_cons (g_e (d_tup (gs_cons (g_e (d_var (pv 13))) (gs_nil)))) (gs_cons (g_e (d_tup (gs_cons (g_e (d_var (pv 8))) (gs_cons (g_e (d_var (pv 13))) (gs_nil))))) (gs_cons (g_e (d_tup (gs_cons (g_e (d_var (pv 8))) (gs_cons (g_e (d_var (pv 8))) (gs_cons (g_e (d_var (pv 13))) (gs_cons (g_e (d_var (pv 8))) (gs_nil))))))) (gs_nil))))))))) (gs_cons (g_name (pv 1)) (gs_cons (g_name (pv 2)) (gs_nil)))))) (gs_cons (g_e (d_const pe_non fun _ => .non)) (gs_nil)))))) (g_e (d_const pe_str fun _ => .str _)))))))))))))))))
end
end K01

set_option Elab.async false
set_option linter.all false
set_option maxRecDepth 100000
set_option maxHeartbeats 4200000
set_option exponentiation.threshold 10000
namespace K01
open PySem PySem.Spec PyProof.Rows L2 DL
/-! ### the pure law -/
def isI : D → Bool
  | .int _ => true
  | _ => false
theorem p_isint (d : D) : F_is_integer [.val d] = .ok (.val (.bl (isI d))) [some (.val d)] := by cases d <;> rfl
def inR (d : D) (lo hi : Int) : Bool := match d with
  | .int i => decide (lo ≤ i) && decide (i ≤ hi)
  | _ => false
theorem p_inr (d : D) (lo hi : Int) : F_in_range [.val d, .val (.int lo), .val (.int hi)] = .ok (.val (.bl (inR d lo hi))) [some (.val d), some (.val (.int lo)), some (.val (.int hi))] := by
  have h := p_isint d
  cases d with
  | int i =>
    by_cases h1 : lo ≤ i <;> simp [F_in_range, f_in_range, mkFn, strt, h, isI, msk, kp_in_range, inR, h1]
  | _ => simp [F_in_range, f_in_range, mkFn, strt, h, isI, msk, kp_in_range, inR]
theorem fmod_nat (x y : Nat) : (x : Int).fmod y = ((x % y : Nat) : Int) := by
  rw [Int.fmod_eq_emod_of_nonneg _ (Int.natCast_nonneg y)]
  exact (Int.natCast_emod x y).symm
/-- the loops that find the greatest common divisor -/
theorem gcd_loop {B : S → R Bool} {body : S → O} {st : Nat → Nat → S} (hB : ∀ x y, B (st x y) = .ok (decide (0 < y)) (st x y)) (hb : ∀ x y, 0 < y → body (st x y) = .nx (st y (x % y))) :
    ∀ (n x y : Nat), y < n → whileO B body n (st x y) = .nx (st (Nat.gcd x y) 0)
  | 0, _, _, h => (Nat.not_lt_zero _ h).elim
  | n + 1, x, y, h => by
    unfold whileO
    rw [hB]
    by_cases hy : 0 < y
    · have e := gcd_loop hB hb n y (x % y) (by have := Nat.mod_lt x hy; omega)
      simp only [R.then_ok, hy, decide_true, if_true, hb x y hy]
      rw [e, Nat.gcd_comm x y, Nat.gcd_rec y x, Nat.gcd_comm]
    · have : y = 0 := by omega
      subst this
      simp
theorem abs_nat (a : Int) : (if a < 0 then -a else a) = (a.natAbs : Int) := by split <;> omega
theorem p_divisor (a b : Int) : F_divisor [.val (.int a), .val (.int b)] = .ok (.val (.int (Int.gcd a b))) [some (.val (.int a)), some (.val (.int b))] := by
  obtain ⟨t, ps, e, rfl, rfl⟩ : ∃ t ps, F_divisor [.val (.int a), .val (.int b)] = .ok t ps ∧ t = .val (.int (Int.gcd a b)) ∧ ps = [some (.val (.int a)), some (.val (.int b))] := by
    unfold F_divisor f_divisor
    refine gives rfl ?_
    refine seq_nx (σ' := [some (.val (.int a.natAbs)), some (.val (.int b.natAbs))]) (by simp [strt, abs_nat]) ?_
    refine seq_nx (σ' := [some (.val (.int (Nat.gcd a.natAbs b.natAbs))), some (.val (.int (0 : Nat)))]) ?_ ?_
    · unfold sWhile
      have hf : fuelI 1 [some (.val (.int a.natAbs)), some (.val (.int b.natAbs))] = b.natAbs + 1 := by simp [fuelI]
      rw [hf]
      refine gcd_loop (st := fun x y => [some (.val (.int x)), some (.val (.int y))]) (fun x y => ?_) (fun x y hy => ?_) (b.natAbs + 1) a.natAbs b.natAbs (Nat.lt_succ_self _)
      · simp
      · have : (y : Int) ≠ 0 := by omega
        simp [oMod_i this, fmod_nat]
    · exact go_rt (t := .val (.int (Nat.gcd a.natAbs b.natAbs))) (σ := [some (.val (.int (Nat.gcd a.natAbs b.natAbs))), some (.val (.int (0 : Nat)))]) (by simp) ⟨rfl, by simp [msk, kp_divisor]⟩
  exact e
/-- the whole fraction over / under, in lowest terms -/
def sg (b : Int) : Int := if b < 0 then -1 else 1
def nf (a b : Int) : Int × Int := (sg b * (a / (Int.gcd a b : Int)), sg b * (b / (Int.gcd a b : Int)))
def pd (p : Int × Int) : D := .tup [.int p.1, .int p.2]
theorem gcd_ne {a b : Int} (h : b ≠ 0) : (Int.gcd a b : Int) ≠ 0 := by
  intro z
  have : Int.gcd a b = 0 := by omega
  exact h (Int.gcd_eq_zero_iff.mp this).2
theorem gcd_le {a b : Int} (h : b ≠ 0) : (Int.gcd a b : Int).natAbs ≤ b.natAbs := by
  have := Int.gcd_dvd_natAbs_right a b
  exact Nat.le_of_dvd (Int.natAbs_pos.mpr h) (by simpa using this)
theorem fdiv_ex {g k : Int} (h : g ≠ 0) : (g * k).fdiv g = k := by
  rw [Int.mul_fdiv_cancel_left _ h]
theorem p_frac_of {a b : Int} (hb : b ≠ 0) (h2 : b.natAbs < 2 ^ 4000) : F_fraction_of [.val (.int a), .val (.int b)] = .ok (.val (pd (nf a b))) [some (.val (.int a)), some (.val (.int b))] := by
  have hd := p_divisor a b
  have hg := gcd_ne (a := a) hb
  have hgl : (Int.gcd a b : Int).natAbs < 2 ^ 4000 := Nat.lt_of_le_of_lt (gcd_le hb) h2
  obtain ⟨a', ea⟩ := Int.gcd_dvd_left (a := a) (b := b)
  obtain ⟨b', eb⟩ := Int.gcd_dvd_right (a := a) (b := b)
  have qa : a / (Int.gcd a b : Int) = a' := Int.ediv_eq_of_eq_mul_right hg ea
  have qb : b / (Int.gcd a b : Int) = b' := Int.ediv_eq_of_eq_mul_right hg eb
  obtain ⟨t, ps, e, rfl, rfl⟩ : ∃ t ps, F_fraction_of [.val (.int a), .val (.int b)] = .ok t ps ∧ t = .val (pd (nf a b)) ∧ ps = [some (.val (.int a)), some (.val (.int b))] := by
    unfold F_fraction_of f_fraction_of
    refine gives rfl ?_
    refine seq_nx (σ' := [some (.val (.int a)), some (.val (.int b)), some (.val (.int (Int.gcd a b)))]) (by simp [strt, hd]) ?_
    unfold nf pd sg
    rw [qa, qb]
    generalize (Int.gcd a b : Int) = g at *
    by_cases hn : b < 0
    · refine seq_nx (σ' := [some (.val (.int a)), some (.val (.int b)), some (.val (.int (-g)))]) (by simp [hn]) ?_
      have e1 : a.fdiv (-g) = -a' := by
        have : a = (-g) * (-a') := by rw [Int.neg_mul_neg]; exact ea
        rw [this, fdiv_ex (by omega)]
      have e2 : b.fdiv (-g) = -b' := by
        have : b = (-g) * (-b') := by rw [Int.neg_mul_neg]; exact eb
        rw [this, fdiv_ex (by omega)]
      have dk : divOk a (-g) = true := div_ok (by omega) (by simpa using hgl)
      have dk2 : divOk b (-g) = true := div_ok (by omega) (by simpa using hgl)
      refine go_rt (t := .val (.tup [.int (-a'), .int (-b')])) (σ := [some (.val (.int a)), some (.val (.int b)), some (.val (.int (-g)))]) (by simp [oDiv_i dk, oDiv_i dk2, e1, e2, oTup, sizeLine_eq]) ⟨by simp [hn], rfl⟩
    · refine seq_nx (σ' := [some (.val (.int a)), some (.val (.int b)), some (.val (.int g))]) (by simp [hn]) ?_
      have e1 : a.fdiv g = a' := by
        conv => lhs; rw [ea]
        exact fdiv_ex hg
      have e2 : b.fdiv g = b' := by
        conv => lhs; rw [eb]
        exact fdiv_ex hg
      have dk : divOk a g = true := div_ok hg hgl
      have dk2 : divOk b g = true := div_ok hg hgl
      refine go_rt (t := .val (.tup [.int a', .int b'])) (σ := [some (.val (.int a)), some (.val (.int b)), some (.val (.int g))]) (by simp [oDiv_i dk, oDiv_i dk2, e1, e2, oTup, sizeLine_eq]) ⟨by simp [hn], rfl⟩
  exact e
theorem p_lfrac {a b : Int} (hb : b ≠ 0) (h1 : a.natAbs < 2 ^ 4000) (h2 : b.natAbs < 2 ^ 4000) : F__law_fraction [.val (.int a), .val (.int b)] = .ok (.val (pd (nf a b))) [some (.val (.int a)), some (.val (.int b))] := by
  have hg := gcd_ne (a := a) hb
  have hgl : (Int.gcd a b : Int).natAbs < 2 ^ 4000 := Nat.lt_of_le_of_lt (gcd_le hb) h2
  obtain ⟨a', ea⟩ := Int.gcd_dvd_left (a := a) (b := b)
  obtain ⟨b', eb⟩ := Int.gcd_dvd_right (a := a) (b := b)
  have qa : a / (Int.gcd a b : Int) = a' := Int.ediv_eq_of_eq_mul_right hg ea
  have qb : b / (Int.gcd a b : Int) = b' := Int.ediv_eq_of_eq_mul_right hg eb
  obtain ⟨t, ps, e, rfl, rfl⟩ : ∃ t ps, F__law_fraction [.val (.int a), .val (.int b)] = .ok t ps ∧ t = .val (pd (nf a b)) ∧ ps = [some (.val (.int a)), some (.val (.int b))] := by
    unfold F__law_fraction f__law_fraction
    refine gives rfl ?_
    refine seq_nx (σ' := [some (.val (.int a)), some (.val (.int b)), some (.val (.int a.natAbs)), some (.val (.int b.natAbs)), none]) (by simp [strt, abs_nat]) ?_
    refine seq_nx (σ' := [some (.val (.int a)), some (.val (.int b)), some (.val (.int (Nat.gcd a.natAbs b.natAbs))), some (.val (.int (0 : Nat))), none]) ?_ ?_
    · unfold sWhile
      have hf : fuelI 3 [some (.val (.int a)), some (.val (.int b)), some (.val (.int a.natAbs)), some (.val (.int b.natAbs)), none] = b.natAbs + 1 := by simp [fuelI]
      rw [hf]
      refine gcd_loop (st := fun x y => [some (.val (.int a)), some (.val (.int b)), some (.val (.int x)), some (.val (.int y)), none]) (fun x y => ?_) (fun x y hy => ?_) (b.natAbs + 1) a.natAbs b.natAbs (Nat.lt_succ_self _)
      · simp
      · have : (y : Int) ≠ 0 := by omega
        simp [oMod_i this, fmod_nat]
    · show GO _ _ _ (sSeq _ _ [some (.val (.int a)), some (.val (.int b)), some (.val (.int (Int.gcd a b))), some (.val (.int (0 : Nat))), none])
      refine seq_nx (σ' := [some (.val (.int a)), some (.val (.int b)), some (.val (.int (Int.gcd a b))), some (.val (.int (0 : Nat))), some (.val (.int (sg b)))]) (by unfold sg; by_cases hn : b < 0 <;> simp [hn]) ?_
      unfold nf pd
      rw [qa, qb]
      generalize (Int.gcd a b : Int) = g at *
      have sq : sg b = 1 ∨ sg b = -1 := by unfold sg; split <;> simp
      have e1 : (sg b * a).fdiv g = sg b * a' := by
        conv => lhs; rw [ea, ← Int.mul_assoc, Int.mul_comm (sg b) g, Int.mul_assoc]
        exact fdiv_ex hg
      have e2 : (sg b * b).fdiv g = sg b * b' := by
        have : sg b * b = g * (sg b * b') := by
          conv => lhs; arg 2; rw [eb]
          rw [← Int.mul_assoc, Int.mul_comm (sg b) g, Int.mul_assoc]
        rw [this]
        exact fdiv_ex hg
      have m1 : mulOk (sg b) a = true := mul_ok (by rcases sq with h | h <;> (rw [h]; decide)) h1
      have m2 : mulOk (sg b) b = true := mul_ok (by rcases sq with h | h <;> (rw [h]; decide)) h2
      have dk : divOk (sg b * a) g = true := div_ok hg hgl
      have dk2 : divOk (sg b * b) g = true := div_ok hg hgl
      exact go_rt (t := .val (.tup [.int (sg b * a'), .int (sg b * b')])) (σ := [some (.val (.int a)), some (.val (.int b)), some (.val (.int g)), some (.val (.int (0 : Nat))), some (.val (.int (sg b)))]) (by simp [oMul_i m1, oMul_i m2, oDiv_i dk, oDiv_i dk2, e1, e2, oTup, sizeLine_eq]) ⟨rfl, rfl⟩
  exact e
end K01

set_option Elab.async false
set_option linter.all false
set_option maxRecDepth 100000
set_option maxHeartbeats 4200000
set_option exponentiation.threshold 10000
namespace K01
open PySem PySem.Spec PyProof.Rows L2 DL
/-! ### small fractions -/
def Sm (p : Int × Int) : Prop := p.1.natAbs ≤ 1000000000 ∧ 1 ≤ p.2 ∧ p.2 ≤ 1000000000 ∧ Int.gcd p.1 p.2 = 1
theorem nf_pos {a b : Int} (hb : b ≠ 0) : 1 ≤ (nf a b).2 ∧ Int.gcd (nf a b).1 (nf a b).2 = 1 ∧ (nf a b).1.natAbs ≤ a.natAbs ∧ (nf a b).2.natAbs ≤ b.natAbs ∧ (nf a b).1 * b = (nf a b).2 * a := by
  have hg := gcd_ne (a := a) hb
  obtain ⟨a', ea⟩ := Int.gcd_dvd_left (a := a) (b := b)
  obtain ⟨b', eb⟩ := Int.gcd_dvd_right (a := a) (b := b)
  have qa : a / (Int.gcd a b : Int) = a' := Int.ediv_eq_of_eq_mul_right hg ea
  have qb : b / (Int.gcd a b : Int) = b' := Int.ediv_eq_of_eq_mul_right hg eb
  have gp : 0 < Int.gcd a b := by omega
  have cop : Int.gcd a' b' = 1 := by
    have h := Int.gcd_mul_left (Int.gcd a b : Int) a' b'
    rw [← ea, ← eb] at h
    simp at h
    have : Int.gcd a b * 1 = Int.gcd a b * Int.gcd a' b' := by omega
    exact (Nat.eq_of_mul_eq_mul_left gp this).symm
  unfold nf
  rw [qa, qb]
  have la : a'.natAbs ≤ a.natAbs := by
    conv => rhs; rw [ea, Int.natAbs_mul]
    exact Nat.le_mul_of_pos_left _ (by simpa using gp)
  have lb : b'.natAbs ≤ b.natAbs := by
    conv => rhs; rw [eb, Int.natAbs_mul]
    exact Nat.le_mul_of_pos_left _ (by simpa using gp)
  have b0 : b' ≠ 0 := by rintro rfl; simp at eb; exact hb eb
  have crs : a' * b = b' * a := by
    conv => lhs; rw [eb]
    conv => rhs; rw [ea]
    rw [Int.mul_left_comm, Int.mul_left_comm b', Int.mul_comm a' b']
  unfold sg
  by_cases hn : b < 0
  · have bn : b' < 0 := by
      rcases Int.lt_trichotomy b' 0 with h | h | h
      · exact h
      · exact absurd h b0
      · have : 0 < (Int.gcd a b : Int) * b' := Int.mul_pos (by omega) h
        omega
    simp only [hn, if_true]
    refine ⟨by omega, by simpa using cop, by simpa using la, by simpa using lb, by simp [Int.neg_mul, crs]⟩
  · have bp : 0 < b' := by
      rcases Int.lt_trichotomy b' 0 with h | h | h
      · have : (Int.gcd a b : Int) * b' < 0 := Int.mul_neg_of_pos_of_neg (by omega) h
        omega
      · exact absurd h b0
      · exact h
    simp only [hn, if_false]
    refine ⟨by omega, by simpa using cop, by simpa using la, by simpa using lb, by simp [crs]⟩
theorem dvok {p : Int × Int} (h : Sm p) : True := trivial
theorem p_isfrac_pd (p : Int × Int) (h1 : 1 ≤ p.2) (hg : Int.gcd p.1 p.2 = 1) : F_is_fraction [.val (pd p)] = .ok (.val (.bl true)) [some (.val (pd p))] := by
  have hd := p_divisor p.1 p.2
  have i1 := p_isint (.int p.1)
  have i2 := p_isint (.int p.2)
  simp [F_is_fraction, f_is_fraction, mkFn, strt, pd, isTy, T.ty, D.ty, oIx, atI, ixN, i1, i2, isI, hd, hg, h1, msk, kp_is_fraction]
theorem p_small {p : Int × Int} (h : Sm p) : F_is_small [.val (pd p)] = .ok (.val (.bl true)) [some (.val (pd p))] := by
  obtain ⟨a, b, c, d⟩ := h
  have hf := p_isfrac_pd p b d
  have ha : (p.1.natAbs : Int) ≤ 1000000000 := by omega
  simp [F_is_small, f_is_small, mkFn, strt, hf, msk, kp_is_small]
  simp [pd, oIx, atI, ixN, abs_nat, c_MAX_NUMBER, ha, c, msk, kp_is_small]
/-! ### the library's functions -/
theorem p_less (p q : Int × Int) (hp : Sm p) (hq : Sm q) : F_is_less [.val (pd p), .val (pd q)] = .ok (.val (.bl (decide (p.1 * q.2 < q.1 * p.2)))) [some (.val (pd p)), some (.val (pd q))] := by
  obtain ⟨a, b, c, d⟩ := hp
  obtain ⟨a', b', c', d'⟩ := hq
  have m1 : mulOk p.1 q.2 = true := mul_ok (sm_ok (by omega) (by omega)) (sm_ok (by omega) (by omega))
  have m2 : mulOk q.1 p.2 = true := mul_ok (sm_ok (by omega) (by omega)) (sm_ok (by omega) (by omega))
  simp [F_is_less, f_is_less, mkFn, strt, pd, oIx, atI, ixN, oMul_i m1, oMul_i m2, msk, kp_is_less]
theorem p_lless (p q : Int × Int) (hp : Sm p) (hq : Sm q) : F__law_less [.val (pd p), .val (pd q)] = .ok (.val (.bl (decide (p.1 * q.2 < q.1 * p.2)))) [some (.val (pd p)), some (.val (pd q))] := by
  obtain ⟨a, b, c, d⟩ := hp
  obtain ⟨a', b', c', d'⟩ := hq
  have m1 : mulOk p.1 q.2 = true := mul_ok (sm_ok (by omega) (by omega)) (sm_ok (by omega) (by omega))
  have m2 : mulOk q.1 p.2 = true := mul_ok (sm_ok (by omega) (by omega)) (sm_ok (by omega) (by omega))
  simp [F__law_less, f__law_less, mkFn, strt, pd, oIx, atI, ixN, oMul_i m1, oMul_i m2, msk, kp__law_less]
theorem eqv_pd (p q : Int × Int) : D.eqv (pd p) (pd q) = decide (p = q) := by
  show PyData.eqv (.tuple [.int p.1, .int p.2]) (.tuple [.int q.1, .int q.2]) = _
  obtain ⟨a, b⟩ := p
  obtain ⟨c, d⟩ := q
  simp [PyData.eqv, PyData.eqvAll]
  rw [Bool.eq_iff_iff]
  simp
theorem dep_pd (p : Int × Int) : (pd p).dep ≤ 63 := by
  show PyData.depth (.tuple [.int p.1, .int p.2]) ≤ 63
  simp [PyData.depth, PyData.depthAll]
theorem oEq_pd (p q : Int × Int) : oEq (.val (pd p)) (.val (pd q)) = some (.val (.bl (decide (p = q)))) := by
  have h : min (pd p).dep (pd q).dep ≤ 63 := Nat.le_trans (Nat.min_le_left _ _) (dep_pd p)
  simp only [oEq, if_pos h, eqv_pd]
def cmpI (p q : Int × Int) : Int := if p = q then 0 else if p.1 * q.2 < q.1 * p.2 then -1 else 1
theorem p_compare (C : Cl) {p q : Int × Int} (hp : Sm p) (hq : Sm q) : F_compare C [.val (pd p), .val (pd q)] = .ok (.val (.int (cmpI p q))) [some (.val (pd p)), some (.val (pd q))] := by
  have h1 := p_small hp
  have h2 := p_small hq
  have h3 := p_less p q hp hq
  unfold cmpI
  by_cases e : p = q
  · simp [F_compare, f_compare, mkFn, strt, h1, h2, oEq_pd, e, msk, kp_compare]
  · by_cases l : p.1 * q.2 < q.1 * p.2 <;> simp [F_compare, f_compare, mkFn, strt, h1, h2, h3, oEq_pd, e, l, msk, kp_compare]
theorem p_fraction (C : Cl) {a b : Int} (ha : a.natAbs ≤ 1000000000) (hb : b.natAbs ≤ 1000000000) (h0 : b ≠ 0) : F_fraction C [.val (.int a), .val (.int b)] = .ok (.val (pd (nf a b))) [some (.val (.int a)), some (.val (.int b))] := by
  have h1 := p_inr (.int a) (-1000000000) 1000000000
  have h2 := p_inr (.int b) (-1000000000) 1000000000
  have e1 : inR (.int a) (-1000000000) 1000000000 = true := by simp [inR]; omega
  have e2 : inR (.int b) (-1000000000) 1000000000 = true := by simp [inR]; omega
  have h3 := p_frac_of (a := a) h0 (sm_ok (by omega) (by omega))
  rw [e1] at h1
  rw [e2] at h2
  simp [F_fraction, f_fraction, mkFn, strt, c_MAX_NUMBER, h1, h2, h3, h0, msk, kp_fraction]
end K01

set_option Elab.async false
set_option linter.all false
set_option maxRecDepth 100000
set_option maxHeartbeats 4200000
set_option exponentiation.threshold 10000
namespace K01
open PySem PySem.Spec PyProof.Rows L2 DL
/-! ### drawing -/
section
variable {ds : List Int} {p q : Int}
theorem tk {many : Int} (hd : Small ds) (h0 : 0 ≤ p) (h1 : p < 1000000) (hl : ds.length < 1000000) (hm : 0 < many) (hq : q = p + 1) :
    ∃ r, 0 ≤ r ∧ r < many ∧ F__law_take [.lst (ds.map .int), .lst [.int p], .val (.int many)] = .ok (.val (.int r)) [some (.lst (ds.map .int)), some (.lst [.int q]), some (.val (.int many))] := by
  subst hq; exact p_take hd h0 h1 hl hm
theorem on {xs : List D} (hd : Small ds) (h0 : 0 ≤ p) (h1 : p < 1000000) (hl : ds.length < 1000000) (hx : xs ≠ []) (hq : q = p + 1) :
    ∃ d ∈ xs, F__law_one [.lst xs, .lst (ds.map .int), .lst [.int p]] = .ok (.val d) [some (.lst xs), some (.lst (ds.map .int)), some (.lst [.int q])] := by
  subst hq; exact p_one hd h0 h1 hl hx
theorem p_whole (hd : Small ds) (h0 : 0 ≤ p) (h1 : p < 999000) (hl : ds.length < 1000000) (hq : q = p + 7) :
    ∃ z : Int, z.natAbs ≤ 1000000000 ∧ F__law_whole [.lst (ds.map .int), .lst [.int p]] = .ok (.val (.int z)) [some (.lst (ds.map .int)), some (.lst [.int q])] := by
  obtain ⟨t, ps, e, z, hz, rfl, rfl⟩ : ∃ t ps, F__law_whole [.lst (ds.map .int), .lst [.int p]] = .ok t ps ∧ ∃ z : Int, z.natAbs ≤ 1000000000 ∧ t = .val (.int z) ∧ ps = [some (.lst (ds.map .int)), some (.lst [.int q])] := by
    unfold F__law_whole f__law_whole
    refine gives rfl ?_
    refine seq_nx (σ' := [some (.lst (ds.map .int)), some (.lst [.int p]), some (.val (.int 1000000000)), none, none]) (by simp [strt]) ?_
    obtain ⟨r1, a1, b1, e1⟩ := tk (many := 1009) (q := p + 1) hd h0 (by omega) hl (by decide) rfl
    obtain ⟨r2, a2, b2, e2⟩ := tk (p := p + 1) (q := p + 2) (many := 991080) hd (by omega) (by omega) hl (by decide) (by omega)
    have m1 : mulOk r1 991080 = true := mul_ok (sm_ok (by omega) (by omega)) (by decide)
    refine seq_nx (σ' := [some (.lst (ds.map .int)), some (.lst [.int (p + 2)]), some (.val (.int 1000000000)), some (.val (.int (r1 * 991080 + r2))), none]) (by simp [e1, e2, oMul_i m1]) ?_
    obtain ⟨r3, a3, b3, e3⟩ := tk (p := p + 2) (q := p + 3) (many := 13) hd (by omega) (by omega) hl (by decide) (by omega)
    obtain ⟨r4, a4, b4, e4⟩ := tk (p := p + 3) (q := p + 4) (many := 3) hd (by omega) (by omega) hl (by decide) (by omega)
    obtain ⟨r5, a5, b5, e5⟩ := tk (p := p + 4) (q := p + 5) (many := 9) hd (by omega) (by omega) hl (by decide) (by omega)
    have m2 : mulOk 360 r5 = true := mul_ok (by decide) (sm_ok (by omega) (by omega))
    obtain ⟨d, hm, e6⟩ := on (p := p + 5) (q := p + 6) (xs := [.int r3, .int (r1 * 991080 + r2), .int 1000000000, .int (1000000000 - r4), .int (360 * r5), .int 536870912, .int 0]) hd (by omega) (by omega) hl (by simp) (by omega)
    have hp : oPow (.val (.int 2)) (.val (.int 29)) = some (.val (.int 536870912)) := by simp [oPow, oInt, powOk]
    obtain ⟨n, rfl, n0, n1⟩ : ∃ n : Int, d = .int n ∧ 0 ≤ n ∧ n ≤ 1000000000 := by
      simp only [List.not_mem_nil, List.mem_cons, or_false] at hm
      rcases hm with h | h | h | h | h | h | h <;> exact ⟨_, h, by omega, by omega⟩
    refine seq_nx (σ' := [some (.lst (ds.map .int)), some (.lst [.int (p + 6)]), some (.val (.int 1000000000)), some (.val (.int (r1 * 991080 + r2))), some (.val (.int n))]) (by simp [e3, e4, e5, e6, hp, oMul_i m2, oLst, sizeLine_eq]) ?_
    obtain ⟨d, hm, e7⟩ := on (p := p + 6) (q := q) (xs := [.int n, .int (0 - n)]) hd (by omega) (by omega) hl (by simp) (by omega)
    obtain ⟨z, rfl, hz⟩ : ∃ z : Int, d = .int z ∧ z.natAbs ≤ 1000000000 := by
      simp only [List.not_mem_nil, List.mem_cons, or_false] at hm
      rcases hm with h | h <;> exact ⟨_, h, by omega⟩
    have e7' : F__law_one [.lst [.int n, .int (-n)], .lst (ds.map .int), .lst [.int (p + 6)]] = .ok (.val (.int z)) [some (.lst [.int n, .int (-n)]), some (.lst (ds.map .int)), some (.lst [.int q])] := by
      have : (0 : Int) - n = -n := by omega
      rw [this] at e7; exact e7
    exact go_rt (t := .val (.int z)) (σ := [some (.lst (ds.map .int)), some (.lst [.int q]), some (.val (.int 1000000000)), some (.val (.int (r1 * 991080 + r2))), some (.val (.int n))]) (by simp [e7', oLst, sizeLine_eq]) ⟨z, hz, rfl, rfl⟩
  exact ⟨z, hz, e⟩
theorem sm_nf {a b : Int} (ha : a.natAbs ≤ 1000000000) (hb : b.natAbs ≤ 1000000000) (h0 : b ≠ 0) : Sm (nf a b) := by
  obtain ⟨h1, h2, h3, h4, _⟩ := nf_pos (a := a) h0
  exact ⟨by omega, h1, by omega, h2⟩
theorem p_lsmall (hd : Small ds) (h0 : 0 ≤ p) (h1 : p < 990000) (hl : ds.length < 1000000) (hq : q = p + 14) :
    ∃ f, Sm f ∧ F__law_small [.lst (ds.map .int), .lst [.int p]] = .ok (.val (pd f)) [some (.lst (ds.map .int)), some (.lst [.int q])] := by
  obtain ⟨t, ps, e, f, hf, rfl, rfl⟩ : ∃ t ps, F__law_small [.lst (ds.map .int), .lst [.int p]] = .ok t ps ∧ ∃ f, Sm f ∧ t = .val (pd f) ∧ ps = [some (.lst (ds.map .int)), some (.lst [.int q])] := by
    unfold F__law_small f__law_small
    refine gives rfl ?_
    obtain ⟨z, hz, e1⟩ := p_whole (q := p + 7) hd h0 (by omega) hl rfl
    obtain ⟨y, hy, e2⟩ := p_whole (p := p + 7) (q := q) hd (by omega) (by omega) hl (by omega)
    obtain ⟨u, hu, u0, u1⟩ : ∃ u : Int, u = z.natAbs ∧ 0 ≤ u ∧ u ≤ 1000000000 := ⟨_, rfl, by omega, by omega⟩
    refine seq_nx (σ' := [some (.lst (ds.map .int)), some (.lst [.int (p + 7)]), some (.val (.int u))]) (by simp [strt, e1, abs_nat, hu]) ?_
    by_cases hp : 0 < u
    · have hn : u ≠ 0 := by omega
      have e3 := p_lfrac (a := y) (b := u) hn (sm_ok (by omega) (by omega)) (sm_ok (by omega) (by omega))
      exact go_rt (t := .val (pd (nf y u))) (σ := [some (.lst (ds.map .int)), some (.lst [.int q]), some (.val (.int u))]) (by simp [e2, hp, e3]) ⟨_, sm_nf hy (by omega) hn, rfl, rfl⟩
    · have e3 := p_lfrac (a := y) (b := 1) (by decide) (sm_ok (by omega) (by omega)) (by decide)
      exact go_rt (t := .val (pd (nf y 1))) (σ := [some (.lst (ds.map .int)), some (.lst [.int q]), some (.val (.int u))]) (by simp [e2, hp, e3]) ⟨_, sm_nf hy (by decide) (by decide), rfl, rfl⟩
  exact ⟨f, hf, e⟩
end
@[simp] theorem oIx_pd0 (p : Int × Int) : oIx (.val (pd p)) (.val (.int 0)) = some (.val (.int p.1)) := by simp [pd, oIx, atI, ixN]
@[simp] theorem oIx_pd1 (p : Int × Int) : oIx (.val (pd p)) (.val (.int 1)) = some (.val (.int p.2)) := by simp [pd, oIx, atI, ixN]
theorem p_minus {f : Int × Int} : F__law_minus [.val (pd f)] = .ok (.val (pd (-f.1, f.2))) [some (.val (pd f))] := by
  simp [F__law_minus, f__law_minus, mkFn, strt, pd, oIx, atI, ixN, oTup, sizeLine_eq, msk, kp__law_minus]
theorem sm_minus {f : Int × Int} (h : Sm f) : Sm (-f.1, f.2) := by
  obtain ⟨a, b, c, d⟩ := h
  exact ⟨by simpa using a, b, c, by simpa using d⟩
/-! ### sums -/
def addF (p q : Int × Int) : Int × Int := nf (p.1 * q.2 + q.1 * p.2) (p.2 * q.2)
structure Bd (k : Nat) (p : Int × Int) : Prop where
  n : p.1.natAbs ≤ k * 1000000000 ^ k
  d1 : 1 ≤ p.2
  d : p.2.natAbs ≤ 1000000000 ^ k
theorem pw60 {k : Nat} (hk : k ≤ 61) : (1000000000 : Nat) ^ k ≤ 1000000000 ^ 61 := Nat.pow_le_pow_right (by decide) hk
theorem big61 : (62 * 1000000000 ^ 61 * 1000000000 * 2 : Nat) < 2 ^ 1920 := by decide
theorem Bd.small {k : Nat} {p : Int × Int} (h : Bd k p) (hk : k ≤ 61) : p.1.natAbs < 2 ^ 1920 ∧ p.2.natAbs < 2 ^ 1920 := by
  have h1 := pw60 hk
  have h2 := big61
  have h3 : k * 1000000000 ^ k ≤ 62 * 1000000000 ^ 61 := Nat.mul_le_mul (by omega) h1
  have := h.n
  have := h.d
  generalize (1000000000 : Nat) ^ k = a at *
  generalize (1000000000 : Nat) ^ 61 = b at *
  generalize (2 : Nat) ^ 1920 = c at *
  constructor <;> omega
theorem addF_bd {k : Nat} {p q : Int × Int} (h : Bd k p) (hq : Sm q) : p.2 * q.2 ≠ 0 ∧ Bd (k + 1) (addF p q) ∧ (p.1 * q.2 + q.1 * p.2).natAbs ≤ (k + 1) * 1000000000 ^ (k + 1) ∧ (p.2 * q.2).natAbs ≤ 1000000000 ^ (k + 1) := by
  obtain ⟨a, b, c, d⟩ := hq
  have q2 : q.2.natAbs ≤ 1000000000 := by omega
  have hd0 : p.2 * q.2 ≠ 0 := Int.mul_ne_zero (by have := h.d1; omega) (by omega)
  have hden : (p.2 * q.2).natAbs ≤ 1000000000 ^ (k + 1) := by
    rw [Int.natAbs_mul, Nat.pow_succ]
    exact Nat.mul_le_mul h.d q2
  have hnum : (p.1 * q.2 + q.1 * p.2).natAbs ≤ (k + 1) * 1000000000 ^ (k + 1) := by
    refine Nat.le_trans (Int.natAbs_add_le _ _) ?_
    rw [Int.natAbs_mul, Int.natAbs_mul, Nat.pow_succ]
    have e1 : p.1.natAbs * q.2.natAbs ≤ (k * 1000000000 ^ k) * 1000000000 := Nat.mul_le_mul h.n q2
    have e2 : q.1.natAbs * p.2.natAbs ≤ 1000000000 * 1000000000 ^ k := Nat.mul_le_mul a h.d
    calc _ ≤ (k * 1000000000 ^ k) * 1000000000 + 1000000000 * 1000000000 ^ k := Nat.add_le_add e1 e2
      _ = (k + 1) * (1000000000 ^ k * 1000000000) := by rw [Nat.mul_assoc, Nat.mul_comm 1000000000 (1000000000 ^ k), Nat.add_mul, Nat.one_mul]
  obtain ⟨h1, _, h3, h4, _⟩ := nf_pos (a := p.1 * q.2 + q.1 * p.2) hd0
  exact ⟨hd0, ⟨Nat.le_trans h3 hnum, h1, Nat.le_trans h4 hden⟩, hnum, hden⟩
theorem lt4000 {n : Nat} (h : n < 2 ^ 1920) : n < 2 ^ 4000 := Nat.lt_of_lt_of_le h (Nat.pow_le_pow_right (by decide) (by decide))
theorem sum_parts {k : Nat} {p q : Int × Int} (h : Bd k p) (hk : k ≤ 60) (hq : Sm q) : mulOk p.1 q.2 = true ∧ mulOk q.1 p.2 = true ∧ mulOk p.2 q.2 = true ∧ (p.1 * q.2 + q.1 * p.2).natAbs < 2 ^ 4000 ∧ (p.2 * q.2).natAbs < 2 ^ 4000 ∧ p.2 * q.2 ≠ 0 := by
  obtain ⟨s1, s2⟩ := h.small (by omega)
  obtain ⟨n0, bd, hn, hd⟩ := addF_bd h hq
  obtain ⟨a, b, c, d⟩ := hq
  have q1 : q.1.natAbs < 2 ^ 4000 := sm_ok (by omega) (by omega)
  have q2 : q.2.natAbs < 2 ^ 4000 := sm_ok (by omega) (by omega)
  have h2 := big61
  have h1 := pw60 (k := k + 1) (by omega)
  have h3 : (k + 1) * 1000000000 ^ (k + 1) ≤ 62 * 1000000000 ^ 61 := Nat.mul_le_mul (by omega) h1
  refine ⟨mul_ok (lt4000 s1) q2, mul_ok q1 (lt4000 s2), mul_ok (lt4000 s2) q2, lt4000 ?_, lt4000 ?_, n0⟩
  · generalize (1000000000 : Nat) ^ (k + 1) = a at *
    generalize (1000000000 : Nat) ^ 61 = b at *
    generalize (2 : Nat) ^ 1920 = c at *
    omega
  · generalize (1000000000 : Nat) ^ (k + 1) = a at *
    generalize (1000000000 : Nat) ^ 61 = b at *
    generalize (2 : Nat) ^ 1920 = c at *
    omega
theorem p_lsum {k : Nat} {p q : Int × Int} (h : Bd k p) (hk : k ≤ 60) (hq : Sm q) : F__law_sum [.val (pd p), .val (pd q)] = .ok (.val (pd (addF p q))) [some (.val (pd p)), some (.val (pd q))] := by
  obtain ⟨m1, m2, m3, b1, b2, n0⟩ := sum_parts h hk hq
  have e := p_lfrac n0 b1 b2
  simp [F__law_sum, f__law_sum, mkFn, strt, msk, kp__law_sum, oMul_i m1, oMul_i m2, oMul_i m3, e, addF]
theorem nf_one (a : Int) : nf a 1 = (a, 1) := by simp [nf, sg]
theorem p_add {k : Nat} {p q : Int × Int} (h : Bd k p) (hk : k ≤ 60) (hq : Sm q) : F_add [.val (pd p), .val (pd q)] = .ok (.val (pd (addF p q))) [some (.val (pd p)), some (.val (pd q))] := by
  obtain ⟨m1, m2, m3, b1, b2, n0⟩ := sum_parts h hk hq
  have e := p_frac_of (a := p.1 * q.2 + q.1 * p.2) n0 b2
  by_cases h1 : p.2 = q.2
  · by_cases h2 : q.2 = 1
    · have ea : addF p q = (p.1 + q.1, 1) := by simp [addF, h1, h2, nf_one]
      have : pd (p.1 + q.1, 1) = .tup [.int (p.1 + q.1), .int 1] := rfl
      simp [F_add, f_add, mkFn, strt, msk, kp_add, h1, h2, ea, oTup, sizeLine_eq, this]
    · obtain ⟨a, b⟩ := p
      obtain ⟨c, d⟩ := q
      simp only at h1 h2 e m1 m2 m3
      subst h1
      simp [F_add, f_add, mkFn, strt, msk, kp_add, h2, oMul_i m1, oMul_i m2, oMul_i m3, e, addF]
  · simp [F_add, f_add, mkFn, strt, msk, kp_add, h1, oMul_i m1, oMul_i m2, oMul_i m3, e, addF]
end K01

set_option Elab.async false
set_option linter.all false
set_option maxRecDepth 100000
set_option maxHeartbeats 4200000
set_option exponentiation.threshold 10000
namespace K01
open PySem PySem.Spec PyProof.Rows L2 DL
section
variable {P Q : S → R Bool} {g1 g2 : S → O} {σ σ' : S} {b : Bool} {r : R Bool}
theorem bOr_f (h1 : P σ = .ok false σ') (h2 : Q σ' = r) : bOr P Q σ = r := by unfold bOr; rw [h1]; exact h2
theorem bOr_t (h1 : P σ = .ok true σ') : bOr P Q σ = .ok true σ' := by unfold bOr; rw [h1]; rfl
theorem bAnd_t (h1 : P σ = .ok true σ') (h2 : Q σ' = r) : bAnd P Q σ = r := by unfold bAnd; rw [h1]; exact h2
theorem bAnd_f (h1 : P σ = .ok false σ') : bAnd P Q σ = .ok false σ' := by unfold bAnd; rw [h1]; rfl
theorem bNot_ok (h : P σ = .ok b σ') : bNot P σ = .ok (!b) σ' := by unfold bNot; rw [h]; rfl
theorem sIf_t (h : P σ = .ok true σ') : sIf P g1 g2 σ = g1 σ' := by unfold sIf; rw [h]; rfl
theorem sIf_f (h : P σ = .ok false σ') : sIf P g1 g2 σ = g2 σ' := by unfold sIf; rw [h]; rfl
end
def fold (ps : List (Int × Int)) : Int × Int := ps.foldl addF (0, 1)
theorem bd0 : Bd 0 (0, 1) := ⟨by decide, by decide, by decide⟩
theorem fold_bd : ∀ (ps : List (Int × Int)) {k : Nat} {p : Int × Int}, Bd k p → (∀ q ∈ ps, Sm q) → Bd (k + ps.length) (ps.foldl addF p)
  | [], k, p, h, _ => h
  | q :: ps, k, p, h, hs => by
    have e := fold_bd ps (addF_bd h (hs q List.mem_cons_self)).2.1 fun x hx => hs x (List.mem_cons_of_mem _ hx)
    rw [List.length_cons, show k + (ps.length + 1) = k + 1 + ps.length by omega]
    exact e
theorem fold_take {ps : List (Int × Int)} {i : Nat} {q : Int × Int} (h : ps[i]? = some q) : fold (ps.take (i + 1)) = addF (fold (ps.take i)) q := by
  unfold fold
  rw [List.take_add_one, h]
  simp
theorem take_bd {ps : List (Int × Int)} (hs : ∀ q ∈ ps, Sm q) (hl : ps.length ≤ 60) {i : Nat} (hi : i ≤ ps.length) : ∃ k, k ≤ 60 ∧ Bd k (fold (ps.take i)) := by
  have := fold_bd (ps.take i) bd0 fun q hq => hs q (List.mem_of_mem_take hq)
  exact ⟨_, by rw [List.length_take]; omega, this⟩
theorem lc_run {vs : List Nat} {G : D → S → Option S} {B : S → R Bool} {E : S → R T} {st : S} (f : D → D) : ∀ (ds acc : List D), (∀ d ∈ ds, ∀ (acc r : List D), acc.length < sizeLine → lcLoop vs G B E (d :: r) acc st = lcLoop vs G B E r (acc ++ [f d]) st) →
    acc.length + ds.length ≤ sizeLine → lcLoop vs G B E ds acc st = .ok (acc ++ ds.map f) st
  | [], acc, _, _ => by simp [lcLoop]
  | d :: ds, acc, h, hl => by
    rw [List.length_cons] at hl
    rw [h d List.mem_cons_self acc ds (by omega), lc_run f ds _ (fun x hx => h x (List.mem_cons_of_mem _ hx)) (by rw [List.length_append, List.length_singleton]; omega)]
    simp
def SB (d : D) (b : Bool) : Prop := F_is_small [.val d] = .ok (.val (.bl b)) [some (.val d)]
theorem bools_map {α : Type} (f : α → Bool) : ∀ l : List α, bools? (l.map fun x => D.bl (f x)) = some (l.map f)
  | [] => rfl
  | x :: l => by rw [List.map_cons, List.map_cons]; unfold bools?; rw [bools_map f l]; rfl
/-- all([is_small(part) for part in parts]) -/
theorem all_small {xs : List D} {f : D → Bool} (h : ∀ d ∈ xs, SB d (f d)) (hl : xs.length ≤ sizeLine) : bV (eCB oAll (gCons (gE (eLC [2] (iSeq (eN 0)) (tgN 2) (bYes) (eCall F_is_small (gCons (gN 2) (gNil))))) (gNil))) [some (.val (.tup xs)), none, none] = .ok (xs.all f) [some (.val (.tup xs)), none, none] := by
  have e : lcLoop [2] (tgN 2) bYes (eCall F_is_small (gCons (gN 2) (gNil))) xs [] [some (.val (.tup xs)), none, none] = .ok ([] ++ xs.map fun d => D.bl (f d)) [some (.val (.tup xs)), none, none] := by
    refine lc_run (fun d => .bl (f d)) xs [] (fun d hd acc r ha => ?_) (by simpa using hl)
    have hs : F_is_small [.val d] = .ok (.val (.bl (f d))) [some (.val d)] := h d hd
    rw [lcLoop]
    simp [R.nox, hs, wipeS, ha]
  simp [eLC, D.items, wipeS, e, R.nox, keepS, oAll, T.ls, bools_map, List.all_map]
theorem p_total (C : Cl) {ps : List (Int × Int)} (hs : ∀ q ∈ ps, Sm q) (hl : ps.length ≤ 60) : F_total C [.val (.tup (ps.map pd))] = .ok (.val (pd (fold ps))) [some (.val (.tup (ps.map pd)))] := by
  obtain ⟨t, ss, e, rfl, rfl⟩ : ∃ t ss, F_total C [.val (.tup (ps.map pd))] = .ok t ss ∧ t = .val (pd (fold ps)) ∧ ss = [some (.val (.tup (ps.map pd)))] := by
    unfold F_total f_total
    refine gives rfl ?_
    have ha := all_small (xs := ps.map pd) (f := fun _ => true) (fun d hd => by
      obtain ⟨q, hq, rfl⟩ := (List.mem_map.mp hd)
      exact p_small (hs q hq)) (by rw [List.length_map, sizeLine_eq]; omega)
    refine seq_nx (σ' := [some (.val (.tup (ps.map pd))), none, none]) ?_ ?_
    · refine sIf_f (bOr_f (σ' := [some (.val (.tup (ps.map pd))), none, none]) (by simp [strt, isTy, T.ty, D.ty]) ?_)
      have := bNot_ok ha
      rw [this]
      simp
    · refine seq_nx (σ' := [some (.val (.tup (ps.map pd))), some (.val (pd (0, 1))), none]) (by simp [c_ZERO, pd]) ?_
      refine seq_for (ds := ps.map pd) (σ1 := [some (.val (.tup (ps.map pd))), some (.val (pd (0, 1))), none]) (Inv := fun i σ => ∃ o, σ = [some (.val (.tup (ps.map pd))), some (.val (pd (fold (ps.take i)))), o]) (by simp [D.items]) ⟨none, rfl⟩ ?_ ?_
      · rintro i d σ hi ⟨o, rfl⟩
        rw [List.getElem?_map] at hi
        obtain ⟨q, hq, rfl⟩ := Option.map_eq_some_iff.mp hi
        obtain ⟨k, hk, bd⟩ := take_bd hs hl (i := i) (Nat.le_of_lt (List.getElem?_eq_some_iff.mp hq).1)
        have e := p_add bd hk (hs q (List.mem_of_getElem? hq))
        exact ⟨_, rfl, [some (.val (.tup (ps.map pd))), some (.val (pd (fold (ps.take (i + 1))))), some (.val (pd q))], .inl (by simp [e, fold_take hq]), some (.val (pd q)), rfl⟩
      · rintro σ' ⟨o, rfl⟩
        rw [List.length_map, List.take_length]
        exact go_rt (t := .val (pd (fold ps))) (σ := [some (.val (.tup (ps.map pd))), some (.val (pd (fold ps))), o]) (by simp) ⟨rfl, rfl⟩
  exact e
end K01

set_option Elab.async false
set_option linter.all false
set_option maxRecDepth 100000
set_option maxHeartbeats 4200000
set_option exponentiation.threshold 10000
namespace K01
open PySem PySem.Spec PyProof.Rows L2 DL
section
variable {C : Cl} {d1 d2 t : D} {r : Str} {ps : S}
theorem told0 (h : F_fraction C [.val d1, .val d2] = .ok (.val t) [some (.val d1), some (.val d2)]) : F__law_told C [.val (.int 0), .val d1, .val d2] = .ok (.val t) [some (.val (.int 0)), some (.val d1), some (.val d2)] := by
  simp [F__law_told, f__law_told, mkFn, strt, sTry, h, msk, kp__law_told]
theorem told1 (h : F_total C [.val d1] = .ok (.val t) [some (.val d1)]) : F__law_told C [.val (.int 1), .val d1, .val d2] = .ok (.val t) [some (.val (.int 1)), some (.val d1), some (.val d2)] := by
  simp [F__law_told, f__law_told, mkFn, strt, sTry, h, msk, kp__law_told]
theorem told2 (h : F_compare C [.val d1, .val d2] = .ok (.val t) [some (.val d1), some (.val d2)]) : F__law_told C [.val (.int 2), .val d1, .val d2] = .ok (.val t) [some (.val (.int 2)), some (.val d1), some (.val d2)] := by
  simp [F__law_told, f__law_told, mkFn, strt, sTry, h, msk, kp__law_told]
theorem told0x (h : F_fraction C [.val d1, .val d2] = .exc C.ArgumentError [("reason", .str r)] [some (.val d1), some (.val d2)]) : F__law_told C [.val (.int 0), .val d1, .val d2] = .ok (.val (.str r)) [some (.val (.int 0)), some (.val d1), some (.val d2)] := by
  simp [F__law_told, f__law_told, mkFn, strt, sTry, h, msk, kp__law_told, hGo, Cl.m_ArgumentError, Cl.is_FrameError, Cl.cs_reason, List.lookup, entO, noX, finO, suRet, pxIf, pbIs, pxAttr]
theorem told1x (h : F_total C [.val d1] = .exc C.ArgumentError [("reason", .str r)] [some (.val d1)]) : F__law_told C [.val (.int 1), .val d1, .val d2] = .ok (.val (.str r)) [some (.val (.int 1)), some (.val d1), some (.val d2)] := by
  simp [F__law_told, f__law_told, mkFn, strt, sTry, h, msk, kp__law_told, hGo, Cl.m_ArgumentError, Cl.is_FrameError, Cl.cs_reason, List.lookup, entO, noX, finO, suRet, pxIf, pbIs, pxAttr]
theorem told2x (h : F_compare C [.val d1, .val d2] = .exc C.ArgumentError [("reason", .str r)] [some (.val d1), some (.val d2)]) : F__law_told C [.val (.int 2), .val d1, .val d2] = .ok (.val (.str r)) [some (.val (.int 2)), some (.val d1), some (.val d2)] := by
  simp [F__law_told, f__law_told, mkFn, strt, sTry, h, msk, kp__law_told, hGo, Cl.m_ArgumentError, Cl.is_FrameError, Cl.cs_reason, List.lookup, entO, noX, finO, suRet, pxIf, pbIs, pxAttr]
/-! ### what is refused -/
theorem x_over (h : inR d1 (-1000000000) 1000000000 = false) : F_fraction C [.val d1, .val d2] = .exc C.ArgumentError [("reason", .str "over")] [some (.val d1), some (.val d2)] := by
  have h1 := p_inr d1 (-1000000000) 1000000000
  rw [h] at h1
  simp [F_fraction, f_fraction, mkFn, strt, c_MAX_NUMBER, h1, sRaise, msk, kp_fraction]
theorem x_under (h1 : inR d1 (-1000000000) 1000000000 = true) (h2 : inR d2 (-1000000000) 1000000000 = false ∨ d2 = .int 0) : F_fraction C [.val d1, .val d2] = .exc C.ArgumentError [("reason", .str "under")] [some (.val d1), some (.val d2)] := by
  have e1 := p_inr d1 (-1000000000) 1000000000
  have e2 := p_inr d2 (-1000000000) 1000000000
  rw [h1] at e1
  rcases h2 with h2 | h2
  · rw [h2] at e2
    simp [F_fraction, f_fraction, mkFn, strt, c_MAX_NUMBER, e1, e2, sRaise, msk, kp_fraction]
  · subst h2
    have e3 : inR (.int 0) (-1000000000) 1000000000 = true := by decide
    rw [e3] at e2
    simp [F_fraction, f_fraction, mkFn, strt, c_MAX_NUMBER, e1, e2, sRaise, msk, kp_fraction]
theorem x_first (h : SB d1 false) : F_compare C [.val d1, .val d2] = .exc C.ArgumentError [("reason", .str "first")] [some (.val d1), some (.val d2)] := by
  have h : F_is_small [.val d1] = .ok (.val (.bl false)) [some (.val d1)] := h
  simp [F_compare, f_compare, mkFn, strt, h, sRaise, msk, kp_compare]
theorem x_second (h1 : SB d1 true) (h : SB d2 false) : F_compare C [.val d1, .val d2] = .exc C.ArgumentError [("reason", .str "second")] [some (.val d1), some (.val d2)] := by
  have h : F_is_small [.val d2] = .ok (.val (.bl false)) [some (.val d2)] := h
  have h1 : F_is_small [.val d1] = .ok (.val (.bl true)) [some (.val d1)] := h1
  simp [F_compare, f_compare, mkFn, strt, h, h1, sRaise, msk, kp_compare]
theorem x_parts0 (h : isTy "tuple" d1.ty = false) : F_total C [.val d1] = .exc C.ArgumentError [("reason", .str "parts")] [some (.val d1)] := by
  simp [F_total, f_total, mkFn, strt, h, T.ty, sRaise, msk, kp_total]
theorem x_parts {xs : List D} {f : D → Bool} (h : ∀ d ∈ xs, SB d (f d)) (hl : xs.length ≤ 1000) (hf : xs.all f = false) : F_total C [.val (.tup xs)] = .exc C.ArgumentError [("reason", .str "parts")] [some (.val (.tup xs))] := by
  have ha := all_small h (Nat.le_trans hl (by decide))
  rw [hf] at ha
  unfold F_total f_total mkFn
  rw [if_pos (show [T.val (D.tup xs)].length = 1 from rfl)]
  have e : sIf (bOr (bNot (bV (eIs "tuple" (gN 0)))) (bNot (bV (eCB oAll (gCons (gE (eLC [2] (iSeq (eN 0)) (tgN 2) (bYes) (eCall F_is_small (gCons (gN 2) (gNil))))) (gNil)))))) (sRaise C.ArgumentError (ps_ArgumentError) (gCons (gE (eC (.str "parts"))) (gNil))) (sNx) [some (.val (.tup xs)), none, none] = .exc C.ArgumentError [("reason", .str "parts")] [some (.val (.tup xs)), none, none] := by
    rw [sIf_t (σ' := [some (.val (.tup xs)), none, none]) (bOr_f (σ' := [some (.val (.tup xs)), none, none]) (by simp [isTy, T.ty, D.ty]) (by rw [bNot_ok ha]; rfl))]
    simp [sRaise]
  have e' : strt 3 [T.val (.tup xs)] = [some (.val (.tup xs)), none, none] := rfl
  rw [e']
  unfold sSeq
  rw [e]
  simp [msk, kp_total]
end
/-! ### what is no small fraction -/
theorem w_non : SB (.non) false := rfl
theorem w_5 : SB (.int 5) false := rfl
theorem w_24 : SB (.tup [.int 2, .int 4]) false := by
  have h := p_divisor 2 4
  simp [SB, F_is_small, f_is_small, F_is_fraction, f_is_fraction, mkFn, strt, isTy, T.ty, D.ty, oIx, atI, ixN, p_isint, isI, h, msk, kp_is_fraction, kp_is_small, Int.gcd, c_MAX_NUMBER]
theorem w_10 : SB (.tup [.int 1, .int 0]) false := by
  have h := p_divisor 1 0
  simp [SB, F_is_small, f_is_small, F_is_fraction, f_is_fraction, mkFn, strt, isTy, T.ty, D.ty, oIx, atI, ixN, p_isint, isI, h, msk, kp_is_fraction, kp_is_small, Int.gcd, c_MAX_NUMBER]
theorem w_1m2 : SB (.tup [.int 1, .int (-2)]) false := by
  have h := p_divisor 1 (-2)
  simp [SB, F_is_small, f_is_small, F_is_fraction, f_is_fraction, mkFn, strt, isTy, T.ty, D.ty, oIx, atI, ixN, p_isint, isI, h, msk, kp_is_fraction, kp_is_small, Int.gcd, c_MAX_NUMBER]
theorem w_02 : SB (.tup [.int 0, .int 2]) false := by
  have h := p_divisor 0 2
  simp [SB, F_is_small, f_is_small, F_is_fraction, f_is_fraction, mkFn, strt, isTy, T.ty, D.ty, oIx, atI, ixN, p_isint, isI, h, msk, kp_is_fraction, kp_is_small, Int.gcd, c_MAX_NUMBER]
theorem w_t1 : SB (.tup [.bl true, .int 1]) false := by
  have h := p_divisor 1 1
  simp [SB, F_is_small, f_is_small, F_is_fraction, f_is_fraction, mkFn, strt, isTy, T.ty, D.ty, oIx, atI, ixN, p_isint, isI, h, msk, kp_is_fraction, kp_is_small, Int.gcd, c_MAX_NUMBER]
theorem w_1t : SB (.tup [.int 1, .bl true]) false := by
  have h := p_divisor 1 1
  simp [SB, F_is_small, f_is_small, F_is_fraction, f_is_fraction, mkFn, strt, isTy, T.ty, D.ty, oIx, atI, ixN, p_isint, isI, h, msk, kp_is_fraction, kp_is_small, Int.gcd, c_MAX_NUMBER]
theorem w_1 : SB (.tup [.int 1]) false := by
  have h := p_divisor 1 1
  simp [SB, F_is_small, f_is_small, F_is_fraction, f_is_fraction, mkFn, strt, isTy, T.ty, D.ty, oIx, atI, ixN, p_isint, isI, h, msk, kp_is_fraction, kp_is_small, Int.gcd, c_MAX_NUMBER]
theorem w_111 : SB (.tup [.int 1, .int 1, .int 1]) false := by
  have h := p_divisor 1 1
  simp [SB, F_is_small, f_is_small, F_is_fraction, f_is_fraction, mkFn, strt, isTy, T.ty, D.ty, oIx, atI, ixN, p_isint, isI, h, msk, kp_is_fraction, kp_is_small, Int.gcd, c_MAX_NUMBER]
theorem w_b1 : SB (.tup [.int 1000000001, .int 1]) false := by
  have h := p_divisor 1000000001 1
  simp [SB, F_is_small, f_is_small, F_is_fraction, f_is_fraction, mkFn, strt, isTy, T.ty, D.ty, oIx, atI, ixN, p_isint, isI, h, msk, kp_is_fraction, kp_is_small, Int.gcd, c_MAX_NUMBER]
theorem w_1b : SB (.tup [.int 1, .int 1000000001]) false := by
  have h := p_divisor 1 1000000001
  simp [SB, F_is_small, f_is_small, F_is_fraction, f_is_fraction, mkFn, strt, isTy, T.ty, D.ty, oIx, atI, ixN, p_isint, isI, h, msk, kp_is_fraction, kp_is_small, Int.gcd, c_MAX_NUMBER]
theorem w_11 : SB (.str "11") false := rfl
theorem w_e : SB (.tup []) false := by
  have h := p_divisor 1 1
  simp [SB, F_is_small, f_is_small, F_is_fraction, f_is_fraction, mkFn, strt, isTy, T.ty, D.ty, oIx, atI, ixN, p_isint, isI, h, msk, kp_is_fraction, kp_is_small, Int.gcd, c_MAX_NUMBER]
end K01

set_option Elab.async false
set_option linter.all false
set_option maxRecDepth 100000
set_option maxHeartbeats 8200000
set_option exponentiation.threshold 10000
namespace K01
open PySem PySem.Spec PyProof.Rows L2 DL
def TO (I : S → Prop) (o : O) : Prop := ∃ σ2, (o = .nx σ2 ∨ o = .ct σ2) ∧ I σ2
theorem seq_forT {P : O → Prop} {I : S → R (List D)} {Tg : D → S → Option S} {gb g2 : S → O} {σ σ1 : S} {ds : List D} {Inv : Nat → S → Prop} (hI : I σ = .ok ds σ1) (h0 : Inv 0 σ1)
    (hs : ∀ i d σ, ds[i]? = some d → Inv i σ → ∃ σ1, Tg d σ = some σ1 ∧ TO (Inv (i + 1)) (gb σ1)) (k : ∀ σ', Inv ds.length σ' → P (g2 σ')) : P (sSeq (sFor I Tg gb) g2 σ) := seq_for hI h0 hs k
theorem to_nx {I : S → Prop} {o : O} {σ : S} (h : o = .nx σ) (k : I σ) : TO I o := ⟨σ, .inl h, k⟩
theorem sm_shows {f : Int × Int} (h : Sm f) : (pd f).shows = true := by
  obtain ⟨a, b, c, d⟩ := h
  exact shows_pair (Nat.lt_of_le_of_lt a (by decide)) (Nat.lt_of_le_of_lt (by omega : f.2.natAbs ≤ 1000000000) (by decide))
theorem cmp_small (p q : Int × Int) : (cmpI p q).natAbs < 2 ^ 1920 := by
  have : (cmpI p q).natAbs ≤ 1 := by unfold cmpI; split <;> (try split) <;> decide
  exact Nat.lt_of_le_of_lt this (by decide)
theorem cross {p q : Int × Int} (hp : Sm p) (hq : Sm q) (h : p.1 * q.2 = q.1 * p.2) : p = q := by
  obtain ⟨a, b, c, d⟩ := hp
  obtain ⟨a', b', c', d'⟩ := hq
  have hn : p.1.natAbs * q.2.natAbs = q.1.natAbs * p.2.natAbs := by rw [← Int.natAbs_mul, ← Int.natAbs_mul, h]
  have d : Nat.gcd p.1.natAbs p.2.natAbs = 1 := d
  have d' : Nat.gcd q.1.natAbs q.2.natAbs = 1 := d'
  have k1 : p.2.natAbs ∣ q.2.natAbs := Nat.Coprime.dvd_of_dvd_mul_left (show Nat.Coprime p.2.natAbs p.1.natAbs by unfold Nat.Coprime; rw [Nat.gcd_comm]; exact d) ⟨q.1.natAbs, by rw [hn, Nat.mul_comm]⟩
  have k2 : q.2.natAbs ∣ p.2.natAbs := Nat.Coprime.dvd_of_dvd_mul_left (show Nat.Coprime q.2.natAbs q.1.natAbs by unfold Nat.Coprime; rw [Nat.gcd_comm]; exact d') ⟨p.1.natAbs, by rw [← hn, Nat.mul_comm]⟩
  have e2 : p.2 = q.2 := by have := Nat.dvd_antisymm k1 k2; omega
  have e1 : p.1 = q.1 := by
    rw [e2] at h
    exact Int.eq_of_mul_eq_mul_right (by omega) h
  exact Prod.ext e1 e2
theorem cmp_anti (p q : Int × Int) (hp : Sm p) (hq : Sm q) : cmpI q p = 0 - cmpI p q := by
  unfold cmpI
  by_cases e : p = q
  · subst e; simp
  · rw [if_neg e, if_neg (Ne.symm e)]
    have hne : p.1 * q.2 ≠ q.1 * p.2 := fun h => e (cross hp hq h)
    by_cases l : p.1 * q.2 < q.1 * p.2
    · rw [if_pos l, if_neg (by omega)]; rfl
    · rw [if_neg l, if_pos (by omega)]; rfl
theorem lc_smalls {ds : List Int} (hd : Small ds) (hl : ds.length < 1000000) {L a3 a4 a5 a6 a7 a8 a9 : Option T} : ∀ (n : Nat) (k : Int) (acc : List D) (p : Int), 0 ≤ p → p + 14 * n < 990000 → acc.length + n ≤ 1000 →
    ∃ fs : List (Int × Int), fs.length = n ∧ (∀ f ∈ fs, Sm f) ∧ lcLoop [14] (tgN 14) bYes (eCall F__law_small (gCons (gN 1) (gCons (gN 2) (gNil)))) (iota k n) acc [L, some (.lst (ds.map .int)), some (.lst [.int p]), a3, a4, a5, a6, a7, a8, a9, none, none, none, none, none] =
      .ok (acc ++ fs.map pd) [L, some (.lst (ds.map .int)), some (.lst [.int (p + 14 * n)]), a3, a4, a5, a6, a7, a8, a9, none, none, none, none, none]
  | 0, k, acc, p, _, _, _ => ⟨[], rfl, fun f h => (by cases h), by simp [iota, lcLoop]⟩
  | n + 1, k, acc, p, p0, p1, ha => by
    obtain ⟨f, sf, e⟩ := p_lsmall (p := p) (q := p + 14) hd p0 (by omega) hl rfl
    obtain ⟨fs, h1, h2, h3⟩ := lc_smalls hd hl (L := L) (a3 := a3) (a4 := a4) (a5 := a5) (a6 := a6) (a7 := a7) (a8 := a8) (a9 := a9) n (k + 1) (acc ++ [pd f]) (p + 14) (by omega) (by omega) (by rw [List.length_append, List.length_singleton]; omega)
    refine ⟨f :: fs, by rw [List.length_cons, h1], fun g hg => ?_, ?_⟩
    · rcases List.mem_cons.mp hg with h | h
      · rw [h]; exact sf
      · exact h2 g h
    · have hz : acc.length < sizeLine := Nat.lt_of_le_of_lt (by omega : acc.length ≤ 1000) (by decide)
      rw [iota, lcLoop]
      simp only [q_tgN, List.length_set, if_true, q_bYes, R.nox, R.bind_ok, q_eV, q_eCall, q_gCons, q_gN, q_gNil, q_callF]
      simp [e, hz, wipeS]
      simp at h3
      rw [h3]
      have : p + 14 + 14 * (n : Int) = p + 14 * (n + 1) := by omega
      simp [this]
def minusD : D → D
  | .tup [.int a, b] => .tup [.int (-a), b]
  | d => d
theorem cut20 (xs : List D) : cutD xs none (some 20) = xs.take 20 := by
  unfold DL.cutD
  have : HT.sIx xs.length xs.length (some ((20 : Nat) : Int)) = min 20 xs.length := HT.sIx_nat _ _ _
  have h2 : HT.sIx xs.length xs.length (some (20 : Int)) = min 20 xs.length := this
  rw [h2, HT.sIx_none, List.drop_zero, Nat.sub_zero, List.take_eq_take_iff]
  omega
theorem oAdd_l {xs ys : List D} (h : xs.length + ys.length ≤ sizeLine) : oAdd (.lst xs) (.lst ys) = some (.lst (xs ++ ys)) := by
  simp [oAdd, oOr, oInt, oCatS, oCatT, oCatL, T.ls, h]
theorem law_ok (C : Cl) (ns : List Int) (h : ns.length ≤ 63) : ∃ ps, F_law C [.val (.lst (ns.map D.int))] = .ok (.val (.bl true)) ps := by
  obtain ⟨t, ps, e, rfl⟩ : ∃ t ps, F_law C [.val (.lst (ns.map D.int))] = .ok t ps ∧ t = .val (.bl true) := by
    obtain ⟨ds, hd, hl, ps0, e0, rfl⟩ := p_draws ns
    unfold F_law f_law
    refine gives rfl ?_
    refine seq_nx (σ' := [some (.val (.lst (ns.map .int))), some (.lst (ds.map .int)), none, none, none, none, none, none, none, none, none, none, none, none, none]) (by simp [strt, e0]) ?_
    refine seq_nx (σ' := [some (.val (.lst (ns.map .int))), some (.lst (ds.map .int)), some (.lst [.int 0]), none, none, none, none, none, none, none, none, none, none, none, none]) (by simp [oLst, sizeLine_eq]) ?_
    refine seq_forT (ds := iota 0 4) (σ1 := [some (.val (.lst (ns.map .int))), some (.lst (ds.map .int)), some (.lst [.int 0]), none, none, none, none, none, none, none, none, none, none, none, none])
      (Inv := fun i σ => ∃ (p : Int) (a3 a4 a5 a6 a7 a8 a9 : Option T), 0 ≤ p ∧ p ≤ i * 100 ∧ σ = [some (.val (.lst (ns.map .int))), some (.lst (ds.map .int)), some (.lst [.int p]), a3, a4, a5, a6, a7, a8, a9, none, none, none, none, none])
      (by simp [iRg1, rngOk]) ⟨0, none, none, none, none, none, none, none, by omega, by omega, rfl⟩ ?_ ?_
    · rintro i d σ hi ⟨p, a3, a4, a5, a6, a7, a8, a9, p0, p1, rfl⟩
      obtain ⟨hi, rfl⟩ := iota_at hi
      refine ⟨_, rfl, ?_⟩
      obtain ⟨z1, hz1, e1⟩ := p_whole (p := p) (q := p + 7) hd p0 (by omega) hl rfl
      obtain ⟨z2, hz2, e2⟩ := p_whole (p := p + 7) (q := p + 14) hd (by omega) (by omega) hl (by omega)
      refine seq_nx (σ' := [some (.val (.lst (ns.map .int))), some (.lst (ds.map .int)), some (.lst [.int (p + 14)]), some (.val (.int (0 + i))), some (.val (.int z1)), some (.val (.int z2)), a6, a7, a8, a9, none, none, none, none, none]) (by simp [e1, e2]) ?_
      -- what is due, what is told
      obtain ⟨dd, hdd, hsh, hdue, htold, hval⟩ : ∃ dd : D, True ∧ dd.shows = true ∧
          (∀ σ0 : S, σ0 = [some (.val (.lst (ns.map .int))), some (.lst (ds.map .int)), some (.lst [.int (p + 14)]), some (.val (.int (0 + i))), some (.val (.int z1)), some (.val (.int z2)), a6, a7, a8, a9, none, none, none, none, none] →
            sAsg 6 (eIf (bV (eB oNe (gN 5) (gE (eC (.int 0))))) (eCall F__law_fraction (gCons (gN 4) (gCons (gN 5) (gNil)))) (eC (.str "under"))) σ0 = .nx (σ0.set 6 (some (.val dd)))) ∧
          F__law_told C [.val (.int 0), .val (.int z1), .val (.int z2)] = .ok (.val dd) [some (.val (.int 0)), some (.val (.int z1)), some (.val (.int z2))] ∧
          (z2 = 0 ∨ dd = pd (nf z1 z2) ∧ z2 ≠ 0) := by
        by_cases hz : z2 = 0
        · subst hz
          refine ⟨.str "under", trivial, shows_under, fun σ0 hσ => ?_, told0x (x_under (by simp [inR]; omega) (.inr rfl)), .inl rfl⟩
          subst hσ
          simp
        · have ef := p_lfrac (a := z1) (b := z2) hz (sm_ok (by omega) (by omega)) (sm_ok (by omega) (by omega))
          refine ⟨pd (nf z1 z2), trivial, sm_shows (sm_nf hz1 hz2 hz), fun σ0 hσ => ?_, told0 (p_fraction C hz1 hz2 hz), .inr ⟨rfl, hz⟩⟩
          subst hσ
          simp [hz, ef]
      refine seq_nx (hdue _ rfl) ?_
      refine seq_nx (σ' := [some (.val (.lst (ns.map .int))), some (.lst (ds.map .int)), some (.lst [.int (p + 14)]), some (.val (.int (0 + i))), some (.val (.int z1)), some (.val (.int z2)), some (.val dd), some (.val dd), a8, a9, none, none, none, none, none]) (by simp [htold]) ?_
      refine seq_nx (σ' := [some (.val (.lst (ns.map .int))), some (.lst (ds.map .int)), some (.lst [.int (p + 14)]), some (.val (.int (0 + i))), some (.val (.int z1)), some (.val (.int z2)), some (.val dd), some (.val dd), a8, a9, none, none, none, none, none]) (by simp [oRepr_v hsh]) ?_
      refine seq_nx (σ' := [some (.val (.lst (ns.map .int))), some (.lst (ds.map .int)), some (.lst [.int (p + 14)]), some (.val (.int (0 + i))), some (.val (.int z1)), some (.val (.int z2)), some (.val dd), some (.val dd), a8, a9, none, none, none, none, none]) ?_ ?_
      · rcases hval with hz | ⟨rfl, hz⟩
        · simp [hz]
        · obtain ⟨n1, n2, n3, n4, n5⟩ := nf_pos (a := z1) hz
          have m1 : mulOk (nf z1 z2).1 z2 = true := mul_ok (sm_ok (by omega) (by omega)) (sm_ok (by omega) (by omega))
          have m2 : mulOk (nf z1 z2).2 z1 = true := mul_ok (sm_ok (by omega) (by omega)) (sm_ok (by omega) (by omega))
          have n6 : ¬ (nf z1 z2).2 < 1 := by omega
          simp [hz, oMul_i m1, oMul_i m2, n5, n6]
      obtain ⟨f1, s1, e3⟩ := p_lsmall (p := p + 14) (q := p + 28) hd (by omega) (by omega) hl (by omega)
      obtain ⟨f2, s2, e4⟩ := p_lsmall (p := p + 28) (q := p + 42) hd (by omega) (by omega) hl (by omega)
      obtain ⟨r, r0, r1, e5⟩ := tk (many := 4) (p := p + 42) (q := p + 43) hd (by omega) (by omega) hl (by decide) (by omega)
      refine seq_nx (σ' := [some (.val (.lst (ns.map .int))), some (.lst (ds.map .int)), some (.lst [.int (p + 42)]), some (.val (.int (0 + i))), some (.val (.int z1)), some (.val (.int z2)), some (.val dd), some (.val dd), some (.val (pd f1)), some (.val (pd f2)), none, none, none, none, none]) (by simp [e3, e4]) ?_
      obtain ⟨f3, s3, hb7⟩ : ∃ f3, Sm f3 ∧ sIf (bV (eB oEq (gE (eCall F__law_take (gCons (gN 1) (gCons (gN 2) (gCons (gE (eC (.int 4))) (gNil)))))) (gE (eC (.int 0))))) (sAsg 9 (eN 8)) (sNx) [some (.val (.lst (ns.map .int))), some (.lst (ds.map .int)), some (.lst [.int (p + 42)]), some (.val (.int (0 + i))), some (.val (.int z1)), some (.val (.int z2)), some (.val dd), some (.val dd), some (.val (pd f1)), some (.val (pd f2)), none, none, none, none, none]
          = .nx [some (.val (.lst (ns.map .int))), some (.lst (ds.map .int)), some (.lst [.int (p + 43)]), some (.val (.int (0 + i))), some (.val (.int z1)), some (.val (.int z2)), some (.val dd), some (.val dd), some (.val (pd f1)), some (.val (pd f3)), none, none, none, none, none] := by
        by_cases hr : r = 0
        · exact ⟨f1, s1, by simp [e5, hr]⟩
        · exact ⟨f2, s2, by simp [e5, hr]⟩
      refine seq_nx hb7 ?_
      have el := p_lless f1 f3 s1 s3
      refine seq_nx (σ' := [some (.val (.lst (ns.map .int))), some (.lst (ds.map .int)), some (.lst [.int (p + 43)]), some (.val (.int (0 + i))), some (.val (.int z1)), some (.val (.int z2)), some (.val (.int (cmpI f1 f3))), some (.val dd), some (.val (pd f1)), some (.val (pd f3)), none, none, none, none, none]) ?_ ?_
      · unfold cmpI
        by_cases hE : f1 = f3
        · simp [oEq_pd, hE]
        · by_cases hL : f1.1 * f3.2 < f3.1 * f1.2 <;> simp [oEq_pd, hE, el, hL]
      have c1 := told2 (p_compare C s1 s3)
      have c2 := told2 (p_compare C s3 s1)
      rw [cmp_anti f1 f3 s1 s3] at c2
      have c3 : (0 - cmpI f1 f3).natAbs < 2 ^ 1920 := by
        have : (0 - cmpI f1 f3).natAbs = (cmpI f1 f3).natAbs := by omega
        rw [this]; exact cmp_small f1 f3
      refine to_nx (σ := [some (.val (.lst (ns.map .int))), some (.lst (ds.map .int)), some (.lst [.int (p + 43)]), some (.val (.int (0 + i))), some (.val (.int z1)), some (.val (.int z2)), some (.val (.int (cmpI f1 f3))), some (.val dd), some (.val (pd f1)), some (.val (pd f3)), none, none, none, none, none]) ?_ ⟨p + 43, _, _, _, _, _, _, _, by omega, by omega, rfl⟩
      generalize hm : cmpI f1 f3 = m at *
      have o1 := oRepr_v (shows_int (i := m) (by rw [← hm]; exact cmp_small f1 f3))
      have o2 := oRepr_v (shows_int c3)
      simp [c1, c2, o1]
      simp at c2 o2
      simp [c2, o2]
    · rintro σ' ⟨p, a3, a4, a5, a6, a7, a8, a9, p0, p1, rfl⟩
      rw [iota_len] at p1
      -- the parts
      obtain ⟨d, hm, e1⟩ := on (p := p) (q := p + 1) (xs := [.int 2, .int 6, .int 41]) hd p0 (by omega) hl (by simp) rfl
      obtain ⟨many, rfl, y0, y1⟩ : ∃ n : Int, d = .int n ∧ 0 < n ∧ n ≤ 41 := by
        simp only [List.not_mem_nil, List.mem_cons, or_false] at hm
        rcases hm with h | h | h <;> exact ⟨_, h, by omega, by omega⟩
      obtain ⟨n, n0, n1, e2⟩ := tk (p := p + 1) (q := p + 2) (many := many) hd (by omega) (by omega) hl y0 (by omega)
      obtain ⟨fs, g1, g2, g3⟩ := lc_smalls hd hl (L := some (.val (.lst (ns.map .int)))) (a3 := a3) (a4 := a4) (a5 := a5) (a6 := a6) (a7 := a7) (a8 := a8) (a9 := a9) n.toNat 0 [] (p + 2) (by omega) (by omega) (by simp; omega)
      refine seq_nx (σ' := [some (.val (.lst (ns.map .int))), some (.lst (ds.map .int)), some (.lst [.int (p + 2 + 14 * n.toNat)]), a3, a4, a5, a6, a7, a8, a9, some (.lst (fs.map pd)), none, none, none, none]) ?_ ?_
      · have hr : rngOk n = true := by unfold rngOk; exact decide_eq_true (by omega)
        simp [eLC, e1, e2, oLst, sizeLine_eq, iRg1, hr, wipeS]
        simp at g3
        rw [g3]
        simp [R.nox, keepS, wipeS]
      generalize hp' : p + 2 + 14 * (n.toNat : Int) = p' 
      have q0 : 0 ≤ p' := by omega
      have q1 : p' ≤ 2000 := by omega
      obtain ⟨r, r0, r1, e3⟩ := tk (p := p') (q := p' + 1) (many := 2) hd q0 (by omega) hl (by decide) rfl
      obtain ⟨gs, hgl, hgs, e4⟩ : ∃ gs : List (Int × Int), gs.length ≤ 60 ∧ (∀ g ∈ gs, Sm g) ∧ sIf (bV (eB oEq (gE (eCall F__law_take (gCons (gN 1) (gCons (gN 2) (gCons (gE (eC (.int 2))) (gNil)))))) (gE (eC (.int 0))))) (sAsg 10 (eB oAdd (gN 10) (gE (eLC [11] (iSeq (eV (eSl (gN 10) (oNo) (oSo (eC (.int 20)))))) (tgN 11) (bYes) (eCall F__law_minus (gCons (gN 11) (gNil))))))) (sNx)
          [some (.val (.lst (ns.map .int))), some (.lst (ds.map .int)), some (.lst [.int p']), a3, a4, a5, a6, a7, a8, a9, some (.lst (fs.map pd)), none, none, none, none] =
          .nx [some (.val (.lst (ns.map .int))), some (.lst (ds.map .int)), some (.lst [.int (p' + 1)]), a3, a4, a5, a6, a7, a8, a9, some (.lst (gs.map pd)), none, none, none, none] := by
        by_cases hr : r = 0
        · refine ⟨fs ++ (fs.take 20).map fun f => (-f.1, f.2), by rw [List.length_append, List.length_map, List.length_take]; omega, fun g hg => ?_, ?_⟩
          · rcases List.mem_append.mp hg with h | h
            · exact g2 g h
            · obtain ⟨f, hf, rfl⟩ := List.mem_map.mp h
              exact sm_minus (g2 f (List.mem_of_mem_take hf))
          · have el : lcLoop [11] (tgN 11) bYes (eCall F__law_minus (gCons (gN 11) (gNil))) ((fs.map pd).take 20) [] [some (.val (.lst (ns.map .int))), some (.lst (ds.map .int)), some (.lst [.int (p' + 1)]), a3, a4, a5, a6, a7, a8, a9, some (.lst (fs.map pd)), none, none, none, none] =
                .ok ([] ++ ((fs.map pd).take 20).map minusD) [some (.val (.lst (ns.map .int))), some (.lst (ds.map .int)), some (.lst [.int (p' + 1)]), a3, a4, a5, a6, a7, a8, a9, some (.lst (fs.map pd)), none, none, none, none] := by
              refine lc_run minusD _ [] (fun d hd acc r ha => ?_) (by rw [List.length_take]; simp [sizeLine_eq]; omega)
              obtain ⟨f, hf, rfl⟩ := List.mem_map.mp (List.mem_of_mem_take hd)
              have em := p_minus (f := f)
              have hm : minusD (pd f) = pd (-f.1, f.2) := rfl
              rw [lcLoop]
              simp [R.nox, em, wipeS, ha, hm]
            have hlen : fs.length + min 20 fs.length ≤ sizeLine := Nat.le_trans (by omega : fs.length + min 20 fs.length ≤ 1000) (by decide)
            have hmm : ((fs.map pd).take 20).map minusD = ((fs.take 20).map fun f => (-f.1, f.2)).map pd := by
              rw [← List.map_take, List.map_map, List.map_map]
              rfl
            rw [hmm] at el
            simp [e3, hr, eLC, slT, cut20, D.items, wipeS]
            simp at el
            rw [el]
            simp [R.nox, keepS, wipeS]
            rw [oAdd_l (by simp; omega)]
            simp
        · exact ⟨fs, by omega, g2, by simp [e3, hr]⟩
      refine seq_nx e4 ?_
      refine seq_nx (σ' := [some (.val (.lst (ns.map .int))), some (.lst (ds.map .int)), some (.lst [.int (p' + 1)]), a3, a4, a5, some (.val (pd (0, 1))), a7, a8, a9, some (.lst (gs.map pd)), none, none, none, none]) (by simp [oTup, sizeLine_eq, pd]) ?_
      refine seq_for (ds := gs.map pd) (σ1 := [some (.val (.lst (ns.map .int))), some (.lst (ds.map .int)), some (.lst [.int (p' + 1)]), a3, a4, a5, some (.val (pd (0, 1))), a7, a8, a9, some (.val (.lst (gs.map pd))), none, none, none, none])
        (Inv := fun i σ => ∃ o, σ = [some (.val (.lst (ns.map .int))), some (.lst (ds.map .int)), some (.lst [.int (p' + 1)]), a3, a4, a5, some (.val (pd (fold (gs.take i)))), a7, a8, a9, some (.val (.lst (gs.map pd))), o, none, none, none]) (by simp [D.items]) ⟨none, rfl⟩ ?_ ?_
      · rintro i d σ hi ⟨o, rfl⟩
        rw [List.getElem?_map] at hi
        obtain ⟨q, hq, rfl⟩ := Option.map_eq_some_iff.mp hi
        obtain ⟨k, hk, bd⟩ := take_bd hgs hgl (i := i) (Nat.le_of_lt (List.getElem?_eq_some_iff.mp hq).1)
        have e := p_lsum bd hk (hgs q (List.mem_of_getElem? hq))
        exact ⟨_, rfl, [some (.val (.lst (ns.map .int))), some (.lst (ds.map .int)), some (.lst [.int (p' + 1)]), a3, a4, a5, some (.val (pd (fold (gs.take (i + 1))))), a7, a8, a9, some (.val (.lst (gs.map pd))), some (.val (pd q)), none, none, none], .inl (by simp [e, fold_take hq]), some (.val (pd q)), rfl⟩
      rintro σ' ⟨o, rfl⟩
      rw [List.length_map, List.take_length]
      have et := told1 (d2 := .non) (p_total C hgs hgl)
      have hsf : (pd (fold gs)).shows = true := by
        obtain ⟨k, hk, bd⟩ := take_bd hgs hgl (i := gs.length) (Nat.le_refl _)
        rw [List.take_length] at bd
        obtain ⟨b1, b2⟩ := bd.small (by omega)
        exact shows_pair b1 b2
      refine seq_nx (σ' := [some (.val (.lst (ns.map .int))), some (.lst (ds.map .int)), some (.lst [.int (p' + 1)]), a3, a4, a5, some (.val (pd (fold gs))), a7, a8, a9, some (.val (.lst (gs.map pd))), o, none, none, none]) (by simp [oTuple, et, oRepr_v hsf]) ?_
      -- what is refused
      obtain ⟨odd, hm1, e5⟩ := on (p := p' + 1) (q := p' + 2) (xs := [.non, .bl true, .str "1", .tup [.int 1, .int 1], .int 1000000001, .int (-1000000001), .int 10000000000000000000000000000000000000000]) hd (by omega) (by omega) hl (by simp) (by omega)
      have hodd : inR odd (-1000000000) 1000000000 = false := by
        simp only [List.mem_cons, List.not_mem_nil, or_false] at hm1
        rcases hm1 with rfl | rfl | rfl | rfl | rfl | rfl | rfl <;> rfl
      have hp40 : oPow (.val (.int 10)) (.val (.int 40)) = some (.val (.int 10000000000000000000000000000000000000000)) := by simp [oPow, oInt, powOk]
      refine seq_nx (σ' := [some (.val (.lst (ns.map .int))), some (.lst (ds.map .int)), some (.lst [.int (p' + 2)]), a3, a4, a5, some (.val (pd (fold gs))), a7, a8, a9, some (.val (.lst (gs.map pd))), o, some (.val odd), none, none]) (by simp [oTup, oLst, sizeLine_eq, hp40, e5]) ?_
      obtain ⟨y1, hy1, e6⟩ := on (p := p' + 2) (q := p' + 3) (xs := [odd, .int 0, .int 1]) hd (by omega) (by omega) hl (by simp) (by omega)
      obtain ⟨y2, hy2, e7⟩ := on (p := p' + 3) (q := p' + 4) (xs := [odd, .int 0]) hd (by omega) (by omega) hl (by simp) (by omega)
      have t1 := told0x (C := C) (x_over (d2 := y1) hodd)
      have t2 := told0x (C := C) (x_under (d1 := .int 5) (d2 := y2) rfl (by
        simp only [List.mem_cons, List.not_mem_nil, or_false] at hy2
        rcases hy2 with rfl | rfl
        · exact .inl hodd
        · exact .inr rfl))
      refine seq_nx (σ' := [some (.val (.lst (ns.map .int))), some (.lst (ds.map .int)), some (.lst [.int (p' + 4)]), a3, a4, a5, some (.val (pd (fold gs))), a7, a8, a9, some (.val (.lst (gs.map pd))), o, some (.val odd), none, none]) (by simp [oLst, sizeLine_eq, e6, e7, t1, t2]) ?_
      obtain ⟨wr, hm2, e8⟩ := on (p := p' + 4) (q := p' + 5) (xs := [.non, .int 5, .tup [.int 2, .int 4], .tup [.int 1, .int 0], .tup [.int 1, .int (-2)], .tup [.int 0, .int 2], .tup [.bl true, .int 1], .tup [.int 1, .bl true], .tup [.int 1], .tup [.int 1, .int 1, .int 1], .tup [.int 1000000001, .int 1], .tup [.int 1, .int 1000000001], .str "11", .tup []]) hd (by omega) (by omega) hl (by simp) (by omega)
      have hwr : SB wr false := by
        simp only [List.mem_cons, List.not_mem_nil, or_false] at hm2
        rcases hm2 with rfl | rfl | rfl | rfl | rfl | rfl | rfl | rfl | rfl | rfl | rfl | rfl | rfl | rfl
        · exact w_non
        · exact w_5
        · exact w_24
        · exact w_10
        · exact w_1m2
        · exact w_02
        · exact w_t1
        · exact w_1t
        · exact w_1
        · exact w_111
        · exact w_b1
        · exact w_1b
        · exact w_11
        · exact w_e
      refine seq_nx (σ' := [some (.val (.lst (ns.map .int))), some (.lst (ds.map .int)), some (.lst [.int (p' + 5)]), a3, a4, a5, some (.val (pd (fold gs))), a7, a8, a9, some (.val (.lst (gs.map pd))), o, some (.val odd), some (.val wr), none]) (by simp [oTup, oLst, sizeLine_eq, e8]) ?_
      obtain ⟨f, sf, e9⟩ := p_lsmall (p := p' + 5) (q := p' + 19) hd (by omega) (by omega) hl (by omega)
      refine seq_nx (σ' := [some (.val (.lst (ns.map .int))), some (.lst (ds.map .int)), some (.lst [.int (p' + 19)]), a3, a4, a5, some (.val (pd (fold gs))), a7, some (.val (pd f)), a9, some (.val (.lst (gs.map pd))), o, some (.val odd), some (.val wr), none]) (by simp [e9]) ?_
      obtain ⟨y3, hy3, e10⟩ := on (p := p' + 19) (q := p' + 20) (xs := [pd f, wr]) hd (by omega) (by omega) hl (by simp) (by omega)
      have t3 := told2x (C := C) (x_first (d2 := y3) hwr)
      have t4 := told2x (C := C) (x_second (d1 := pd f) (p_small sf) hwr)
      refine seq_nx (σ' := [some (.val (.lst (ns.map .int))), some (.lst (ds.map .int)), some (.lst [.int (p' + 20)]), a3, a4, a5, some (.val (pd (fold gs))), a7, some (.val (pd f)), a9, some (.val (.lst (gs.map pd))), o, some (.val odd), some (.val wr), none]) (by simp [oLst, sizeLine_eq, e10, t3, t4]) ?_
      obtain ⟨y4, hy4, e11⟩ := on (p := p' + 20) (q := p' + 21) (xs := [.non, .int 5, .str "", .tup [wr], .tup [pd f, wr], .tup [pd f, pd f, wr, pd f]]) hd (by omega) (by omega) hl (by simp) (by omega)
      have sb : SB (pd f) true := p_small sf
      have t5 : F__law_told C [.val (.int 1), .val y4, .val .non] = .ok (.val (.str "parts")) [some (.val (.int 1)), some (.val y4), some (.val .non)] := by
        have part : ∀ xs : List D, xs.length ≤ 1000 → (∀ d ∈ xs, d = wr ∨ d = pd f) → wr ∈ xs → F_total C [.val (.tup xs)] = .exc C.ArgumentError [("reason", .str "parts")] [some (.val (.tup xs))] := fun xs hl hx hw => by
          have hb : ∀ d : D, ∃ b, (d = wr ∨ d = pd f) → SB d b := fun d => by
            by_cases h : d = wr
            · exact ⟨false, fun _ => by rw [h]; exact hwr⟩
            · exact ⟨true, fun h' => by rcases h' with h' | h'; exact absurd h' h; rw [h']; exact sb⟩
          obtain ⟨fb, hfb⟩ := Classical.axiomOfChoice hb
          have hwf : fb wr = false := by
            have h1 : F_is_small [.val wr] = _ := hfb wr (.inl rfl)
            have h2 : F_is_small [.val wr] = _ := hwr
            rw [h2] at h1
            simp at h1
            exact h1
          refine x_parts (f := fb) (fun d hd => hfb d (hx d hd)) hl ?_
          rw [List.all_eq_false]
          exact ⟨wr, hw, by rw [hwf]; decide⟩
        simp only [List.mem_cons, List.not_mem_nil, or_false] at hy4
        rcases hy4 with rfl | rfl | rfl | rfl | rfl | rfl
        · exact told1x (x_parts0 rfl)
        · exact told1x (x_parts0 rfl)
        · exact told1x (x_parts0 rfl)
        · exact told1x (part _ (by simp) (by simp) (by simp))
        · exact told1x (part _ (by simp) (by simp) (by simp))
        · exact told1x (part _ (by simp) (by simp) (by simp))
      exact go_rt (t := .val (.bl true)) (σ := [some (.val (.lst (ns.map .int))), some (.lst (ds.map .int)), some (.lst [.int (p' + 21)]), a3, a4, a5, some (.val (pd (fold gs))), a7, some (.val (pd f)), a9, some (.val (.lst (gs.map pd))), o, some (.val odd), some (.val wr), none]) (by simp [oTup, oLst, sizeLine_eq, e11, t5]) rfl
  exact ⟨ps, e⟩
end K01

set_option Elab.async false
set_option linter.all false
set_option maxRecDepth 100000
set_option maxHeartbeats 8200000
set_option pp.maxSteps 200
set_option pp.deepTerms false
namespace K01
open PySem PySem.Spec PyProof.Rows L2 DL
def bodyOf (s : Stmt) : List Stmt := match s with
  | .ClassDef _ _ _ b _ _ _ _ _ _ _ => b
  | _ => []
abbrev st_ReasonError : Stmt := (bodyOf (top 6)).getD 0 (.Pass ⟨0, 0, 0, 0⟩)
theorem ini_ReasonError : PySem.DLX.Init st_ReasonError ["reason"] := by
  refine ⟨⟨_, [_], _, _, _, _, _, [_], [(_, _, _, _)], rfl, rfl, rfl, rfl, fun env => ⟨_, rfl⟩, fun env => rfl⟩, rfl, rfl, rfl, by decide +kernel, rfl, by decide +kernel, rfl, rfl⟩
theorem all_mk {P : Program} {w : World} {K : PySem.W.Frag} {h : Heap} {mg : Str → Option Value} {fa : Addr} (X : K.In h) (G : h.Ns mainGlobals mg) (hfa : mg "law" = some (.ref fa))
    {f0 f1 f2 f3 f4 f5 f6 f7 f8 f9 f10 f11 f12 f13 f14 f15 f16 f17 f18 f19 f20 f21 f22 A_FrameError A_ArgumentError A_ReasonError N_ArgumentError fi_ArgumentError icc_ArgumentError icd_ArgumentError ga_ZERO : Addr}
    {oc0 kV0 dc0 pm0 cd0 ct0 oc1 kV1 dc1 pm1 cd1 ct1 oc2 kV2 dc2 pm2 cd2 ct2 oc3 kV3 dc3 pm3 cd3 ct3 oc4 kV4 dc4 pm4 cd4 ct4 oc5 kV5 dc5 pm5 cd5 ct5 oc6 kV6 dc6 pm6 cd6 ct6 oc7 kV7 dc7 pm7 cd7 ct7 oc8 kV8 dc8 pm8 cd8 ct8 oc9 kV9 dc9 pm9 cd9 ct9 oc10 kV10 dc10 pm10 cd10 ct10 oc11 kV11 dc11 pm11 cd11 ct11 oc12 kV12 dc12 pm12 cd12 ct12 oc13 kV13 dc13 pm13 cd13 ct13 oc14 kV14 dc14 pm14 cd14 ct14 oc15 kV15 dc15 pm15 cd15 ct15 oc16 kV16 dc16 pm16 cd16 ct16 oc17 kV17 dc17 pm17 cd17 ct17 oc18 kV18 dc18 pm18 cd18 ct18 oc19 kV19 dc19 pm19 cd19 ct19 oc20 kV20 dc20 pm20 cd20 ct20 oc21 kV21 dc21 pm21 cd21 ct21 oc22 kV22 dc22 pm22 cd22 ct22 ioc_ArgumentError ikV_ArgumentError idc_ArgumentError ipm_ArgumentError ict_ArgumentError jc_ArgumentError kc_ArgumentError : Value}
    {od0 an0 od1 an1 od2 an2 od3 an3 od4 an4 od5 an5 od6 an6 od7 an7 od8 an8 od9 an9 od10 an10 od11 an11 od12 an12 od13 an13 od14 an14 od15 an15 od16 an16 od17 an17 od18 an18 od19 an19 od20 an20 od21 an21 od22 an22 dd_ArgumentError iod_ArgumentError ian_ArgumentError jd_ArgumentError kd_ArgumentError gd_ZERO : Option Addr}
    {sl0 sl1 sl2 sl3 sl4 sl5 sl6 sl7 sl8 sl9 sl10 sl11 sl12 sl13 sl14 sl15 sl16 sl17 sl18 sl19 sl20 sl21 sl22 isl_ArgumentError js_ArgumentError ks_ArgumentError gs_ZERO : Array (Option Value)}
    {nm_ArgumentError q_ArgumentError iq_ArgumentError jf_ArgumentError : Str}
    {bs_ArgumentError bm_ArgumentError sub_ArgumentError : List Value}
    {sn_ArgumentError : List Str}
    {ab_ArgumentError : Bool}
    {col_ArgumentError : Option Bool}
    {m0_ArgumentError m1_ArgumentError m2_ArgumentError m3_ArgumentError m5_ArgumentError : Option Value}
    {jv_ArgumentError : Array Value}
    {jt_ArgumentError gt_MAX_NUMBER gt_ZERO_0 gt_ZERO_1 : Tok}
    {gn_ZERO : Nat}
    (a0 : PySem.W.nsIn K mainGlobals "_law_draws" = some (some (.ref f0)))
    (l0 : K.lookup f0 = some ⟨oc0, od0, .func (PySem.W.fnOf "_law_draws" "_law_draws" (defArgs s__law_draws) (defBody s__law_draws) (defScope s__law_draws) .none kV0 dc0 pm0 an0 cd0 ct0), sl0⟩)
    (c0 : PySem.W.codeIn K cd0 "_law_draws" = true)
    (k0 : PySem.W.keepIn K (.ref f0) = true)
    (a1 : PySem.W.nsIn K mainGlobals "_law_more" = some (some (.ref f1)))
    (l1 : K.lookup f1 = some ⟨oc1, od1, .func (PySem.W.fnOf "_law_more" "_law_more" (defArgs s__law_more) (defBody s__law_more) (defScope s__law_more) .none kV1 dc1 pm1 an1 cd1 ct1), sl1⟩)
    (c1 : PySem.W.codeIn K cd1 "_law_more" = true)
    (k1 : PySem.W.keepIn K (.ref f1) = true)
    (a2 : PySem.W.nsIn K mainGlobals "_law_take" = some (some (.ref f2)))
    (l2 : K.lookup f2 = some ⟨oc2, od2, .func (PySem.W.fnOf "_law_take" "_law_take" (defArgs s__law_take) (defBody s__law_take) (defScope s__law_take) .none kV2 dc2 pm2 an2 cd2 ct2), sl2⟩)
    (c2 : PySem.W.codeIn K cd2 "_law_take" = true)
    (k2 : PySem.W.keepIn K (.ref f2) = true)
    (a3 : PySem.W.nsIn K mainGlobals "_law_one" = some (some (.ref f3)))
    (l3 : K.lookup f3 = some ⟨oc3, od3, .func (PySem.W.fnOf "_law_one" "_law_one" (defArgs s__law_one) (defBody s__law_one) (defScope s__law_one) .none kV3 dc3 pm3 an3 cd3 ct3), sl3⟩)
    (c3 : PySem.W.codeIn K cd3 "_law_one" = true)
    (k3 : PySem.W.keepIn K (.ref f3) = true)
    (a4 : PySem.W.nsIn K mainGlobals "_law_fraction" = some (some (.ref f4)))
    (l4 : K.lookup f4 = some ⟨oc4, od4, .func (PySem.W.fnOf "_law_fraction" "_law_fraction" (defArgs s__law_fraction) (defBody s__law_fraction) (defScope s__law_fraction) .none kV4 dc4 pm4 an4 cd4 ct4), sl4⟩)
    (c4 : PySem.W.codeIn K cd4 "_law_fraction" = true)
    (k4 : PySem.W.keepIn K (.ref f4) = true)
    (a5 : PySem.W.nsIn K mainGlobals "_law_whole" = some (some (.ref f5)))
    (l5 : K.lookup f5 = some ⟨oc5, od5, .func (PySem.W.fnOf "_law_whole" "_law_whole" (defArgs s__law_whole) (defBody s__law_whole) (defScope s__law_whole) .none kV5 dc5 pm5 an5 cd5 ct5), sl5⟩)
    (c5 : PySem.W.codeIn K cd5 "_law_whole" = true)
    (k5 : PySem.W.keepIn K (.ref f5) = true)
    (a6 : PySem.W.nsIn K mainGlobals "_law_small" = some (some (.ref f6)))
    (l6 : K.lookup f6 = some ⟨oc6, od6, .func (PySem.W.fnOf "_law_small" "_law_small" (defArgs s__law_small) (defBody s__law_small) (defScope s__law_small) .none kV6 dc6 pm6 an6 cd6 ct6), sl6⟩)
    (c6 : PySem.W.codeIn K cd6 "_law_small" = true)
    (k6 : PySem.W.keepIn K (.ref f6) = true)
    (a7 : PySem.W.nsIn K mainGlobals "is_integer" = some (some (.ref f7)))
    (l7 : K.lookup f7 = some ⟨oc7, od7, .func (PySem.W.fnOf "is_integer" "is_integer" (defArgs s_is_integer) (defBody s_is_integer) (defScope s_is_integer) .none kV7 dc7 pm7 an7 cd7 ct7), sl7⟩)
    (c7 : PySem.W.codeIn K cd7 "is_integer" = true)
    (k7 : PySem.W.keepIn K (.ref f7) = true)
    (a8 : PySem.W.nsIn K mainGlobals "divisor" = some (some (.ref f8)))
    (l8 : K.lookup f8 = some ⟨oc8, od8, .func (PySem.W.fnOf "divisor" "divisor" (defArgs s_divisor) (defBody s_divisor) (defScope s_divisor) .none kV8 dc8 pm8 an8 cd8 ct8), sl8⟩)
    (c8 : PySem.W.codeIn K cd8 "divisor" = true)
    (k8 : PySem.W.keepIn K (.ref f8) = true)
    (a9 : PySem.W.nsIn K mainGlobals "is_fraction" = some (some (.ref f9)))
    (l9 : K.lookup f9 = some ⟨oc9, od9, .func (PySem.W.fnOf "is_fraction" "is_fraction" (defArgs s_is_fraction) (defBody s_is_fraction) (defScope s_is_fraction) .none kV9 dc9 pm9 an9 cd9 ct9), sl9⟩)
    (c9 : PySem.W.codeIn K cd9 "is_fraction" = true)
    (k9 : PySem.W.keepIn K (.ref f9) = true)
    (a10 : PySem.W.nsIn K mainGlobals "is_small" = some (some (.ref f10)))
    (l10 : K.lookup f10 = some ⟨oc10, od10, .func (PySem.W.fnOf "is_small" "is_small" (defArgs s_is_small) (defBody s_is_small) (defScope s_is_small) .none kV10 dc10 pm10 an10 cd10 ct10), sl10⟩)
    (c10 : PySem.W.codeIn K cd10 "is_small" = true)
    (k10 : PySem.W.keepIn K (.ref f10) = true)
    (a11 : PySem.W.nsIn K mainGlobals "is_less" = some (some (.ref f11)))
    (l11 : K.lookup f11 = some ⟨oc11, od11, .func (PySem.W.fnOf "is_less" "is_less" (defArgs s_is_less) (defBody s_is_less) (defScope s_is_less) .none kV11 dc11 pm11 an11 cd11 ct11), sl11⟩)
    (c11 : PySem.W.codeIn K cd11 "is_less" = true)
    (k11 : PySem.W.keepIn K (.ref f11) = true)
    (a12 : PySem.W.nsIn K mainGlobals "compare" = some (some (.ref f12)))
    (l12 : K.lookup f12 = some ⟨oc12, od12, .func (PySem.W.fnOf "compare" "compare" (defArgs s_compare) (defBody s_compare) (defScope s_compare) .none kV12 dc12 pm12 an12 cd12 ct12), sl12⟩)
    (c12 : PySem.W.codeIn K cd12 "compare" = true)
    (k12 : PySem.W.keepIn K (.ref f12) = true)
    (a13 : PySem.W.nsIn K mainGlobals "fraction_of" = some (some (.ref f13)))
    (l13 : K.lookup f13 = some ⟨oc13, od13, .func (PySem.W.fnOf "fraction_of" "fraction_of" (defArgs s_fraction_of) (defBody s_fraction_of) (defScope s_fraction_of) .none kV13 dc13 pm13 an13 cd13 ct13), sl13⟩)
    (c13 : PySem.W.codeIn K cd13 "fraction_of" = true)
    (k13 : PySem.W.keepIn K (.ref f13) = true)
    (a14 : PySem.W.nsIn K mainGlobals "in_range" = some (some (.ref f14)))
    (l14 : K.lookup f14 = some ⟨oc14, od14, .func (PySem.W.fnOf "in_range" "in_range" (defArgs s_in_range) (defBody s_in_range) (defScope s_in_range) .none kV14 dc14 pm14 an14 cd14 ct14), sl14⟩)
    (c14 : PySem.W.codeIn K cd14 "in_range" = true)
    (k14 : PySem.W.keepIn K (.ref f14) = true)
    (a15 : PySem.W.nsIn K mainGlobals "fraction" = some (some (.ref f15)))
    (l15 : K.lookup f15 = some ⟨oc15, od15, .func (PySem.W.fnOf "fraction" "fraction" (defArgs s_fraction) (defBody s_fraction) (defScope s_fraction) .none kV15 dc15 pm15 an15 cd15 ct15), sl15⟩)
    (c15 : PySem.W.codeIn K cd15 "fraction" = true)
    (k15 : PySem.W.keepIn K (.ref f15) = true)
    (a16 : PySem.W.nsIn K mainGlobals "add" = some (some (.ref f16)))
    (l16 : K.lookup f16 = some ⟨oc16, od16, .func (PySem.W.fnOf "add" "add" (defArgs s_add) (defBody s_add) (defScope s_add) .none kV16 dc16 pm16 an16 cd16 ct16), sl16⟩)
    (c16 : PySem.W.codeIn K cd16 "add" = true)
    (k16 : PySem.W.keepIn K (.ref f16) = true)
    (a17 : PySem.W.nsIn K mainGlobals "total" = some (some (.ref f17)))
    (l17 : K.lookup f17 = some ⟨oc17, od17, .func (PySem.W.fnOf "total" "total" (defArgs s_total) (defBody s_total) (defScope s_total) .none kV17 dc17 pm17 an17 cd17 ct17), sl17⟩)
    (c17 : PySem.W.codeIn K cd17 "total" = true)
    (k17 : PySem.W.keepIn K (.ref f17) = true)
    (a18 : PySem.W.nsIn K mainGlobals "_law_told" = some (some (.ref f18)))
    (l18 : K.lookup f18 = some ⟨oc18, od18, .func (PySem.W.fnOf "_law_told" "_law_told" (defArgs s__law_told) (defBody s__law_told) (defScope s__law_told) .none kV18 dc18 pm18 an18 cd18 ct18), sl18⟩)
    (c18 : PySem.W.codeIn K cd18 "_law_told" = true)
    (k18 : PySem.W.keepIn K (.ref f18) = true)
    (a19 : PySem.W.nsIn K mainGlobals "_law_sum" = some (some (.ref f19)))
    (l19 : K.lookup f19 = some ⟨oc19, od19, .func (PySem.W.fnOf "_law_sum" "_law_sum" (defArgs s__law_sum) (defBody s__law_sum) (defScope s__law_sum) .none kV19 dc19 pm19 an19 cd19 ct19), sl19⟩)
    (c19 : PySem.W.codeIn K cd19 "_law_sum" = true)
    (k19 : PySem.W.keepIn K (.ref f19) = true)
    (a20 : PySem.W.nsIn K mainGlobals "_law_less" = some (some (.ref f20)))
    (l20 : K.lookup f20 = some ⟨oc20, od20, .func (PySem.W.fnOf "_law_less" "_law_less" (defArgs s__law_less) (defBody s__law_less) (defScope s__law_less) .none kV20 dc20 pm20 an20 cd20 ct20), sl20⟩)
    (c20 : PySem.W.codeIn K cd20 "_law_less" = true)
    (k20 : PySem.W.keepIn K (.ref f20) = true)
    (a21 : PySem.W.nsIn K mainGlobals "_law_minus" = some (some (.ref f21)))
    (l21 : K.lookup f21 = some ⟨oc21, od21, .func (PySem.W.fnOf "_law_minus" "_law_minus" (defArgs s__law_minus) (defBody s__law_minus) (defScope s__law_minus) .none kV21 dc21 pm21 an21 cd21 ct21), sl21⟩)
    (c21 : PySem.W.codeIn K cd21 "_law_minus" = true)
    (k21 : PySem.W.keepIn K (.ref f21) = true)
    (a22 : PySem.W.nsIn K mainGlobals "law" = some (some (.ref f22)))
    (l22 : K.lookup f22 = some ⟨oc22, od22, .func (PySem.W.fnOf "law" "law" (defArgs s_law) (defBody s_law) (defScope s_law) .none kV22 dc22 pm22 an22 cd22 ct22), sl22⟩)
    (c22 : PySem.W.codeIn K cd22 "law" = true)
    (k22 : PySem.W.keepIn K (.ref f22) = true)
    (aC_FrameError : PySem.W.nsIn K mainGlobals "FrameError" = some (some (.ref A_FrameError)))
    (aC_ArgumentError : PySem.W.nsIn K mainGlobals "ArgumentError" = some (some (.ref A_ArgumentError)))
    (aC_ReasonError : PySem.W.nsIn K mainGlobals "ReasonError" = some (some (.ref A_ReasonError)))
    (xL_ArgumentError : K.lookup A_ArgumentError = some (PySem.excClassObj nm_ArgumentError q_ArgumentError A_ArgumentError N_ArgumentError bs_ArgumentError bm_ArgumentError true sn_ArgumentError sub_ArgumentError ab_ArgumentError col_ArgumentError dd_ArgumentError m0_ArgumentError m1_ArgumentError m2_ArgumentError m3_ArgumentError m5_ArgumentError "ValueError.__new__"))
    (xR_ArgumentError : PySem.HandSPX.refsVE bm_ArgumentError = true)
    (xS_ArgumentError : PySem.W.findIn K (.ref A_ArgumentError) "__setattr__" = some (some (.builtin "object.__setattr__")))
    (xG_ArgumentError : PySem.W.findIn K (.ref A_ArgumentError) "__getattribute__" = some (some (.builtin "BaseException.__getattribute__")))
    (xH_ArgumentError : PySem.W.findIn K (.ref A_ArgumentError) "__getattr__" = some none)
    (xN_ArgumentError_reason : PySem.W.findIn K (.ref A_ArgumentError) "reason" = some none)
    (xI_ArgumentError : PySem.W.findIn K (.ref A_ArgumentError) "__init__" = some (some (.ref fi_ArgumentError)))
    (xT_ArgumentError : PySem.W.typeIn K (.ref fi_ArgumentError) = some (.type "function"))
    (xK_ArgumentError : PySem.W.keepIn K (.ref A_ArgumentError) = true)
    (xE_ArgumentError : PySem.W.subIn K (.ref A_ArgumentError) (.type "BaseException") = some true)
    (xV_ArgumentError : PySem.W.subIn K (.ref A_ArgumentError) (.type "ValueError") = some true)
    (xY_ArgumentError : PySem.W.typeIn K (.ref A_ArgumentError) = some (.type "type"))
    (xD_ArgumentError : PySem.W.hasDictIn K A_ArgumentError = true)
    (xU_ArgumentError : PySem.W.ks_superIn K A_ArgumentError A_ReasonError "__init__" = some (some (.builtin "ValueError.__init__")))
    (xM_ArgumentError : PySem.W.mroIn K A_ArgumentError (.ref A_ReasonError) = some true)
    (yL_ArgumentError : K.lookup fi_ArgumentError = some ⟨ioc_ArgumentError, iod_ArgumentError, .func (PySem.W.fnX "__init__" iq_ArgumentError (defArgs st_ReasonError) (defBody st_ReasonError) (defScope st_ReasonError) [("__class__", icc_ArgumentError)] .none ikV_ArgumentError idc_ArgumentError ipm_ArgumentError ian_ArgumentError (.ref icd_ArgumentError) ict_ArgumentError), isl_ArgumentError⟩)
    (yC_ArgumentError : PySem.W.codeIn K (.ref icd_ArgumentError) iq_ArgumentError = true)
    (yD_ArgumentError : K.lookup icd_ArgumentError = some ⟨jc_ArgumentError, jd_ArgumentError, .fields jv_ArgumentError, js_ArgumentError⟩)
    (yF_ArgumentError : jv_ArgumentError[2]? = some (.str jf_ArgumentError jt_ArgumentError))
    (yP_ArgumentError : ((P.main.file : Str) == jf_ArgumentError) = true)
    (yK_ArgumentError : K.lookup icc_ArgumentError = some ⟨kc_ArgumentError, kd_ArgumentError, .cell (some (.ref A_ReasonError)), ks_ArgumentError⟩)
    (hA_ArgumentError : PySem.W.findIn K (.ref A_ArgumentError) "__class__" = some (some (.builtin "object.__class__")))
    (hM_ArgumentError : PySem.W.mroIn K A_ArgumentError (.type "object") = some true)
    (opq : PySem.W.nsIn K cStatics "thirdparty.any" = some none)
    (zsup : PySem.W.nsIn K mainGlobals "super" = some none)
    (ptop : (P.main.scope.names.lookup ("super" : Str)).isSome = false)
    (hN : PySem.W.specialIn K (.builtin "object.__class__") "__get__" = some (some (.builtin "getset_descriptor.__get__")))
    (hT : PySem.W.takesIn K (.builtin "object.__class__") = some true)
    (clD_ReasonError : PySem.W.isClsIn K A_ReasonError = true)
    (xE_FrameError : PySem.W.subIn K (.ref A_FrameError) (.type "BaseException") = some true)
    (xY_FrameError : PySem.W.typeIn K (.ref A_FrameError) = some (.type "type"))
    (xD_FrameError : PySem.W.hasDictIn K A_FrameError = true)
    (s_ArgumentError_ArgumentError : PySem.W.subIn K (.ref A_ArgumentError) (.ref A_ArgumentError) = some true)
    (o_ArgumentError_FrameError : PySem.W.kitOne K (.ref A_ArgumentError) (.ref A_FrameError) = some true)
    (z_abs : PySem.W.nsIn K mainGlobals "abs" = some none)
    (z_all : PySem.W.nsIn K mainGlobals "all" = some none)
    (z_bool : PySem.W.nsIn K mainGlobals "bool" = some none)
    (z_int : PySem.W.nsIn K mainGlobals "int" = some none)
    (z_isinstance : PySem.W.nsIn K mainGlobals "isinstance" = some none)
    (z_len : PySem.W.nsIn K mainGlobals "len" = some none)
    (z_range : PySem.W.nsIn K mainGlobals "range" = some none)
    (z_repr : PySem.W.nsIn K mainGlobals "repr" = some none)
    (z_tuple : PySem.W.nsIn K mainGlobals "tuple" = some none)
    (g0_MAX_NUMBER : PySem.W.nsIn K mainGlobals "MAX_NUMBER" = some (some (.int (1000000000) gt_MAX_NUMBER)))
    (g0_ZERO : PySem.W.nsIn K mainGlobals "ZERO" = some (some (.ref ga_ZERO)))
    (g_ZERO : K.lookup ga_ZERO = some ⟨.type "tuple", gd_ZERO, .seq [.int (0) gt_ZERO_0, .int (1) gt_ZERO_1].toArray gn_ZERO, gs_ZERO⟩)
    (pl : ∀ C : Cl, ∀ (ns : List Int), ns.length ≤ 63 → ∃ ps, F_law C [.val (.lst (ns.map D.int))] = .ok (.val (.bl true)) ps) :
    ∃ (fd : FuncData) (Ft : Fn), (∀ (s : Shared) (u : Value), BindsTo s fd ⟨[u], []⟩ [("script", u)]) ∧ (∀ base : Heap, K.In base → base.Ns mainGlobals mg → FnG P w K mg base 6 fa fd ["script"] (spF K Ft)) ∧ ∀ ns : List Int, ns.length ≤ 63 → ∃ ps, Ft [.val (.lst (ns.map D.int))] = .ok (.val (.bl true)) ps := by
  cases hfa.symm.trans (PySem.W.mg_of X G a22)
  let C : Cl := ⟨A_FrameError, A_ArgumentError⟩
  have sx_ArgumentError : SupEx P K mg A_ArgumentError ps_ArgumentError := by
    obtain ⟨cd, hcd⟩ := Option.isSome_iff_exists.mp (show (PySem.W.clsIn K A_ReasonError).isSome = true from clD_ReasonError)
    exact ⟨st_ReasonError, A_ReasonError, fi_ArgumentError, { cls := ⟨_, _, _, _, _, _, _, _, _, _, _, _, _, _, _, xL_ArgumentError, xR_ArgumentError⟩, sa := xS_ArgumentError, ga := xG_ArgumentError, gg := xH_ArgumentError, noN := fun z hz => by simp only [List.mem_cons, List.not_mem_nil, or_false] at hz; rcases hz with rfl <;> (subst_vars; first | exact xN_ArgumentError_reason), iC := xI_ArgumentError, tI := xT_ArgumentError, kC := xK_ArgumentError, exC := xE_ArgumentError, veC := xV_ArgumentError, tyC := xY_ArgumentError, hdC := xD_ArgumentError, opq := opq, sin := xU_ArgumentError, sub := xM_ArgumentError, clD := ⟨cd, hcd⟩, msup := PySem.W.mg_none_of X G zsup, ini := ini_ReasonError, top := ptop, fn := ⟨_, _, _, _, _, _, _, _, _, _, _, _, _, _, _, _, _, _, _, _, yL_ArgumentError, yC_ArgumentError, yD_ArgumentError, yF_ArgumentError, yP_ArgumentError, yK_ArgumentError, fun s x us hu => match us, hu with | [_], _ => .of_eq rfl⟩ }⟩
  have ex_ArgumentError : ExcC K A_ArgumentError := ⟨xG_ArgumentError, xH_ArgumentError, xE_ArgumentError, xD_ArgumentError, hA_ArgumentError, hN, hT, hM_ArgumentError⟩
  have g : Gs mg K P C := {
    n_abs := PySem.W.mg_none_of X G z_abs,
    n_all := PySem.W.mg_none_of X G z_all,
    n_bool := PySem.W.mg_none_of X G z_bool,
    n_int := PySem.W.mg_none_of X G z_int,
    n_isinstance := PySem.W.mg_none_of X G z_isinstance,
    n_len := PySem.W.mg_none_of X G z_len,
    n_range := PySem.W.mg_none_of X G z_range,
    n_repr := PySem.W.mg_none_of X G z_repr,
    n_tuple := PySem.W.mg_none_of X G z_tuple,
    c_MAX_NUMBER := kc_mk (PySem.W.mg_of X G g0_MAX_NUMBER) (.int _ _),
    c_ZERO := kc_mk (PySem.W.mg_of X G g0_ZERO) (.tup g_ZERO (by show 2 ≤ sizeLine; decide) (.cons (.int _ _) (.cons (.int _ _) .nil))),
    k_FrameError := PySem.W.mg_of X G aC_FrameError,
    k_ArgumentError := PySem.W.mg_of X G aC_ArgumentError,
    t_ArgumentError := sx_ArgumentError,
    m_ArgumentError := (fun B b e => by
      simp only [Cl.m_ArgumentError, List.lookup] at e
      repeat (split at e; · rename_i hB; cases e; rw [beq_iff_eq.mp hB]; first | exact PySem.W.exm_ref xE_ArgumentError xD_ArgumentError xY_ArgumentError s_ArgumentError_ArgumentError)
      cases e),
    i_FrameError := (fun B b e => by
      simp only [Cl.is_FrameError, List.lookup] at e
      repeat (split at e; · rename_i hB; cases e; rw [beq_iff_eq.mp hB]; first | exact ⟨ex_ArgumentError, o_ArgumentError_FrameError⟩)
      cases e),
    x_reason := (fun B hB => by
      simp only [Cl.cs_reason, List.mem_cons, List.not_mem_nil, or_false] at hB
      rcases hB with rfl <;> (subst_vars; first | exact ⟨⟨xG_ArgumentError, xH_ArgumentError, xE_ArgumentError, xD_ArgumentError⟩, xN_ArgumentError_reason⟩)) }
  have F0 := fun_mk (st := s__law_draws) l0 c0 k0
  have I0 : FunIn K mg "_law_draws" s__law_draws ["script"] := ⟨_, _, PySem.W.mg_of X G a0, F0, F0.binds (ps := ["script"]) fun _ _ _ _ _ _ us hl => match us, hl with | [_], _ => rfl⟩
  have F1 := fun_mk (st := s__law_more) l1 c1 k1
  have I1 : FunIn K mg "_law_more" s__law_more ["draws", "place"] := ⟨_, _, PySem.W.mg_of X G a1, F1, F1.binds (ps := ["draws", "place"]) fun _ _ _ _ _ _ us hl => match us, hl with | [_, _], _ => rfl⟩
  have F2 := fun_mk (st := s__law_take) l2 c2 k2
  have I2 : FunIn K mg "_law_take" s__law_take ["draws", "at", "many"] := ⟨_, _, PySem.W.mg_of X G a2, F2, F2.binds (ps := ["draws", "at", "many"]) fun _ _ _ _ _ _ us hl => match us, hl with | [_, _, _], _ => rfl⟩
  have F3 := fun_mk (st := s__law_one) l3 c3 k3
  have I3 : FunIn K mg "_law_one" s__law_one ["rows", "draws", "at"] := ⟨_, _, PySem.W.mg_of X G a3, F3, F3.binds (ps := ["rows", "draws", "at"]) fun _ _ _ _ _ _ us hl => match us, hl with | [_, _, _], _ => rfl⟩
  have F4 := fun_mk (st := s__law_fraction) l4 c4 k4
  have I4 : FunIn K mg "_law_fraction" s__law_fraction ["over", "under"] := ⟨_, _, PySem.W.mg_of X G a4, F4, F4.binds (ps := ["over", "under"]) fun _ _ _ _ _ _ us hl => match us, hl with | [_, _], _ => rfl⟩
  have F5 := fun_mk (st := s__law_whole) l5 c5 k5
  have I5 : FunIn K mg "_law_whole" s__law_whole ["draws", "at"] := ⟨_, _, PySem.W.mg_of X G a5, F5, F5.binds (ps := ["draws", "at"]) fun _ _ _ _ _ _ us hl => match us, hl with | [_, _], _ => rfl⟩
  have F6 := fun_mk (st := s__law_small) l6 c6 k6
  have I6 : FunIn K mg "_law_small" s__law_small ["draws", "at"] := ⟨_, _, PySem.W.mg_of X G a6, F6, F6.binds (ps := ["draws", "at"]) fun _ _ _ _ _ _ us hl => match us, hl with | [_, _], _ => rfl⟩
  have F7 := fun_mk (st := s_is_integer) l7 c7 k7
  have I7 : FunIn K mg "is_integer" s_is_integer ["value"] := ⟨_, _, PySem.W.mg_of X G a7, F7, F7.binds (ps := ["value"]) fun _ _ _ _ _ _ us hl => match us, hl with | [_], _ => rfl⟩
  have F8 := fun_mk (st := s_divisor) l8 c8 k8
  have I8 : FunIn K mg "divisor" s_divisor ["first", "second"] := ⟨_, _, PySem.W.mg_of X G a8, F8, F8.binds (ps := ["first", "second"]) fun _ _ _ _ _ _ us hl => match us, hl with | [_, _], _ => rfl⟩
  have F9 := fun_mk (st := s_is_fraction) l9 c9 k9
  have I9 : FunIn K mg "is_fraction" s_is_fraction ["value"] := ⟨_, _, PySem.W.mg_of X G a9, F9, F9.binds (ps := ["value"]) fun _ _ _ _ _ _ us hl => match us, hl with | [_], _ => rfl⟩
  have F10 := fun_mk (st := s_is_small) l10 c10 k10
  have I10 : FunIn K mg "is_small" s_is_small ["value"] := ⟨_, _, PySem.W.mg_of X G a10, F10, F10.binds (ps := ["value"]) fun _ _ _ _ _ _ us hl => match us, hl with | [_], _ => rfl⟩
  have F11 := fun_mk (st := s_is_less) l11 c11 k11
  have I11 : FunIn K mg "is_less" s_is_less ["first", "second"] := ⟨_, _, PySem.W.mg_of X G a11, F11, F11.binds (ps := ["first", "second"]) fun _ _ _ _ _ _ us hl => match us, hl with | [_, _], _ => rfl⟩
  have F12 := fun_mk (st := s_compare) l12 c12 k12
  have I12 : FunIn K mg "compare" s_compare ["first", "second"] := ⟨_, _, PySem.W.mg_of X G a12, F12, F12.binds (ps := ["first", "second"]) fun _ _ _ _ _ _ us hl => match us, hl with | [_, _], _ => rfl⟩
  have F13 := fun_mk (st := s_fraction_of) l13 c13 k13
  have I13 : FunIn K mg "fraction_of" s_fraction_of ["over", "under"] := ⟨_, _, PySem.W.mg_of X G a13, F13, F13.binds (ps := ["over", "under"]) fun _ _ _ _ _ _ us hl => match us, hl with | [_, _], _ => rfl⟩
  have F14 := fun_mk (st := s_in_range) l14 c14 k14
  have I14 : FunIn K mg "in_range" s_in_range ["value", "least", "most"] := ⟨_, _, PySem.W.mg_of X G a14, F14, F14.binds (ps := ["value", "least", "most"]) fun _ _ _ _ _ _ us hl => match us, hl with | [_, _, _], _ => rfl⟩
  have F15 := fun_mk (st := s_fraction) l15 c15 k15
  have I15 : FunIn K mg "fraction" s_fraction ["over", "under"] := ⟨_, _, PySem.W.mg_of X G a15, F15, F15.binds (ps := ["over", "under"]) fun _ _ _ _ _ _ us hl => match us, hl with | [_, _], _ => rfl⟩
  have F16 := fun_mk (st := s_add) l16 c16 k16
  have I16 : FunIn K mg "add" s_add ["first", "second"] := ⟨_, _, PySem.W.mg_of X G a16, F16, F16.binds (ps := ["first", "second"]) fun _ _ _ _ _ _ us hl => match us, hl with | [_, _], _ => rfl⟩
  have F17 := fun_mk (st := s_total) l17 c17 k17
  have I17 : FunIn K mg "total" s_total ["parts"] := ⟨_, _, PySem.W.mg_of X G a17, F17, F17.binds (ps := ["parts"]) fun _ _ _ _ _ _ us hl => match us, hl with | [_], _ => rfl⟩
  have F18 := fun_mk (st := s__law_told) l18 c18 k18
  have I18 : FunIn K mg "_law_told" s__law_told ["call", "one", "other"] := ⟨_, _, PySem.W.mg_of X G a18, F18, F18.binds (ps := ["call", "one", "other"]) fun _ _ _ _ _ _ us hl => match us, hl with | [_, _, _], _ => rfl⟩
  have F19 := fun_mk (st := s__law_sum) l19 c19 k19
  have I19 : FunIn K mg "_law_sum" s__law_sum ["one", "other"] := ⟨_, _, PySem.W.mg_of X G a19, F19, F19.binds (ps := ["one", "other"]) fun _ _ _ _ _ _ us hl => match us, hl with | [_, _], _ => rfl⟩
  have F20 := fun_mk (st := s__law_less) l20 c20 k20
  have I20 : FunIn K mg "_law_less" s__law_less ["one", "other"] := ⟨_, _, PySem.W.mg_of X G a20, F20, F20.binds (ps := ["one", "other"]) fun _ _ _ _ _ _ us hl => match us, hl with | [_, _], _ => rfl⟩
  have F21 := fun_mk (st := s__law_minus) l21 c21 k21
  have I21 : FunIn K mg "_law_minus" s__law_minus ["one"] := ⟨_, _, PySem.W.mg_of X G a21, F21, F21.binds (ps := ["one"]) fun _ _ _ _ _ _ us hl => match us, hl with | [_], _ => rfl⟩
  have F22 := fun_mk (st := s_law) l22 c22 k22
  have I22 : FunIn K mg "law" s_law ["script"] := ⟨_, _, PySem.W.mg_of X G a22, F22, F22.binds (ps := ["script"]) fun _ _ _ _ _ _ us hl => match us, hl with | [_], _ => rfl⟩
  refine ⟨PySem.W.fnOf "law" "law" (defArgs s_law) (defBody s_law) (defScope s_law) .none kV22 dc22 pm22 an22 cd22 ct22, F_law C, fun s u => .of_eq rfl, fun base _ _ => ?_, pl C⟩
  have D0 : Def P w K mg base "_law_draws" 1 F__law_draws := d__law_draws g I0 
  have D1 : Def P w K mg base "_law_more" 1 F__law_more := d__law_more g I1 
  have D2 : Def P w K mg base "_law_take" 2 F__law_take := d__law_take g I2 D1
  have D3 : Def P w K mg base "_law_one" 3 F__law_one := d__law_one g I3 D2
  have D4 : Def P w K mg base "_law_fraction" 1 F__law_fraction := d__law_fraction g I4 
  have D5 : Def P w K mg base "_law_whole" 4 F__law_whole := d__law_whole g I5 D2 D3
  have D6 : Def P w K mg base "_law_small" 5 F__law_small := d__law_small g I6 D5 D4
  have D7 : Def P w K mg base "is_integer" 1 F_is_integer := d_is_integer g I7 
  have D8 : Def P w K mg base "divisor" 1 F_divisor := d_divisor g I8 
  have D9 : Def P w K mg base "is_fraction" 2 F_is_fraction := d_is_fraction g I9 D7 D8
  have D10 : Def P w K mg base "is_small" 3 F_is_small := d_is_small g I10 D9
  have D11 : Def P w K mg base "is_less" 1 F_is_less := d_is_less g I11 
  have D12 : Def P w K mg base "compare" 4 (F_compare C) := d_compare g I12 D10 D11
  have D13 : Def P w K mg base "fraction_of" 2 F_fraction_of := d_fraction_of g I13 D8
  have D14 : Def P w K mg base "in_range" 2 F_in_range := d_in_range g I14 D7
  have D15 : Def P w K mg base "fraction" 3 (F_fraction C) := d_fraction g I15 D14 D13
  have D16 : Def P w K mg base "add" 3 F_add := d_add g I16 D13
  have D17 : Def P w K mg base "total" 4 (F_total C) := d_total g I17 D10 D16
  have D18 : Def P w K mg base "_law_told" 5 (F__law_told C) := d__law_told g I18 D15 D17 D12
  have D19 : Def P w K mg base "_law_sum" 2 F__law_sum := d__law_sum g I19 D4
  have D20 : Def P w K mg base "_law_less" 1 F__law_less := d__law_less g I20 
  have D21 : Def P w K mg base "_law_minus" 1 F__law_minus := d__law_minus g I21 
  exact fn_law g F22 D0 D5 D4 D18 D6 D2 D20 D3 D21 D19
end K01

set_option Elab.async false
set_option linter.all false
set_option maxRecDepth 100000
set_option maxHeartbeats 8200000
set_option pp.maxSteps 200
set_option pp.deepTerms false
open PySem PySem.W PyProof.Rows DL
set_option maxRecDepth 100000 in
set_option maxHeartbeats 0 in
theorem PySem.Challenge.cw_standsfirm_k01_whole_fractions_holds : PySem.Challenge.rw_standsfirm_k01_whole_fractions.Holds := by
  w_on; o_law; k_head; (case hw => w_witness2)
  k_fill
  refine DL.walkG (l := PySem.Challenge.rw_standsfirm_k01_whole_fractions) (n := 63) (k := 6) (x := "script") rfl (by decide) rfl rm_caller (fun w h Y => PySem.W.kIn_of Y) ?F
  case F =>
    intro w mg fa h KX G hmg
    refine' K01.all_mk KX G hmg ?a0 ?l0 ?c0 ?k0 ?a1 ?l1 ?c1 ?k1 ?a2 ?l2 ?c2 ?k2 ?a3 ?l3 ?c3 ?k3 ?a4 ?l4 ?c4 ?k4 ?a5 ?l5 ?c5 ?k5 ?a6 ?l6 ?c6 ?k6 ?a7 ?l7 ?c7 ?k7 ?a8 ?l8 ?c8 ?k8 ?a9 ?l9 ?c9 ?k9 ?a10 ?l10 ?c10 ?k10 ?a11 ?l11 ?c11 ?k11 ?a12 ?l12 ?c12 ?k12 ?a13 ?l13 ?c13 ?k13 ?a14 ?l14 ?c14 ?k14 ?a15 ?l15 ?c15 ?k15 ?a16 ?l16 ?c16 ?k16 ?a17 ?l17 ?c17 ?k17 ?a18 ?l18 ?c18 ?k18 ?a19 ?l19 ?c19 ?k19 ?a20 ?l20 ?c20 ?k20 ?a21 ?l21 ?c21 ?k21 ?a22 ?l22 ?c22 ?k22 ?aC_FrameError ?aC_ArgumentError ?aC_ReasonError ?xL_ArgumentError ?xR_ArgumentError ?xS_ArgumentError ?xG_ArgumentError ?xH_ArgumentError ?xN_ArgumentError_reason ?xI_ArgumentError ?xT_ArgumentError ?xK_ArgumentError ?xE_ArgumentError ?xV_ArgumentError ?xY_ArgumentError ?xD_ArgumentError ?xU_ArgumentError ?xM_ArgumentError ?yL_ArgumentError ?yC_ArgumentError ?yD_ArgumentError ?yF_ArgumentError ?yP_ArgumentError ?yK_ArgumentError ?hA_ArgumentError ?hM_ArgumentError ?opq ?zsup ?ptop ?hN ?hT ?clD_ReasonError ?xE_FrameError ?xY_FrameError ?xD_FrameError ?s_ArgumentError_ArgumentError ?o_ArgumentError_FrameError ?z_abs ?z_all ?z_bool ?z_int ?z_isinstance ?z_len ?z_range ?z_repr ?z_tuple ?g0_MAX_NUMBER ?g0_ZERO ?g_ZERO K01.law_ok
    (case a0 => k_is)
    (case l0 => k_is)
    (case c0 => k_is)
    (case k0 => k_is)
    (case a1 => k_is)
    (case l1 => k_is)
    (case c1 => k_is)
    (case k1 => k_is)
    (case a2 => k_is)
    (case l2 => k_is)
    (case c2 => k_is)
    (case k2 => k_is)
    (case a3 => k_is)
    (case l3 => k_is)
    (case c3 => k_is)
    (case k3 => k_is)
    (case a4 => k_is)
    (case l4 => k_is)
    (case c4 => k_is)
    (case k4 => k_is)
    (case a5 => k_is)
    (case l5 => k_is)
    (case c5 => k_is)
    (case k5 => k_is)
    (case a6 => k_is)
    (case l6 => k_is)
    (case c6 => k_is)
    (case k6 => k_is)
    (case a7 => k_is)
    (case l7 => k_is)
    (case c7 => k_is)
    (case k7 => k_is)
    (case a8 => k_is)
    (case l8 => k_is)
    (case c8 => k_is)
    (case k8 => k_is)
    (case a9 => k_is)
    (case l9 => k_is)
    (case c9 => k_is)
    (case k9 => k_is)
    (case a10 => k_is)
    (case l10 => k_is)
    (case c10 => k_is)
    (case k10 => k_is)
    (case a11 => k_is)
    (case l11 => k_is)
    (case c11 => k_is)
    (case k11 => k_is)
    (case a12 => k_is)
    (case l12 => k_is)
    (case c12 => k_is)
    (case k12 => k_is)
    (case a13 => k_is)
    (case l13 => k_is)
    (case c13 => k_is)
    (case k13 => k_is)
    (case a14 => k_is)
    (case l14 => k_is)
    (case c14 => k_is)
    (case k14 => k_is)
    (case a15 => k_is)
    (case l15 => k_is)
    (case c15 => k_is)
    (case k15 => k_is)
    (case a16 => k_is)
    (case l16 => k_is)
    (case c16 => k_is)
    (case k16 => k_is)
    (case a17 => k_is)
    (case l17 => k_is)
    (case c17 => k_is)
    (case k17 => k_is)
    (case a18 => k_is)
    (case l18 => k_is)
    (case c18 => k_is)
    (case k18 => k_is)
    (case a19 => k_is)
    (case l19 => k_is)
    (case c19 => k_is)
    (case k19 => k_is)
    (case a20 => k_is)
    (case l20 => k_is)
    (case c20 => k_is)
    (case k20 => k_is)
    (case a21 => k_is)
    (case l21 => k_is)
    (case c21 => k_is)
    (case k21 => k_is)
    (case a22 => k_is)
    (case l22 => k_is)
    (case c22 => k_is)
    (case k22 => k_is)
    (case aC_FrameError => k_is)
    (case aC_ArgumentError => k_is)
    (case aC_ReasonError => k_is)
    (case xL_ArgumentError => k_is)
    (case xR_ArgumentError => first | (decide +kernel) | k_is)
    (case xS_ArgumentError => k_is)
    (case xG_ArgumentError => k_is)
    (case xH_ArgumentError => k_is)
    (case xN_ArgumentError_reason => k_is)
    (case xI_ArgumentError => k_is)
    (case xT_ArgumentError => k_is)
    (case xK_ArgumentError => k_is)
    (case xE_ArgumentError => k_is)
    (case xV_ArgumentError => k_is)
    (case xY_ArgumentError => k_is)
    (case xD_ArgumentError => k_is)
    (case xU_ArgumentError => ks_is)
    (case xM_ArgumentError => k_is)
    (case yL_ArgumentError => k_is)
    (case yC_ArgumentError => k_is)
    (case yD_ArgumentError => k_is)
    (case yF_ArgumentError => rfl)
    (case yP_ArgumentError => first | rfl | decide +kernel)
    (case yK_ArgumentError => k_is)
    (case hA_ArgumentError => k_is)
    (case hM_ArgumentError => k_is)
    (case opq => k_is)
    (case zsup => k_is)
    (case ptop => first | rfl | decide +kernel)
    (case hN => k_is)
    (case hT => k_is)
    (case clD_ReasonError => k_is)
    (case xE_FrameError => k_is)
    (case xY_FrameError => k_is)
    (case xD_FrameError => k_is)
    (case s_ArgumentError_ArgumentError => first | rfl | k_is)
    (case o_ArgumentError_FrameError => first | rfl | k_is)
    (case z_abs => k_is)
    (case z_all => k_is)
    (case z_bool => k_is)
    (case z_int => k_is)
    (case z_isinstance => k_is)
    (case z_len => k_is)
    (case z_range => k_is)
    (case z_repr => k_is)
    (case z_tuple => k_is)
    (case g0_MAX_NUMBER => k_is)
    (case g0_ZERO => k_is)
    (case g_ZERO => k_is)

