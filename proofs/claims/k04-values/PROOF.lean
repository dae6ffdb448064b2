import PyProof.Rows.All
import Wide.All
import OpenK.AllK
import Wide.FinOn
import PyProof.EqAt
import PyProof.EqKinds
import PyProof.TupleCall
import HandS.ForMost
import HandS.IsInst
import HandS.Deep
import HandS.Style
import HandS.TupAny
import HandS.More
import HandS.Flow
import HandS.Zip
import PySem.Challenge.RW_variantnest_k04_values
set_option Elab.async false
set_option linter.all false
set_option maxRecDepth 100000
/-! UBase: values that carry tuples, and lists that nobody changes any more, by value; the judgements of HandS read over them. -/
namespace PU
open PySem PySem.Spec PyProof.Rows L2

inductive U where
  | non | bl (b : Bool) | int (i : Int) | str (x : Str) | ref (a : Addr) | ty (n : String)
  | tup (xs : List U) | lst (xs : List U)

/-- a text that may stand anywhere -/
def okS (x : Str) : Bool := decide (x.length ≤ sizeLine) && PyData.strOk x
theorem okS.len {x : Str} (h : okS x = true) : x.length ≤ sizeLine := of_decide_eq_true (Bool.and_eq_true_iff.mp h).1
theorem okS.ok {x : Str} (h : okS x = true) : PyData.strOk x = true := (Bool.and_eq_true_iff.mp h).2
/-- a list that is not changed any more -/
def FzL (K : PySem.W.Frag) (H : Hp) (a : Addr) (xs : List V) : Prop :=
  (∃ o, H a = some (.frz o (.lst xs))) ∨
    ∃ (o : Obj) (its : Array Value) (n : Nat), K.lookup a = some o ∧ o.cls = .type "list" ∧ o.dict = none ∧ o.data = .seq its n ∧ its.size ≤ sizeLine ∧ Vals xs its.toList
theorem FzL.sq {K : PySem.W.Frag} {H : Hp} {a : Addr} {xs : List V} (h : FzL K H a xs) : SqL K H a xs := by
  rcases h with ⟨o, h⟩ | h
  · exact .inl (.inr ⟨o, h⟩)
  · exact .inr h

mutual
/-- u, carried by value, stands as v in the heap H -/
def RelU (K : PySem.W.Frag) (H : Hp) : U → V → Prop
  | .non, v => v = .non
  | .bl b, v => v = .bl b
  | .int i, v => v = .int i
  | .str x, v => v = .str x ∧ okS x = true
  | .ref a, v => v = .ref a
  | .ty n, v => v = .ty n
  | .tup xs, v => ∃ a vs, v = .ref a ∧ SqT K H a vs ∧ RelUs K H xs vs
  | .lst xs, v => ∃ a vs, v = .ref a ∧ FzL K H a vs ∧ RelUs K H xs vs
def RelUs (K : PySem.W.Frag) (H : Hp) : List U → List V → Prop
  | [], vs => vs = []
  | x :: xs, vs => ∃ v r, vs = v :: r ∧ RelU K H x v ∧ RelUs K H xs r
end

/-- what never changes stands as it did -/
structure Stab (H H' : Hp) : Prop where
  tups : ∀ b xs, H b = some (.tup xs) → H' b = some (.tup xs)
  frzs : ∀ b o u, H b = some (.frz o u) → H' b = some (.frz o u)
theorem Stab.refl (H : Hp) : Stab H H := ⟨fun _ _ h => h, fun _ _ _ h => h⟩
theorem Stab.trans {H H1 H2 : Hp} (a : Stab H H1) (b : Stab H1 H2) : Stab H H2 := ⟨fun c xs h => b.tups c xs (a.tups c xs h), fun c o u h => b.frzs c o u (a.frzs c o u h)⟩
theorem Stab.upd {H : Hp} {p : Addr} {o : HO} (h1 : ∀ xs, H p ≠ some (.tup xs)) (h2 : ∀ ob u, H p ≠ some (.frz ob u)) : Stab H (upd H p o) :=
  ⟨fun b xs h => by
    by_cases e : b = p
    · subst e; exact absurd h (h1 _)
    · rw [upd_ne e]; exact h,
   fun b ob u h => by
    by_cases e : b = p
    · subst e; exact absurd h (h2 _ _)
    · rw [upd_ne e]; exact h⟩
theorem Stab.new {H : Hp} {p : Addr} {o : HO} (h : H p = none) : Stab H (L2.upd H p o) := Stab.upd (fun xs e => by rw [h] at e; cases e) (fun ob u e => by rw [h] at e; cases e)
theorem Stab.lst {H : Hp} {p : Addr} {o : HO} {xs : List V} (h : H p = some (.lst xs)) : Stab H (L2.upd H p o) := Stab.upd (fun xs e => by rw [h] at e; cases e) (fun ob u e => by rw [h] at e; cases e)

theorem SqT.stab {K : PySem.W.Frag} {H H' : Hp} {a : Addr} {xs : List V} (s : Stab H H') (h : SqT K H a xs) : SqT K H' a xs := by
  rcases h with (h | ⟨o, h⟩) | h
  · exact .inl (.inl (s.tups _ _ h))
  · exact .inl (.inr ⟨o, s.frzs _ _ _ h⟩)
  · exact .inr h
theorem FzL.stab {K : PySem.W.Frag} {H H' : Hp} {a : Addr} {xs : List V} (s : Stab H H') (h : FzL K H a xs) : FzL K H' a xs := by
  rcases h with ⟨o, h⟩ | h
  · exact .inl ⟨o, s.frzs _ _ _ h⟩
  · exact .inr h
mutual
theorem RelU.stab {K : PySem.W.Frag} {H H' : Hp} (s : Stab H H') : ∀ {u : U} {v : V}, RelU K H u v → RelU K H' u v
  | .non, _, h => h
  | .bl _, _, h => h
  | .int _, _, h => h
  | .str _, _, h => h
  | .ref _, _, h => h
  | .ty _, _, h => h
  | .tup xs, v, h => by
    simp only [RelU] at h ⊢
    obtain ⟨a, vs, e, q, r⟩ := h
    exact ⟨a, vs, e, SqT.stab s q, RelUs.stab s r⟩
  | .lst xs, v, h => by
    simp only [RelU] at h ⊢
    obtain ⟨a, vs, e, q, r⟩ := h
    exact ⟨a, vs, e, q.stab s, RelUs.stab s r⟩
theorem RelUs.stab {K : PySem.W.Frag} {H H' : Hp} (s : Stab H H') : ∀ {us : List U} {vs : List V}, RelUs K H us vs → RelUs K H' us vs
  | [], _, h => h
  | x :: xs, vs, h => by
    simp only [RelUs] at h ⊢
    obtain ⟨v, r, e, q, t⟩ := h
    exact ⟨v, r, e, RelU.stab s q, RelUs.stab s t⟩
end
section
variable {K : PySem.W.Frag} {H : Hp}
theorem RelUs.nil : RelUs K H [] [] := rfl
theorem RelUs.cons {x : U} {v : V} {xs : List U} {vs : List V} (h : RelU K H x v) (t : RelUs K H xs vs) : RelUs K H (x :: xs) (v :: vs) := ⟨v, vs, rfl, h, t⟩
theorem RelUs.length : ∀ {xs : List U} {vs : List V}, RelUs K H xs vs → xs.length = vs.length
  | [], _, h => by obtain rfl := h; rfl
  | x :: xs, _, h => by
    obtain ⟨v, r, rfl, _, t⟩ := h
    simp [RelUs.length t]
theorem RelUs.get : ∀ {xs : List U} {vs : List V} {i : Nat} {x : U}, RelUs K H xs vs → xs[i]? = some x → ∃ v, vs[i]? = some v ∧ RelU K H x v
  | [], _, _, _, _, e => by simp at e
  | x :: xs, _, 0, _, h, e => by
    obtain ⟨v, r, rfl, q, t⟩ := h
    simp at e; subst e
    exact ⟨v, rfl, q⟩
  | x :: xs, _, i + 1, y, h, e => by
    obtain ⟨v, r, rfl, q, t⟩ := h
    obtain ⟨w, e1, e2⟩ := RelUs.get (i := i) t (by simpa using e)
    exact ⟨w, by simpa using e1, e2⟩
theorem RelUs.getV : ∀ {xs : List U} {vs : List V} {i : Nat} {v : V}, RelUs K H xs vs → vs[i]? = some v → ∃ x, xs[i]? = some x ∧ RelU K H x v
  | [], _, _, _, h, e => by obtain rfl := h; simp at e
  | x :: xs, _, 0, _, h, e => by
    obtain ⟨v, r, rfl, q, t⟩ := h
    simp at e; subst e
    exact ⟨x, rfl, q⟩
  | x :: xs, _, i + 1, y, h, e => by
    obtain ⟨v, r, rfl, q, t⟩ := h
    obtain ⟨w, e1, e2⟩ := RelUs.getV (i := i) t (by simpa using e)
    exact ⟨w, by simpa using e1, e2⟩
theorem RelUs.append : ∀ {xs ys : List U} {vs ws : List V}, RelUs K H xs vs → RelUs K H ys ws → RelUs K H (xs ++ ys) (vs ++ ws)
  | [], _, _, _, h, k => by obtain rfl := h; exact k
  | x :: xs, ys, _, ws, h, k => by
    obtain ⟨v, r, rfl, q, t⟩ := h
    exact ⟨v, r ++ ws, rfl, q, RelUs.append t k⟩
theorem RelUs.set {x : U} {v : V} (q : RelU K H x v) : ∀ {xs : List U} {vs : List V} (i : Nat), RelUs K H xs vs → RelUs K H (xs.set i x) (vs.set i v)
  | [], _, _, h => by obtain rfl := h; exact RelUs.nil
  | y :: ys, _, 0, h => by
    obtain ⟨w, r, rfl, p, t⟩ := h
    exact ⟨v, r, rfl, q, t⟩
  | y :: ys, _, i + 1, h => by
    obtain ⟨w, r, rfl, p, t⟩ := h
    exact ⟨w, r.set i v, rfl, p, RelUs.set q i t⟩
theorem RelUs.take (n : Nat) : ∀ {xs : List U} {vs : List V}, RelUs K H xs vs → RelUs K H (xs.take n) (vs.take n) := by
  induction n with
  | zero => intro xs vs _; simp; exact RelUs.nil
  | succ n ih =>
    intro xs vs h
    cases xs with
    | nil => obtain rfl := h; exact RelUs.nil
    | cons x xs =>
      obtain ⟨v, r, rfl, q, t⟩ := h
      exact ⟨v, r.take n, rfl, q, ih t⟩
theorem RelUs.drop (n : Nat) : ∀ {xs : List U} {vs : List V}, RelUs K H xs vs → RelUs K H (xs.drop n) (vs.drop n) := by
  induction n with
  | zero => intro xs vs h; exact h
  | succ n ih =>
    intro xs vs h
    cases xs with
    | nil => obtain rfl := h; exact RelUs.nil
    | cons x xs =>
      obtain ⟨v, r, rfl, q, t⟩ := h
      exact ih t
theorem RelUs.eraseIdx : ∀ {xs : List U} {vs : List V} (i : Nat), RelUs K H xs vs → RelUs K H (xs.eraseIdx i) (vs.eraseIdx i)
  | [], _, _, h => by obtain rfl := h; exact RelUs.nil
  | y :: ys, _, 0, h => by
    obtain ⟨w, r, rfl, p, t⟩ := h
    exact t
  | y :: ys, _, i + 1, h => by
    obtain ⟨w, r, rfl, p, t⟩ := h
    exact ⟨w, r.eraseIdx i, rfl, p, RelUs.eraseIdx i t⟩
theorem RelUs.mem : ∀ {xs : List U} {vs : List V}, (∀ x ∈ xs, ∃ v, RelU K H x v) → ∃ vs, RelUs K H xs vs
  | [], _, _ => ⟨[], RelUs.nil⟩
  | x :: xs, vs, h => by
    obtain ⟨v, q⟩ := h x (by simp)
    obtain ⟨r, t⟩ := RelUs.mem (xs := xs) (vs := vs) fun y hy => h y (by simp [hy])
    exact ⟨v :: r, RelUs.cons q t⟩
end

/-- what may change: by address -/
inductive MO where
  | lst (xs : List U)
  | ins (C dx : Addr) (fs : List (Str × U))
  | xd (fs : List (Str × U))
  | dK (kvs : List (Key × U))
def RelKs {κ : Type} (K : PySem.W.Frag) (H : Hp) : List (κ × U) → List (κ × V) → Prop
  | [], vs => vs = []
  | (k, x) :: xs, vs => ∃ v r, vs = (k, v) :: r ∧ RelU K H x v ∧ RelKs K H xs r
theorem RelKs.stab {κ : Type} {K : PySem.W.Frag} {H H' : Hp} (s : Stab H H') : ∀ {us : List (κ × U)} {vs : List (κ × V)}, RelKs K H us vs → RelKs K H' us vs
  | [], _, h => h
  | (k, x) :: xs, vs, h => by
    simp only [RelKs] at h ⊢
    obtain ⟨v, r, e, q, t⟩ := h
    exact ⟨v, r, e, RelU.stab s q, RelKs.stab s t⟩
abbrev UHp := Addr → Option MO
def RelO (K : PySem.W.Frag) (H : Hp) (a : Addr) : MO → Prop
  | .lst xs => ∃ vs, H a = some (.lst vs) ∧ RelUs K H xs vs
  | .ins C dx fs => ∃ vs, H a = some (.ins C dx vs) ∧ RelKs K H fs vs
  | .xd fs => ∃ vs, H a = some (.xd vs) ∧ RelKs K H fs vs
  | .dK kvs => ∃ vs, H a = some (.dK vs) ∧ RelKs K H kvs vs
def RelM (K : PySem.W.Frag) (H : Hp) (M : UHp) : Prop := ∀ a o, M a = some o → RelO K H a o
def updM (M : UHp) (a : Addr) (o : MO) : UHp := fun b => if b = a then some o else M b
theorem updM_same {M : UHp} {a : Addr} {o : MO} : updM M a o a = some o := by unfold updM; rw [if_pos rfl]
theorem updM_ne {M : UHp} {a b : Addr} {o : MO} (h : b ≠ a) : updM M a o b = M b := by unfold updM; rw [if_neg h]
theorem updM_updM {M : UHp} {a : Addr} {o u : MO} : updM (updM M a o) a u = updM M a u := by
  funext b; unfold updM; split <;> rfl
theorem updM_comm {M : UHp} {a b : Addr} {o u : MO} (h : a ≠ b) : updM (updM M a o) b u = updM (updM M b u) a o := by
  funext c; unfold updM
  by_cases h1 : c = a
  · subst h1; simp [h]
  · simp [h1]
section
variable {K : PySem.W.Frag} {H H' : Hp} {M : UHp} {a p : Addr} {o : MO}
theorem RelO.some (h : RelO K H a o) : ∃ u, H a = some u := by
  cases o <;> (obtain ⟨vs, e, _⟩ := h; exact ⟨_, e⟩)
theorem RelM.none (h : RelM K H M) (e : H p = Option.none) : M p = Option.none := by
  cases q : M p with
  | none => rfl
  | some o => obtain ⟨u, e'⟩ := (h p o q).some; rw [e] at e'; cases e'
/-- an object that stands at another place too -/
theorem RelO.at (s : Stab H H') (h : RelO K H a o) (e : H' a = H a) : RelO K H' a o := by
  cases o with
  | lst xs => obtain ⟨vs, q, r⟩ := h; exact ⟨vs, e.trans q, r.stab s⟩
  | ins C dx fs => obtain ⟨vs, q, r⟩ := h; exact ⟨vs, e.trans q, r.stab s⟩
  | xd fs => obtain ⟨vs, q, r⟩ := h; exact ⟨vs, e.trans q, r.stab s⟩
  | dK kvs => obtain ⟨vs, q, r⟩ := h; exact ⟨vs, e.trans q, r.stab s⟩
/-- laid at a place that was free, of no concern to M -/
theorem RelM.beside {u : HO} (h : RelM K H M) (hn : H p = Option.none) : RelM K (upd H p u) M := fun b o e => by
  have hb : b ≠ p := fun z => by subst z; obtain ⟨w, q⟩ := (h b o e).some; rw [hn] at q; cases q
  exact (h b o e).at (Stab.new hn) (upd_ne hb)
theorem RelM.write {u : HO} (h : RelM K H M) (s : Stab H (upd H p u)) (new : RelO K (upd H p u) p o) : RelM K (upd H p u) (updM M p o) := fun b w e => by
  by_cases hb : b = p
  · subst hb; rw [updM_same] at e; cases e; exact new
  · rw [updM_ne hb] at e
    exact (h b w e).at s (upd_ne hb)
end

abbrev USt := List (Option U)
structure RelS (K : PySem.W.Frag) (H : Hp) (σ : USt) (τ : L2.St) : Prop where
  len : σ.length = τ.length
  get : ∀ (i : Nat) (u : U), σ[i]? = some (some u) → ∃ v, τ[i]? = some (some v) ∧ RelU K H u v
theorem RelS.stab {K : PySem.W.Frag} {H H' : Hp} (s : Stab H H') {σ : USt} {τ : L2.St} (h : RelS K H σ τ) : RelS K H' σ τ :=
  ⟨h.len, fun i u e => let ⟨v, e1, e2⟩ := h.get i u e; ⟨v, e1, e2.stab s⟩⟩
theorem RelS.set {K : PySem.W.Frag} {H : Hp} {σ : USt} {τ : L2.St} (h : RelS K H σ τ) {u : U} {v : V} (r : RelU K H u v) (i : Nat) : RelS K H (σ.set i (some u)) (τ.set i (some v)) :=
  ⟨by simp [h.len], fun j w e => by
    by_cases hj : i = j
    · subst hj
      by_cases hl : i < σ.length
      · rw [List.getElem?_set_self hl] at e; cases e
        exact ⟨v, by rw [List.getElem?_set_self (by rw [← h.len]; exact hl)], r⟩
      · rw [List.getElem?_eq_none (by simpa using hl)] at e; cases e
    · rw [List.getElem?_set_ne hj] at e ⊢
      exact h.get j w e⟩
theorem RelS.unset {K : PySem.W.Frag} {H : Hp} {σ : USt} {τ : L2.St} (h : RelS K H σ τ) (i : Nat) (o : Option V) : RelS K H (σ.set i none) (τ.set i o) :=
  ⟨by simp [h.len], fun j w e => by
    by_cases hj : i = j
    · subst hj
      by_cases hl : i < σ.length
      · rw [List.getElem?_set_self hl] at e; cases e
      · rw [List.getElem?_eq_none (by simpa using hl)] at e; cases e
    · rw [List.getElem?_set_ne hj] at e ⊢
      exact h.get j w e⟩

/-! ### the judgements -/
abbrev UK := U → UHp → Prop
abbrev UTE := USt → UHp → UK → Prop
abbrev UTT := USt → UHp → (Bool → UHp → Prop) → Prop
abbrev UTA := USt → UHp → (List U → UHp → Prop) → Prop
structure UEnds where
  nx : USt → UHp → Prop
  rt : UK
  bk : USt → UHp → Prop := fun _ _ => False
  ct : USt → UHp → Prop := fun _ _ => False
abbrev UTS := UEnds → USt → UHp → Prop
abbrev UTG := U → USt → UHp → (USt → UHp → Prop) → Prop

def UpK (K : PySem.W.Frag) (H : Hp) (Qu : UK) (Q : VK) : Prop := ∀ x M' v H', Qu x M' → Stab H H' → RelM K H' M' → RelU K H' x v → Q v H'
def UpB (K : PySem.W.Frag) (H : Hp) (Qu : Bool → UHp → Prop) (Q : Bool → Hp → Prop) : Prop := ∀ b M' H', Qu b M' → Stab H H' → RelM K H' M' → Q b H'
def UpA (K : PySem.W.Frag) (H : Hp) (Qu : List U → UHp → Prop) (Q : List V → Hp → Prop) : Prop := ∀ xs M' vs H', Qu xs M' → Stab H H' → RelM K H' M' → RelUs K H' xs vs → Q vs H'
def UpS (K : PySem.W.Frag) (H : Hp) (Qu : USt → UHp → Prop) (Q : L2.St → Hp → Prop) : Prop := ∀ σ' M' τ' H', Qu σ' M' → Stab H H' → RelM K H' M' → RelS K H' σ' τ' → Q τ' H'
structure UpD (K : PySem.W.Frag) (H : Hp) (Du : UEnds) (D : Ends) : Prop where
  nx : UpS K H Du.nx D.nx
  rt : UpK K H Du.rt D.rt
  bk : UpS K H Du.bk D.bk
  ct : UpS K H Du.ct D.ct
section
variable {K : PySem.W.Frag} {H H' : Hp}
theorem UpK.from {Qu : UK} {Q : VK} (h : UpK K H Qu Q) (s : Stab H H') : UpK K H' Qu Q := fun x M' v H2 q s2 m r => h x M' v H2 q (s.trans s2) m r
theorem UpB.from {Qu : Bool → UHp → Prop} {Q : Bool → Hp → Prop} (h : UpB K H Qu Q) (s : Stab H H') : UpB K H' Qu Q := fun x M' H2 q s2 m => h x M' H2 q (s.trans s2) m
theorem UpA.from {Qu : List U → UHp → Prop} {Q : List V → Hp → Prop} (h : UpA K H Qu Q) (s : Stab H H') : UpA K H' Qu Q := fun x M' v H2 q s2 m r => h x M' v H2 q (s.trans s2) m r
theorem UpS.from {Qu : USt → UHp → Prop} {Q : L2.St → Hp → Prop} (h : UpS K H Qu Q) (s : Stab H H') : UpS K H' Qu Q := fun x M' v H2 q s2 m r => h x M' v H2 q (s.trans s2) m r
theorem UpD.from {Qu : UEnds} {Q : Ends} (h : UpD K H Qu Q) (s : Stab H H') : UpD K H' Qu Q := ⟨h.nx.from s, h.rt.from s, h.bk.from s, h.ct.from s⟩
end
def dnE (K : PySem.W.Frag) (t : UTE) : TE := fun τ H Q => ∃ σ M Qu, RelS K H σ τ ∧ RelM K H M ∧ t σ M Qu ∧ UpK K H Qu Q
def dnT (K : PySem.W.Frag) (t : UTT) : TT := fun τ H Q => ∃ σ M Qu, RelS K H σ τ ∧ RelM K H M ∧ t σ M Qu ∧ UpB K H Qu Q
def dnA (K : PySem.W.Frag) (t : UTA) : TA := fun τ H Q => ∃ σ M Qu, RelS K H σ τ ∧ RelM K H M ∧ t σ M Qu ∧ UpA K H Qu Q
def dnS (K : PySem.W.Frag) (t : UTS) : TS := fun D τ H => ∃ σ M Du, RelS K H σ τ ∧ RelM K H M ∧ t Du σ M ∧ UpD K H Du D
def dnG (K : PySem.W.Frag) (t : UTG) : TG := fun v τ H Q => ∃ u σ M Qu, RelU K H u v ∧ RelS K H σ τ ∧ RelM K H M ∧ t u σ M Qu ∧ UpS K H Qu Q
abbrev UE (X : Cx) (e : Expr) (t : UTE) : Prop := PE X e (dnE X.K t)
abbrev UT (X : Cx) (e : Expr) (t : UTT) : Prop := PT X e (dnT X.K t)
abbrev UW (X : Cx) (e : Expr) (t : UTT) : Prop := PW X e (dnT X.K t)
abbrev UA (X : Cx) (es : List Expr) (t : UTA) : Prop := PA X es (dnA X.K t)
abbrev US (X : Cx) (st : Stmt) (t : UTS) : Prop := PS X st (dnS X.K t)
abbrev USs (X : Cx) (st : List Stmt) (t : UTS) : Prop := PSs X st (dnS X.K t)
abbrev UG (X : Cx) (e : Expr) (t : UTG) : Prop := PG X e (dnG X.K t)
section
variable {X : Cx}
theorem PE.mono {e : Expr} {t t' : TE} (h : PE X e t) (w : ∀ σ H Q, t' σ H Q → t σ H Q) : PE X e t' := ⟨fun pins s σ H Q I q => h.run pins s σ H Q I (w σ H Q q)⟩
theorem PT.mono {e : Expr} {t t' : TT} (h : PT X e t) (w : ∀ σ H Q, t' σ H Q → t σ H Q) : PT X e t' := ⟨fun pins s σ H Q I q => h.run pins s σ H Q I (w σ H Q q)⟩
theorem PW.mono {e : Expr} {t t' : TT} (h : PW X e t) (w : ∀ σ H Q, t' σ H Q → t σ H Q) : PW X e t' := ⟨fun wh pins s σ H Q I q => h.run wh pins s σ H Q I (w σ H Q q)⟩
theorem PA.mono {es : List Expr} {t t' : TA} (h : PA X es t) (w : ∀ σ H Q, t' σ H Q → t σ H Q) : PA X es t' := ⟨fun pos pins s σ H Q I q => h.run pos pins s σ H Q I (w σ H Q q)⟩
theorem PS.mono {st : Stmt} {t t' : TS} (h : PS X st t) (w : ∀ D σ H, t' D σ H → t D σ H) : PS X st t' := ⟨fun pins s σ H D I q => h.run pins s σ H D I (w D σ H q)⟩
theorem PSs.mono {st : List Stmt} {t t' : TS} (h : PSs X st t) (w : ∀ D σ H, t' D σ H → t D σ H) : PSs X st t' := ⟨fun pins s σ H D I q => h.run pins s σ H D I (w D σ H q)⟩
theorem PG.mono {e : Expr} {t t' : TG} (h : PG X e t) (w : ∀ v σ H Q, t' v σ H Q → t v σ H Q) : PG X e t' := ⟨fun pins s σ H v u Q I r q => h.run pins s σ H v u Q I r (w v σ H Q q)⟩

/-! ### names, constants -/
def uVar (i : Nat) (σ : USt) (M : UHp) (Q : UK) : Prop := ∃ v, σ[i]? = some (some v) ∧ Q v M
def uC (v : U) (_ : USt) (M : UHp) (Q : UK) : Prop := Q v M
theorem uv (i : Nat) {x : Str} {pos : Pos} (hN : X.N[i]? = some x := by rfl) (hv : Vis X.env.scope x := by first | exact Or.inl rfl | exact Or.inr (Or.inl rfl) | exact Or.inr (Or.inr rfl)) (hd : (x == ("__debug__" : Str)) = false := by decide)
    (hcd : (x == ("__classdict__" : Str)) = false := by decide) : UE X (.Name x pos) (uVar i) := PE.mono (pe_var hN hv hd hcd) fun τ H Q h => by
  obtain ⟨σ, M, Qu, rs, rm, ⟨u, e, q⟩, up⟩ := h
  obtain ⟨v, e1, r⟩ := rs.get i u e
  exact ⟨v, e1, up u M v H q (Stab.refl H) rm r⟩
theorem dn_c {c : U} {v : V} (r : ∀ H, RelU X.K H c v) : ∀ σ H Q, dnE X.K (uC c) σ H Q → tC v σ H Q := fun τ H Q h => by
  obtain ⟨σ, M, Qu, rs, rm, q, up⟩ := h
  exact up c M v H q (Stab.refl H) rm (r H)
theorem ue_int {i j pos} : UE X (.Constant (.int i) j pos) (uC (.int i)) := PE.mono pe_int (dn_c fun _ => rfl)
theorem ue_bl {b j pos} : UE X (.Constant (.bool b) j pos) (uC (.bl b)) := PE.mono pe_bl (dn_c fun _ => rfl)
theorem ue_non {j pos} : UE X (.Constant .none j pos) (uC .non) := PE.mono pe_non (dn_c fun _ => rfl)
theorem ue_str {x j pos} (hx : okS x = true := by decide +kernel) : UE X (.Constant (.str x) j pos) (uC (.str x)) := PE.mono pe_str (dn_c fun _ => ⟨rfl, hx⟩)
/-- a module's constant -/
theorem ue_glob {x : Str} {c : U} {v : V} {u : Value} {pos : Pos} (hg : Gl X x) (hm : X.mg x = some u) (r : RelV v u) (ru : ∀ H, RelU X.K H c v) (hd : (x == ("__debug__" : Str)) = false := by decide) : UE X (.Name x pos) (uC c) := PE.mono (pe_glob hg hm r hd) (dn_c ru)
theorem ue_bltn {x : Str} {n : String} {pos : Pos} (hg : Gl X x) (hm : X.mg x = none) (hv : bootBuiltins x = some (.type n)) (hn : x ≠ "__name__" := by decide) (hd : (x == ("__debug__" : Str)) = false := by decide) : UE X (.Name x pos) (uC (.ty n)) := PE.mono (pe_bltn (v := .ty n) hg hm hv rfl hn hd) (dn_c fun _ => rfl)

/-! ### operators by values -/
abbrev UR2 := U → U → UHp → UK → Prop
def dn2 (K : PySem.W.Frag) (r : UR2) : R2 := fun v w H Q => ∃ x y M Qu, RelU K H x v ∧ RelU K H y w ∧ RelM K H M ∧ r x y M Qu ∧ UpK K H Qu Q
abbrev UOpR (X : Cx) (f : Value → Value → Sem Value) (r : UR2) : Prop := OpR X f (dn2 X.K r)
theorem OpR.mono {f : Value → Value → Sem Value} {r r' : R2} (h : OpR X f r) (w : ∀ x y H Q, r' x y H Q → r x y H Q) : OpR X f r' := fun pins s σ H x y v u Q I rx ry q => h pins s σ H x y v u Q I rx ry (w x y H Q q)
def uOp (r : UR2) (ta tb : UTE) (σ : USt) (M : UHp) (Q : UK) : Prop := ta σ M fun x M1 => tb σ M1 fun y M2 => r x y M2 Q
theorem dn_op {r : UR2} {ta tb : UTE} : ∀ σ H Q, dnE X.K (uOp r ta tb) σ H Q → tOp (dn2 X.K r) (dnE X.K ta) (dnE X.K tb) σ H Q := fun τ H Q h => by
  obtain ⟨σ, M, Qu, rs, rm, q, up⟩ := h
  refine ⟨σ, M, _, rs, rm, q, fun x M1 v H1 q1 s1 m1 r1 => ?_⟩
  refine ⟨σ, M1, _, rs.stab s1, m1, q1, fun y M2 w H2 q2 s2 m2 r2 => ?_⟩
  exact ⟨x, y, M2, Qu, r1.stab s2, r2, m2, q2, up.from (s1.trans s2)⟩
variable {a b : Expr} {ta tb : UTE} {pos : Pos}
theorem ue_op {op : Operator} {r : UR2} (ho : UOpR X (binaryOp op) r) (ha : UE X a ta) (hb : UE X b tb) : UE X (.BinOp a op b pos) (uOp r ta tb) := PE.mono (pe_op ho ha hb) dn_op
theorem ue_cmp {op : CmpOp} {r : UR2} (ho : UOpR X (compareOp op) r) (ha : UE X a ta) (hb : UE X b tb) (hm : behindInMarks op b = false) : UE X (.Compare a [op] [b] pos) (uOp r ta tb) := PE.mono (pe_cmpR ho ha hb hm) dn_op
/-- a value that is a bool, as a test -/
def uB (t : UTE) (σ : USt) (M : UHp) (Q : Bool → UHp → Prop) : Prop := t σ M fun x M' => ∃ k, x = .bl k ∧ Q k M'
theorem dn_b {t : UTE} {r : TE} (w : ∀ σ H Q, dnE X.K t σ H Q → r σ H Q) : ∀ σ H Q, dnT X.K (uB t) σ H Q → tTest r σ H Q := fun τ H Q h => by
  obtain ⟨σ, M, Qu, rs, rm, q, up⟩ := h
  refine w _ _ _ ⟨σ, M, _, rs, rm, q, fun x M1 v H1 q1 s1 m1 r1 => ?_⟩
  obtain ⟨k, rfl, q⟩ := q1
  obtain rfl := r1
  exact ⟨k, rfl, up k M1 H1 q s1 m1⟩
theorem ut_cmp {op : CmpOp} {r : UR2} (ho : UOpR X (compareOp op) r) (ha : UE X a ta) (hb : UE X b tb) (hm : behindInMarks op b = false) : UT X (.Compare a [op] [b] pos) (uB (uOp r ta tb)) := PT.mono (pt_cmpR ho ha hb hm) (dn_b dn_op)
def uChain (r r' : UR2) (ta tb tc : UTE) (σ : USt) (M : UHp) (Q : UK) : Prop := ta σ M fun x M1 => tb σ M1 fun y M2 => r x y M2 fun z M3 => ∃ k, z = .bl k ∧
  (if k = true then tc σ M3 fun w' M4 => r' y w' M4 Q else Q (.bl false) M3)
theorem dn_chain {r r' : UR2} {ta tb tc : UTE} : ∀ σ H Q, dnE X.K (uChain r r' ta tb tc) σ H Q → tChain (dn2 X.K r) (dn2 X.K r') (dnE X.K ta) (dnE X.K tb) (dnE X.K tc) σ H Q := fun τ H Q h => by
  obtain ⟨σ, M, Qu, rs, rm, q, up⟩ := h
  refine ⟨σ, M, _, rs, rm, q, fun x M1 v H1 q1 s1 m1 r1 => ?_⟩
  refine ⟨σ, M1, _, rs.stab s1, m1, q1, fun y M2 w H2 q2 s2 m2 r2 => ?_⟩
  refine ⟨x, y, M2, _, r1.stab s2, r2, m2, q2, fun z M3 v3 H3 q3 s3 m3 r3 => ?_⟩
  obtain ⟨k, rfl, q3⟩ := q3
  obtain rfl := r3
  refine ⟨k, rfl, ?_⟩
  cases k with
  | false =>
    simp only [Bool.false_eq_true, if_false] at q3 ⊢
    exact up _ M3 _ H3 q3 ((s1.trans s2).trans s3) m3 rfl
  | true =>
    simp only [if_true] at q3 ⊢
    refine ⟨σ, M3, _, rs.stab ((s1.trans s2).trans s3), m3, q3, fun w' M4 v4 H4 q4 s4 m4 r4 => ?_⟩
    exact ⟨y, w', M4, Qu, r2.stab (s3.trans s4), r4, m4, q4, up.from (((s1.trans s2).trans s3).trans s4)⟩
theorem ue_chain {c : Expr} {tc : UTE} {op op' : CmpOp} {r r' : UR2} (ho : UOpR X (compareOp op) r) (ho' : UOpR X (compareOp op') r') (ha : UE X a ta) (hb : UE X b tb) (hc : UE X c tc)
    (hm : lastMarks [op, op'] [b, c] = false := by with_unfolding_all rfl) : UE X (.Compare a [op, op'] [b, c] pos) (uChain r r' ta tb tc) := PE.mono (pe_chain ho ho' ha hb hc hm) dn_chain
theorem ut_chain {c : Expr} {tc : UTE} {op op' : CmpOp} {r r' : UR2} (ho : UOpR X (compareOp op) r) (ho' : UOpR X (compareOp op') r') (ha : UE X a ta) (hb : UE X b tb) (hc : UE X c tc)
    (hm : lastMarks [op, op'] [b, c] = false := by with_unfolding_all rfl) : UT X (.Compare a [op, op'] [b, c] pos) (uB (uChain r r' ta tb tc)) := PT.mono (pt_chain ho ho' ha hb hc hm) (dn_b dn_chain)
abbrev UR1 := U → UHp → UK → Prop
def dn1 (K : PySem.W.Frag) (r : UR1) : V → Hp → VK → Prop := fun v H Q => ∃ x M Qu, RelU K H x v ∧ RelM K H M ∧ r x M Qu ∧ UpK K H Qu Q
def uUn (r : UR1) (ta : UTE) (σ : USt) (M : UHp) (Q : UK) : Prop := ta σ M fun x M1 => r x M1 Q
theorem ue_un {op : UnaryOp} {r : UR1} (ho : UnR X (unaryOp op) (dn1 X.K r)) (ha : UE X a ta) : UE X (.UnaryOp op a pos) (uUn r ta) := PE.mono (pe_un ho ha) fun τ H Q h => by
  obtain ⟨σ, M, Qu, rs, rm, q, up⟩ := h
  refine ⟨σ, M, _, rs, rm, q, fun x M1 v H1 q1 s1 m1 r1 => ?_⟩
  exact ⟨x, M1, Qu, r1, m1, q1, up.from s1⟩

/-! ### truth -/
def truU (M : UHp) : U → Option Bool
  | .non => some false
  | .bl b => some b
  | .int i => some (i != 0)
  | .str x => some ((x.length : Int) != 0)
  | .tup xs => some (!xs.isEmpty)
  | .lst xs => some (!xs.isEmpty)
  | .ref a => match M a with
    | some (.lst xs) => some (!xs.isEmpty)
    | some (.dK kvs) => some (!kvs.isEmpty)
    | _ => none
  | .ty _ => none
theorem isEmpty_us {K : PySem.W.Frag} {H : Hp} {xs : List U} {vs : List V} (r : RelUs K H xs vs) : xs.isEmpty = vs.isEmpty := by
  cases xs with
  | nil => obtain rfl := r; rfl
  | cons x xs => obtain ⟨v, t, rfl, _⟩ := r; rfl
theorem isEmpty_ks {κ : Type} {K : PySem.W.Frag} {H : Hp} {xs : List (κ × U)} {vs : List (κ × V)} (r : RelKs K H xs vs) : xs.isEmpty = vs.isEmpty := by
  cases xs with
  | nil => obtain rfl := r; rfl
  | cons x xs => obtain ⟨v, t, rfl, _⟩ := r; rfl
theorem tru_dn {K : PySem.W.Frag} {H : Hp} {M : UHp} {x : U} {v : V} {k : Bool} (rm : RelM K H M) (r : RelU K H x v) (h : truU M x = some k) : TruV K v H k := by
  cases x with
  | non => obtain rfl := r; simp only [truU, Option.some.injEq] at h; exact h.symm
  | bl b => obtain rfl := r; simp only [truU, Option.some.injEq] at h; exact h.symm
  | int i => obtain rfl := r; simp only [truU, Option.some.injEq] at h; exact h.symm
  | str y => obtain ⟨rfl, z⟩ := r; simp only [truU, Option.some.injEq] at h; exact ⟨okS.len z, h.symm⟩
  | ty n => simp [truU] at h
  | tup xs =>
    obtain ⟨a, vs, rfl, q, t⟩ := r
    simp only [truU, Option.some.injEq] at h
    exact .inr (.inl ⟨vs, q, by rw [← h, isEmpty_us t]⟩)
  | lst xs =>
    obtain ⟨a, vs, rfl, q, t⟩ := r
    simp only [truU, Option.some.injEq] at h
    exact .inl ⟨vs, q.sq, by rw [← h, isEmpty_us t]⟩
  | ref a =>
    obtain rfl := r
    simp only [truU] at h
    cases e : M a with
    | none => rw [e] at h; cases h
    | some o =>
      rw [e] at h
      have ro := rm a o e
      cases o with
      | lst xs => obtain ⟨vs, q, t⟩ := ro; simp only [Option.some.injEq] at h; exact .inl ⟨vs, SqL.of q, by rw [← h, isEmpty_us t]⟩
      | dK kvs => obtain ⟨vs, q, t⟩ := ro; simp only [Option.some.injEq] at h; exact .inr (.inr ⟨vs, q, by rw [← h, isEmpty_ks t]⟩)
      | ins _ _ _ => cases h
      | xd _ => cases h
def uTru (t : UTE) (σ : USt) (M : UHp) (Q : Bool → UHp → Prop) : Prop := t σ M fun x M' => ∃ k, truU M' x = some k ∧ Q k M'
theorem ut_val (ha : UE X a ta) (he : ∀ whole, isTrue a X.env whole = (do let v ← whole; standAt a.pos; holding [v] (truthy v)) := by intro _; rfl) : UT X a (uTru ta) := PT.mono (pt_truth ha he) fun τ H Q h => by
  obtain ⟨σ, M, Qu, rs, rm, q, up⟩ := h
  refine ⟨σ, M, _, rs, rm, q, fun x M1 v H1 q1 s1 m1 r1 => ?_⟩
  obtain ⟨k, e, q⟩ := q1
  exact ⟨k, tru_dn m1 r1 e, up k M1 H1 q s1 m1⟩

/-! ### and, or, not, if -/
variable {rest : List Expr} {t u : UTT}
def uAnd (t u : UTT) (σ : USt) (M : UHp) (Q : Bool → UHp → Prop) : Prop := t σ M fun c M1 => if c = true then u σ M1 Q else Q false M1
def uOr (t u : UTT) (σ : USt) (M : UHp) (Q : Bool → UHp → Prop) : Prop := t σ M fun c M1 => if c = true then Q true M1 else u σ M1 Q
def uNot (t : UTT) (σ : USt) (M : UHp) (Q : Bool → UHp → Prop) : Prop := t σ M fun c M1 => Q (!c) M1
theorem dn_same {t : UTT} : ∀ σ H Q, dnT X.K t σ H Q → dnT X.K t σ H Q := fun _ _ _ h => h
theorem uw_and1 (ha : UT X a t) : UW X (.BoolOp .And [a] pos) t := pw_and1 ha
theorem uw_or1 (ha : UT X a t) : UW X (.BoolOp .Or [a] pos) t := pw_or1 ha
theorem uw_and (ha : UT X a t) (hb : UW X (.BoolOp .And (b :: rest) pos) u) : UW X (.BoolOp .And (a :: b :: rest) pos) (uAnd t u) := PW.mono (pw_and ha hb) fun τ H Q h => by
  obtain ⟨σ, M, Qu, rs, rm, q, up⟩ := h
  refine ⟨σ, M, _, rs, rm, q, fun c M1 H1 q1 s1 m1 => ?_⟩
  cases c with
  | true =>
    simp only [if_true] at q1 ⊢
    exact ⟨σ, M1, _, rs.stab s1, m1, q1, up.from s1⟩
  | false =>
    simp only [Bool.false_eq_true, if_false] at q1 ⊢
    exact up _ M1 H1 q1 s1 m1
theorem uw_or (ha : UT X a t) (hb : UW X (.BoolOp .Or (b :: rest) pos) u) : UW X (.BoolOp .Or (a :: b :: rest) pos) (uOr t u) := PW.mono (pw_or ha hb) fun τ H Q h => by
  obtain ⟨σ, M, Qu, rs, rm, q, up⟩ := h
  refine ⟨σ, M, _, rs, rm, q, fun c M1 H1 q1 s1 m1 => ?_⟩
  cases c with
  | true =>
    simp only [if_true] at q1 ⊢
    exact up _ M1 H1 q1 s1 m1
  | false =>
    simp only [Bool.false_eq_true, if_false] at q1 ⊢
    exact ⟨σ, M1, _, rs.stab s1, m1, q1, up.from s1⟩
theorem ut_not (ha : UT X a t) : UT X (.UnaryOp .Not a pos) (uNot t) := PT.mono (pt_not ha) fun τ H Q h => by
  obtain ⟨σ, M, Qu, rs, rm, q, up⟩ := h
  exact ⟨σ, M, _, rs, rm, q, fun c M1 H1 q1 s1 m1 => up (!c) M1 H1 q1 s1 m1⟩
def uIf (t : UTT) (ta tb : UTE) (σ : USt) (M : UHp) (Q : UK) : Prop := t σ M fun c M1 => if c = true then ta σ M1 Q else tb σ M1 Q
theorem ue_if {c : Expr} (hc : UT X c t) (ha : UE X a ta) (hb : UE X b tb) : UE X (.IfExp c a b pos) (uIf t ta tb) := PE.mono (pe_ifExp hc ha hb) fun τ H Q h => by
  obtain ⟨σ, M, Qu, rs, rm, q, up⟩ := h
  refine ⟨σ, M, _, rs, rm, q, fun c M1 H1 q1 s1 m1 => ?_⟩
  cases c with
  | true =>
    simp only [if_true] at q1 ⊢
    exact ⟨σ, M1, _, rs.stab s1, m1, q1, up.from s1⟩
  | false =>
    simp only [Bool.false_eq_true, if_false] at q1 ⊢
    exact ⟨σ, M1, _, rs.stab s1, m1, q1, up.from s1⟩

/-! ### argument lists -/
def uNil (_ : USt) (M : UHp) (Q : List U → UHp → Prop) : Prop := Q [] M
def uCons (ta : UTE) (tr : UTA) (σ : USt) (M : UHp) (Q : List U → UHp → Prop) : Prop := ta σ M fun x M1 => tr σ M1 fun xs M2 => Q (x :: xs) M2
theorem ua_nil : UA X [] uNil := PA.mono pa_nil fun τ H Q h => by
  obtain ⟨σ, M, Qu, rs, rm, q, up⟩ := h
  exact up [] M [] H q (Stab.refl H) rm RelUs.nil
theorem ua_cons {e : Expr} {es : List Expr} {te : UTE} {tr : UTA} (ha : UE X e te) (hr : UA X es tr) (hs : starEach (e :: es) X.env = (false, eval e X.env) :: starEach es X.env := by rfl) : UA X (e :: es) (uCons te tr) := PA.mono (pa_cons ha hr hs) fun τ H Q h => by
  obtain ⟨σ, M, Qu, rs, rm, q, up⟩ := h
  refine ⟨σ, M, _, rs, rm, q, fun x M1 v H1 q1 s1 m1 r1 => ?_⟩
  refine ⟨σ, M1, _, rs.stab s1, m1, q1, fun xs M2 vs H2 q2 s2 m2 r2 => ?_⟩
  exact up _ M2 _ H2 q2 (s1.trans s2) m2 (RelUs.cons (r1.stab s2) r2)

/-! ### statements -/
variable {st : Stmt} {sts : List Stmt} {p q : UTS} {e : Expr} {te : UTE}
def uNext (D : UEnds) (σ : USt) (M : UHp) : Prop := D.nx σ M
def uSeq (t u : UTS) (D : UEnds) (σ : USt) (M : UHp) : Prop := t { D with nx := u D } σ M
theorem uss_nil : USs X [] uNext := PSs.mono pss_nil fun D τ H h => by
  obtain ⟨σ, M, Du, rs, rm, q, up⟩ := h
  exact up.nx σ M τ H q (Stab.refl H) rm rs
theorem uss_cons (h1 : US X st p) (h2 : USs X sts q) : USs X (st :: sts) (uSeq p q) := PSs.mono (pss_cons h1 h2) fun D τ H h => by
  obtain ⟨σ, M, Du, rs, rm, q, up⟩ := h
  refine ⟨σ, M, _, rs, rm, q, ⟨fun σ1 M1 τ1 H1 q1 s1 m1 r1 => ?_, up.rt, up.bk, up.ct⟩⟩
  exact ⟨σ1, M1, Du, r1, m1, q1, up.from s1⟩
theorem uss_one (h1 : US X st p) : USs X [st] p := pss_one h1
def uBreak (D : UEnds) (σ : USt) (M : UHp) : Prop := D.bk σ M
def uCont (D : UEnds) (σ : USt) (M : UHp) : Prop := D.ct σ M
theorem us_pass : US X (.Pass pos) uNext := PS.mono ps_pass fun D τ H h => by
  obtain ⟨σ, M, Du, rs, rm, q, up⟩ := h
  exact up.nx σ M τ H q (Stab.refl H) rm rs
theorem us_break : US X (.Break pos) uBreak := PS.mono ps_break fun D τ H h => by
  obtain ⟨σ, M, Du, rs, rm, q, up⟩ := h
  exact up.bk σ M τ H q (Stab.refl H) rm rs
theorem us_continue : US X (.Continue pos) uCont := PS.mono ps_continue fun D τ H h => by
  obtain ⟨σ, M, Du, rs, rm, q, up⟩ := h
  exact up.ct σ M τ H q (Stab.refl H) rm rs
theorem us_doc {x j pos pos'} : US X (.Expr (.Constant (.str x) j pos) pos') uNext := PS.mono ps_doc fun D τ H h => by
  obtain ⟨σ, M, Du, rs, rm, q, up⟩ := h
  exact up.nx σ M τ H q (Stab.refl H) rm rs
def uDrop (te : UTE) (D : UEnds) (σ : USt) (M : UHp) : Prop := te σ M fun _ M1 => D.nx σ M1
theorem us_expr (he : UE X e te) (hs : swapsWith e none pos.line X.env = pure false := by rfl) : US X (.Expr e pos) (uDrop te) := PS.mono (ps_expr he hs) fun D τ H h => by
  obtain ⟨σ, M, Du, rs, rm, q, up⟩ := h
  exact ⟨σ, M, _, rs, rm, q, fun x M1 v H1 q1 s1 m1 r1 => up.nx σ M1 τ H1 q1 s1 m1 (rs.stab s1)⟩
def uRet (te : UTE) (D : UEnds) (σ : USt) (M : UHp) : Prop := te σ M D.rt
theorem us_ret (he : UE X e te) : US X (.Return (some e) pos) (uRet te) := PS.mono (ps_ret he) fun D τ H h => by
  obtain ⟨σ, M, Du, rs, rm, q, up⟩ := h
  exact ⟨σ, M, _, rs, rm, q, up.rt⟩
def uRetN (D : UEnds) (_ : USt) (M : UHp) : Prop := D.rt .non M
theorem us_retN : US X (.Return none pos) uRetN := PS.mono ps_retN fun D τ H h => by
  obtain ⟨σ, M, Du, rs, rm, q, up⟩ := h
  exact up.rt .non M .non H q (Stab.refl H) rm rfl
def uIfS (c : UTT) (t u : UTS) (D : UEnds) (σ : USt) (M : UHp) : Prop := c σ M fun b M1 => if b = true then t D σ M1 else u D σ M1
theorem us_if {c : Expr} {as bs : List Stmt} (hc : UT X c t) (ha : USs X as p) (hb : USs X bs q) : US X (.If c as bs pos) (uIfS t p q) := PS.mono (ps_if hc ha hb) fun D τ H h => by
  obtain ⟨σ, M, Du, rs, rm, q, up⟩ := h
  refine ⟨σ, M, _, rs, rm, q, fun c M1 H1 q1 s1 m1 => ?_⟩
  cases c with
  | true =>
    simp only [if_true] at q1 ⊢
    exact ⟨σ, M1, _, rs.stab s1, m1, q1, up.from s1⟩
  | false =>
    simp only [Bool.false_eq_true, if_false] at q1 ⊢
    exact ⟨σ, M1, _, rs.stab s1, m1, q1, up.from s1⟩
def uNever (_ : UEnds) (_ : USt) (_ : UHp) : Prop := False
theorem us_never : US X st uNever := PS.mono ps_never fun D τ H h => by
  obtain ⟨σ, M, Du, rs, rm, q, up⟩ := h
  exact q.elim
theorem uss_never : USs X sts uNever := PSs.mono pss_never fun D τ H h => by
  obtain ⟨σ, M, Du, rs, rm, q, up⟩ := h
  exact q.elim

/-! ### targets -/
def uName (i : Nat) (v : U) (σ : USt) (M : UHp) (Q : USt → UHp → Prop) : Prop := Q (σ.set i (some v)) M
theorem ug_name {i : Nat} {x : Str} (hN : X.N.Nodup) (hi : X.N[i]? = some x) (hx : Loc X.env.scope x) (hf : X.fn x = true ∨ X.env.scope.names.lookup x = some .local := by first | exact .inl rfl | exact .inr rfl | assumption) : UG X (.Name x pos) (uName i) :=
  PG.mono (pg_name hN hi hx hf) fun v τ H Q h => by
    obtain ⟨u, σ, M, Qu, ru, rs, rm, q, up⟩ := h
    exact up _ M _ H q (Stab.refl H) rm (rs.set ru i)
def uAsg (te : UTE) (g : UTG) (D : UEnds) (σ : USt) (M : UHp) : Prop := te σ M fun x M1 => g x σ M1 D.nx
theorem us_asg {tg : Expr} {g : UTG} (he : UE X e te) (hg : UG X tg g) (hs : swapsWithSole [tg] e pos.line X.env = pure false := by rfl) (hw : swappedStores [tg] e X.env = pure none := by rfl)
    (h1 : (assignEach [tg] X.env).map (·.2) = [assign tg X.env] := by rfl) : US X (.Assign [tg] e pos) (uAsg te g) := PS.mono (ps_asg he hg hs hw h1) fun D τ H h => by
  obtain ⟨σ, M, Du, rs, rm, q, up⟩ := h
  refine ⟨σ, M, _, rs, rm, q, fun x M1 v H1 q1 s1 m1 r1 => ?_⟩
  exact ⟨x, σ, M1, _, r1, rs.stab s1, m1, q1, up.nx.from s1⟩
theorem us_set {i : Nat} {x : Str} {pos' : Pos} (hN : X.N.Nodup) (hi : X.N[i]? = some x) (hx : Loc X.env.scope x) (he : UE X e te) (hs : swapsWith e (some (.Name x pos')) pos.line X.env = pure false := by rfl)
    (hf : X.fn x = true ∨ X.env.scope.names.lookup x = some .local := by first | exact .inl rfl | exact .inr rfl | assumption) : US X (.Assign [.Name x pos'] e pos) (uAsg te (uName i)) := PS.mono (ps_set hN hi hx he hs hf) fun D τ H h => by
  obtain ⟨σ, M, Du, rs, rm, q, up⟩ := h
  refine ⟨σ, M, _, rs, rm, q, fun x M1 v H1 q1 s1 m1 r1 => ?_⟩
  exact up.nx _ M1 _ H1 q1 s1 m1 ((rs.stab s1).set r1 i)
/-- a, b = .. of a tuple or a list of that length -/
abbrev UTGs := List U → USt → UHp → (USt → UHp → Prop) → Prop
def dnGs (K : PySem.W.Frag) (t : UTGs) : TGs := fun vs τ H Q => ∃ us σ M Qu, RelUs K H us vs ∧ RelS K H σ τ ∧ RelM K H M ∧ t us σ M Qu ∧ UpS K H Qu Q
abbrev UGs (X : Cx) (es : List Expr) (t : UTGs) : Prop := PGs X es (dnGs X.K t)
def ugNil (us : List U) (σ : USt) (M : UHp) (Q : USt → UHp → Prop) : Prop := us = [] ∧ Q σ M
def ugCons (t : UTG) (u : UTGs) (us : List U) (σ : USt) (M : UHp) (Q : USt → UHp → Prop) : Prop := ∃ v r, us = v :: r ∧ t v σ M fun σ' M' => u r σ' M' Q
theorem PGs.mono {es : List Expr} {t t' : TGs} (h : PGs X es t) (w : ∀ v σ H Q, t' v σ H Q → t v σ H Q) : PGs X es t' := ⟨fun pins s σ H v u Q I r q => h.run pins s σ H v u Q I r (w v σ H Q q)⟩
theorem ugs_nil : UGs X [] ugNil := PGs.mono pgs_nil fun vs τ H Q h => by
  obtain ⟨us, σ, M, Qu, ru, rs, rm, ⟨rfl, q⟩, up⟩ := h
  obtain rfl := ru
  exact ⟨rfl, up _ M _ H q (Stab.refl H) rm rs⟩
theorem ugs_cons {es : List Expr} {g : UTG} {gs : UTGs} (h1 : UG X e g) (h2 : UGs X es gs) (hs : (assignEach (e :: es) X.env).map (·.2) = assign e X.env :: (assignEach es X.env).map (·.2) := by rfl) : UGs X (e :: es) (ugCons g gs) :=
  PGs.mono (pgs_cons h1 h2 hs) fun vs τ H Q h => by
    obtain ⟨us, σ, M, Qu, ru, rs, rm, ⟨x, r, rfl, q⟩, up⟩ := h
    obtain ⟨v, vr, rfl, r1, r2⟩ := ru
    refine ⟨v, vr, rfl, x, σ, M, _, r1, rs, rm, q, fun σ1 M1 τ1 H1 q1 s1 m1 t1 => ?_⟩
    exact ⟨r, σ1, M1, Qu, r2.stab s1, t1, m1, q1, up.from s1⟩
def ugTup (n : Nat) (t : UTGs) (v : U) (σ : USt) (M : UHp) (Q : USt → UHp → Prop) : Prop := ∃ xs, v = .tup xs ∧ xs.length = n ∧ t xs σ M Q
theorem ug_tup {es : List Expr} {k : Nat} {gs : UTGs} {n : Nat} (hc : X.calm = true) (h : UGs X es gs)
    (hn : (assignEach es X.env).length = n := by rfl) (hst : (assignEach es X.env).findIdx? (·.1) = none := by rfl) : UG X (.Tuple es k pos) (ugTup n gs) :=
  PG.mono (pg_tup hc h hn hst) fun v τ H Q h => by
    obtain ⟨u, σ, M, Qu, ru, rs, rm, ⟨xs, rfl, hl, q⟩, up⟩ := h
    obtain ⟨a, vs, rfl, hq, r⟩ := ru
    exact ⟨a, vs, rfl, hq, by rw [← hl, r.length], xs, σ, M, Qu, r, rs, rm, q, up⟩
end
end PU

set_option Elab.async false
set_option linter.all false
set_option maxRecDepth 100000
/-! UOps: operators, built-ins and methods over U. -/
namespace PU
open PySem PySem.Spec PyProof.Rows L2

/-! ### freezing a list -/
def FzQ (Q : VK) : VK := fun v H => Q v H ∨ ∃ a xs, v = .ref a ∧ H a = some (.lst xs) ∧ ∀ o, Q v (upd H a (.frz o (.lst xs)))
theorem ep_fz {X : Cx} {pins : List (Addr × Obj)} {σ : L2.St} {Q : VK} {u : Value} {s : Shared} (h : EP X pins σ (FzQ Q) u s) : EP X pins σ Q u s := by
  obtain ⟨v, H, I, r, q⟩ := h
  rcases q with q | ⟨a, xs, rfl, e, q⟩
  · exact ⟨v, H, I, r, q⟩
  · obtain ⟨od, I1⟩ := I.lock e True.intro
    exact ⟨.ref a, _, I1, r, q od⟩
/-- a new list: by address (m = true), or by value -/
def newL (m : Bool) (xs : List U) (M : UHp) (Q : UK) : Prop := if m = true then ∀ p, M p = none → Q (.ref p) (updM M p (.lst xs)) else Q (.lst xs) M
theorem newL_dn {K : PySem.W.Frag} {H : Hp} {M : UHp} {Qu : UK} {Q : VK} {m : Bool} {xs : List U} {vs : List V} (rm : RelM K H M) (up : UpK K H Qu Q) (r : RelUs K H xs vs) (h : newL m xs M Qu) :
    ∀ p, H p = none → FzQ Q (.ref p) (upd H p (.lst vs)) := fun p hp => by
  cases m with
  | true =>
    have h : ∀ p, M p = none → Qu (.ref p) (updM M p (.lst xs)) := h
    have s := Stab.new (o := .lst vs) hp
    exact .inl (up _ _ _ _ (h p (rm.none hp)) s (rm.write s ⟨vs, upd_same, r.stab s⟩) rfl)
  | false =>
    have h : Qu (.lst xs) M := h
    refine .inr ⟨p, vs, rfl, upd_same, fun o => ?_⟩
    rw [upd_upd]
    have s := Stab.new (o := .frz o (.lst vs)) hp
    exact up _ _ _ _ h s (rm.beside hp) ⟨p, vs, rfl, .inl ⟨o, upd_same⟩, r.stab s⟩
theorem newT_dn {K : PySem.W.Frag} {H : Hp} {M : UHp} {Qu : UK} {Q : VK} {xs : List U} {vs : List V} (rm : RelM K H M) (up : UpK K H Qu Q) (r : RelUs K H xs vs) (h : Qu (.tup xs) M) :
    ∀ p, H p = none → Q (.ref p) (upd H p (.tup vs)) := fun p hp => by
  have s := Stab.new (o := .tup vs) hp
  exact up _ _ _ _ h s (rm.beside hp) ⟨p, vs, rfl, SqT.of upd_same, r.stab s⟩

/-! ### what is a sequence -/
def listU (M : UHp) : U → Option (List U)
  | .lst xs => some xs
  | .ref a => match M a with
    | some (.lst xs) => some xs
    | _ => none
  | _ => none
def seqU (M : UHp) : U → Option (List U)
  | .tup xs => some xs
  | .lst xs => some xs
  | .ref a => match M a with
    | some (.lst xs) => some xs
    | _ => none
  | _ => none
theorem list_dn {K : PySem.W.Frag} {H : Hp} {M : UHp} {x : U} {v : V} {xs : List U} (rm : RelM K H M) (r : RelU K H x v) (h : listU M x = some xs) : ∃ a vs, v = .ref a ∧ SqL K H a vs ∧ RelUs K H xs vs := by
  cases x with
  | lst ys =>
    obtain ⟨a, vs, rfl, q, t⟩ := r
    simp only [listU, Option.some.injEq] at h; subst h
    exact ⟨a, vs, rfl, q.sq, t⟩
  | ref a =>
    obtain rfl := r
    simp only [listU] at h
    cases e : M a with
    | none => rw [e] at h; cases h
    | some o =>
      rw [e] at h
      cases o with
      | lst ys =>
        simp only [Option.some.injEq] at h; subst h
        obtain ⟨vs, q, t⟩ := rm a _ e
        exact ⟨a, vs, rfl, SqL.of q, t⟩
      | _ => cases h
  | _ => simp [listU] at h
theorem seq_dn {K : PySem.W.Frag} {H : Hp} {M : UHp} {x : U} {v : V} {xs : List U} (rm : RelM K H M) (r : RelU K H x v) (h : seqU M x = some xs) : ∃ a vs, v = .ref a ∧ (SqL K H a vs ∨ SqT K H a vs) ∧ RelUs K H xs vs := by
  cases x with
  | tup ys =>
    obtain ⟨a, vs, rfl, q, t⟩ := r
    simp only [seqU, Option.some.injEq] at h; subst h
    exact ⟨a, vs, rfl, .inr q, t⟩
  | lst ys =>
    obtain ⟨a, vs, e, q, t⟩ := list_dn (x := .lst ys) rm r (by simpa [seqU, listU] using h)
    exact ⟨a, vs, e, .inl q, t⟩
  | ref a =>
    obtain ⟨b, vs, e, q, t⟩ := list_dn (x := .ref a) rm r (by simpa [seqU, listU] using h)
    exact ⟨b, vs, e, .inl q, t⟩
  | _ => simp [seqU] at h

/-! ### data, for == and repr -/
mutual
def toD : U → Option PyData
  | .non => some .none
  | .bl b => some (.bool b)
  | .int i => some (.int i)
  | .str x => some (.str x)
  | .tup xs => (toDs xs).map .tuple
  | .lst xs => (toDs xs).map .list
  | .ref _ => none
  | .ty _ => none
def toDs : List U → Option (List PyData)
  | [] => some []
  | x :: xs => match toD x, toDs xs with
    | some d, some ds => some (d :: ds)
    | _, _ => none
end
/-- a mutable list of data by its items -/
def val (M : UHp) : U → U
  | .ref a => match M a with
    | some (.lst xs) => .lst xs
    | _ => .ref a
  | x => x
mutual
def isD : U → Bool
  | .non => true
  | .bl _ => true
  | .int _ => true
  | .str x => okS x
  | .tup xs => isDs xs
  | .lst xs => isDs xs
  | .ref _ => false
  | .ty _ => false
def isDs : List U → Bool
  | [] => true
  | x :: xs => isD x && isDs xs
end
mutual
/-- the depth of nesting -/
def dep : U → Nat
  | .tup xs => deps xs + 1
  | .lst xs => deps xs + 1
  | _ => 0
def deps : List U → Nat
  | [] => 0
  | x :: xs => max (dep x) (deps xs)
end
mutual
/-- == of data -/
def ueq : U → U → Bool
  | .non, .non => true
  | .bl a, .bl b => a == b
  | .bl a, .int j => (if a then 1 else 0) == j
  | .int i, .bl b => i == (if b then 1 else 0)
  | .int i, .int j => i == j
  | .str x, .str y => x == y
  | .lst xs, .lst ys => ueqs xs ys
  | .tup xs, .tup ys => ueqs xs ys
  | _, _ => false
def ueqs : List U → List U → Bool
  | [], [] => true
  | x :: xs, y :: ys => ueq x y && ueqs xs ys
  | _, _ => false
end
mutual
theorem toD_some : ∀ x : U, isD x = true → ∃ d, toD x = some d ∧ d.canLay0 = true
  | .non, _ => ⟨_, rfl, by simp [PyData.canLay0]⟩
  | .bl _, _ => ⟨_, rfl, by simp [PyData.canLay0]⟩
  | .int _, _ => ⟨_, rfl, by simp [PyData.canLay0]⟩
  | .str x, h => ⟨_, rfl, by simp only [PyData.canLay0]; exact okS.ok (by simpa [isD] using h)⟩
  | .tup xs, h => by
    obtain ⟨ds, e, q⟩ := toDs_some xs (by simpa [isD] using h)
    exact ⟨_, by simp [toD, e]; rfl, by simpa [PyData.canLay0] using q⟩
  | .lst xs, h => by
    obtain ⟨ds, e, q⟩ := toDs_some xs (by simpa [isD] using h)
    exact ⟨_, by simp [toD, e]; rfl, by simpa [PyData.canLay0] using q⟩
  | .ref _, h => by simp [isD] at h
  | .ty _, h => by simp [isD] at h
theorem toDs_some : ∀ xs : List U, isDs xs = true → ∃ ds, toDs xs = some ds ∧ PyData.canLayAll0 ds = true
  | [], _ => ⟨[], rfl, by simp [PyData.canLayAll0]⟩
  | x :: xs, h => by
    simp only [isDs, Bool.and_eq_true] at h
    obtain ⟨d, e, q⟩ := toD_some x h.1
    obtain ⟨ds, e2, q2⟩ := toDs_some xs h.2
    exact ⟨d :: ds, by simp [toDs, e, e2], by simp [PyData.canLayAll0, q, q2]⟩
end
mutual
theorem dep_toD : ∀ (x : U) (d : PyData), toD x = some d → d.depth = dep x
  | .non, _, h => by simp [toD] at h; subst h; simp [PyData.depth, dep]
  | .bl _, _, h => by simp [toD] at h; subst h; simp [PyData.depth, dep]
  | .int _, _, h => by simp [toD] at h; subst h; simp [PyData.depth, dep]
  | .str _, _, h => by simp [toD] at h; subst h; simp [PyData.depth, dep]
  | .tup xs, d, h => by
    simp only [toD, Option.map_eq_some_iff] at h
    obtain ⟨ds, e, rfl⟩ := h
    simp [PyData.depth, dep, deps_toD xs ds e]
  | .lst xs, d, h => by
    simp only [toD, Option.map_eq_some_iff] at h
    obtain ⟨ds, e, rfl⟩ := h
    simp [PyData.depth, dep, deps_toD xs ds e]
  | .ref _, _, h => by simp [toD] at h
  | .ty _, _, h => by simp [toD] at h
theorem deps_toD : ∀ (xs : List U) (ds : List PyData), toDs xs = some ds → PyData.depthAll ds = deps xs
  | [], _, h => by simp [toDs] at h; subst h; simp [PyData.depthAll, deps]
  | x :: xs, ds, h => by
    simp only [toDs] at h
    cases e : toD x with
    | none => rw [e] at h; simp at h
    | some d =>
      cases e2 : toDs xs with
      | none => rw [e, e2] at h; simp at h
      | some es =>
        rw [e, e2] at h
        simp only [Option.some.injEq] at h
        subst h
        simp [PyData.depthAll, deps, dep_toD x d e, deps_toD xs es e2]
end
mutual
theorem eqv_toD : ∀ (x y : U) (d e : PyData), toD x = some d → toD y = some e → PyData.eqv d e = ueq x y
  | x, y, d, e, hx, hy => by
    cases x <;> simp only [toD, Option.some.injEq, Option.map_eq_some_iff, reduceCtorEq] at hx <;>
    cases y <;> simp only [toD, Option.some.injEq, Option.map_eq_some_iff, reduceCtorEq] at hy <;>
    (try subst hx) <;> (try subst hy) <;> (try obtain ⟨ds, ex, rfl⟩ := hx) <;> (try obtain ⟨es, ey, rfl⟩ := hy) <;>
    (try simp only [PyData.eqv, ueq]) <;> (try exact eqvs_toD _ _ _ _ ex ey)
theorem eqvs_toD : ∀ (xs ys : List U) (ds es : List PyData), toDs xs = some ds → toDs ys = some es → PyData.eqvAll ds es = ueqs xs ys
  | [], ys, ds, es, hx, hy => by
    simp only [toDs, Option.some.injEq] at hx; subst hx
    cases ys with
    | nil => simp only [toDs, Option.some.injEq] at hy; subst hy; simp [PyData.eqvAll, ueqs]
    | cons y ys =>
      simp only [toDs] at hy
      cases e : toD y <;> cases e2 : toDs ys <;> rw [e, e2] at hy <;> simp at hy
      subst hy; simp [PyData.eqvAll, ueqs]
  | x :: xs, ys, ds, es, hx, hy => by
    simp only [toDs] at hx
    cases ex : toD x <;> cases ex2 : toDs xs <;> rw [ex, ex2] at hx <;> simp at hx
    subst hx
    cases ys with
    | nil => simp only [toDs, Option.some.injEq] at hy; subst hy; simp [PyData.eqvAll, ueqs]
    | cons y ys =>
      simp only [toDs] at hy
      cases ey : toD y <;> cases ey2 : toDs ys <;> rw [ey, ey2] at hy <;> simp at hy
      subst hy
      simp only [PyData.eqvAll, ueqs]
      rw [eqv_toD x y _ _ ex ey, eqvs_toD xs ys _ _ ex2 ey2]
end
mutual
theorem dp_of {K : PySem.W.Frag} {H : Hp} : ∀ (x : U) (v : V) (d : PyData), RelU K H x v → toD x = some d → Dp K H v d
  | .non, _, _, r, h => by obtain rfl := r; simp [toD] at h; subst h; exact .non
  | .bl _, _, _, r, h => by obtain rfl := r; simp [toD] at h; subst h; exact .bl _
  | .int _, _, _, r, h => by obtain rfl := r; simp [toD] at h; subst h; exact .int _
  | .str _, _, _, r, h => by obtain ⟨rfl, _⟩ := r; simp [toD] at h; subst h; exact .str _
  | .ref _, _, _, _, h => by simp [toD] at h
  | .ty _, _, _, _, h => by simp [toD] at h
  | .tup xs, v, d, r, h => by
    simp only [toD, Option.map_eq_some_iff] at h
    obtain ⟨ds, e, rfl⟩ := h
    obtain ⟨a, vs, rfl, q, t⟩ := r
    exact .tup q (dps_of xs vs ds t e)
  | .lst xs, v, d, r, h => by
    simp only [toD, Option.map_eq_some_iff] at h
    obtain ⟨ds, e, rfl⟩ := h
    obtain ⟨a, vs, rfl, q, t⟩ := r
    exact .lst q.sq (dps_of xs vs ds t e)
theorem dps_of {K : PySem.W.Frag} {H : Hp} : ∀ (xs : List U) (vs : List V) (ds : List PyData), RelUs K H xs vs → toDs xs = some ds → DpAll K H vs ds
  | [], _, _, r, h => by obtain rfl := r; simp [toDs] at h; subst h; exact .nil
  | x :: xs, vs, ds, r, h => by
    simp only [toDs] at h
    obtain ⟨v, w, rfl, r1, r2⟩ := r
    cases e : toD x <;> cases e2 : toDs xs <;> rw [e, e2] at h <;> simp at h
    subst h
    exact .cons (dp_of x v _ r1 e) (dps_of xs w _ r2 e2)
end
theorem dp_val {K : PySem.W.Frag} {H : Hp} {M : UHp} {x : U} {v : V} {d : PyData} (rm : RelM K H M) (r : RelU K H x v) (h : toD (val M x) = some d) : Dp K H v d := by
  cases x with
  | ref a =>
    simp only [val] at h
    cases e : M a with
    | none => rw [e] at h; simp [toD] at h
    | some o =>
      rw [e] at h
      cases o with
      | lst xs =>
        simp only [toD, Option.map_eq_some_iff] at h
        obtain ⟨ds, e2, rfl⟩ := h
        obtain rfl := r
        obtain ⟨vs, q, t⟩ := rm a _ e
        exact .lst (SqL.of q) (dps_of xs vs ds t e2)
      | _ => simp [toD] at h
  | _ => exact dp_of _ v d r (by simpa [val] using h)

/-! ### operators -/
section
variable {X : Cx}
def addR (m : Bool) (x : U) (y : U) (M : UHp) (Q : UK) : Prop := match x, y with
  | .int i, .int j => Q (.int (i + j)) M
  | .str a, .str b => a.length + b.length ≤ sizeLine ∧ Q (.str (a ++ b)) M
  | .tup a, .tup b => a.length + b.length ≤ sizeLine ∧ Q (.tup (a ++ b)) M
  | x, y => ∃ xs ys, listU M x = some xs ∧ listU M y = some ys ∧ xs.length + ys.length ≤ sizeLine ∧ newL m (xs ++ ys) M Q
theorem str_len_append (a b : Str) : (a ++ b).length = a.length + b.length := strLen_append a b
theorem okS.app {a b : Str} (ha : okS a = true) (hb : okS b = true) (h : a.length + b.length ≤ sizeLine) : okS (a ++ b) = true := by
  have h1 := okS.ok ha
  have h2 := okS.ok hb
  unfold okS
  rw [Bool.and_eq_true]
  refine ⟨decide_eq_true (by rw [str_len_append]; exact h), ?_⟩
  unfold PyData.strOk at *
  show ((a.cps ++ b.cps).all (· < 0x110000)) = true
  rw [Array.all_append, h1, h2]; rfl
def rCatL (K : PySem.W.Frag) : R2 := fun x y H Q => ∃ l b xs zs, x = .ref l ∧ y = .ref b ∧ SqL K H l xs ∧ SqL K H b zs ∧ xs.length + zs.length ≤ sizeLine ∧ ∀ p, H p = none → FzQ Q (.ref p) (upd H p (.lst (xs ++ zs)))
theorem op_catL : OpR X (binaryOp .Add) (rCatL X.K) := by
  intro pins s σ H x y v u Q I rx ry h
  obtain ⟨l, b, xs, zs, rfl, rfl, hH, hB, hz, q⟩ := h
  cases rx
  cases ry
  obtain ⟨its, r, ⟨⟨cls, dd, data, sl⟩, n, ho, hc, _, hd⟩, _⟩ := I.list hH
  obtain ⟨its2, r2, ⟨⟨cls2, dd2, data2, sl2⟩, n2, ho2, hc2, _, hd2⟩, _⟩ := I.list hB
  simp only at hc hd hc2 hd2
  subst hc hd hc2 hd2
  have hl := r.length
  have hl2 := r2.length
  have hlen : its.length + its2.length ≤ sizeLine := by omega
  refine wpAny_mono (Q := EP X pins σ (FzQ Q)) (E := X.xe) ?_ (fun _ _ => ep_fz) (fun _ _ h => h)
  refine concat_meets ⟨_, ho, rfl⟩ ⟨_, ho2, rfl⟩ noFill_list_add seq_list_add PySem.F.slot_list_add PySem.F.entry_list_add (PySem.F.args_list_add_2 _ _) (list_addW l b its.toArray its2.toArray n n2 dd dd2 sl sl2 (by simpa using hlen)) ⟨ho, ho2, ?_⟩
  have ea : its.toArray ++ its2.toArray = (its ++ its2).toArray := by simp
  rw [ea]
  exact ⟨.ref _, _, I.lnew (t' := s.toks) (r.append r2) (by rw [List.length_append]; omega), rfl, q _ I.fresh⟩
theorem uo_add (m : Bool) : UOpR X (binaryOp .Add) (addR m) := by
  refine OpR.mono (OpR.or op_add (OpR.or op_add_str (OpR.or op_catA op_catL))) fun v w H Q h => ?_
  obtain ⟨x, y, M, Qu, r1, r2, rm, q, up⟩ := h
  unfold addR at q
  split at q
  · obtain rfl := r1; obtain rfl := r2
    exact .inl ⟨_, _, rfl, rfl, up _ _ _ _ q (Stab.refl H) rm rfl⟩
  · obtain ⟨rfl, z1⟩ := r1; obtain ⟨rfl, z2⟩ := r2
    exact .inr (.inl ⟨_, _, rfl, rfl, q.1, up _ _ _ _ q.2 (Stab.refl H) rm ⟨rfl, okS.app z1 z2 q.1⟩⟩)
  · rename_i as bs
    obtain ⟨a, vs, rfl, h1, t1⟩ := r1
    obtain ⟨b, ws, rfl, h2, t2⟩ := r2
    refine .inr (.inr (.inl ⟨a, b, vs, ws, rfl, rfl, h1, h2, by rw [← t1.length, ← t2.length]; exact q.1, fun e => ?_, fun _ e => ?_, fun _ _ => ?_⟩))
    · subst e
      have : as = [] := by cases as with
        | nil => rfl
        | cons _ _ => obtain ⟨_, _, e, _⟩ := t1; cases e
      subst this
      exact up _ _ _ _ q.2 (Stab.refl H) rm ⟨b, ws, rfl, h2, t2⟩
    · subst e
      have : bs = [] := by cases bs with
        | nil => rfl
        | cons _ _ => obtain ⟨_, _, e, _⟩ := t2; cases e
      subst this
      exact up _ _ _ _ q.2 (Stab.refl H) rm ⟨a, vs, rfl, h1, by simpa using t1⟩
    · exact newT_dn rm up (t1.append t2) q.2
  · obtain ⟨xs, ys, e1, e2, hz, q⟩ := q
    obtain ⟨a, vs, rfl, h1, t1⟩ := list_dn rm r1 e1
    obtain ⟨b, ws, rfl, h2, t2⟩ := list_dn rm r2 e2
    exact .inr (.inr (.inr ⟨a, b, vs, ws, rfl, rfl, h1, h2, by rw [← t1.length, ← t2.length]; exact hz, newL_dn rm up (t1.append t2) q⟩))
def subR (x : U) (y : U) (M : UHp) (Q : UK) : Prop := match x, y with
  | .int i, .int j => Q (.int (i - j)) M
  | _, _ => False
theorem uo_sub : UOpR X (binaryOp .Sub) subR := OpR.mono op_sub fun v w H Q h => by
  obtain ⟨x, y, M, Qu, r1, r2, rm, q, up⟩ := h
  unfold subR at q
  split at q
  · obtain rfl := r1; obtain rfl := r2
    exact ⟨_, _, rfl, rfl, up _ _ _ _ q (Stab.refl H) rm rfl⟩
  · exact q.elim
def delM (M : UHp) (a : Addr) : UHp := fun b => if b = a then none else M b
/-- m: the new list by address; d: the old one is of no concern any more -/
def mulR (m d : Bool) (x : U) (y : U) (M : UHp) (Q : UK) : Prop := match x, y with
  | .int i, .int j => CMul i j ∧ Q (.int (i * j)) M
  | .ref a, .int k => ∃ xs, M a = some (.lst xs) ∧ -(2 ^ 63) ≤ k ∧ k < 2 ^ 63 ∧ xs.length * k.toNat ≤ sizeLine ∧ newL m (List.replicate k.toNat xs).flatten (if d = true then delM M a else M) Q
  | _, _ => False
theorem RelM.less {K : PySem.W.Frag} {H : Hp} {M : UHp} (rm : RelM K H M) (d : Bool) (a : Addr) : RelM K H (if d = true then delM M a else M) := by
  cases d with
  | false => exact rm
  | true =>
    intro b o e
    have e : delM M a b = some o := e
    unfold delM at e
    by_cases h : b = a
    · rw [if_pos h] at e; cases e
    · rw [if_neg h] at e; exact rm b o e
theorem RelUs.rep {K : PySem.W.Frag} {H : Hp} {xs : List U} {vs : List V} (r : RelUs K H xs vs) : ∀ n : Nat, RelUs K H (List.replicate n xs).flatten (List.replicate n vs).flatten
  | 0 => RelUs.nil
  | n + 1 => by
    rw [List.replicate_succ, List.replicate_succ, List.flatten_cons, List.flatten_cons]
    exact r.append (RelUs.rep r n)
theorem OpR.fz {f : Value → Value → Sem Value} {r r' : R2} (h : OpR X f r) (w : ∀ x y H Q, r' x y H Q → r x y H (FzQ Q)) : OpR X f r' := fun pins s σ H x y v u Q I rx ry q => thn (h pins s σ H x y v u (FzQ Q) I rx ry (w x y H Q q)) fun _ _ => ep_fz
theorem uo_mul (m d : Bool) : UOpR X (binaryOp .Mult) (mulR m d) := by
  refine OpR.mono (OpR.or op_mul (OpR.fz (r' := fun x y H Q => rRep x y H (FzQ Q)) op_rep fun x y H Q h => h)) fun v w H Q h => ?_
  obtain ⟨x, y, M, Qu, r1, r2, rm, q, up⟩ := h
  unfold mulR at q
  split at q
  · obtain rfl := r1; obtain rfl := r2
    exact .inl ⟨_, _, rfl, rfl, q.1, up _ _ _ _ q.2 (Stab.refl H) rm rfl⟩
  · rename_i a k
    obtain rfl := r1; obtain rfl := r2
    obtain ⟨xs, e, h1, h2, h3, q⟩ := q
    obtain ⟨vs, e2, t⟩ := rm a _ e
    exact .inr ⟨a, k, vs, rfl, rfl, e2, h1, h2, by rw [← t.length]; exact h3, newL_dn (rm.less d a) up (t.rep _) q⟩
  · exact q.elim
def modR (x : U) (y : U) (M : UHp) (Q : UK) : Prop := match x, y with
  | .int i, .int j => 0 < j ∧ Q (.int (i % j)) M
  | _, _ => False
theorem uo_mod : UOpR X (binaryOp .Mod) modR := OpR.mono op_mod fun v w H Q h => by
  obtain ⟨x, y, M, Qu, r1, r2, rm, q, up⟩ := h
  unfold modR at q
  split at q
  · obtain rfl := r1; obtain rfl := r2
    exact ⟨_, _, rfl, rfl, q.1, up _ _ _ _ q.2 (Stab.refl H) rm rfl⟩
  · exact q.elim
def divR (x : U) (y : U) (M : UHp) (Q : UK) : Prop := match x, y with
  | .int i, .int j => CDiv i j ∧ Q (.int (i / j)) M
  | _, _ => False
theorem uo_div : UOpR X (binaryOp .FloorDiv) divR := OpR.mono op_fdiv fun v w H Q h => by
  obtain ⟨x, y, M, Qu, r1, r2, rm, q, up⟩ := h
  unfold divR at q
  split at q
  · obtain rfl := r1; obtain rfl := r2
    exact ⟨_, _, rfl, rfl, q.1, up _ _ _ _ q.2 (Stab.refl H) rm rfl⟩
  · exact q.elim
def powR (x : U) (y : U) (M : UHp) (Q : UK) : Prop := match x, y with
  | .int i, .int j => CPow i j ∧ Q (.int (i ^ j.toNat)) M
  | _, _ => False
theorem uo_pow : UOpR X (binaryOp .Pow) powR := OpR.mono op_pow fun v w H Q h => by
  obtain ⟨x, y, M, Qu, r1, r2, rm, q, up⟩ := h
  unfold powR at q
  split at q
  · obtain rfl := r1; obtain rfl := r2
    exact ⟨_, _, rfl, rfl, q.1, up _ _ _ _ q.2 (Stab.refl H) rm rfl⟩
  · exact q.elim
/-! comparisons -/
def eqR (x : U) (y : U) (M : UHp) (Q : UK) : Prop := isD (val M x) = true ∧ isD (val M y) = true ∧ (dep (val M x) ≤ 64 ∨ dep (val M y) ≤ 64) ∧ Q (.bl (ueq (val M x) (val M y))) M
def neR (x : U) (y : U) (M : UHp) (Q : UK) : Prop := isD (val M x) = true ∧ isD (val M y) = true ∧ (dep (val M x) ≤ 64 ∨ dep (val M y) ≤ 64) ∧ Q (.bl (!ueq (val M x) (val M y))) M
def rEqD2 (K : PySem.W.Frag) : R2 := fun x y H Q => ∃ d e, Dp K H x d ∧ Dp K H y e ∧ d.canLay0 = true ∧ e.canLay0 = true ∧ (d.depth ≤ 64 ∨ e.depth ≤ 64) ∧ Q (.bl (PyData.eqv d e)) H
def rNeD2 (K : PySem.W.Frag) : R2 := fun x y H Q => ∃ d e, Dp K H x d ∧ Dp K H y e ∧ d.canLay0 = true ∧ e.canLay0 = true ∧ (d.depth ≤ 64 ∨ e.depth ≤ 64) ∧ Q (.bl (!PyData.eqv d e)) H
theorem op_eqD2 (hu : X.A.units + 64 < cLine) : OpR X (compareOp .Eq) (rEqD2 X.K) := by
  intro pins s σ H x y v u Q I rx ry h
  obtain ⟨d, e, hd, he, sd, se, hm, q⟩ := h
  obtain ⟨as, r1⟩ := Dp.reads I d x v hd rx
  obtain ⟨bs, r2⟩ := Dp.reads I e y u he ry
  have h2 : min d.depth e.depth ≤ 64 := by
    have a1 : min d.depth e.depth ≤ d.depth := Nat.min_le_left _ _
    have a2 : min d.depth e.depth ≤ e.depth := Nat.min_le_right _ _
    omega
  exact SeqAt.compareEq_reads r1 r2 sd se (by omega) ⟨.bl _, H, I, rfl, q⟩
theorem op_neD2 (hu : X.A.units + 64 < cLine) : OpR X (compareOp .NotEq) (rNeD2 X.K) := by
  intro pins s σ H x y v u Q I rx ry h
  obtain ⟨d, e, hd, he, sd, se, hm, q⟩ := h
  obtain ⟨as, r1⟩ := Dp.reads I d x v hd rx
  obtain ⟨bs, r2⟩ := Dp.reads I e y u he ry
  have h2 : min d.depth e.depth ≤ 64 := by
    have a1 : min d.depth e.depth ≤ d.depth := Nat.min_le_left _ _
    have a2 : min d.depth e.depth ≤ e.depth := Nat.min_le_right _ _
    omega
  exact SeqAt.compareNe_reads r1 r2 sd se (by omega) ⟨.bl _, H, I, rfl, q⟩
theorem uo_eq (hu : X.A.units + 64 < cLine) : UOpR X (compareOp .Eq) eqR := OpR.mono (op_eqD2 hu) fun v w H Q h => by
  obtain ⟨x, y, M, Qu, r1, r2, rm, ⟨h1, h2, h3, q⟩, up⟩ := h
  obtain ⟨d, ed, cd⟩ := toD_some _ h1
  obtain ⟨e, ee, ce⟩ := toD_some _ h2
  refine ⟨d, e, dp_val rm r1 ed, dp_val rm r2 ee, cd, ce, ?_, ?_⟩
  · rw [dep_toD _ _ ed, dep_toD _ _ ee]; exact h3
  · rw [eqv_toD _ _ _ _ ed ee]; exact up _ _ _ _ q (Stab.refl H) rm rfl
theorem uo_ne (hu : X.A.units + 64 < cLine) : UOpR X (compareOp .NotEq) neR := OpR.mono (op_neD2 hu) fun v w H Q h => by
  obtain ⟨x, y, M, Qu, r1, r2, rm, ⟨h1, h2, h3, q⟩, up⟩ := h
  obtain ⟨d, ed, cd⟩ := toD_some _ h1
  obtain ⟨e, ee, ce⟩ := toD_some _ h2
  refine ⟨d, e, dp_val rm r1 ed, dp_val rm r2 ee, cd, ce, ?_, ?_⟩
  · rw [dep_toD _ _ ed, dep_toD _ _ ee]; exact h3
  · rw [eqv_toD _ _ _ _ ed ee]; exact up _ _ _ _ q (Stab.refl H) rm rfl
def ltR (x : U) (y : U) (M : UHp) (Q : UK) : Prop := match x, y with
  | .int i, .int j => Q (.bl (decide (i < j))) M
  | .str a, .str b => Q (.bl (decide (a.cps.toList < b.cps.toList))) M
  | _, _ => False
theorem uo_lt : UOpR X (compareOp .Lt) ltR := OpR.mono (OpR.or op_lt op_lt_str) fun v w H Q h => by
  obtain ⟨x, y, M, Qu, r1, r2, rm, q, up⟩ := h
  unfold ltR at q
  split at q
  · obtain rfl := r1; obtain rfl := r2
    exact .inl ⟨_, _, rfl, rfl, up _ _ _ _ q (Stab.refl H) rm rfl⟩
  · obtain ⟨rfl, _⟩ := r1; obtain ⟨rfl, _⟩ := r2
    exact .inr ⟨_, _, rfl, rfl, up _ _ _ _ q (Stab.refl H) rm rfl⟩
  · exact q.elim
def leR (x : U) (y : U) (M : UHp) (Q : UK) : Prop := match x, y with
  | .int i, .int j => Q (.bl (decide (i ≤ j))) M
  | _, _ => False
theorem uo_le : UOpR X (compareOp .LtE) leR := OpR.mono op_le fun v w H Q h => by
  obtain ⟨x, y, M, Qu, r1, r2, rm, q, up⟩ := h
  unfold leR at q
  split at q
  · obtain rfl := r1; obtain rfl := r2
    exact ⟨_, _, rfl, rfl, up _ _ _ _ q (Stab.refl H) rm rfl⟩
  · exact q.elim
def gtR (x : U) (y : U) (M : UHp) (Q : UK) : Prop := match x, y with
  | .int i, .int j => Q (.bl (decide (j < i))) M
  | _, _ => False
theorem uo_gt : UOpR X (compareOp .Gt) gtR := OpR.mono op_gt fun v w H Q h => by
  obtain ⟨x, y, M, Qu, r1, r2, rm, q, up⟩ := h
  unfold gtR at q
  split at q
  · obtain rfl := r1; obtain rfl := r2
    exact ⟨_, _, rfl, rfl, up _ _ _ _ q (Stab.refl H) rm rfl⟩
  · exact q.elim
def geR (x : U) (y : U) (M : UHp) (Q : UK) : Prop := match x, y with
  | .int i, .int j => Q (.bl (decide (j ≤ i))) M
  | _, _ => False
theorem uo_ge : UOpR X (compareOp .GtE) geR := OpR.mono op_ge fun v w H Q h => by
  obtain ⟨x, y, M, Qu, r1, r2, rm, q, up⟩ := h
  unfold geR at q
  split at q
  · obtain rfl := r1; obtain rfl := r2
    exact ⟨_, _, rfl, rfl, up _ _ _ _ q (Stab.refl H) rm rfl⟩
  · exact q.elim
/-- is None -/
def isNon : U → Bool
  | .non => true
  | _ => false
def isnR (neg : Bool) (x : U) (y : U) (M : UHp) (Q : UK) : Prop := y = .non ∧ Q (.bl (if neg then !isNon x else isNon x)) M
theorem isn_dn {K : PySem.W.Frag} {H : Hp} {x : U} {v : V} (r : RelU K H x v) : decide (v = .non) = isNon x := by
  cases x with
  | non => obtain rfl := r; rfl
  | bl _ => obtain rfl := r; rfl
  | int _ => obtain rfl := r; rfl
  | str _ => obtain ⟨rfl, _⟩ := r; rfl
  | ref _ => obtain rfl := r; rfl
  | ty _ => obtain rfl := r; rfl
  | tup _ => obtain ⟨_, _, rfl, _⟩ := r; rfl
  | lst _ => obtain ⟨_, _, rfl, _⟩ := r; rfl
theorem uo_is : UOpR X (compareOp .Is) (isnR false) := OpR.mono op_isN fun v w H Q h => by
  obtain ⟨x, y, M, Qu, r1, r2, rm, ⟨rfl, q⟩, up⟩ := h
  obtain rfl := r2
  refine ⟨rfl, ?_⟩
  rw [isn_dn r1]
  exact up _ _ _ _ q (Stab.refl H) rm rfl
theorem uo_isnot : UOpR X (compareOp .IsNot) (isnR true) := OpR.mono op_notN fun v w H Q h => by
  obtain ⟨x, y, M, Qu, r1, r2, rm, ⟨rfl, q⟩, up⟩ := h
  obtain rfl := r2
  refine ⟨rfl, ?_⟩
  rw [isn_dn r1]
  exact up _ _ _ _ q (Stab.refl H) rm rfl
def negR (x : U) (M : UHp) (Q : UK) : Prop := match x with
  | .int i => Q (.int (-i)) M
  | _ => False
theorem uu_neg : UnR X (unaryOp .USub) (dn1 X.K negR) := fun pins s σ H v u Q I rv h => by
  obtain ⟨x, M, Qu, r1, rm, q, up⟩ := h
  unfold negR at q
  split at q
  · obtain rfl := r1
    exact un_neg pins s σ H _ u Q I rv ⟨_, rfl, up _ _ _ _ q (Stab.refl H) rm rfl⟩
  · exact q.elim
end
end PU

set_option Elab.async false
set_option linter.all false
set_option maxRecDepth 100000
/-! URepr: repr of data, its size. -/
namespace PU
open PySem PySem.Spec PyProof.Rows L2

def rep (x : U) : Str := match toD x with
  | some d => d.shown
  | none => Str.empty
mutual
/-- the integers are short enough to be written -/
def shw : U → Bool
  | .int i => decide (i.natAbs.log2 < 1920)
  | .tup xs => shws xs
  | .lst xs => shws xs
  | _ => true
def shws : List U → Bool
  | [] => true
  | x :: xs => shw x && shws xs
end
mutual
/-- a bound of the length of the text -/
def sz : U → Nat
  | .non => 4
  | .bl _ => 5
  | .int i => i.natAbs.log2 + 2
  | .str x => 10 * x.length + 2
  | .ref _ => 0
  | .ty _ => 0
  | .tup xs => szs xs + 4
  | .lst xs => szs xs + 4
def szs : List U → Nat
  | [] => 0
  | x :: xs => sz x + 2 + szs xs
end
mutual
theorem shw_toD : ∀ (x : U) (d : PyData), toD x = some d → shw x = true → d.showable = true
  | .non, _, h, _ => by simp [toD] at h; subst h; simp [PyData.showable]
  | .bl _, _, h, _ => by simp [toD] at h; subst h; simp [PyData.showable]
  | .int _, _, h, s => by simp [toD] at h; subst h; simpa [PyData.showable, shw] using s
  | .str _, _, h, _ => by simp [toD] at h; subst h; simp [PyData.showable]
  | .tup xs, d, h, s => by
    simp only [toD, Option.map_eq_some_iff] at h
    obtain ⟨ds, e, rfl⟩ := h
    simpa [PyData.showable] using shws_toD xs ds e (by simpa [shw] using s)
  | .lst xs, d, h, s => by
    simp only [toD, Option.map_eq_some_iff] at h
    obtain ⟨ds, e, rfl⟩ := h
    simpa [PyData.showable] using shws_toD xs ds e (by simpa [shw] using s)
  | .ref _, _, h, _ => by simp [toD] at h
  | .ty _, _, h, _ => by simp [toD] at h
theorem shws_toD : ∀ (xs : List U) (ds : List PyData), toDs xs = some ds → shws xs = true → PyData.showableAll ds = true
  | [], _, h, _ => by simp [toDs] at h; subst h; simp [PyData.showableAll]
  | x :: xs, ds, h, s => by
    simp only [toDs] at h
    simp only [shws, Bool.and_eq_true] at s
    cases e : toD x <;> cases e2 : toDs xs <;> rw [e, e2] at h <;> simp at h
    subst h
    simp [PyData.showableAll, shw_toD x _ e s.1, shws_toD xs _ e2 s.2]
end
/-! code points -/
theorem strOk_iff {x : Str} : PyData.strOk x = true ↔ ∀ c ∈ x.cps.toList, c < 0x110000 := by
  unfold PyData.strOk
  rw [Array.all_eq_true']
  constructor
  · intro h c hc; simpa using h c (by simpa using hc)
  · intro h c hc; simpa using h c (by simpa using hc)
theorem strOk_app {a b : Str} (ha : PyData.strOk a = true) (hb : PyData.strOk b = true) : PyData.strOk (a ++ b) = true := by
  rw [strOk_iff] at *
  intro c hc
  have : c ∈ (a.cps ++ b.cps).toList := hc
  rw [Array.toList_append, List.mem_append] at this
  rcases this with h | h
  · exact ha c h
  · exact hb c h
theorem strOk_ofString (s : String) : PyData.strOk (Str.ofString s) = true := by
  rw [strOk_iff]
  intro c hc
  have : c ∈ (cpsOfBytes 0 0 s.toByteArray.data.toList).toArray.toList := hc
  rw [List.toList_toArray, cpsOfBytes_string, List.mem_map] at this
  obtain ⟨ch, _, rfl⟩ := this
  have hv := ch.valid
  show ch.val.toNat < 0x110000
  rcases hv with h | ⟨_, h⟩
  · have : ch.val.toNat < 55296 := h
    omega
  · exact h
theorem reprChar_ok (q c : Nat) (hq : q < 0x110000) (hc : c < 0x110000) : ∀ d ∈ Builtin.Str.reprChar q c, d < 0x110000 := by
  have hd : ∀ d ∈ (Nat.toDigits 16 c).map Char.toNat, d < 0x110000 := by
    intro d hd
    rw [List.mem_map] at hd
    obtain ⟨ch, _, rfl⟩ := hd
    rcases ch.valid with h | ⟨_, h⟩
    · have : ch.val.toNat < 55296 := h
      show ch.val.toNat < _
      omega
    · exact h
  have hh : ∀ w, ∀ d ∈ List.replicate (w - ((Nat.toDigits 16 c).map Char.toNat).length) 48 ++ (Nat.toDigits 16 c).map Char.toNat, d < 0x110000 := by
    intro w d h
    rcases List.mem_append.mp h with h | h
    · have := (List.mem_replicate.mp h).2; omega
    · exact hd d h
  intro d h
  unfold Builtin.Str.reprChar at h
  simp only at h
  split at h
  · simp only [List.mem_cons, List.not_mem_nil, or_false] at h; omega
  · split at h
    · simp only [List.mem_cons, List.not_mem_nil, or_false] at h; omega
    · split at h
      · simp only [List.mem_cons, List.not_mem_nil, or_false] at h; omega
      · split at h
        · simp only [List.mem_cons, List.not_mem_nil, or_false] at h; omega
        · split at h
          · simp only [List.mem_cons, List.not_mem_nil, or_false] at h; omega
          · split at h
            · rcases List.mem_append.mp h with h | h
              · simp only [List.mem_cons, List.not_mem_nil, or_false] at h; omega
              · exact hh 2 d h
            · split at h
              · rcases List.mem_append.mp h with h | h
                · simp only [List.mem_cons, List.not_mem_nil, or_false] at h; omega
                · exact hh 4 d h
              · rcases List.mem_append.mp h with h | h
                · simp only [List.mem_cons, List.not_mem_nil, or_false] at h; omega
                · exact hh 8 d h
theorem reprQuote_lt (x : Str) : reprQuote x < 0x110000 := by unfold reprQuote; split <;> decide
theorem strOk_repr {x : Str} (hx : PyData.strOk x = true) : PyData.strOk (reprText x) = true := by
  rw [strOk_iff] at *
  have go : ∀ (l : List Nat) (acc : Array Nat), (∀ c ∈ l, c < 0x110000) → (∀ c ∈ acc.toList, c < 0x110000) → ∀ c ∈ (l.foldl (fun out c => out ++ (Builtin.Str.reprChar (reprQuote x) c).toArray) acc).toList, c < 0x110000 := by
    intro l
    induction l with
    | nil => intro acc _ h; exact h
    | cons a l ih =>
      intro acc hl h
      rw [List.foldl_cons]
      refine ih _ (fun c hc => hl c (List.mem_cons_of_mem _ hc)) fun c hc => ?_
      rw [Array.toList_append, List.mem_append] at hc
      rcases hc with hc | hc
      · exact h c hc
      · exact reprChar_ok _ a (reprQuote_lt x) (hl a List.mem_cons_self) c (by simpa using hc)
  intro c hc
  unfold reprText at hc
  simp only [Array.toList_push, List.mem_append, List.mem_cons, List.not_mem_nil, or_false] at hc
  rcases hc with hc | hc
  · rw [← Array.foldl_toList] at hc
    refine go x.cps.toList _ hx (fun c hc => ?_) c hc
    simp only [List.mem_cons, List.not_mem_nil, or_false] at hc
    rw [hc]; exact reprQuote_lt x
  · rw [hc]; exact reprQuote_lt x
theorem join_len (sep : Str) : ∀ ts : List Str, (Str.join sep ts).length ≤ (ts.map fun t => t.length + sep.length).sum
  | [] => by show (Str.empty).length ≤ _; simp; rfl
  | [x] => by show x.length ≤ _; simp
  | x :: y :: r => by
    have ih := join_len sep (y :: r)
    show (x ++ sep ++ Str.join sep (y :: r)).length ≤ _
    rw [strLen_append, strLen_append]
    simp only [List.map_cons, List.sum_cons] at ih ⊢
    omega
theorem join_ok {sep : Str} (hs : PyData.strOk sep = true) : ∀ ts : List Str, (∀ t ∈ ts, PyData.strOk t = true) → PyData.strOk (Str.join sep ts) = true
  | [], _ => by show PyData.strOk Str.empty = true; rw [strOk_iff]; intro c hc; exact absurd hc (by show ¬ c ∈ ([] : List Nat); simp)
  | [x], h => h x List.mem_cons_self
  | x :: y :: r, h => by
    have ih := join_ok hs (y :: r) fun t ht => h t (List.mem_cons_of_mem _ ht)
    show PyData.strOk (x ++ sep ++ Str.join sep (y :: r)) = true
    exact strOk_app (strOk_app (h x List.mem_cons_self) hs) ih
mutual
theorem shown_ok : ∀ (x : U) (d : PyData), toD x = some d → isD x = true → d.shown.length ≤ sz x ∧ PyData.strOk d.shown = true
  | .non, _, h, _ => by simp [toD] at h; subst h; exact ⟨by simp only [PyData.shown, sz]; decide, by simp only [PyData.shown]; exact strOk_ofString _⟩
  | .bl b, _, h, _ => by
    simp [toD] at h; subst h
    cases b
    · exact ⟨by simp only [PyData.shown, sz]; decide, by simp only [PyData.shown]; exact strOk_ofString _⟩
    · exact ⟨by simp only [PyData.shown, sz]; decide, by simp only [PyData.shown]; exact strOk_ofString _⟩
  | .int i, _, h, _ => by
    simp [toD] at h; subst h
    refine ⟨?_, by simp only [PyData.shown]; exact strOk_ofString _⟩
    simp only [PyData.shown, sz]
    have := int_text_length_le (a := i) (k := i.natAbs.log2 + 1) (by omega) (by omega)
    have e : (Str.ofString (toString i)).length = (toString i).length := by
      show (cpsOfBytes 0 0 (toString i).toByteArray.data.toList).toArray.size = _
      rw [List.size_toArray, cpsOfBytes_string, List.length_map]; rfl
    show (Str.ofString (toString i)).length ≤ _
    omega
  | .str x, _, h, g => by
    simp [toD] at h; subst h
    have ok : okS x = true := by simpa [isD] using g
    have o2 := okS.ok ok
    refine ⟨?_, by simp only [PyData.shown]; exact strOk_repr o2⟩
    simp only [PyData.shown, sz]
    exact StrLaws.reprText_len x fun c hc => Nat.lt_of_lt_of_le (strOk_iff.mp o2 c hc) (by decide)
  | .tup xs, d, h, g => by
    simp only [toD, Option.map_eq_some_iff] at h
    obtain ⟨ds, e, rfl⟩ := h
    obtain ⟨h1, h2⟩ := showns_ok xs ds e (by simpa [isD] using g)
    simp only [PyData.shown_tuple, sz]
    constructor
    · have hj := join_len ", " (PyData.shownAll ds)
      rw [strLen_append, strLen_append]
      have l1 : ("(" : Str).length = 1 := by decide
      have l2 : (if (ds.length == 1) = true then (",)" : Str) else ")").length ≤ 2 := by split <;> decide
      have l3 : (", " : Str).length = 2 := by decide
      rw [l3] at hj
      have l2' : ((if (ds.length == 1) = true then ",)" else ")" : String) : Str).length ≤ 2 := by split <;> decide
      omega
    · refine strOk_app (strOk_app (strOk_ofString _) (join_ok (strOk_ofString _) _ h2)) ?_
      exact strOk_ofString _
  | .lst xs, d, h, g => by
    simp only [toD, Option.map_eq_some_iff] at h
    obtain ⟨ds, e, rfl⟩ := h
    obtain ⟨h1, h2⟩ := showns_ok xs ds e (by simpa [isD] using g)
    simp only [PyData.shown_list, sz]
    constructor
    · have hj := join_len ", " (PyData.shownAll ds)
      rw [strLen_append, strLen_append]
      have l1 : ("[" : Str).length = 1 := by decide
      have l2 : ("]" : Str).length = 1 := by decide
      have l3 : (", " : Str).length = 2 := by decide
      rw [l3] at hj
      omega
    · exact strOk_app (strOk_app (strOk_ofString _) (join_ok (strOk_ofString _) _ h2)) (strOk_ofString _)
  | .ref _, _, h, _ => by simp [toD] at h
  | .ty _, _, h, _ => by simp [toD] at h
theorem showns_ok : ∀ (xs : List U) (ds : List PyData), toDs xs = some ds → isDs xs = true → ((PyData.shownAll ds).map fun t => t.length + 2).sum ≤ szs xs ∧ ∀ t ∈ PyData.shownAll ds, PyData.strOk t = true
  | [], _, h, _ => by simp [toDs] at h; subst h; simp [PyData.shownAll, szs]
  | x :: xs, ds, h, g => by
    simp only [toDs] at h
    simp only [isDs, Bool.and_eq_true] at g
    cases e : toD x <;> cases e2 : toDs xs <;> rw [e, e2] at h <;> simp at h
    subst h
    obtain ⟨h1, h2⟩ := shown_ok x _ e g.1
    obtain ⟨h3, h4⟩ := showns_ok xs _ e2 g.2
    simp only [PyData.shownAll_cons, List.map_cons, List.sum_cons, szs, List.mem_cons]
    refine ⟨by omega, fun t ht => ?_⟩
    rcases ht with rfl | ht
    · exact h2
    · exact h4 t ht
end
/-- what repr takes -/
def okR (x : U) : Prop := isD x = true ∧ shw x = true ∧ dep x ≤ 150 ∧ sz x ≤ 16000000
theorem rep_ok {x : U} (h : okR x) : okS (rep x) = true := by
  obtain ⟨h1, h2, h3, h4⟩ := h
  obtain ⟨d, e, _⟩ := toD_some x h1
  obtain ⟨q1, q2⟩ := shown_ok x d e h1
  have er : rep x = d.shown := by unfold rep; rw [e]
  rw [er]
  unfold okS
  rw [Bool.and_eq_true]
  exact ⟨decide_eq_true (Nat.le_trans q1 (Nat.le_trans h4 (by rw [sizeLine_eq]; decide))), q2⟩
def reprR (xs : List U) (M : UHp) (Q : UK) : Prop := match xs with
  | [x] => okR (val M x) ∧ Q (.str (rep (val M x))) M
  | _ => False
def dnC (K : PySem.W.Frag) (r : List U → UHp → UK → Prop) : List V → Hp → VK → Prop := fun vs H Q => ∃ xs M Qu, RelUs K H xs vs ∧ RelM K H M ∧ r xs M Qu ∧ UpK K H Qu Q
section
variable {X : Cx}
theorem noDict_of_canLay {d : PyData} (h : d.canLay0 = true) : d.hasDict = false := PyData.hasDict_of_canLay d h
theorem uc_repr (hg : X.A.guards = some []) (hu : X.A.units + 200 < cLine) : CallR X (.builtin "repr") (dnC X.K reprR) := by
  intro pins s σ H vs us Q I rv h
  obtain ⟨xs, M, Qu, r, rm, q, up⟩ := h
  unfold reprR at q
  split at q
  · rename_i x
    obtain ⟨v, w, rfl, r1, rfl⟩ := r
    obtain ⟨u, rfl, ru⟩ := vals1 rv
    obtain ⟨ok, q⟩ := q
    have oks := rep_ok ok
    obtain ⟨h1, h2, h3, h4⟩ := ok
    obtain ⟨d, e, cl⟩ := toD_some _ h1
    have er : rep (val M x) = d.shown := by unfold rep; rw [e]
    have hd := dep_toD _ _ e
    have hz : d.shown.length ≤ sizeLine := by rw [← er]; exact okS.len oks
    obtain ⟨as, rd⟩ := Dp.reads I d v u (dp_val rm r1 e) ru
    have fin := up _ _ (.str (rep (val M x))) H q (Stab.refl H) rm ⟨rfl, oks⟩
    have hs := shw_toD _ _ e h2
    rw [er] at fin
    cases d with
    | none =>
      cases rd
      exact PySem.P.repr_of_none (by simp only [PyData.shown] at fin; exact ⟨.str "None", H, I.tok _, ⟨_, rfl⟩, fin⟩)
    | bool b =>
      cases rd
      exact PySem.P.repr_of_bool (by simp only [PyData.shown] at fin; exact ⟨.str _, H, I.tok _, ⟨_, rfl⟩, fin⟩)
    | int i =>
      cases rd
      exact PySem.P.repr_of_int (by simpa [PyData.showable] using hs) (by simp only [PyData.shown] at fin; exact ⟨.str _, H, I.tok _, ⟨_, rfl⟩, fin⟩)
    | str z =>
      cases rd
      exact PySem.P.repr_of_str (by simp only [PyData.shown] at fin; exact ⟨.str _, H, I.tok _, ⟨_, rfl⟩, fin⟩) (by simpa only [PyData.shown] using hz)
    | list ds =>
      have : ∃ a, u = .ref a := by cases rd; exact ⟨_, rfl⟩
      obtain ⟨a, rfl⟩ := this
      exact repr_of_reads' rd hs (PyData.noDict_hsm (noDict_of_canLay cl)) hg (by omega) (fun _ _ e => e) (fun h' u' tk hk => ⟨.str _, H, I.kept hk, ⟨_, rfl⟩, fin⟩) hz
    | tuple ds =>
      have : ∃ a, u = .ref a := by cases rd; exact ⟨_, rfl⟩
      obtain ⟨a, rfl⟩ := this
      exact repr_of_reads' rd hs (PyData.noDict_hsm (noDict_of_canLay cl)) hg (by omega) (fun _ _ e => e) (fun h' u' tk hk => ⟨.str _, H, I.kept hk, ⟨_, rfl⟩, fin⟩) hz
    | dict kvs => simp [PyData.canLay0] at cl
  · exact q.elim
end
end PU

set_option Elab.async false
set_option linter.all false
set_option maxRecDepth 100000
/-! UFn: what a def keeps; calls. -/
namespace PU
open PySem PySem.Spec PyProof.Rows L2

theorem delM_same {M : UHp} {a : Addr} : delM M a a = none := by unfold delM; rw [if_pos rfl]
theorem delM_ne {M : UHp} {a b : Addr} (h : b ≠ a) : delM M a b = M b := by unfold delM; rw [if_neg h]
theorem delM_upd {M : UHp} {a : Addr} {o : MO} (h : M a = none) : delM (updM M a o) a = M := by
  funext b
  by_cases e : b = a
  · subst e; rw [delM_same, h]
  · rw [delM_ne e, updM_ne e]
theorem delM_comm {M : UHp} {a b : Addr} {o : MO} (h : b ≠ a) : delM (updM M b o) a = updM (delM M a) b o := by
  funext c
  unfold delM updM
  by_cases h1 : c = a
  · subst h1; simp [Ne.symm h]
  · simp [h1]
/-- a list that is handed back may be carried by value from then on -/
def ZQ (Q : UK) : UK := fun x M => Q x M ∨ ∃ a xs, x = .ref a ∧ M a = some (.lst xs) ∧ Q (.lst xs) (delM M a)
theorem RelM.del {K : PySem.W.Frag} {H : Hp} {M : UHp} {a : Addr} {vs : List V} {u : HO} (rm : RelM K H M) (h : H a = some (.lst vs)) : RelM K (upd H a u) (delM M a) := fun b o e => by
  by_cases hb : b = a
  · subst hb; rw [delM_same] at e; cases e
  · rw [delM_ne hb] at e
    exact (rm b o e).at (Stab.lst h) (upd_ne hb)
theorem zq_dn {K : PySem.W.Frag} {H : Hp} {Qu : UK} {Q : VK} (up : UpK K H Qu Q) : UpK K H (ZQ Qu) (FzQ Q) := fun x M v H' q s m r => by
  rcases q with q | ⟨a, xs, rfl, e, q⟩
  · exact .inl (up x M v H' q s m r)
  · obtain rfl := r
    obtain ⟨vs, h1, h2⟩ := m a _ e
    refine .inr ⟨a, vs, rfl, h1, fun o => ?_⟩
    have s2 : Stab H' (upd H' a (.frz o (.lst vs))) := Stab.lst h1
    exact up _ _ _ _ q (s.trans s2) (m.del h1) ⟨a, vs, rfl, .inl ⟨o, upd_same⟩, h2.stab s2⟩

/-- an exception: its class, its own dict -/
abbrev UXK := Value → Option Addr → UHp → Prop
def UpX (K : PySem.W.Frag) (H : Hp) (Eu : UXK) (E : XK) : Prop := ∀ c d M' H', Eu c d M' → Stab H H' → RelM K H' M' → E c d H'
/-- a def's promise -/
abbrev USp := List U → UHp → UK → UXK → Prop
def dnP (K : PySem.W.Frag) (sp : USp) : Sp := fun vs H Q E => ∃ us M Qu Eu, RelUs K H us vs ∧ RelM K H M ∧ sp us M Qu Eu ∧ UpK K H Qu Q ∧ UpX K H Eu E
abbrev EU0 : UXK := fun _ _ _ => False
structure UFn (P : Program) (w : World) (K : PySem.W.Frag) (mg : Str → Option Value) (base : Heap) (CX : CXT) (k : Nat) (f : Addr) (fd : FuncData) (ps : List Str) (sp : USp) : Prop where
  len : ∀ us M Q E, sp us M Q E → us.length = ps.length
  go : ∀ (A : Around) (outer : List Env) (s : Shared) (H : Hp) (args : Args) (ws : List Value) (vs : List V) (Q : VK) (E : XK), Room k A → A.guards = some [] →
    Env0 P w K mg base A outer s H → BindsTo s fd args (ps.zip ws) → Vals vs ws → dnP K sp vs H Q E → codeAny (model P w) A (.call (.ref f) args) (CR CX outer P w H s Q E) s
section
variable {P : Program} {w : World} {K : PySem.W.Frag} {mg : Str → Option Value} {base : Heap} {CX : CXT} {k : Nat} {f : Addr} {fd : FuncData} {ps : List Str}
theorem UFn.up {j k : Nat} {sp : USp} (F : UFn P w K mg base CX j f fd ps sp) (h : j ≤ k) : UFn P w K mg base CX k f fd ps sp :=
  ⟨F.len, fun A outer s H args ws vs Q E hr => F.go A outer s H args ws vs Q E (hr.mono h)⟩
theorem UFn.imp {sp sp' : USp} (F : UFn P w K mg base CX k f fd ps sp) (h : ∀ us M Q E, sp' us M Q E → sp us M Q E) : UFn P w K mg base CX k f fd ps sp' :=
  ⟨fun us M Q E q => F.len us M Q E (h _ _ _ _ q), fun A outer s H args ws vs Q E hr hg e0 hb hv ⟨us, M, Qu, Eu, r, m, q, u1, u2⟩ =>
    F.go A outer s H args ws vs Q E hr hg e0 hb hv ⟨us, M, Qu, Eu, r, m, h _ _ _ _ q, u1, u2⟩⟩
/-- a promise by cases of what is asked: one choice for each -/
theorem UFn.any {ι : Sort _} {sp : ι → USp} (h0 : Nonempty ι) (F : ∀ i, UFn P w K mg base CX k f fd ps (sp i)) : UFn P w K mg base CX k f fd ps (fun us M Q E => ∃ i, sp i us M Q E) :=
  ⟨fun us M Q E ⟨i, q⟩ => (F i).len us M Q E q, fun A outer s H args ws vs Q E hr hg e0 hb hv ⟨us, M, Qu, Eu, r, m, ⟨i, q⟩, u1, u2⟩ =>
    (F i).go A outer s H args ws vs Q E hr hg e0 hb hv ⟨us, M, Qu, Eu, r, m, q, u1, u2⟩⟩

def ustart (N : List Str) (us : List U) : USt := us.map some ++ List.replicate (N.length - us.length) none
theorem rel_start {H : Hp} {N : List Str} : ∀ {us : List U} {vs : List V}, RelUs K H us vs → RelS K H (ustart N us) (L2.start N vs) := fun {us vs} r => by
  refine ⟨by simp [ustart, L2.start, r.length], fun i u e => ?_⟩
  unfold ustart at e
  unfold L2.start
  by_cases hi : i < us.length
  · rw [List.getElem?_append_left (by simpa using hi), List.getElem?_map] at e
    rw [List.getElem?_append_left (by simpa [← r.length] using hi), List.getElem?_map]
    cases q : us[i]? with
    | none => rw [q] at e; cases e
    | some x =>
      rw [q] at e; cases e
      obtain ⟨v, e1, e2⟩ := r.get q
      exact ⟨v, by rw [e1]; rfl, e2⟩
  · rw [List.getElem?_append_right (by simpa using hi), List.getElem?_replicate] at e
    split at e <;> cases e

/-- the body of a def: by its reading -/
theorem ufn_body {name qual : Str} {params : Arguments} {body : List Stmt} {scope : Scope} {dV kV doc pm cdv ct oc : Value} {an od : Option Addr}
    {osl : Array (Option Value)} {N : List Str} {sp : USp} (lk : K.lookup f = some ⟨oc, od, .func (PySem.W.fnOf name qual params body scope dV kV doc pm an cdv ct), osl⟩) (hcd : PySem.W.codeIn K cdv qual = true) (S : FnScope N ps scope)
    (len : ∀ us M Q E, sp us M Q E → us.length = ps.length)
    (hbody : ∀ (A : Around) (outer : List Env) (s : Shared) (H : Hp) (E : XK), Room k (A.deeper (envOfC qual scope s.heap.objs.size f cdv)) → A.guards = some [] →
      ∀ (us : List U) (M : UHp) (Q : UK) (Eu : UXK), UpX K H Eu E → sp us M Q Eu → ∃ t, USs (cxOf CX P w K mg base N qual scope f cdv A outer s H E) body t ∧ t { nx := fun _ M' => Q .non M', rt := ZQ Q } (ustart N us) M) :
    UFn P w K mg base CX (k + 1) f (PySem.W.fnOf name qual params body scope dV kV doc pm an cdv ct) ps sp := by
  refine ⟨len, fun A outer s H args ws vs Q E hr hg e0 hb rv hsp => ?_⟩
  obtain ⟨us, M, Qu, Eu, ru, rm, q0, upK, upX⟩ := hsp
  have hl : vs.length = ps.length := by rw [← ru.length]; exact len _ _ _ _ q0
  have inH : ∀ b o, base.get? b = some o → s.heap.get? b = some o := fun b o e => (e0.bs b o e).1
  have KH := e0.mod.kin.keeps inH
  have lim := e0.mod.nolimit.keeps inH
  refine codeAny_call_function hr.depth (KH _ _ lk) rfl S.co S.gen rfl (PySem.W.codeRec_of KH hcd) (hb _ _ _ _ ?_)
  refine wpAny_newFunctionEnv_cells S.kind (fun y hy => ?_) fun env he s1 x => ?_
  · rcases S.par y.1 (List.of_mem_zip (show (y.1, y.2) ∈ ps.zip ws from hy)).1 with z | z
    · exact .inl z
    · exact .inr ⟨z, PySem.W.cellsFrom_some _ _ _ (.inl z)⟩
  · subst he
    refine ⟨lim.keeps x.toInCall.keep, codeAny_func ?_⟩
    obtain ⟨t, ht, q⟩ := hbody A outer s H E (hr.deeper _) hg us M Qu Eu upX q0
    have I : Inv (cxOf CX P w K mg base N qual scope f cdv A outer s H E) [] (L2.start N vs) H s1 := inv_start S hr.hd e0 hl rv x
    have wp := ht.run [] s1 (L2.start N vs) H { nx := fun _ H' => Q .non H', rt := FzQ Q, bk := fun _ _ => False, ct := fun _ _ => False } I
      ⟨ustart N us, M, _, rel_start ru, rm, q, ⟨fun σ' M' τ' H' q' s' m' _ => upK .non M' .non H' q' s' m' rfl, zq_dn upK, fun _ _ _ _ z _ _ _ => z.elim, fun _ _ _ _ z _ _ _ => z.elim⟩⟩
    refine wpAny_mono wp (fun fl s' hs => ?_) fun e s' hs => hs
    cases fl with
    | ret u =>
      obtain ⟨v, σ', H', J, r1, q1⟩ := hs
      obtain ⟨v2, H2, J2, r2, q2⟩ := ep_fz (show EP _ [] σ' (FzQ Q) u s' from ⟨v, H', J, r1, q1⟩)
      exact ⟨v2, H2, J2.os, J2.bare, J2.base, J2.hok, r2, q2⟩
    | next =>
      obtain ⟨σ', H', J, q1⟩ := hs
      exact ⟨.non, H', J.os, J.bare, J.base, J.hok, rfl, q1⟩
    | brk => exact False.elim hs.choose_spec.choose_spec.2
    | cont => exact False.elim hs.choose_spec.choose_spec.2
end
section
variable {P : Program} {w : World} {K : PySem.W.Frag} {mg : Str → Option Value} {base : Heap} {k : Nat} {f : Addr} {fd : FuncData} {N ps : List Str} {x qual : Str} {st : Stmt}
theorem us_nox {X : Cx} {sts : List Stmt} {t : UTS} (h : USs X.nox sts t) : USs X sts t := PSs.nox h
/-- a def that lets no exception out -/
theorem ufn_ok {sp : USp} {t : UTS} (F : Fun K x qual st f fd) (S : FnScope N ps (defScope st)) (len : ∀ us M Q E, sp us M Q E → us.length = ps.length)
    (hbody : ∀ (cdv : Value) (A : Around) (outer : List Env) (s : Shared) (H : Hp) (E : XK), Room k (A.deeper (envOfC qual (defScope st) s.heap.objs.size f cdv)) → A.guards = some [] →
      USs (cxOf CX0 P w K mg base N qual (defScope st) f cdv A outer s H E).nox (defBody st) t)
    (pure : ∀ (us : List U) (M : UHp) (Q : UK) (E : UXK), sp us M Q E → t { nx := fun _ M' => Q .non M', rt := ZQ Q } (ustart N us) M) : UFn P w K mg base CX0 (k + 1) f fd ps sp := by
  obtain ⟨oc, od, kV, doc, pm, an, cdv, ct, osl, rfl, lk, hcd⟩ := F.ex
  exact ufn_body lk hcd S len fun A outer s H E hr hg us M Q Eu _ hsp => ⟨t, us_nox (hbody cdv A outer s H E hr hg), pure us M Q Eu hsp⟩
end

/-! ### calls -/
section
variable {X : Cx} {CX : CXT} {k : Nat} {f : Addr} {fd : FuncData} {ps : List Str} {sp : USp} {x : Str} {p pos : Pos} {e : Expr} {es : List Expr} {t : UTA}
def uCall (sp : USp) (dus : List U) (t : UTA) (σ : USt) (M : UHp) (Q : UK) : Prop := t σ M fun us M1 => sp (us ++ dus) M1 Q EU0
theorem run_ufn {CX : CXT} {pins : List (Addr × Obj)} {τ : L2.St} {H : Hp} {s : Shared} {Q : VK} {E : XK} {ws : List Value} {vs : List V} {ds : List Value} {dvs : List V} (F : UFn X.prog X.w X.K X.mg X.base CX k f fd ps sp) (hr : Room k X.A) (hG : X.A.guards = some []) (hb : Binds X.K fd ps ds)
    (hd : Vals dvs ds) (hx : Passes CX X E) (I : Inv X pins τ H s) (rv : Vals vs ws) (h : dnP X.K sp (vs ++ dvs) H Q E) : wpAny (model X.prog X.w) X.A (call (.ref f) ws) (EP X pins τ Q) X.xe s := by
  have rr := rv.append hd
  have hl : (ws ++ ds).length = ps.length := by
    obtain ⟨us, M, Qu, Eu, r, _, q, _⟩ := h
    rw [← rr.length, ← r.length]; exact F.len _ _ _ _ q
  refine wpAny_call (codeAny_mono (F.go X.A X.stack s H _ _ _ Q E hr hG I.env0 (hb s ws I.kIn hl) rr h) fun r s' hq => ?_)
  match r, hq with
  | .error e, hq => exact hx pins τ H s e s' I hq
  | .ok (.ret u), hq => exact I.after hq
theorem ue_call {dus : List U} {dvs : List V} {ds : List Value} (F : UFn X.prog X.w X.K X.mg X.base CX0 k f fd ps sp) (hr : Room k X.A) (hG : X.A.guards = some []) (hg : Gl X x) (hm : X.mg x = some (.ref f)) (hk : PySem.W.keepIn X.K (.ref f) = true)
    (hb : Binds X.K fd ps ds) (hd : Vals dvs ds) (hdu : ∀ H, RelUs X.K H dus dvs)
    (ha : UA X (e :: es) t) (hdb : (x == ("__debug__" : Str)) = false := by decide) (he : starEach (e :: es) X.env = (false, eval e X.env) :: starEach es X.env := by rfl) (hpl : (backTo pos (starEach es X.env)).any (·.1) = false := by rfl) :
    UE X (.Call (.Name x p) (e :: es) [] pos) (uCall sp dus t) := by
  constructor
  intro pins s τ H Q I h
  obtain ⟨σ, M, Qu, rs, rm, q, up⟩ := h
  refine wpAny_Call_Name_kw (ld_glob I hg hm ?_ hdb)
  refine PySem.W.callWith_K (h₀ := X.base) I.ok.mod.kin hk (thn (ha.run pos pins s τ H (fun vs H1 => dnP X.K sp (vs ++ dvs) H1 Q E0) I ⟨σ, M, _, rs, rm, q, fun us M1 vs H1 q1 s1 m1 r1 => ?_⟩) fun ws s1 ⟨vs, H1, I1, r, q⟩ => ⟨I1.kIn, ?_⟩) he hpl
  · exact ⟨us ++ dus, M1, Qu, EU0, r1.append (hdu H1), m1, q1, up.from s1, fun _ _ _ _ z _ _ => z.elim⟩
  · exact run_ufn F hr hG hb hd pass0 I1 r q
theorem ue_call0 {dus : List U} {dvs : List V} {ds : List Value} (F : UFn X.prog X.w X.K X.mg X.base CX0 k f fd ps sp) (hr : Room k X.A) (hG : X.A.guards = some []) (hg : Gl X x) (hm : X.mg x = some (.ref f)) (hk : PySem.W.keepIn X.K (.ref f) = true)
    (hb : Binds X.K fd ps ds) (hd : Vals dvs ds) (hdu : ∀ H, RelUs X.K H dus dvs) (hdb : (x == ("__debug__" : Str)) = false := by decide) :
    UE X (.Call (.Name x p) [] [] pos) (uCall sp dus uNil) := by
  constructor
  intro pins s τ H Q I h
  obtain ⟨σ, M, Qu, rs, rm, q, up⟩ := h
  refine wpAny_Call_Name_kw (ld_glob I hg hm ?_ hdb)
  exact PySem.W.callWith_K0 I.kIn hk (run_ufn (vs := []) F hr hG hb hd pass0 I .nil ⟨dus, M, Qu, EU0, hdu H, rm, q, up, fun _ _ _ _ z _ _ => z.elim⟩)
end
end PU

set_option Elab.async false
set_option linter.all false
set_option maxRecDepth 100000
/-! UBlt: built-ins, methods, subscripts, displays over U. -/
namespace PU
open PySem PySem.Spec PyProof.Rows L2

section
variable {X : Cx} {x : Str} {p pos : Pos} {e : Expr} {es : List Expr} {t : UTA} {id T : String} {r : List U → UHp → UK → Prop}
abbrev UCallR (X : Cx) (f : Value) (r : List U → UHp → UK → Prop) : Prop := CallR X f (dnC X.K r)
theorem CallR.mono {f : Value} {r r' : List V → Hp → VK → Prop} (h : CallR X f r) (w : ∀ xs H Q, r' xs H Q → r xs H Q) : CallR X f r' := fun pins s σ H xs us Q I rs q => h pins s σ H xs us Q I rs (w xs H Q q)
theorem CallR.fz {f : Value} {r r' : List V → Hp → VK → Prop} (h : CallR X f r) (w : ∀ xs H Q, r' xs H Q → r xs H (FzQ Q)) : CallR X f r' := fun pins s σ H xs us Q I rs q =>
  thn (h pins s σ H xs us (FzQ Q) I rs (w xs H Q q)) fun _ _ => ep_fz
theorem PE.fz {e : Expr} {t t' : TE} (h : PE X e t) (w : ∀ σ H Q, t' σ H Q → t σ H (FzQ Q)) : PE X e t' := ⟨fun pins s σ H Q I q => thn (h.run pins s σ H (FzQ Q) I (w σ H Q q)) fun _ _ => ep_fz⟩
def uCB (r : List U → UHp → UK → Prop) (t : UTA) (σ : USt) (M : UHp) (Q : UK) : Prop := t σ M fun xs M1 => r xs M1 Q
theorem dn_cb : ∀ σ H Q, dnE X.K (uCB r t) σ H Q → tCB (dnC X.K r) (dnA X.K t) σ H Q := fun τ H Q h => by
  obtain ⟨σ, M, Qu, rs, rm, q, up⟩ := h
  exact ⟨σ, M, _, rs, rm, q, fun xs M1 vs H1 q1 s1 m1 r1 => ⟨xs, M1, Qu, r1, m1, q1, up.from s1⟩⟩
theorem ue_callB (hc : UCallR X (.builtin id) r) (hg : Gl X x) (hm : X.mg x = none) (hv : bootBuiltins x = some (.builtin id)) (ha : UA X (e :: es) t) (hn : x ≠ "__name__" := by decide) (hdb : (x == ("__debug__" : Str)) = false := by decide)
    (he : starEach (e :: es) X.env = (false, eval e X.env) :: starEach es X.env := by rfl) (hpl : (backTo pos (starEach es X.env)).any (·.1) = false := by rfl) : UE X (.Call (.Name x p) (e :: es) [] pos) (uCB r t) :=
  PE.mono (pe_callB hc hg hm hv ha hn hdb he hpl) dn_cb
theorem ue_callTy (hc : UCallR X (.type T) r) (hg : Gl X x) (hm : X.mg x = none) (hv : bootBuiltins x = some (.type T)) (ha : UA X (e :: es) t) (hn : x ≠ "__name__" := by decide) (hdb : (x == ("__debug__" : Str)) = false := by decide)
    (he : starEach (e :: es) X.env = (false, eval e X.env) :: starEach es X.env := by rfl) (hpl : (backTo pos (starEach es X.env)).any (·.1) = false := by rfl) : UE X (.Call (.Name x p) (e :: es) [] pos) (uCB r t) :=
  PE.mono (pe_callTy hc hg hm hv ha hn hdb he hpl) dn_cb

/-! ### displays -/
def uTup (t : UTA) (σ : USt) (M : UHp) (Q : UK) : Prop := t σ M fun xs M1 => xs.length ≤ sizeLine ∧ Q (.tup xs) M1
def uLst (m : Bool) (t : UTA) (σ : USt) (M : UHp) (Q : UK) : Prop := t σ M fun xs M1 => xs.length ≤ sizeLine ∧ newL m xs M1 Q
theorem ue_tup {x1} (h : UA X es t) : UE X (.Tuple es x1 pos) (uTup t) := PE.mono (pe_tup h) fun τ H Q h => by
  obtain ⟨σ, M, Qu, rs, rm, q, up⟩ := h
  exact ⟨σ, M, _, rs, rm, q, fun xs M1 vs H1 q1 s1 m1 r1 => ⟨by rw [← r1.length]; exact q1.1, newT_dn m1 (up.from s1) r1 q1.2⟩⟩
theorem ue_lst (m : Bool) (h : UA X es t) : UE X (.List es pos) (uLst m t) := PE.fz (pe_lst h) fun τ H Q h => by
  obtain ⟨σ, M, Qu, rs, rm, q, up⟩ := h
  exact ⟨σ, M, _, rs, rm, q, fun xs M1 vs H1 q1 s1 m1 r1 => ⟨by rw [← r1.length]; exact q1.1, newL_dn m1 (up.from s1) r1 q1.2⟩⟩

/-! ### len -/
def lenU (M : UHp) : U → Option Nat
  | .str z => some z.length
  | .tup xs => some xs.length
  | .lst xs => some xs.length
  | .ref a => match M a with
    | some (.lst xs) => some xs.length
    | _ => none
  | _ => none
def lenR (xs : List U) (M : UHp) (Q : UK) : Prop := match xs with
  | [x] => ∃ n, lenU M x = some n ∧ Q (.int (n : Nat)) M
  | _ => False
theorem uc_len : UCallR X (.builtin "len") lenR := CallR.mono call_len fun vs H Q h => by
  obtain ⟨xs, M, Qu, r, rm, q, up⟩ := h
  unfold lenR at q
  split at q
  · rename_i x
    obtain ⟨v, w, rfl, r1, rfl⟩ := r
    obtain ⟨n, e, q⟩ := q
    refine ⟨v, n, rfl, ?_, up _ _ _ _ q (Stab.refl H) rm rfl⟩
    cases x with
    | str z => obtain ⟨rfl, k⟩ := r1; simp only [lenU, Option.some.injEq] at e; exact ⟨okS.len k, e.symm⟩
    | tup ys => obtain ⟨a, vs, rfl, h1, h2⟩ := r1; simp only [lenU, Option.some.injEq] at e; exact .inr ⟨vs, h1, by rw [← e, h2.length]⟩
    | lst ys => obtain ⟨a, vs, rfl, h1, h2⟩ := r1; simp only [lenU, Option.some.injEq] at e; exact .inl ⟨vs, h1.sq, by rw [← e, h2.length]⟩
    | ref a =>
      simp only [lenU] at e
      cases hm : M a with
      | none => rw [hm] at e; cases e
      | some o =>
        rw [hm] at e
        cases o with
        | lst ys =>
          simp only [Option.some.injEq] at e
          obtain rfl := r1
          obtain ⟨vs, h1, h2⟩ := rm a _ hm
          exact .inl ⟨vs, SqL.of h1, by rw [← e, h2.length]⟩
        | _ => cases e
    | _ => simp [lenU] at e
  · exact q.elim

/-! ### isinstance -/
def tyM (M : UHp) : U → Option String
  | .non => some "NoneType"
  | .bl _ => some "bool"
  | .int _ => some "int"
  | .str _ => some "str"
  | .tup _ => some "tuple"
  | .lst _ => some "list"
  | .ref a => match M a with
    | some (.lst _) => some "list"
    | some (.dK _) => some "dict"
    | _ => none
  | .ty _ => none
def subT (t n : String) : Bool := t == n || (t == "bool" && n == "int")
def okN (n : String) : Bool := n == "str" || n == "int" || n == "bool" || n == "tuple" || n == "list" || n == "dict"
theorem kit_sub {K : PySem.W.Frag} {M : UHp} {u : U} {t n : String} (h : tyM M u = some t) (hn : okN n = true) : PySem.W.kitOne K (.type t) (.type n) = some (subT t n) := by
  have ht : t = "NoneType" ∨ t = "bool" ∨ t = "int" ∨ t = "str" ∨ t = "tuple" ∨ t = "list" ∨ t = "dict" := by
    cases u <;> simp only [tyM, Option.some.injEq, reduceCtorEq] at h
    case ref a =>
      split at h
      · simp at h; simp [← h]
      · simp at h; simp [← h]
      · cases h
    all_goals simp [← h]
  have hn' : n = "str" ∨ n = "int" ∨ n = "bool" ∨ n = "tuple" ∨ n = "list" ∨ n = "dict" := by
    simp only [okN, Bool.or_eq_true, beq_iff_eq] at hn
    rcases hn with ((((h | h) | h) | h) | h) | h <;> simp [h]
  apply kit_ty
  rcases ht with rfl | rfl | rfl | rfl | rfl | rfl | rfl <;> rcases hn' with rfl | rfl | rfl | rfl | rfl | rfl <;> decide +kernel
def isiR (xs : List U) (M : UHp) (Q : UK) : Prop := match xs with
  | [x, .ty n] => ∃ t, tyM M x = some t ∧ okN n = true ∧ Q (.bl (subT t n)) M
  | [x, .tup [.ty n, .ty m]] => ∃ t, tyM M x = some t ∧ okN n = true ∧ okN m = true ∧ Q (.bl (subT t n || subT t m)) M
  | _ => False
theorem tyx_of {K : PySem.W.Frag} {H : Hp} {M : UHp} {u : U} {v : V} {t : String} (rm : RelM K H M) (r : RelU K H u v) (h : tyM M u = some t) : TyX K H v (.type t) := by
  cases u with
  | non => obtain rfl := r; simp only [tyM, Option.some.injEq] at h; subst h; exact .base .non
  | bl b => obtain rfl := r; simp only [tyM, Option.some.injEq] at h; subst h; exact .base (.bl b)
  | int i => obtain rfl := r; simp only [tyM, Option.some.injEq] at h; subst h; exact .base (.int i)
  | str z => obtain ⟨rfl, _⟩ := r; simp only [tyM, Option.some.injEq] at h; subst h; exact .base (.str z)
  | ty n => simp [tyM] at h
  | tup xs =>
    obtain ⟨a, vs, rfl, q, _⟩ := r
    simp only [tyM, Option.some.injEq] at h; subst h
    rcases q with (q | ⟨o, q⟩) | ⟨o, its, n, q, c, _⟩
    · exact .base (.tup q)
    · exact .fTuple q
    · exact .kTuple q c
  | lst xs =>
    obtain ⟨a, vs, rfl, q, _⟩ := r
    simp only [tyM, Option.some.injEq] at h; subst h
    rcases q with ⟨o, q⟩ | ⟨o, its, n, q, c, _⟩
    · exact .base (.frz q)
    · exact .kList q c
  | ref a =>
    obtain rfl := r
    simp only [tyM] at h
    cases hm : M a with
    | none => rw [hm] at h; cases h
    | some o =>
      rw [hm] at h
      cases o with
      | lst ys => simp only [Option.some.injEq] at h; subst h; obtain ⟨vs, h1, h2⟩ := rm a _ hm; exact .base (.lst h1)
      | dK ys => simp only [Option.some.injEq] at h; subst h; obtain ⟨vs, h1, h2⟩ := rm a _ hm; exact .base (.dK h1)
      | _ => cases h
theorem uc_isi : UCallR X (.builtin "isinstance") isiR := fun pins s σ H vs us Q I rv h => by
  obtain ⟨xs, M, Qu, r, rm, q, up⟩ := h
  unfold isiR at q
  split at q
  · rename_i x n
    obtain ⟨v, w, rfl, r1, v2, w2, rfl, r2, rfl⟩ := r
    obtain rfl := r2
    obtain ⟨t, e, hn, q⟩ := q
    exact call_isi pins s σ H _ us Q I rv ⟨v, .ty n, .type t, .type n, _, rfl, .ty n, tyx_of rm r1 e, kit_sub e hn, up _ _ _ _ q (Stab.refl H) rm rfl⟩
  · rename_i x n m
    obtain ⟨v, w, rfl, r1, v2, w2, rfl, r2, rfl⟩ := r
    obtain ⟨tp, ts, rfl, hq, v3, w3, rfl, e3, v4, w4, rfl, e4, rfl⟩ := r2
    obtain rfl := e3
    obtain rfl := e4
    obtain ⟨t, e, hn, hm, q⟩ := q
    have kk : PySem.W.kitAny X.K (.type t) [.type n, .type m] = some (subT t n || subT t m) := by
      refine kitAny_cons (kit_sub e hn) (fun h1 => ?_) fun h1 => by rw [h1]; rfl
      refine kitAny_cons (kit_sub e hm) (fun h2 => ?_) fun h2 => by rw [h2, Bool.or_true]
      rw [h1, h2]; rfl
    obtain ⟨u1, u2, rfl, q1, q2⟩ := rv.two
    obtain rfl : u2 = Value.ref tp := q2
    obtain ⟨P, Z, z, hx⟩ := kit_of I q1 (tyx_of rm r1 e)
    obtain ⟨its, rt, ⟨⟨oc, od, dt, sl⟩, ho, hcls, nn, hdt⟩, _⟩ := I.tuple hq
    simp only at hcls hdt
    subst hcls hdt
    have hits : its = [.type n, .type m] := by
      cases rt with
      | cons a b =>
        cases b with
        | cons c d =>
          cases d
          rw [show _ = Value.type n from a, show _ = Value.type m from c]
    subst hits
    exact PySem.W.kia_tup Z I.kIn z ho kk hx fun tk => ⟨.bl _, H, I.tok tk, rfl, up _ _ _ _ q (Stab.refl H) rm rfl⟩
  · exact q.elim

/-! ### all, any -/
def allU : List U → Option Bool
  | [] => some true
  | .bl b :: r => (allU r).map (b && ·)
  | _ :: _ => none
def anyU : List U → Option Bool
  | [] => some false
  | .bl b :: r => (anyU r).map (b || ·)
  | _ :: _ => none
theorem allU_bl : ∀ {xs : List U} {k : Bool}, allU xs = some k → ∃ bs : List Bool, xs = bs.map .bl ∧ k = bs.all _root_.id
  | [], k, h => by simp only [allU, Option.some.injEq] at h; exact ⟨[], rfl, h.symm⟩
  | .bl b :: r, k, h => by
    simp only [allU, Option.map_eq_some_iff] at h
    obtain ⟨c, e, rfl⟩ := h
    obtain ⟨bs, rfl, rfl⟩ := allU_bl e
    exact ⟨b :: bs, rfl, by simp⟩
  | .non :: _, _, h => by simp [allU] at h
  | .int _ :: _, _, h => by simp [allU] at h
  | .str _ :: _, _, h => by simp [allU] at h
  | .ref _ :: _, _, h => by simp [allU] at h
  | .ty _ :: _, _, h => by simp [allU] at h
  | .tup _ :: _, _, h => by simp [allU] at h
  | .lst _ :: _, _, h => by simp [allU] at h
theorem anyU_bl : ∀ {xs : List U} {k : Bool}, anyU xs = some k → ∃ bs : List Bool, xs = bs.map .bl ∧ k = bs.any _root_.id
  | [], k, h => by simp only [anyU, Option.some.injEq] at h; exact ⟨[], rfl, h.symm⟩
  | .bl b :: r, k, h => by
    simp only [anyU, Option.map_eq_some_iff] at h
    obtain ⟨c, e, rfl⟩ := h
    obtain ⟨bs, rfl, rfl⟩ := anyU_bl e
    exact ⟨b :: bs, rfl, by simp⟩
  | .non :: _, _, h => by simp [anyU] at h
  | .int _ :: _, _, h => by simp [anyU] at h
  | .str _ :: _, _, h => by simp [anyU] at h
  | .ref _ :: _, _, h => by simp [anyU] at h
  | .ty _ :: _, _, h => by simp [anyU] at h
  | .tup _ :: _, _, h => by simp [anyU] at h
  | .lst _ :: _, _, h => by simp [anyU] at h
theorem allU_map {α : Type} (f : α → Bool) (xs : List α) : allU (xs.map fun x => .bl (f x)) = some (xs.all f) := by
  induction xs with
  | nil => rfl
  | cons x xs ih => simp [allU, ih]
theorem anyU_map {α : Type} (f : α → Bool) (xs : List α) : anyU (xs.map fun x => .bl (f x)) = some (xs.any f) := by
  induction xs with
  | nil => rfl
  | cons x xs ih => simp [anyU, ih]
theorem rel_bls {K : PySem.W.Frag} {H : Hp} : ∀ {bs : List Bool} {vs : List V}, RelUs K H (bs.map .bl) vs → vs = bs.map V.bl
  | [], _, h => h
  | b :: bs, _, h => by
    obtain ⟨v, r, rfl, rfl, t⟩ := h
    rw [rel_bls t]; rfl
def allR (xs : List U) (M : UHp) (Q : UK) : Prop := match xs with
  | [x] => ∃ ys k, listU M x = some ys ∧ allU ys = some k ∧ Q (.bl k) M
  | _ => False
def anyR (xs : List U) (M : UHp) (Q : UK) : Prop := match xs with
  | [x] => ∃ ys k, listU M x = some ys ∧ anyU ys = some k ∧ Q (.bl k) M
  | _ => False
theorem uc_all (hc : X.calm = true) : UCallR X (.builtin "all") allR := CallR.mono (cr_all hc) fun vs H Q h => by
  obtain ⟨xs, M, Qu, r, rm, q, up⟩ := h
  unfold allR at q
  split at q
  · obtain ⟨v, w, rfl, r1, rfl⟩ := r
    obtain ⟨ys, k, e, e2, q⟩ := q
    obtain ⟨bs, rfl, rfl⟩ := allU_bl e2
    obtain ⟨a, vs, rfl, h1, h2⟩ := list_dn rm r1 e
    obtain rfl := rel_bls h2
    exact ⟨a, bs, rfl, h1, up _ _ _ _ q (Stab.refl H) rm rfl⟩
  · exact q.elim
theorem uc_any (hc : X.calm = true) : UCallR X (.builtin "any") anyR := CallR.mono (cr_any hc) fun vs H Q h => by
  obtain ⟨xs, M, Qu, r, rm, q, up⟩ := h
  unfold anyR at q
  split at q
  · obtain ⟨v, w, rfl, r1, rfl⟩ := r
    obtain ⟨ys, k, e, e2, q⟩ := q
    obtain ⟨bs, rfl, rfl⟩ := anyU_bl e2
    obtain ⟨a, vs, rfl, h1, h2⟩ := list_dn rm r1 e
    obtain rfl := rel_bls h2
    exact ⟨a, bs, rfl, h1, up _ _ _ _ q (Stab.refl H) rm rfl⟩
  · exact q.elim

/-! ### tuple, list, int -/
def tupleR (xs : List U) (M : UHp) (Q : UK) : Prop := match xs with
  | [x] => ∃ ys, seqU M x = some ys ∧ Q (.tup ys) M
  | _ => False
theorem uc_tuple : UCallR X (.type "tuple") tupleR := CallR.mono call_tuple_of fun vs H Q h => by
  obtain ⟨xs, M, Qu, r, rm, q, up⟩ := h
  unfold tupleR at q
  split at q
  · obtain ⟨v, w, rfl, r1, rfl⟩ := r
    obtain ⟨ys, e, q⟩ := q
    obtain ⟨a, vs, rfl, h1, h2⟩ := seq_dn rm r1 e
    rcases h1 with h1 | h1
    · exact ⟨a, vs, rfl, .inl ⟨h1, newT_dn rm up h2 q⟩⟩
    · exact ⟨a, vs, rfl, .inr ⟨h1, up _ _ _ _ q (Stab.refl H) rm ⟨a, vs, rfl, h1, h2⟩⟩⟩
  · exact q.elim
def listR (m : Bool) (xs : List U) (M : UHp) (Q : UK) : Prop := match xs with
  | [x] => ∃ ys, seqU M x = some ys ∧ newL m ys M Q
  | _ => False
theorem uc_list (m : Bool) : UCallR X (.type "list") (listR m) := CallR.fz call_list_of fun vs H Q h => by
  obtain ⟨xs, M, Qu, r, rm, q, up⟩ := h
  unfold listR at q
  split at q
  · obtain ⟨v, w, rfl, r1, rfl⟩ := r
    obtain ⟨ys, e, q⟩ := q
    obtain ⟨a, vs, rfl, h1, h2⟩ := seq_dn rm r1 e
    exact ⟨a, vs, rfl, h1, newL_dn rm up h2 q⟩
  · exact q.elim
def intR (xs : List U) (M : UHp) (Q : UK) : Prop := match xs with
  | [.int i] => Q (.int i) M
  | _ => False
theorem uc_int : UCallR X (.type "int") intR := CallR.mono call_int1 fun vs H Q h => by
  obtain ⟨xs, M, Qu, r, rm, q, up⟩ := h
  unfold intR at q
  split at q
  · obtain ⟨v, w, rfl, rfl, rfl⟩ := r
    exact .inl ⟨_, rfl, up _ _ _ _ q (Stab.refl H) rm rfl⟩
  · exact q.elim

/-! ### a[b] -/
def cutL {α : Type} (xs : List α) (lo hi : Option Int) : List α := (xs.drop (HT.sIx xs.length 0 lo)).take (HT.sIx xs.length xs.length hi - HT.sIx xs.length 0 lo)
theorem rel_at {K : PySem.W.Frag} {H : Hp} {xs : List U} {vs : List V} {i : Int} {x : U} (r : RelUs K H xs vs) (h : atI xs i = some x) : ∃ v, atI vs i = some v ∧ RelU K H x v := by
  unfold atI at h ⊢
  rw [r.length] at h
  cases e : ixN vs.length i with
  | none => rw [e] at h; cases h
  | some j =>
    rw [e] at h
    exact r.get h
def ixR (x : U) (y : U) (M : UHp) (Q : UK) : Prop := match x, y with
  | .str z, .int i => ∃ c, atI z.cps.toList i = some c ∧ Q (.str ⟨#[c]⟩) M
  | x, .int i => ∃ xs v, seqU M x = some xs ∧ atI xs i = some v ∧ Q v M
  | _, _ => False
theorem at_mem {α : Type} {xs : List α} {i : Int} {x : α} (h : atI xs i = some x) : x ∈ xs := by
  unfold atI at h
  cases e : ixN xs.length i with
  | none => rw [e] at h; cases h
  | some j => rw [e] at h; exact List.mem_of_getElem? h
theorem okS_one {z : Str} {c : Nat} (h : okS z = true) (hc : c ∈ z.cps.toList) : okS ⟨#[c]⟩ = true := by
  unfold okS
  rw [Bool.and_eq_true]
  refine ⟨decide_eq_true ?_, ?_⟩
  · show 1 ≤ sizeLine
    rw [sizeLine_eq]; decide
  · rw [strOk_iff]
    intro d hd
    have : d = c := by simpa using hd
    rw [this]; exact strOk_iff.mp (okS.ok h) c hc
theorem ui_ix : IxR X (dn2 X.K ixR) := fun value slice pins s σ H v w a b Q I rv rw h hs => by
  refine ix_seq value slice pins s σ H v w a b Q I rv rw ?_ hs
  obtain ⟨x, y, M, Qu, r1, r2, rm, q, up⟩ := h
  unfold ixR at q
  split at q
  · obtain ⟨rfl, k⟩ := r1
    obtain rfl := r2
    obtain ⟨c, e, q⟩ := q
    exact .inr (.inr ⟨_, _, c, rfl, rfl, okS.len k, e, up _ _ _ _ q (Stab.refl H) rm ⟨rfl, okS_one k (at_mem e)⟩⟩)
  · obtain rfl := r2
    obtain ⟨xs, z, e, e2, q⟩ := q
    obtain ⟨p, vs, rfl, h1, h2⟩ := seq_dn rm r1 e
    obtain ⟨v, e3, r3⟩ := rel_at h2 e2
    have fin := up _ _ _ _ q (Stab.refl H) rm r3
    rcases h1 with h1 | h1
    · exact .inl ⟨p, vs, _, v, rfl, rfl, h1, e3, fin⟩
    · exact .inr (.inl ⟨p, vs, _, v, rfl, rfl, h1, e3, fin⟩)
  · exact q.elim
theorem ue_ix {a b : Expr} {ta tb : UTE} (ha : UE X a ta) (hb : UE X b tb) (hs : PlainIx b := by exact fun _ _ => rfl) : UE X (.Subscript a b pos) (uOp ixR ta tb) := PE.mono (pe_ix ui_ix ha hb hs) dn_op

/-! ### slices -/
abbrev UTO := USt → UHp → (Option Int → UHp → Prop) → Prop
def dnO (K : PySem.W.Frag) (t : UTO) : TO := fun τ H Q => ∃ σ M Qu, RelS K H σ τ ∧ RelM K H M ∧ t σ M Qu ∧ ∀ i M' H', Qu i M' → Stab H H' → RelM K H' M' → Q i H'
abbrev UO (X : Cx) (e : Option Expr) (t : UTO) : Prop := PO X e (dnO X.K t)
theorem PO.mono {e : Option Expr} {t t' : TO} (h : PO X e t) (w : ∀ σ H Q, t' σ H Q → t σ H Q) : PO X e t' := ⟨fun pins s σ H Q I q => h.run pins s σ H Q I (w σ H Q q)⟩
def uNoPart (_ : USt) (M : UHp) (Q : Option Int → UHp → Prop) : Prop := Q none M
def uPart (te : UTE) (σ : USt) (M : UHp) (Q : Option Int → UHp → Prop) : Prop := te σ M fun x M1 => ∃ i, x = .int i ∧ Q (some i) M1
theorem uo_none : UO X none uNoPart := PO.mono po_none fun τ H Q h => by
  obtain ⟨σ, M, Qu, rs, rm, q, up⟩ := h
  exact up none M H q (Stab.refl H) rm
theorem uo_some {te : UTE} (h : UE X e te) : UO X (some e) (uPart te) := PO.mono (po_some h) fun τ H Q h => by
  obtain ⟨σ, M, Qu, rs, rm, q, up⟩ := h
  refine ⟨σ, M, _, rs, rm, q, fun x M1 v H1 q1 s1 m1 r1 => ?_⟩
  obtain ⟨i, rfl, q1⟩ := q1
  obtain rfl := r1
  exact ⟨i, rfl, up _ _ _ q1 s1 m1⟩
def slR (m : Bool) (x : U) (lo hi : Option Int) (M : UHp) (Q : UK) : Prop := match x with
  | .str z => Q (.str (cutS z lo hi)) M
  | .tup xs => Q (.tup (cutL xs lo hi)) M
  | x => ∃ xs, listU M x = some xs ∧ newL m (cutL xs lo hi) M Q
theorem okS_sub {z y : Str} (h : okS z = true) (hl : y.length ≤ z.length) (hm : ∀ c ∈ y.cps.toList, c ∈ z.cps.toList) : okS y = true := by
  unfold okS
  rw [Bool.and_eq_true]
  exact ⟨decide_eq_true (Nat.le_trans hl (okS.len h)), strOk_iff.mpr fun c hc => strOk_iff.mp (okS.ok h) c (hm c hc)⟩
theorem okS_cut {z : Str} (h : okS z = true) (lo hi : Option Int) : okS (cutS z lo hi) = true := by
  refine okS_sub h ?_ fun c hc => ?_
  · show ((z.cps.toList.drop _).take _).toArray.size ≤ z.cps.size
    rw [List.size_toArray, List.length_take, List.length_drop, Array.length_toList]
    omega
  · have : c ∈ ((z.cps.toList.drop (HT.sIx z.length 0 lo)).take (HT.sIx z.length z.length hi - HT.sIx z.length 0 lo)) := by
      have e : (cutS z lo hi).cps.toList = ((z.cps.toList.drop (HT.sIx z.length 0 lo)).take (HT.sIx z.length z.length hi - HT.sIx z.length 0 lo)) := by unfold cutS; simp
      rw [e] at hc; exact hc
    exact List.mem_of_mem_drop (List.mem_of_mem_take this)
theorem rel_cut {K : PySem.W.Frag} {H : Hp} {xs : List U} {vs : List V} (r : RelUs K H xs vs) (lo hi : Option Int) : RelUs K H (cutL xs lo hi) (cutV vs lo hi) := by
  unfold cutL cutV
  rw [r.length]
  exact (r.drop _).take _
theorem cut_whole {xs : List U} {lo hi : Option Int} (h : HT.sIx xs.length 0 lo = 0 ∧ HT.sIx xs.length xs.length hi = xs.length) : cutL xs lo hi = xs := by
  unfold cutL
  rw [h.1, h.2]; simp
def dnSl (K : PySem.W.Frag) (r : U → Option Int → Option Int → UHp → UK → Prop) : V → Option Int → Option Int → Hp → VK → Prop := fun v lo hi H Q => ∃ x M Qu, RelU K H x v ∧ RelM K H M ∧ r x lo hi M Qu ∧ UpK K H Qu Q
theorem ui_sl (m : Bool) : SlR X (dnSl X.K (slR m)) := fun pins s σ H v w vl vu lo hi sl Q I rv hs pl pu h => by
  obtain ⟨x, M, Qu, r1, rm, q, up⟩ := h
  unfold slR at q
  split at q
  · obtain ⟨rfl, k⟩ := r1
    exact sl_str pins s σ H _ w vl vu lo hi sl Q I rv hs pl pu ⟨_, rfl, okS.len k, up _ _ _ _ q (Stab.refl H) rm ⟨rfl, okS_cut k lo hi⟩⟩
  · rename_i xs
    obtain ⟨a, vs, rfl, h1, h2⟩ := r1
    refine sl_tupA pins s σ H _ w vl vu lo hi sl Q I rv hs pl pu ⟨a, vs, rfl, h1, fun hw => ?_, fun _ => newT_dn rm up (rel_cut h2 lo hi) q⟩
    rw [← h2.length] at hw
    rw [cut_whole hw] at q
    exact up _ _ _ _ q (Stab.refl H) rm ⟨a, vs, rfl, h1, h2⟩
  · obtain ⟨xs, e, q⟩ := q
    obtain ⟨a, vs, rfl, h1, h2⟩ := list_dn rm r1 e
    obtain ⟨T, id, k1, k2, k3⟩ := sl_list pins s σ H _ w vl vu lo hi sl (FzQ Q) I rv hs pl pu ⟨a, vs, rfl, h1, newL_dn rm up (rel_cut h2 lo hi) q⟩
    exact ⟨T, id, k1, k2, thn k3 fun _ _ => ep_fz⟩
def uSl (r : U → Option Int → Option Int → UHp → UK → Prop) (te : UTE) (tl th : UTO) (σ : USt) (M : UHp) (Q : UK) : Prop := te σ M fun x M1 => tl σ M1 fun l M2 => th σ M2 fun u M3 => r x l u M3 Q
theorem ue_slice (m : Bool) {lo hi : Option Expr} {te : UTE} {tl th : UTO} {p2 : Pos} (he : UE X e te) (hl : UO X lo tl) (hu : UO X hi th) : UE X (.Subscript e (.Slice lo hi none p2) pos) (uSl (slR m) te tl th) := PE.mono (pe_slice (ui_sl m) he hl hu) fun τ H Q h => by
  obtain ⟨σ, M, Qu, rs, rm, q, up⟩ := h
  refine ⟨σ, M, _, rs, rm, q, fun x M1 v H1 q1 s1 m1 r1 => ?_⟩
  refine ⟨σ, M1, _, rs.stab s1, m1, q1, fun l M2 H2 q2 s2 m2 => ?_⟩
  refine ⟨σ, M2, _, rs.stab (s1.trans s2), m2, q2, fun u M3 H3 q3 s3 m3 => ?_⟩
  exact ⟨x, M3, Qu, r1.stab (s2.trans s3), m3, q3, up.from ((s1.trans s2).trans s3)⟩

/-! ### a[i] = v -/
def setR (o i v : U) (M : UHp) (Q : UHp → Prop) : Prop := match o, i with
  | .ref a, .int k => ∃ xs j, M a = some (.lst xs) ∧ ixN xs.length k = some j ∧ Q (updM M a (.lst (xs.set j v)))
  | _, _ => False
def dnSet (K : PySem.W.Frag) (r : U → U → U → UHp → (UHp → Prop) → Prop) : TSet := fun o i v H Q => ∃ x y z M Qu, RelU K H x o ∧ RelU K H y i ∧ RelU K H z v ∧ RelM K H M ∧ r x y z M Qu ∧ ∀ M' H', Qu M' → Stab H H' → RelM K H' M' → Q H'
theorem ui_set : PSet X (dnSet X.K setR) := fun pins s σ H o i v ov iv u Q I ro ri rv h => by
  refine set_list pins s σ H o i v ov iv u Q I ro ri rv ?_
  obtain ⟨x, y, z, M, Qu, r1, r2, r3, rm, q, up⟩ := h
  unfold setR at q
  split at q
  · rename_i a k
    obtain rfl := r1
    obtain rfl := r2
    obtain ⟨xs, j, e, e2, q⟩ := q
    obtain ⟨vs, h1, h2⟩ := rm a _ e
    have s' : Stab H (upd H a (.lst (vs.set j v))) := Stab.lst h1
    exact ⟨a, vs, k, j, rfl, rfl, h1, by rw [← h2.length]; exact e2, up _ _ q s' (rm.write s' ⟨_, upd_same, (RelUs.set r3 j h2).stab s'⟩)⟩
  · exact q.elim
def uSub (r : U → U → U → UHp → (UHp → Prop) → Prop) (to ti : UTE) (v : U) (σ : USt) (M : UHp) (Q : USt → UHp → Prop) : Prop := to σ M fun o M1 => ti σ M1 fun i M2 => r o i v M2 fun M3 => Q σ M3
theorem ug_sub {r : U → U → U → UHp → (UHp → Prop) → Prop} {o i : Expr} {to ti : UTE} (hs : PSet X (dnSet X.K r)) (ho : UE X o to) (hi : UE X i ti)
    (ha : ∀ v, assign (.Subscript o i pos) X.env v = (do
      let ov ← holding [v] (eval o X.env)
      let iv ← holding [v, ov] (eval i X.env)
      standAt pos
      holding [v, ov, iv] (setItem ov iv v)
      release [v, ov, iv] []) := by intro _; rfl) : UG X (.Subscript o i pos) (uSub r to ti) := PG.mono (pg_sub ho hi hs ha) fun v τ H Q h => by
  obtain ⟨u, σ, M, Qu, ru, rs, rm, q, up⟩ := h
  refine ⟨σ, M, _, rs, rm, q, fun o M1 ov H1 q1 s1 m1 r1 => ?_⟩
  refine ⟨σ, M1, _, rs.stab s1, m1, q1, fun i M2 iv H2 q2 s2 m2 r2 => ?_⟩
  exact ⟨o, i, u, M2, _, r1.stab s2, r2, ru.stab (s1.trans s2), m2, q2, fun M3 H3 q3 s3 m3 => up _ _ _ _ q3 ((s1.trans s2).trans s3) m3 (rs.stab ((s1.trans s2).trans s3))⟩

/-! ### methods of built-in types -/
def tyMt (T : String) (M : UHp) (x : U) : Prop := match x with
  | .str _ => T = "str"
  | .lst _ => T = "list"
  | .ref a => (T = "list" ∧ ∃ xs, M a = some (.lst xs)) ∨ (T = "dict" ∧ ∃ kvs, M a = some (.dK kvs))
  | _ => False
theorem tyMt_dn {K : PySem.W.Frag} {H : Hp} {M : UHp} {x : U} {v : V} {T : String} (rm : RelM K H M) (r : RelU K H x v) (h : tyMt T M x) : tyV K T v H := by
  cases x with
  | str z => obtain ⟨rfl, _⟩ := r; exact h
  | lst xs => obtain ⟨a, vs, rfl, q, _⟩ := r; exact .inl ⟨h, vs, q.sq⟩
  | ref a =>
    obtain rfl := r
    rcases h with ⟨rfl, xs, e⟩ | ⟨rfl, kvs, e⟩
    · obtain ⟨vs, h1, _⟩ := rm a _ e; exact .inl ⟨rfl, vs, SqL.of h1⟩
    · obtain ⟨vs, h1, _⟩ := rm a _ e; exact .inr (.inr (.inl ⟨rfl, .inl ⟨vs, h1⟩⟩))
  | _ => exact False.elim h
def dnMt (K : PySem.W.Frag) (r : U → List U → UHp → UK → Prop) : V → List V → Hp → VK → Prop := fun v vs H Q => ∃ x xs M Qu, RelU K H x v ∧ RelUs K H xs vs ∧ RelM K H M ∧ r x xs M Qu ∧ UpK K H Qu Q
abbrev UMtR (X : Cx) (id : String) (r : U → List U → UHp → UK → Prop) : Prop := MtR X id (dnMt X.K r)
theorem MtR.mono {id : String} {r r' : V → List V → Hp → VK → Prop} (h : MtR X id r) (w : ∀ x xs H Q, r' x xs H Q → r x xs H Q) : MtR X id r' := fun pins s σ H x xs v us Q I rx rs q => h pins s σ H x xs v us Q I rx rs (w x xs H Q q)
theorem MtR.fz {id : String} {r r' : V → List V → Hp → VK → Prop} (h : MtR X id r) (w : ∀ x xs H Q, r' x xs H Q → r x xs H (FzQ Q)) : MtR X id r' := fun pins s σ H x xs v us Q I rx rs q =>
  thn (h pins s σ H x xs v us (FzQ Q) I rx rs (w x xs H Q q)) fun _ _ => ep_fz
def uBM (T : String) (r : U → List U → UHp → UK → Prop) (to : UTE) (t : UTA) (σ : USt) (M : UHp) (Q : UK) : Prop := to σ M fun x M1 => tyMt T M1 x ∧ t σ M1 fun xs M2 => r x xs M2 Q
theorem ue_bm {rm : U → List U → UHp → UK → Prop} {o : Expr} {to : UTE} {name : Str} {apos cpos : Pos} (pa : PlainAttrs T) (slot : Slot T name id) (hty : typeOf (.builtin id) = pure (.type "method_descriptor")) (hm : UMtR X id rm) (ho : UE X o to) (ha : UA X (e :: es) t)
    (hbase : attributeBase o name X.env (eval o X.env) = eval o X.env := by rfl)
    (hfew : ((backTo cpos (starEach (e :: es) X.env)).all (fun x => !x.1) && (backToKw cpos (keywordEach [] X.env)).all (fun x => x.1.isSome)
      && decide ((e :: es).length + ([] : List Keyword).length + (if ([] : List Keyword).isEmpty then 0 else 1) < 30)) = true := by rfl)
    (hline : (apos.endLine == cpos.line) = true := by rfl) (hs : starEach (e :: es) X.env = (false, eval e X.env) :: starEach es X.env := by rfl) (hplain : (backTo cpos (starEach es X.env)).any (·.1) = false := by rfl) :
    UE X (.Call (.Attribute o name apos) (e :: es) [] cpos) (uBM T rm to t) := PE.mono (pe_bm pa slot hty hm ho ha hbase hfew hline hs hplain) fun τ H Q h => by
  obtain ⟨σ, M, Qu, rs, m0, q, up⟩ := h
  refine ⟨σ, M, _, rs, m0, q, fun x M1 v H1 q1 s1 m1 r1 => ⟨tyMt_dn m1 r1 q1.1, ?_⟩⟩
  refine ⟨σ, M1, _, rs.stab s1, m1, q1.2, fun xs M2 vs H2 q2 s2 m2 r2 => ?_⟩
  exact ⟨x, xs, M2, Qu, r1.stab s2, r2, m2, q2, up.from (s1.trans s2)⟩
def uBM0 (T : String) (r : U → List U → UHp → UK → Prop) (to : UTE) (σ : USt) (M : UHp) (Q : UK) : Prop := to σ M fun x M1 => tyMt T M1 x ∧ r x [] M1 Q
theorem ue_bm0 {rm : U → List U → UHp → UK → Prop} {o : Expr} {to : UTE} {name : Str} {apos cpos : Pos} (pa : PlainAttrs T) (slot : Slot T name id) (hty : typeOf (.builtin id) = pure (.type "method_descriptor")) (hm : UMtR X id rm) (ho : UE X o to)
    (hbase : attributeBase o name X.env (eval o X.env) = eval o X.env := by rfl) (hline : (apos.endLine == cpos.line) = true := by rfl) : UE X (.Call (.Attribute o name apos) [] [] cpos) (uBM0 T rm to) := PE.mono (pe_bm0 pa slot hty hm ho hbase hline) fun τ H Q h => by
  obtain ⟨σ, M, Qu, rs, m0, q, up⟩ := h
  exact ⟨σ, M, _, rs, m0, q, fun x M1 v H1 q1 s1 m1 r1 => ⟨tyMt_dn m1 r1 q1.1, x, [], M1, Qu, r1, RelUs.nil, m1, q1.2, up.from s1⟩⟩
def appR (x : U) (xs : List U) (M : UHp) (Q : UK) : Prop := match x, xs with
  | .ref a, [y] => ∃ ys, M a = some (.lst ys) ∧ ys.length < sizeLine ∧ Q .non (updM M a (.lst (ys ++ [y])))
  | _, _ => False
theorem um_append : UMtR X "list.append" appR := MtR.mono mt_append fun v vs H Q h => by
  obtain ⟨x, xs, M, Qu, r1, r2, rm, q, up⟩ := h
  unfold appR at q
  split at q
  · rename_i a y
    obtain rfl := r1
    obtain ⟨w, t, rfl, rw, rfl⟩ := r2
    obtain ⟨ys, e, hl, q⟩ := q
    obtain ⟨vs, h1, h2⟩ := rm a _ e
    have s' : Stab H (upd H a (.lst (vs ++ [w]))) := Stab.lst h1
    exact ⟨a, vs, w, rfl, rfl, h1, by rw [← h2.length]; exact hl, up _ _ .non _ q s' (rm.write s' ⟨_, upd_same, (h2.append (RelUs.cons rw RelUs.nil)).stab s'⟩) rfl⟩
  · exact q.elim
def popR (x : U) (xs : List U) (M : UHp) (Q : UK) : Prop := match x, xs with
  | .ref a, [.int i] => ∃ ys k y, M a = some (.lst ys) ∧ i < 2 ^ 63 ∧ ixN ys.length i = some k ∧ ys[k]? = some y ∧ Q y (updM M a (.lst (ys.eraseIdx k)))
  | _, _ => False
theorem um_popAt : UMtR X "list.pop" popR := fun pins s σ H v vs u us Q I rv rvs h => by
  obtain ⟨x, xs, M, Qu, r1, r2, rm, q, up⟩ := h
  unfold popR at q
  split at q
  · rename_i a i
    obtain rfl := r1
    obtain ⟨w, t, rfl, rfl, rfl⟩ := r2
    obtain ⟨ys, k, y, e, hi, hk, hy, q⟩ := q
    obtain ⟨ws, h1, h2⟩ := rm a _ e
    obtain ⟨z, e3, r3⟩ := h2.get hy
    rw [h2.length] at hk
    obtain ⟨k1, k2, k3, k4⟩ := ixN_seq hk
    obtain ⟨hz, _⟩ := (show ObjOk X.prog X.w H s.heap a (.lst ws) from I.hok a _ h1)
    have hs := sizeLine_eq
    have s' : Stab H (upd H a (.lst (ws.eraseIdx k))) := Stab.lst h1
    exact mt_popAt pins s σ H _ _ u us Q I rv rvs ⟨a, ws, i, k, z, rfl, rfl, h1, by omega, hi, k1, e3, up _ _ _ _ q s' (rm.write s' ⟨_, upd_same, (RelUs.eraseIdx k h2).stab s'⟩) (r3.stab s')⟩
  · exact q.elim
def insR (x : U) (xs : List U) (M : UHp) (Q : UK) : Prop := match x, xs with
  | .ref a, [.int i, y] => ∃ ys, M a = some (.lst ys) ∧ ys.length < sizeLine ∧ 0 ≤ i ∧ i < 2 ^ 63 ∧ Q .non (updM M a (.lst (ys.take i.toNat ++ [y] ++ ys.drop i.toNat)))
  | _, _ => False
theorem um_insert : UMtR X "list.insert" insR := MtR.mono mt_insert fun v vs H Q h => by
  obtain ⟨x, xs, M, Qu, r1, r2, rm, q, up⟩ := h
  unfold insR at q
  split at q
  · rename_i a i y
    obtain rfl := r1
    obtain ⟨w, t, rfl, rfl, w2, t2, rfl, rw, rfl⟩ := r2
    obtain ⟨ys, e, hl, h0, hi, q⟩ := q
    obtain ⟨vs, h1, h2⟩ := rm a _ e
    have s' : Stab H (upd H a (.lst (vs.take i.toNat ++ [w2] ++ vs.drop i.toNat))) := Stab.lst h1
    exact ⟨a, vs, i, w2, rfl, rfl, h1, by rw [← h2.length]; exact hl, h0, hi, up _ _ .non _ q s' (rm.write s' ⟨_, upd_same, (((h2.take _).append (RelUs.cons rw RelUs.nil)).append (h2.drop _)).stab s'⟩) rfl⟩
  · exact q.elim
/-- the texts of a list -/
def strsU : List U → Option (List Str)
  | [] => some []
  | .str z :: r => (strsU r).map (z :: ·)
  | _ :: _ => none
theorem strsU_map {α : Type} (f : α → Str) (xs : List α) : strsU (xs.map fun x => .str (f x)) = some (xs.map f) := by
  induction xs with
  | nil => rfl
  | cons x xs ih => simp [strsU, ih]
theorem strsU_rel {K : PySem.W.Frag} {H : Hp} : ∀ {xs : List U} {vs : List V} {zs : List Str}, strsU xs = some zs → RelUs K H xs vs → vs = zs.map V.str ∧ ∀ z ∈ zs, okS z = true
  | [], _, _, h, r => by simp only [strsU, Option.some.injEq] at h; subst h; obtain rfl := r; exact ⟨rfl, by simp⟩
  | .str z :: xs, _, _, h, r => by
    simp only [strsU, Option.map_eq_some_iff] at h
    obtain ⟨ys, e, rfl⟩ := h
    obtain ⟨v, w, rfl, ⟨rfl, k⟩, t⟩ := r
    obtain ⟨rfl, hk⟩ := strsU_rel e t
    exact ⟨rfl, fun y hy => (List.mem_cons.mp hy).elim (fun e => e ▸ k) (hk y)⟩
  | .non :: _, _, _, h, _ => by simp [strsU] at h
  | .bl _ :: _, _, _, h, _ => by simp [strsU] at h
  | .int _ :: _, _, _, h, _ => by simp [strsU] at h
  | .ref _ :: _, _, _, h, _ => by simp [strsU] at h
  | .ty _ :: _, _, _, h, _ => by simp [strsU] at h
  | .tup _ :: _, _, _, h, _ => by simp [strsU] at h
  | .lst _ :: _, _, _, h, _ => by simp [strsU] at h
def joinR (x : U) (xs : List U) (M : UHp) (Q : UK) : Prop := match x, xs with
  | .str a, [y] => ∃ ys zs, seqU M y = some ys ∧ strsU ys = some zs ∧ (zs.map (·.length)).sum + zs.length * a.length ≤ 16777216 ∧ (okS a = true → (∀ z ∈ zs, okS z = true) → okS (Txt.join a zs) = true) ∧ Q (.str (Txt.join a zs)) M
  | _, _ => False
theorem um_join : UMtR X "str.join" joinR := MtR.mono mt_join fun v vs H Q h => by
  obtain ⟨x, xs, M, Qu, r1, r2, rm, q, up⟩ := h
  unfold joinR at q
  split at q
  · obtain ⟨rfl, ka⟩ := r1
    obtain ⟨w, t, rfl, rw, rfl⟩ := r2
    obtain ⟨ys, zs, e, e2, hz, hk, q⟩ := q
    obtain ⟨p, ws, rfl, h1, h2⟩ := seq_dn rm rw e
    obtain ⟨rfl, hks⟩ := strsU_rel e2 h2
    exact ⟨_, p, zs, rfl, rfl, h1, hz, up _ _ _ _ q (Stab.refl H) rm ⟨rfl, hk ka hks⟩⟩
  · exact q.elim
/-! in a text -/
def inStrR (neg : Bool) (x : U) (y : U) (M : UHp) (Q : UK) : Prop := match x, y with
  | .str a, .str b => Q (.bl (if neg then !(!(Builtin.Str.occurrences b a 0 b.length 1).isEmpty) else !(Builtin.Str.occurrences b a 0 b.length 1).isEmpty)) M
  | _, _ => False
theorem uo_inStr : UOpR X (compareOp .In) (inStrR false) := OpR.mono op_in_str fun v w H Q h => by
  obtain ⟨x, y, M, Qu, r1, r2, rm, q, up⟩ := h
  unfold inStrR at q
  split at q
  · obtain ⟨rfl, _⟩ := r1; obtain ⟨rfl, _⟩ := r2
    exact ⟨_, _, rfl, rfl, up _ _ _ _ q (Stab.refl H) rm rfl⟩
  · exact q.elim
end
end PU

set_option Elab.async false
set_option linter.all false
set_option maxRecDepth 100000
/-! UIter: and, or, not as values; for loops and comprehensions over U. -/
namespace PU
open PySem PySem.Spec PyProof.Rows L2

section
variable {X : Cx} {a b : Expr} {ta tb : UTE} {rest : List Expr} {pos : Pos}
def uOrV (ta tb : UTE) (σ : USt) (M : UHp) (Q : UK) : Prop := ta σ M fun x M1 => ∃ k, truU M1 x = some k ∧ if k = true then Q x M1 else tb σ M1 Q
def uAndV (ta tb : UTE) (σ : USt) (M : UHp) (Q : UK) : Prop := ta σ M fun x M1 => ∃ k, truU M1 x = some k ∧ if k = true then tb σ M1 Q else Q x M1
theorem ue_one {op} {t : UTE} (h : UE X a t) : UE X (.BoolOp op [a] pos) t := pe_one h
theorem ue_or (ha : UE X a ta) (hb : UE X (.BoolOp .Or (b :: rest) pos) tb) : UE X (.BoolOp .Or (a :: b :: rest) pos) (uOrV ta tb) := PE.mono (pe_orT ha hb) fun τ H Q h => by
  obtain ⟨σ, M, Qu, rs, rm, q, up⟩ := h
  refine ⟨σ, M, _, rs, rm, q, fun x M1 v H1 q1 s1 m1 r1 => ?_⟩
  obtain ⟨k, e, q1⟩ := q1
  refine ⟨k, tru_dn m1 r1 e, ?_⟩
  cases k with
  | true => simp only [if_true] at q1 ⊢; exact up _ _ _ _ q1 s1 m1 r1
  | false => simp only [Bool.false_eq_true, if_false] at q1 ⊢; exact ⟨σ, M1, _, rs.stab s1, m1, q1, up.from s1⟩
theorem ue_and (ha : UE X a ta) (hb : UE X (.BoolOp .And (b :: rest) pos) tb) : UE X (.BoolOp .And (a :: b :: rest) pos) (uAndV ta tb) := PE.mono (pe_andT ha hb) fun τ H Q h => by
  obtain ⟨σ, M, Qu, rs, rm, q, up⟩ := h
  refine ⟨σ, M, _, rs, rm, q, fun x M1 v H1 q1 s1 m1 r1 => ?_⟩
  obtain ⟨k, e, q1⟩ := q1
  refine ⟨k, tru_dn m1 r1 e, ?_⟩
  cases k with
  | true => simp only [if_true] at q1 ⊢; exact ⟨σ, M1, _, rs.stab s1, m1, q1, up.from s1⟩
  | false => simp only [Bool.false_eq_true, if_false] at q1 ⊢; exact up _ _ _ _ q1 s1 m1 r1
def uNotV (ta : UTE) (σ : USt) (M : UHp) (Q : UK) : Prop := ta σ M fun x M1 => ∃ k, truU M1 x = some k ∧ Q (.bl (!k)) M1
theorem ue_not (ha : UE X a ta) : UE X (.UnaryOp .Not a pos) (uNotV ta) := PE.mono (pe_notT ha) fun τ H Q h => by
  obtain ⟨σ, M, Qu, rs, rm, q, up⟩ := h
  refine ⟨σ, M, _, rs, rm, q, fun x M1 v H1 q1 s1 m1 r1 => ?_⟩
  obtain ⟨k, e, q1⟩ := q1
  exact ⟨k, tru_dn m1 r1 e, up _ _ _ _ q1 s1 m1 rfl⟩
end

/-! ### what is walked -/
/-- the items, and what has to stay -/
structure UIt where
  xs : List U
  st : UHp → Prop
abbrev UTI := USt → UHp → (UIt → UHp → Prop) → Prop
/-- J walks the items of it, from H on -/
def Lk (K : PySem.W.Frag) (it : UIt) (J : It) (H : Hp) : Prop := ∀ (i : Nat) (H' : Hp) (M' : UHp), Stab H H' → RelM K H' M' → it.st M' →
  (∀ x, it.xs[i]? = some x → J.go i H' ∧ ∀ v H2, J.yld i H' v H2 → Stab H' H2 ∧ RelU K H2 x v ∧ ∀ M2, RelM K H' M2 → RelM K H2 M2) ∧ (it.xs.length ≤ i → J.stop i H')
def dnI (K : PySem.W.Frag) (w : UTI) : TI := fun τ H R => ∃ σ M Ru, RelS K H σ τ ∧ RelM K H M ∧ w σ M Ru ∧ ∀ it M' J H', Ru it M' → Stab H H' → RelM K H' M' → Lk K it J H' → it.xs.length ≤ sizeLine → R J H'
abbrev UI (X : Cx) (tg iter : Expr) (w : UTI) : Prop := PI X tg iter (dnI X.K w)
theorem PI.mono {X : Cx} {tg iter : Expr} {w w' : TI} (h : PI X tg iter w) (k : ∀ σ H R, w' σ H R → w σ H R) : PI X tg iter w' := ⟨fun pins s σ H R I q => h.run pins s σ H R I (k σ H R q)⟩
section
variable {X : Cx} {tg l : Expr} {tl : UTE}
/-- a list, or a tuple -/
def uSeqI (te : UTE) (σ : USt) (M : UHp) (R : UIt → UHp → Prop) : Prop := te σ M fun x M1 => ∃ xs, listU M1 x = some xs ∧ R ⟨xs, fun M' => listU M' x = some xs⟩ M1
theorem lk_list {K : PySem.W.Frag} {H : Hp} {x : U} {xs : List U} {a : Addr} (r : RelU K H x (.ref a)) : Lk K ⟨xs, fun M' => listU M' x = some xs⟩ (Itl K a) H := fun i H' M' s m e => by
  obtain ⟨b, vs, e1, h1, h2⟩ := list_dn m (r.stab s) e
  cases e1
  refine ⟨fun y hy => ?_, fun hi => ⟨vs, h1, by rw [← h2.length]; exact hi⟩⟩
  obtain ⟨v, e2, rv⟩ := h2.get hy
  refine ⟨⟨vs, v, h1, e2⟩, fun w H2 hy => ?_⟩
  obtain ⟨rfl, hw⟩ := hy
  have := hw vs h1
  rw [e2] at this
  cases this
  exact ⟨Stab.refl _, rv, fun _ h => h⟩
/-- a text, sign by sign -/
def signs (z : Str) : List U := z.cps.toList.map fun c => .str ⟨#[c]⟩
theorem lk_str {K : PySem.W.Frag} {H : Hp} {z : Str} (k : okS z = true) : Lk K ⟨signs z, fun _ => True⟩ (Its z) H := fun i H' M' s m _ => by
  refine ⟨fun y hy => ?_, fun hi => (show z.cps.size ≤ i by simpa [signs] using hi)⟩
  have hy : (signs z)[i]? = some y := hy
  unfold signs at hy
  rw [List.getElem?_map] at hy
  cases e : z.cps.toList[i]? with
  | none => rw [e] at hy; cases hy
  | some c =>
    rw [e] at hy; cases hy
    have e' : z.cps[i]? = some c := by simpa using e
    have hi : i < z.cps.size := by
      by_cases h : i < z.cps.size
      · exact h
      · rw [Array.getElem?_eq_none (by omega)] at e'; cases e'
    refine ⟨hi, fun w H2 hw => ?_⟩
    obtain ⟨rfl, d, e2, rfl⟩ := hw
    rw [e'] at e2
    cases e2
    exact ⟨Stab.refl _, ⟨rfl, okS_one k (List.mem_of_getElem? e)⟩, fun _ h => h⟩
/-- either: by what it is -/
def uAnyI (te : UTE) (σ : USt) (M : UHp) (R : UIt → UHp → Prop) : Prop := te σ M fun x M1 => match x with
  | .tup xs => R ⟨xs, fun _ => True⟩ M1
  | .str z => R ⟨signs z, fun _ => True⟩ M1
  | x => ∃ xs, listU M1 x = some xs ∧ R ⟨xs, fun M' => listU M' x = some xs⟩ M1
def rangeU (lo : Int) (n : Nat) : List U := (List.range n).map fun i => .int (lo + (i : Nat))
theorem lk_range {K : PySem.W.Frag} {H : Hp} {lo : Int} {n : Nat} : Lk K ⟨rangeU lo n, fun _ => True⟩ (Itr lo n) H := fun i H' M' s m _ => by
  refine ⟨fun y hy => ?_, fun hi => (show n ≤ i by simpa [rangeU] using hi)⟩
  unfold rangeU at hy
  rw [List.getElem?_map] at hy
  have hi : i < n := by
    by_cases h : i < n
    · exact h
    · rw [List.getElem?_eq_none (by simpa using h)] at hy; cases hy
  rw [List.getElem?_range hi] at hy
  cases hy
  refine ⟨hi, fun w H2 hy => ?_⟩
  obtain ⟨rfl, rfl⟩ := hy
  exact ⟨Stab.refl _, rfl, fun _ h => h⟩
def uRng1 (ta : UTA) (σ : USt) (M : UHp) (R : UIt → UHp → Prop) : Prop := ta σ M fun us M1 => ∃ j : Int, us = [.int j] ∧ -(2 ^ 62) ≤ j ∧ j < 2 ^ 62 ∧ j.toNat ≤ sizeLine ∧ R ⟨rangeU 0 j.toNat, fun _ => True⟩ M1
theorem ui_range1 {a : Expr} {ta : UTA} {p pos : Pos} (hg : Gl X "range") (hm : X.mg "range" = none) (ha : UA X [a] ta) (hs : starEach [a] X.env = [(false, eval a X.env)] := by rfl) : UI X tg (.Call (.Name "range" p) [a] [] pos) (uRng1 ta) :=
  PI.mono (pi_range1 hg hm ha hs) fun τ H R h => by
    obtain ⟨σ, M, Ru, rs, rm, q, up⟩ := h
    refine ⟨σ, M, _, rs, rm, q, fun us M1 vs H1 q1 s1 m1 r1 => ?_⟩
    obtain ⟨j, rfl, h1, h2, hz, q1⟩ := q1
    obtain ⟨v, w, rfl, rfl, rfl⟩ := r1
    exact ⟨j, rfl, h1, h2, up _ _ _ _ q1 s1 m1 lk_range (by simpa [rangeU] using hz)⟩
def uRng2 (ta : UTA) (σ : USt) (M : UHp) (R : UIt → UHp → Prop) : Prop := ta σ M fun us M1 => ∃ i j : Int, us = [.int i, .int j] ∧ (-(2 ^ 62) ≤ i ∧ i < 2 ^ 62 ∧ -(2 ^ 62) ≤ j ∧ j < 2 ^ 62) ∧ (j - i).toNat ≤ sizeLine ∧ R ⟨rangeU i (j - i).toNat, fun _ => True⟩ M1
theorem ui_range2 {a b : Expr} {ta : UTA} {p pos : Pos} (hg : Gl X "range") (hm : X.mg "range" = none) (ha : UA X [a, b] ta) (hs : starEach [a, b] X.env = [(false, eval a X.env), (false, eval b X.env)] := by rfl) (hs2 : starEach [b] X.env = [(false, eval b X.env)] := by rfl) :
    UI X tg (.Call (.Name "range" p) [a, b] [] pos) (uRng2 ta) :=
  PI.mono (pi_range2 hg hm ha hs hs2) fun τ H R h => by
    obtain ⟨σ, M, Ru, rs, rm, q, up⟩ := h
    refine ⟨σ, M, _, rs, rm, q, fun us M1 vs H1 q1 s1 m1 r1 => ?_⟩
    obtain ⟨i, j, rfl, h1, hz, q1⟩ := q1
    obtain ⟨v, w, rfl, rfl, v2, w2, rfl, rfl, rfl⟩ := r1
    exact ⟨i, j, rfl, h1, up _ _ _ _ q1 s1 m1 lk_range (by simpa [rangeU] using hz)⟩
end

/-! ### a list or a tuple, whichever it is -/
section
variable {X : Cx} {tg l : Expr} {tl : UTE}
theorem ui_any (hl : UE X l tl) : UI X tg l (uAnyI tl) := by
  constructor
  intro pins s τ H R I h
  obtain ⟨σ, M, Ru, rs, rm, q, up⟩ := h
  refine thn (hl.run pins s τ H (fun v H1 => (∃ a ys, v = .ref a ∧ SqL X.K H1 a ys ∧ (ys.length ≤ sizeLine → R (Itl X.K a) H1)) ∨ (∃ a ys, v = .ref a ∧ SqT X.K H1 a ys ∧ (ys.length ≤ sizeLine → R (Itt X.K a) H1)) ∨ ∃ z, v = .str z ∧ R (Its z) H1) I ⟨σ, M, _, rs, rm, q, fun x M1 v H1 q1 s1 m1 r1 => ?_⟩) fun v s1 ⟨x, H1, I1, r1, q1⟩ => ?_
  · split at q1
    · rename_i xs
      obtain ⟨a, vs, rfl, h1, h2⟩ := r1
      refine .inr (.inl ⟨a, vs, rfl, h1, fun hz => up _ _ _ _ q1 s1 m1 (fun i H' M' s m _ => ?_) (by show xs.length ≤ sizeLine; rw [h2.length]; exact hz)⟩)
      have h1' := SqT.stab s h1
      have h2' := h2.stab s
      refine ⟨fun y hy => ?_, fun hi => ⟨vs, h1', by rw [← h2'.length]; exact hi⟩⟩
      obtain ⟨v, e2, rv⟩ := h2'.get hy
      refine ⟨⟨vs, v, h1', e2⟩, fun w H2 hy => ?_⟩
      obtain ⟨rfl, hw⟩ := hy
      have := hw vs h1'
      rw [e2] at this
      cases this
      exact ⟨Stab.refl _, rv, fun _ h => h⟩
    · rename_i z
      obtain ⟨rfl, k⟩ := r1
      exact .inr (.inr ⟨z, rfl, up _ _ _ _ q1 s1 m1 (lk_str k) (by show (signs z).length ≤ sizeLine; unfold signs; rw [List.length_map, Array.length_toList]; exact okS.len k)⟩)
    · obtain ⟨xs, e, q1⟩ := q1
      obtain ⟨a, vs, rfl, h1, h2⟩ := list_dn m1 r1 e
      exact .inl ⟨a, vs, rfl, h1, fun hz => up _ _ _ _ q1 s1 m1 (lk_list r1) (by show xs.length ≤ sizeLine; rw [h2.length]; exact hz)⟩
  · rcases q1 with ⟨a, ys, rfl, hq, q1⟩ | ⟨a, ys, rfl, hq, q1⟩ | ⟨z, rfl, q1⟩
    · cases r1
      obtain ⟨its, rv, p, hz⟩ := I1.list hq
      exact wpAny_pyIter_list p.isList (pi_one (tk := s1.toks) I1 _ (turn_list a _) ⟨_, Heap.get?_push_size _ rfl, rfl, rfl⟩ (q1 hz))
    · cases r1
      obtain ⟨its, rv, p, hz⟩ := I1.tuple hq
      exact wpAny_pyIter_tuple (show s1.heap.IsTuple a its.toArray from p) (pi_one (tk := s1.toks) I1 _ (turn_tuple a _) ⟨_, Heap.get?_push_size _ rfl, rfl, rfl⟩ (q1 hz))
    · obtain ⟨t, rfl⟩ := r1
      cases ha : z.cps.all (· < 128)
      · exact wpAny_pyIter_wide ha (pi_one (tk := s1.toks) I1 _ (turn_str _ z t "str_iterator" (.inr rfl)) ⟨_, Heap.get?_push_size _ rfl, rfl, rfl⟩ q1)
      · exact wpAny_pyIter_ascii ha (pi_one (tk := s1.toks) I1 _ (turn_str _ z t "str_ascii_iterator" (.inl rfl)) ⟨_, Heap.get?_push_size _ rfl, rfl, rfl⟩ q1)
end

/-! ### for -/
def uForGo (g : UTG) (tb : UTS) (st : UHp → Prop) (D : UEnds) : List U → USt → UHp → Prop
  | [], σ, M => st M ∧ D.nx σ M
  | x :: r, σ, M => st M ∧ g x σ M fun σ2 M2 => tb { D with nx := uForGo g tb st D r, ct := uForGo g tb st D r, bk := D.nx } σ2 M2
def uFor (w : UTI) (g : UTG) (tb : UTS) (D : UEnds) (σ : USt) (M : UHp) : Prop := w σ M fun it M1 => uForGo g tb it.st D it.xs σ M1
theorem dn_for {K : PySem.W.Frag} {w : UTI} {g : UTG} {tb : UTS} : ∀ D τ H, dnS K (uFor w g tb) D τ H → tFor (dnI K w) (dnG K g) (dnS K tb) D τ H := fun D τ H h => by
  obtain ⟨σ, M, Du, rs, rm, q, up⟩ := h
  refine ⟨σ, M, _, rs, rm, q, fun it M1 J H1 q1 s1 m1 lk _ => ?_⟩
  refine ⟨fun i m τ' H' => m = it.xs.length - i ∧ i ≤ it.xs.length ∧ ∃ σ' M', Stab H1 H' ∧ RelS K H' σ' τ' ∧ RelM K H' M' ∧ uForGo g tb it.st Du (it.xs.drop i) σ' M', ⟨it.xs.length, by simp, Nat.zero_le _, σ, M1, Stab.refl _, rs.stab s1, m1, q1⟩, ?_⟩
  rintro i m τ' H' ⟨rfl, hi, σ', M', s', rs', rm', q'⟩
  by_cases hlt : i < it.xs.length
  · right
    have hx : it.xs[i]? = some it.xs[i] := List.getElem?_eq_getElem hlt
    rw [List.drop_eq_getElem_cons hlt] at q'
    obtain ⟨hst, q'⟩ := q'
    obtain ⟨go, stop⟩ := lk i H' M' s' rm' hst
    obtain ⟨hgo, hy⟩ := go _ hx
    refine ⟨hgo, fun τ2 H2 => ∃ σ2 M2, Stab H1 H2 ∧ RelS K H2 σ2 τ2 ∧ RelM K H2 M2 ∧ uForGo g tb it.st Du (it.xs.drop (i + 1)) σ2 M2, fun τ2 H2 n2 => ⟨it.xs.length - (i + 1), by omega, rfl, hlt, n2⟩, fun v H2 y => ?_⟩
    obtain ⟨s2, ru, m2⟩ := hy v H2 y
    refine ⟨it.xs[i], σ', M', _, ru, rs'.stab s2, m2 _ rm', q', fun σ3 M3 τ3 H3 q3 s3 m3 r3 => ?_⟩
    have s13 : Stab H1 H3 := (s'.trans s2).trans s3
    refine ⟨σ3, M3, _, r3, m3, q3, ?_⟩
    have nx : UpS K H3 (uForGo g tb it.st Du (it.xs.drop (i + 1))) (fun τ2 H2 => ∃ σ2 M2, Stab H1 H2 ∧ RelS K H2 σ2 τ2 ∧ RelM K H2 M2 ∧ uForGo g tb it.st Du (it.xs.drop (i + 1)) σ2 M2) :=
      fun σ4 M4 τ4 H4 q4 s4 m4 r4 => ⟨σ4, M4, s13.trans s4, r4, m4, q4⟩
    exact ⟨nx, up.rt.from (s1.trans s13), up.nx.from (s1.trans s13), nx⟩
  · left
    have e : i = it.xs.length := by omega
    subst e
    rw [List.drop_length] at q'
    obtain ⟨hst, q'⟩ := q'
    obtain ⟨_, stop⟩ := lk _ H' M' s' rm' hst
    exact ⟨stop (Nat.le_refl _), up.nx _ _ _ _ q' (s1.trans s') rm' rs'⟩
theorem us_for {X : Cx} {tg iter : Expr} {body : List Stmt} {w : UTI} {g : UTG} {tb : UTS} {pos : Pos} (hp : PassesOwn (model X.prog X.w) X.A X.env X.xe) (hc : X.calm = true) (hi : UI X tg iter w) (hg : UG X tg g) (hb : USs X body tb)
    (hs : ∀ x, foldedSetIterable iter X.env x = pure x := by intro _; rfl) : US X (.For tg iter body [] pos) (uFor w g tb) := PS.mono (ps_for hp hc hi hg hb hs) dn_for

/-! ### comprehensions -/
theorem wipe_wipe (τ : L2.St) (vs : List Nat) : wipe (wipe τ vs) vs = wipe τ vs := by
  have comm : ∀ (l : List Nat) (τ : L2.St) (j : Nat), wipe (τ.set j none) l = (wipe τ l).set j none := by
    intro l
    induction l with
    | nil => intro τ j; rfl
    | cons a l ih =>
      intro τ j
      show (wipe (τ.set j none) l).set a none = ((wipe τ l).set a none).set j none
      rw [ih τ j]
      by_cases h : a = j
      · subst h; rfl
      · rw [List.set_comm _ _ (Ne.symm h)]
  induction vs with
  | nil => rfl
  | cons a l ih =>
    show (wipe ((wipe τ l).set a none) l).set a none = (wipe τ l).set a none
    rw [comm, ih, List.set_set]
def wipeU (σ : USt) : List Nat → USt
  | [] => σ
  | v :: vs => (wipeU σ vs).set v none
theorem rel_wipe {K : PySem.W.Frag} {H : Hp} {σ : USt} {τ : L2.St} (r : RelS K H σ τ) : ∀ vs : List Nat, RelS K H (wipeU σ vs) (wipe τ vs)
  | [] => r
  | v :: vs => (rel_wipe r vs).unset v none
/-- a target that is names: by their slots -/
inductive NT where
  | one (i : Nat)
  | tup (ts : List NT)
mutual
def NT.put : NT → U → USt → Option USt
  | .one i, u, σ => some (σ.set i (some u))
  | .tup ts, u, σ => match u with
    | .tup us => puts ts us σ
    | _ => none
def puts : List NT → List U → USt → Option USt
  | [], [], σ => some σ
  | t :: ts, u :: us, σ => match t.put u σ with
    | some σ' => puts ts us σ'
    | none => none
  | _, _, _ => none
end
mutual
def NT.gt (K : PySem.W.Frag) : NT → TG
  | .one i => gName i
  | .tup ts => gTup K ts.length (gts K ts)
def gts (K : PySem.W.Frag) : List NT → TGs
  | [] => gNil
  | t :: ts => gCons (t.gt K) (gts K ts)
end
mutual
def NT.slots : NT → List Nat
  | .one i => [i]
  | .tup ts => slotss ts
def slotss : List NT → List Nat
  | [] => []
  | t :: ts => t.slots ++ slotss ts
end
theorem wipe_set {τ : L2.St} {i : Nat} {o : Option V} : ∀ {vs : List Nat}, i ∈ vs → wipe (τ.set i o) vs = wipe τ vs
  | v :: vs, h => by
    have comm : ∀ (l : List Nat) (τ : L2.St) (o : Option V) (j : Nat), j ∉ l → wipe (τ.set j o) l = (wipe τ l).set j o := by
      intro l
      induction l with
      | nil => intro τ o j _; rfl
      | cons a l ih =>
        intro τ o j hj
        simp only [List.mem_cons, not_or] at hj
        show (wipe (τ.set j o) l).set a none = ((wipe τ l).set a none).set j o
        rw [ih τ o j hj.2, List.set_comm _ _ (Ne.symm hj.1)]
    show (wipe (τ.set i o) vs).set v none = (wipe τ vs).set v none
    by_cases hi : i ∈ vs
    · rw [wipe_set hi]
    · have e : i = v := by
        rcases List.mem_cons.mp h with h | h
        · exact h
        · exact absurd h hi
      subst e
      rw [comm vs τ o i hi, List.set_set]
mutual
theorem nt_gt {K : PySem.W.Frag} {H : Hp} {vs : List Nat} : ∀ (t : NT) (u : U) (v : V) (σ σ' : USt) (τ : L2.St) (Q : L2.St → Hp → Prop), (∀ i ∈ t.slots, i ∈ vs) → RelU K H u v → RelS K H σ τ → t.put u σ = some σ' →
    (∀ τ', RelS K H σ' τ' → wipe τ' vs = wipe τ vs → Q τ' H) → t.gt K v τ H Q
  | .one i, u, v, σ, σ', τ, Q, hs, ru, rs, e, q => by
    simp only [NT.put, Option.some.injEq] at e
    subst e
    simp only [NT.gt]
    exact q _ (rs.set ru i) (wipe_set (hs i (by simp [NT.slots])))
  | .tup ts, u, v, σ, σ', τ, Q, hs, ru, rs, e, q => by
    cases u with
    | tup us =>
      simp only [NT.put] at e
      obtain ⟨a, ws, rfl, h1, h2⟩ := ru
      simp only [NT.gt]
      have hl := puts_len ts us σ σ' e
      exact ⟨a, ws, rfl, h1, by rw [← h2.length, hl], nts_gt ts us ws σ σ' τ Q (fun i hi => hs i (by simpa [NT.slots] using hi)) h2 rs e q⟩
    | _ => simp [NT.put] at e
theorem nts_gt {K : PySem.W.Frag} {H : Hp} {vs : List Nat} : ∀ (ts : List NT) (us : List U) (ws : List V) (σ σ' : USt) (τ : L2.St) (Q : L2.St → Hp → Prop), (∀ i ∈ slotss ts, i ∈ vs) → RelUs K H us ws → RelS K H σ τ → puts ts us σ = some σ' →
    (∀ τ', RelS K H σ' τ' → wipe τ' vs = wipe τ vs → Q τ' H) → gts K ts ws τ H Q
  | [], us, ws, σ, σ', τ, Q, _, ru, rs, e, q => by
    cases us with
    | nil =>
      simp only [puts, Option.some.injEq] at e
      subst e
      obtain rfl := ru
      exact ⟨rfl, q _ rs rfl⟩
    | cons _ _ => simp [puts] at e
  | t :: ts, us, ws, σ, σ', τ, Q, hs, ru, rs, e, q => by
    cases us with
    | nil => simp [puts] at e
    | cons u us =>
      obtain ⟨v, r, rfl, r1, r2⟩ := ru
      simp only [puts] at e
      cases e1 : t.put u σ with
      | none => rw [e1] at e; cases e
      | some σ1 =>
        rw [e1] at e
        refine ⟨v, r, rfl, nt_gt t u v σ σ1 τ _ (fun i hi => hs i (by simp [slotss, hi])) r1 rs e1 fun τ1 rs1 w1 => ?_⟩
        exact nts_gt ts us r σ1 σ' τ1 Q (fun i hi => hs i (by simp [slotss, hi])) r2 rs1 e fun τ2 rs2 w2 => q τ2 rs2 (w2.trans w1)
theorem puts_len : ∀ (ts : List NT) (us : List U) (σ σ' : USt), puts ts us σ = some σ' → us.length = ts.length
  | [], us, σ, σ', e => by cases us with
    | nil => rfl
    | cons _ _ => simp [puts] at e
  | t :: ts, us, σ, σ', e => by
    cases us with
    | nil => simp [puts] at e
    | cons u us =>
      simp only [puts] at e
      cases e1 : t.put u σ with
      | none => rw [e1] at e; cases e
      | some σ1 =>
        rw [e1] at e
        simp [puts_len ts us σ1 σ' e]
end
def uLcGo (D : Addr) (n : NT) (tt : UTT) (te : UTE) (st : UHp → Prop) (σ : USt) (R : List U → UHp → Prop) : List U → List U → UHp → Prop
  | [], acc, M => st M ∧ R acc M
  | x :: r, acc, M => st M ∧ ∃ σ2, n.put x σ = some σ2 ∧ tt σ2 M fun b M3 => if b = true then te σ2 M3 fun y M4 => M4 D = some (.lst acc) ∧ uLcGo D n tt te st σ R r (acc ++ [y]) (updM M4 D (.lst (acc ++ [y])))
      else M3 D = some (.lst acc) ∧ uLcGo D n tt te st σ R r acc M3
/-- what is done with the new list at D: by address, or by value from then on -/
def finL (m : Bool) (D : Addr) (acc : List U) (M : UHp) (Q : UK) : Prop := if m = true then Q (.ref D) M else Q (.lst acc) (delM M D)
def uLc (m : Bool) (w : UTI) (n : NT) (tt : UTT) (te : UTE) (vs : List Nat) (σ : USt) (M : UHp) (Q : UK) : Prop := w σ M fun it M1 => ∀ D, M1 D = none → uLcGo D n tt te it.st (wipeU σ vs) (fun acc M2 => M2 D = some (.lst acc) ∧ finL m D acc M2 Q) it.xs [] (updM M1 D (.lst []))
theorem finL_dn {K : PySem.W.Frag} {H : Hp} {M : UHp} {Qu : UK} {Q : VK} {m : Bool} {D : Addr} {acc : List U} (rm : RelM K H M) (up : UpK K H Qu Q) (e : M D = some (.lst acc)) (h : finL m D acc M Qu) : FzQ Q (.ref D) H := by
  cases m with
  | true => exact .inl (up _ _ (.ref D) H h (Stab.refl H) rm rfl)
  | false =>
    have h : Qu (.lst acc) (delM M D) := h
    exact zq_dn up (.ref D) M (.ref D) H (.inr ⟨D, acc, rfl, e, h⟩) (Stab.refl H) rm rfl
theorem dn_lc {K : PySem.W.Frag} {m : Bool} {w : UTI} {n : NT} {tt : UTT} {te : UTE} {vs : List Nat} (hn : ∀ i ∈ n.slots, i ∈ vs) : ∀ τ H Q Q', (∀ v H, FzQ Q v H → Q' v H) → dnE K (uLc m w n tt te vs) τ H Q → tLc (dnI K w) (n.gt K) (dnT K tt) (dnE K te) vs τ H Q' := fun τ H Q Q' hQ h => by
  obtain ⟨σ, M, Qu, rs, rm, q, up⟩ := h
  refine ⟨σ, M, _, rs, rm, q, fun it M1 J H1 q1 s1 m1 lk hz D hD => ?_⟩
  have sD : Stab H1 (upd H1 D (.lst [])) := Stab.new hD
  have q1 := q1 D (m1.none hD)
  refine ⟨fun i k H' => k = it.xs.length - i ∧ i ≤ it.xs.length ∧ ∃ acc M', Stab H1 H' ∧ M' D = some (.lst acc) ∧ acc.length ≤ i ∧ RelM K H' M' ∧ uLcGo D n tt te it.st (wipeU σ vs) (fun acc M2 => M2 D = some (.lst acc) ∧ finL m D acc M2 Qu) (it.xs.drop i) acc M',
    ⟨it.xs.length, by simp, Nat.zero_le _, [], _, sD, updM_same, Nat.le_refl _, m1.write (o := .lst []) sD ⟨[], upd_same, RelUs.nil⟩, q1⟩, ?_⟩
  rintro i k H' ⟨rfl, hi, acc, M', s', hMD, hla, rm', q'⟩
  by_cases hlt : i < it.xs.length
  · right
    have hx : it.xs[i]? = some it.xs[i] := List.getElem?_eq_getElem hlt
    rw [List.drop_eq_getElem_cons hlt] at q'
    obtain ⟨hst, σ2, hput, q'⟩ := q'
    obtain ⟨go, stop⟩ := lk i H' M' s' rm' hst
    obtain ⟨hgo, hy⟩ := go _ hx
    refine ⟨hgo, fun H2 => ∃ acc M2, Stab H1 H2 ∧ M2 D = some (.lst acc) ∧ acc.length ≤ i + 1 ∧ RelM K H2 M2 ∧ uLcGo D n tt te it.st (wipeU σ vs) (fun acc M2 => M2 D = some (.lst acc) ∧ finL m D acc M2 Qu) (it.xs.drop (i + 1)) acc M2,
      fun H2 n2 => ⟨it.xs.length - (i + 1), by omega, rfl, hlt, n2⟩, fun v H2 y => ?_⟩
    obtain ⟨s2, ru, m2⟩ := hy v H2 y
    have s12 : Stab H1 H2 := s'.trans s2
    refine nt_gt n it.xs[i] v (wipeU σ vs) σ2 (wipe τ vs) _ hn ru (rel_wipe (rs.stab (s1.trans s12)) vs) hput fun τ2 rs2 w2 => ⟨by rw [w2]; exact wipe_wipe τ vs, ?_⟩
    refine ⟨σ2, M', _, rs2, m2 _ rm', q', fun b M3 H3 q3 s3 m3 => ?_⟩
    cases b with
    | false =>
      simp only [Bool.false_eq_true, if_false] at q3 ⊢
      exact ⟨acc, M3, s12.trans s3, q3.1, by omega, m3, q3.2⟩
    | true =>
      simp only [if_true] at q3 ⊢
      refine ⟨σ2, M3, _, rs2.stab s3, m3, q3, fun y M4 v4 H4 q4 s4 m4 r4 => ?_⟩
      obtain ⟨e4, q4⟩ := q4
      obtain ⟨ws, hD4, hr4⟩ := m4 D _ e4
      have s5 : Stab H4 (upd H4 D (.lst (ws ++ [v4]))) := Stab.lst hD4
      refine ⟨ws, hD4, by rw [← hr4.length]; omega, acc ++ [y], _, ((s12.trans s3).trans s4).trans s5, updM_same, by simp; omega, m4.write s5 ⟨_, upd_same, (hr4.append (RelUs.cons r4 RelUs.nil)).stab s5⟩, q4⟩
  · left
    have e : i = it.xs.length := by omega
    subst e
    rw [List.drop_length] at q'
    obtain ⟨hst, e2, q'⟩ := q'
    obtain ⟨_, stop⟩ := lk _ H' M' s' rm' hst
    exact ⟨stop (Nat.le_refl _), hQ _ _ (finL_dn rm' (up.from (s1.trans s')) e2 q')⟩
section
variable {X : Cx} {elt tg iter : Expr} {ifs : List Expr} {scope : Scope} {own : List (Str × Nat)} {pos : Pos} {w : UTI} {n : NT} {tt : UTT} {te : UTE}
abbrev UTs (X : Cx) (ifs : List Expr) (t : UTT) : Prop := PTs X ifs (dnT X.K t)
def uYes (_ : USt) (M : UHp) (Q : Bool → UHp → Prop) : Prop := Q true M
theorem uts_nil : UTs X [] uYes := ⟨fun pins s τ H Q I h => pts_nil.run pins s τ H Q I (by
  obtain ⟨σ, M, Qu, rs, rm, q, up⟩ := h
  exact up true M H q (Stab.refl H) rm)⟩
theorem uts_one {c : Expr} {t : UTT} (h : UT X c t) : UTs X [c] t := pts_one h
theorem ue_lc (m : Bool) (hc : X.calm = true) (hN : X.N.Nodup) (hi : UI X tg iter w) (ok : BlkOk X.N X.env.scope scope own) (hn : ∀ i ∈ n.slots, i ∈ own.map (·.2))
    (hg : ∀ (s : Shared) (H : Hp) (C : Addr) (cl : List (Str × Addr)) (fp : List Addr), PG (X.blk s H scope (compEnvC scope cl C X.env) fp) tg (n.gt X.K)) (ht : ∀ (s : Shared) (H : Hp) (C : Addr) (cl : List (Str × Addr)) (fp : List Addr), UTs (X.blk s H scope (compEnvC scope cl C X.env) fp) ifs tt)
    (he : ∀ (s : Shared) (H : Hp) (C : Addr) (cl : List (Str × Addr)) (fp : List Addr), UE (X.blk s H scope (compEnvC scope cl C X.env) fp) elt te) (hs : ∀ x, foldedSetIterable iter X.env x = pure x := by intro _; rfl) :
    UE X (.ListComp elt [⟨tg, iter, ifs, 0⟩] scope pos) (uLc m w n tt te (own.map (·.2))) := PE.fz (pe_lc hc hN hi ok hg ht he hs) fun τ H Q h => dn_lc hn τ H Q _ (fun _ _ q => q) h
def FzN (N : L2.St → Hp → Prop) : L2.St → Hp → Prop := fun τ H => N τ H ∨ ∃ a xs, H a = some (.lst xs) ∧ ∀ o, N τ (upd H a (.frz o (.lst xs)))
theorem PS.fz {st : Stmt} {t t' : TS} (h : PS X st t) (w : ∀ D τ H, t' D τ H → t { D with nx := FzN D.nx } τ H) : PS X st t' := ⟨fun pins s τ H D I q => thn (h.run pins s τ H _ I (w D τ H q)) fun f s1 q1 => by
  cases f with
  | next =>
    obtain ⟨τ', H', I', q1⟩ := q1
    rcases q1 with q1 | ⟨a, xs, e, q1⟩
    · exact ⟨τ', H', I', q1⟩
    · obtain ⟨od, I2⟩ := I'.lock e True.intro
      exact ⟨τ', _, I2, q1 od⟩
  | _ => exact q1⟩
/-- name = [..] on one line, the name a local -/
theorem us_setLc (m : Bool) {i : Nat} {y : Str} {py spos : Pos} (hc : X.calm = true) (hN : X.N.Nodup) (hy : X.N[i]? = some y) (hyl : X.env.scope.names.lookup y = some .local)
    (hsw : swapsWith (.ListComp elt [⟨tg, iter, ifs, 0⟩] scope pos) (some (.Name y py)) spos.line X.env = pure true) (hi : UI X tg iter w) (ok : BlkOk X.N X.env.scope scope own) (hn : ∀ i ∈ n.slots, i ∈ own.map (·.2))
    (hg : ∀ (s : Shared) (H : Hp) (C : Addr) (cl : List (Str × Addr)) (fp : List Addr), PG (X.blk s H scope (compEnvC scope cl C X.env) fp) tg (n.gt X.K)) (ht : ∀ (s : Shared) (H : Hp) (C : Addr) (cl : List (Str × Addr)) (fp : List Addr), UTs (X.blk s H scope (compEnvC scope cl C X.env) fp) ifs tt)
    (he : ∀ (s : Shared) (H : Hp) (C : Addr) (cl : List (Str × Addr)) (fp : List Addr), UE (X.blk s H scope (compEnvC scope cl C X.env) fp) elt te) (hs : ∀ x, foldedSetIterable iter X.env x = pure x := by intro _; rfl) :
    US X (.Assign [.Name y py] (.ListComp elt [⟨tg, iter, ifs, 0⟩] scope pos) spos) (uAsg (uLc m w n tt te (own.map (·.2))) (uName i)) :=
  PS.fz (ps_setLc hc hN hy hyl hsw hi ok hg ht he hs) fun D τ H h => by
    obtain ⟨σ, M, Du, rs, rm, q, up⟩ := h
    refine dn_lc hn τ H (fun v H1 => D.nx (τ.set i (some v)) H1) _ (fun v H1 q1 => ?_) ⟨σ, M, _, rs, rm, q, fun x M1 v H1 q1 s1 m1 r1 => up.nx _ _ _ _ q1 s1 m1 ((rs.stab s1).set r1 i)⟩
    rcases q1 with q1 | ⟨a, xs, rfl, e, q1⟩
    · exact .inl q1
    · exact .inr ⟨a, xs, e, q1⟩
end
end PU

set_option Elab.async false
set_option linter.all false
set_option maxRecDepth 100000
/-! UMore: in, not in; name op= e; targets; the comprehension of a pure element. -/
namespace PU
open PySem PySem.Spec PyProof.Rows L2

section
variable {X : Cx}
def inStr (a b : Str) : Bool := !(Builtin.Str.occurrences b a 0 b.length 1).isEmpty
def inU (x : U) (xs : List U) : Bool := xs.any fun y => ueq y x
theorem any_toD {x : U} {d : PyData} (hx : toD x = some d) : ∀ (xs : List U) (ds : List PyData), toDs xs = some ds → (ds.any fun y => PyData.eqv y d) = inU x xs
  | [], _, h => by simp only [toDs, Option.some.injEq] at h; subst h; rfl
  | y :: ys, ds, h => by
    simp only [toDs] at h
    cases e : toD y <;> cases e2 : toDs ys <;> rw [e, e2] at h <;> simp at h
    subst h
    simp only [inU, List.any_cons]
    rw [eqv_toD y x _ _ e hx]
    exact congrArg _ (any_toD hx ys _ e2)
def inR (neg : Bool) (x : U) (y : U) (M : UHp) (Q : UK) : Prop := match y with
  | .str b => ∃ a, x = .str a ∧ Q (.bl (if neg then !inStr a b else inStr a b)) M
  | .tup xs => isDs xs = true ∧ isD x = true ∧ (deps xs ≤ 64 ∨ dep x ≤ 64) ∧ Q (.bl (if neg then !inU x xs else inU x xs)) M
  | .lst xs => isDs xs = true ∧ isD x = true ∧ (deps xs ≤ 64 ∨ dep x ≤ 64) ∧ Q (.bl (if neg then !inU x xs else inU x xs)) M
  | .ref a => ∃ xs, M a = some (.lst xs) ∧ isDs xs = true ∧ isD x = true ∧ (deps xs ≤ 64 ∨ dep x ≤ 64) ∧ Q (.bl (if neg then !inU x xs else inU x xs)) M
  | _ => False
theorem room_dep {a b k : Nat} (h : a ≤ 64 ∨ b ≤ 64) (hu : k + 200 < cLine) : k + 1 + min a b < cLine := by
  have h1 : min a b ≤ a := Nat.min_le_left _ _
  have h2 : min a b ≤ b := Nat.min_le_right _ _
  omega
theorem in_seq_dn {f : Value → Value → Sem Value} {pins : List (Addr × Obj)} {τ : L2.St} {H : Hp} {s : Shared} {Q : VK} {M : UHp} {Qu : UK} {x : U} {xs : List U} {vx vy : V} {u v : Value} {neg : Bool} {mk : List PyData → PyData}
    (hu : X.A.units + 200 < cLine) (I : Inv X pins τ H s) (rm : RelM X.K H M) (up : UpK X.K H Qu Q) (r1 : RelU X.K H x vx) (rx : RelV vx u) (ry : RelV vy v)
    (dp : ∀ ds, toDs xs = some ds → Dp X.K H vy (mk ds))
    (rule : ∀ (ds : List PyData) (d : PyData) (as bs : List Addr), Reads s.heap v (mk ds) as → Reads s.heap u d bs → PyData.canLayAll0 ds = true → d.canLay0 = true → X.A.units + 1 + min (PyData.depthAll ds) d.depth < cLine →
      EP X pins τ Q (.bool (if neg then !(ds.any fun y => PyData.eqv y d) else ds.any fun y => PyData.eqv y d)) s → wpAny (model X.prog X.w) X.A (f u v) (EP X pins τ Q) X.xe s)
    (h : isDs xs = true ∧ isD x = true ∧ (deps xs ≤ 64 ∨ dep x ≤ 64) ∧ Qu (.bl (if neg then !inU x xs else inU x xs)) M) : wpAny (model X.prog X.w) X.A (f u v) (EP X pins τ Q) X.xe s := by
  obtain ⟨h1, h2, h3, q⟩ := h
  obtain ⟨ds, e, c⟩ := toDs_some xs h1
  obtain ⟨d, e2, c2⟩ := toD_some x h2
  obtain ⟨as, rd⟩ := Dp.reads I _ vy v (dp ds e) ry
  obtain ⟨bs, rd2⟩ := Dp.reads I d vx u (dp_of x vx d r1 e2) rx
  refine rule ds d as bs rd rd2 c c2 ?_ ?_
  · rw [deps_toD _ _ e, dep_toD _ _ e2]; exact room_dep h3 hu
  · rw [any_toD e2 xs ds e]
    exact ⟨.bl _, H, I, rfl, up _ _ _ _ q (Stab.refl H) rm rfl⟩
theorem uo_in (hu : X.A.units + 200 < cLine) : UOpR X (compareOp .In) (inR false) := fun pins s τ H vx vy u v Q I rx ry h => by
  obtain ⟨x, y, M, Qu, r1, r2, rm, q, up⟩ := h
  unfold inR at q
  split at q
  · obtain ⟨a, rfl, q⟩ := q
    obtain ⟨rfl, _⟩ := r1; obtain ⟨rfl, _⟩ := r2
    exact op_in_str pins s τ H _ _ u v Q I rx ry ⟨_, _, rfl, rfl, up _ _ _ _ q (Stab.refl H) rm rfl⟩
  · rename_i xs
    exact in_seq_dn (mk := .tuple) hu I rm up r1 rx ry (fun ds e => dp_of (.tup xs) vy _ r2 (by simp [toD, e])) (fun ds d as bs a b c e f g => SeqAt.in_tuple_reads a b c e f (by simpa using g)) q
  · rename_i xs
    exact in_seq_dn (mk := .list) hu I rm up r1 rx ry (fun ds e => dp_of (.lst xs) vy _ r2 (by simp [toD, e])) (fun ds d as bs a b c e f g => SeqAt.in_list_reads a b c e f (by simpa using g)) q
  · rename_i a
    obtain ⟨xs, hm, q⟩ := q
    obtain rfl := r2
    obtain ⟨vs, h1, h2⟩ := rm a _ hm
    exact in_seq_dn (mk := .list) hu I rm up r1 rx ry (fun ds e => .lst (SqL.of h1) (dps_of xs vs ds h2 e)) (fun ds d as bs a b c e f g => SeqAt.in_list_reads a b c e f (by simpa using g)) q
  · exact q.elim
theorem uo_notin (hu : X.A.units + 200 < cLine) : UOpR X (compareOp .NotIn) (inR true) := fun pins s τ H vx vy u v Q I rx ry h => by
  obtain ⟨x, y, M, Qu, r1, r2, rm, q, up⟩ := h
  unfold inR at q
  split at q
  · obtain ⟨a, rfl, q⟩ := q
    obtain ⟨rfl, _⟩ := r1; obtain ⟨rfl, _⟩ := r2
    exact op_notin_str pins s τ H _ _ u v Q I rx ry ⟨_, _, rfl, rfl, up _ _ _ _ q (Stab.refl H) rm rfl⟩
  · rename_i xs
    exact in_seq_dn (neg := true) (mk := .tuple) hu I rm up r1 rx ry (fun ds e => dp_of (.tup xs) vy _ r2 (by simp [toD, e])) (fun ds d as bs a b c e f g => SeqAt.notIn_tuple_reads a b c e f (by simpa using g)) q
  · rename_i xs
    exact in_seq_dn (neg := true) (mk := .list) hu I rm up r1 rx ry (fun ds e => dp_of (.lst xs) vy _ r2 (by simp [toD, e])) (fun ds d as bs a b c e f g => SeqAt.notIn_list_reads a b c e f (by simpa using g)) q
  · rename_i a
    obtain ⟨xs, hm, q⟩ := q
    obtain rfl := r2
    obtain ⟨vs, h1, h2⟩ := rm a _ hm
    exact in_seq_dn (neg := true) (mk := .list) hu I rm up r1 rx ry (fun ds e => .lst (SqL.of h1) (dps_of xs vs ds h2 e)) (fun ds d as bs a b c e f g => SeqAt.notIn_list_reads a b c e f (by simpa using g)) q
  · exact q.elim
/-! name += e -/
def dnIp (K : PySem.W.Frag) (r : UR2) : TIp := dn2 K r
def augI (f : Int → Int → Int) (x : U) (y : U) (M : UHp) (Q : UK) : Prop := match x, y with
  | .int i, .int j => Q (.int (f i j)) M
  | _, _ => False
theorem up_add : PIp X .Add (dnIp X.K (augI fun i j => i + j)) := fun pins s σ H v w a b Q I r1 r2 h => by
  obtain ⟨x, y, M, Qu, q1, q2, rm, q, up⟩ := h
  unfold augI at q
  split at q
  · obtain rfl := q1; obtain rfl := q2
    exact ip_add pins s σ H _ _ a b Q I r1 r2 ⟨_, _, rfl, rfl, up _ _ _ _ q (Stab.refl H) rm rfl⟩
  · exact q.elim
def uAug (i : Nat) (te : UTE) (r : UR2) (D : UEnds) (σ : USt) (M : UHp) : Prop := ∃ x, σ[i]? = some (some x) ∧ te σ M fun y M1 => r x y M1 fun z M2 => D.nx (σ.set i (some z)) M2
theorem us_aug {i : Nat} {x : Str} {e : Expr} {te : UTE} {op : Operator} {r : UR2} {pos pos' : Pos} (hN : X.N.Nodup) (hi : X.N[i]? = some x) (hx : Loc X.env.scope x) (he : UE X e te) (ho : PIp X op (dnIp X.K r)) (hf : X.fn x = true ∨ X.env.scope.names.lookup x = some .local := by first | exact .inl rfl | exact .inr rfl | assumption) :
    US X (.AugAssign (.Name x pos') op e pos) (uAug i te r) := PS.mono (ps_aug hN hi hx he ho hf) fun D τ H h => by
  obtain ⟨σ, M, Du, rs, rm, ⟨u, e1, q⟩, up⟩ := h
  obtain ⟨v, e2, r1⟩ := rs.get i u e1
  refine ⟨v, e2, σ, M, _, rs, rm, q, fun y M1 w H1 q1 s1 m1 r2 => ?_⟩
  exact ⟨u, y, M1, _, r1.stab s1, r2, m1, q1, fun z M2 v2 H2 q2 s2 m2 r3 => up.nx _ _ _ _ q2 (s1.trans s2) m2 ((rs.stab (s1.trans s2)).set r3 i)⟩
/-! targets of comprehensions -/
theorem pg_nt {i : Nat} {x : Str} {pos : Pos} {K : PySem.W.Frag} (hN : X.N.Nodup) (hi : X.N[i]? = some x) (hx : Loc X.env.scope x) (hf : X.fn x = true ∨ X.env.scope.names.lookup x = some .local := by first | exact .inl rfl | exact .inr rfl | assumption) : PG X (.Name x pos) ((NT.one i).gt K) := by
  simp only [NT.gt]
  exact pg_name hN hi hx hf
theorem pgs_nt_nil {K : PySem.W.Frag} : PGs X [] (gts K []) := by
  simp only [gts]
  exact pgs_nil
theorem pgs_nt_cons {e : Expr} {es : List Expr} {t : NT} {ts : List NT} {K : PySem.W.Frag} (h1 : PG X e (t.gt K)) (h2 : PGs X es (gts K ts))
    (hs : (assignEach (e :: es) X.env).map (·.2) = assign e X.env :: (assignEach es X.env).map (·.2) := by rfl) : PGs X (e :: es) (gts K (t :: ts)) := by
  simp only [gts]
  exact pgs_cons h1 h2 hs
theorem pg_ntt {es : List Expr} {k : Nat} {ts : List NT} {pos : Pos} (hc : X.calm = true) (h : PGs X es (gts X.K ts))
    (hn : (assignEach es X.env).length = ts.length := by rfl) (hst : (assignEach es X.env).findIdx? (·.1) = none := by rfl) : PG X (.Tuple es k pos) ((NT.tup ts).gt X.K) := by
  simp only [NT.gt]
  exact pg_tup hc h hn hst
end

theorem ue_gint {X : Cx} {x : Str} {i : Int} {t : Tok} {pos : Pos} (hg : Gl X x) (hm : X.mg x = some (.int i t)) (hd : (x == ("__debug__" : Str)) = false := by decide) : UE X (.Name x pos) (uC (.int i)) := ue_glob (v := .int i) hg hm ⟨t, rfl⟩ (fun _ => rfl) hd
theorem ue_gstr {X : Cx} {x z : Str} {t : Tok} {pos : Pos} (hg : Gl X x) (hm : X.mg x = some (.str z t)) (hz : okS z = true := by decide +kernel) (hd : (x == ("__debug__" : Str)) = false := by decide) : UE X (.Name x pos) (uC (.str z)) := ue_glob (v := .str z) hg hm ⟨t, rfl⟩ (fun _ => ⟨rfl, hz⟩) hd
theorem hu2 {k : Nat} {A : Around} (hr : Room k A) : A.units + 200 < cLine := by have := hr.un; omega
theorem hu6 {k : Nat} {A : Around} (hr : Room k A) : A.units + 64 < cLine := by have := hr.un; omega

/-! ### built-in names -/
theorem bt_len : bootBuiltins "len" = some (.builtin "len") := by decide +kernel
theorem bt_isi : bootBuiltins "isinstance" = some (.builtin "isinstance") := by decide +kernel
theorem bt_all : bootBuiltins "all" = some (.builtin "all") := by decide +kernel
theorem bt_any : bootBuiltins "any" = some (.builtin "any") := by decide +kernel
theorem bt_repr : bootBuiltins "repr" = some (.builtin "repr") := by decide +kernel
theorem bt_tuple : bootBuiltins "tuple" = some (.type "tuple") := by decide +kernel
theorem bt_list : bootBuiltins "list" = some (.type "list") := by decide +kernel
theorem bt_int : bootBuiltins "int" = some (.type "int") := by decide +kernel
theorem bt_str : bootBuiltins "str" = some (.type "str") := by decide +kernel
theorem bt_bool : bootBuiltins "bool" = some (.type "bool") := by decide +kernel
theorem bt_dict : bootBuiltins "dict" = some (.type "dict") := by decide +kernel
theorem bt_set : bootBuiltins "set" = some (.type "set") := by decide +kernel
theorem bt_sorted : bootBuiltins "sorted" = some (.builtin "sorted") := by decide +kernel
theorem bt_sum : bootBuiltins "sum" = some (.builtin "sum") := by decide +kernel

/-! ### a def of the module, as a caller needs it -/
structure Df (K : PySem.W.Frag) (mg : Str → Option Value) (x : Str) (st : Stmt) (f : Addr) (fd : FuncData) (ps : List Str) : Prop where
  F : Fun K x x st f fd
  g : mg x = some (.ref f)
  b : Binds K fd ps []

/-! ### comprehensions whose element changes nothing -/
theorem wipeU_len (σ : USt) : ∀ vs : List Nat, (wipeU σ vs).length = σ.length
  | [] => rfl
  | v :: vs => by unfold wipeU; rw [List.length_set, wipeU_len σ vs]
/-- te gives y and changes nothing -/
def Ev (te : UTE) (σ : USt) (M : UHp) (y : U) : Prop := ∀ Q : UK, Q y M → te σ M Q
def EvT (tt : UTT) (σ : USt) (M : UHp) (b : Bool) : Prop := ∀ Q : Bool → UHp → Prop, Q b M → tt σ M Q
theorem go_pure {D : Addr} {n : NT} {tt : UTT} {te : UTE} {st : UHp → Prop} {σ : USt} {R : List U → UHp → Prop} {M0 : UHp} {F : U → U} {p : U → Bool} (hD : M0 D = none) :
    ∀ (xs acc : List U), (∀ acc, st (updM M0 D (.lst acc))) →
    (∀ x ∈ xs, ∀ acc, ∃ σ2, n.put x σ = some σ2 ∧ EvT tt σ2 (updM M0 D (.lst acc)) (p x) ∧ (p x = true → Ev te σ2 (updM M0 D (.lst acc)) (F x))) →
    R (acc ++ (xs.filter p).map F) (updM M0 D (.lst (acc ++ (xs.filter p).map F))) → uLcGo D n tt te st σ R xs acc (updM M0 D (.lst acc))
  | [], acc, hst, _, h => by simpa using ⟨hst acc, by simpa using h⟩
  | x :: xs, acc, hst, he, h => by
    obtain ⟨σ2, e1, e2, e3⟩ := he x (by simp) acc
    refine ⟨hst acc, σ2, e1, e2 _ ?_⟩
    cases hp : p x with
    | false =>
      simp only [Bool.false_eq_true, if_false]
      refine ⟨updM_same, go_pure hD xs acc hst (fun y hy => he y (by simp [hy])) ?_⟩
      simpa [List.filter_cons, hp] using h
    | true =>
      simp only [if_true]
      refine e3 hp _ ⟨updM_same, ?_⟩
      rw [updM_updM]
      refine go_pure hD xs (acc ++ [F x]) hst (fun y hy => he y (by simp [hy])) ?_
      simpa [List.filter_cons, hp] using h
/-- [F(x) for x in xs if p(x)], by value -/
theorem lc_pure {n : NT} {tt : UTT} {te : UTE} {σ : USt} {M0 : UHp} {Q : UK} {xs : List U} {st : UHp → Prop} (F : U → U) (p : U → Bool) (hst : ∀ D acc, M0 D = none → st (updM M0 D (.lst acc)))
    (he : ∀ D acc, M0 D = none → ∀ x ∈ xs, ∃ σ2, n.put x σ = some σ2 ∧ EvT tt σ2 (updM M0 D (.lst acc)) (p x) ∧ (p x = true → Ev te σ2 (updM M0 D (.lst acc)) (F x))) (h : Q (.lst ((xs.filter p).map F)) M0) :
    ∀ D, M0 D = none → uLcGo D n tt te st σ (fun acc M2 => M2 D = some (.lst acc) ∧ finL false D acc M2 Q) xs [] (updM M0 D (.lst [])) := fun D hD => by
  refine go_pure hD xs [] (fun acc => hst D acc hD) (fun x hx acc => he D acc hD x hx) ?_
  refine ⟨updM_same, ?_⟩
  show Q _ (delM _ D)
  rw [delM_upd hD]
  simpa using h
theorem lc_map {n : NT} {te : UTE} {σ : USt} {M0 : UHp} {Q : UK} {xs : List U} {st : UHp → Prop} (F : U → U) (hst : ∀ D acc, M0 D = none → st (updM M0 D (.lst acc)))
    (he : ∀ D acc, M0 D = none → ∀ x ∈ xs, ∃ σ2, n.put x σ = some σ2 ∧ Ev te σ2 (updM M0 D (.lst acc)) (F x)) (h : Q (.lst (xs.map F)) M0) :
    ∀ D, M0 D = none → uLcGo D n uYes te st σ (fun acc M2 => M2 D = some (.lst acc) ∧ finL false D acc M2 Q) xs [] (updM M0 D (.lst [])) := by
  refine lc_pure F (fun _ => true) hst (fun D acc hD x hx => ?_) (by rw [List.filter_eq_self.mpr (fun _ _ => rfl)]; exact h)
  obtain ⟨σ2, e1, e2⟩ := he D acc hD x hx
  exact ⟨σ2, e1, fun Q q => q, fun _ => e2⟩
/-- the items are images -/
theorem lc_of {α : Type} {n : NT} {te : UTE} {σ : USt} {M0 : UHp} {Q : UK} {st : UHp → Prop} (l : List α) (f G : α → U) (hst : ∀ D acc, M0 D = none → st (updM M0 D (.lst acc)))
    (he : ∀ D acc, M0 D = none → ∀ a ∈ l, ∃ σ2, n.put (f a) σ = some σ2 ∧ Ev te σ2 (updM M0 D (.lst acc)) (G a)) (h : Q (.lst (l.map G)) M0) :
    ∀ D, M0 D = none → uLcGo D n uYes te st σ (fun acc M2 => M2 D = some (.lst acc) ∧ finL false D acc M2 Q) (l.map f) [] (updM M0 D (.lst [])) := fun D hD => by
  have go : ∀ (l : List α) (acc : List U), (∀ a ∈ l, ∀ acc, ∃ σ2, n.put (f a) σ = some σ2 ∧ Ev te σ2 (updM M0 D (.lst acc)) (G a)) → Q (.lst (acc ++ l.map G)) M0 →
      uLcGo D n uYes te st σ (fun acc M2 => M2 D = some (.lst acc) ∧ finL false D acc M2 Q) (l.map f) acc (updM M0 D (.lst acc)) := by
    intro l
    induction l with
    | nil =>
      intro acc _ q
      refine ⟨hst D acc hD, updM_same, ?_⟩
      show Q _ (delM _ D)
      rw [delM_upd hD]
      simpa using q
    | cons a l ih =>
      intro acc he q
      obtain ⟨σ2, e1, e2⟩ := he a (by simp) acc
      refine ⟨hst D acc hD, σ2, e1, ?_⟩
      simp only [uYes, if_true]
      refine e2 _ ⟨updM_same, ?_⟩
      rw [updM_updM]
      exact ih (acc ++ [G a]) (fun b hb => he b (by simp [hb])) (by simpa using q)
  exact go l [] (fun a ha acc => he D acc hD a ha) (by simpa using h)
end PU

set_option Elab.async false
set_option linter.all false
set_option maxRecDepth 100000
/-! UData: data that a law draws. -/
namespace PU
open PySem PySem.Spec PyProof.Rows L2

theorem iteI {c : Prop} [inst : Decidable c] {a b : Prop} (ht : c → a) (hf : ¬ c → b) : @ite Prop c inst a b := by
  by_cases h : c
  · rw [if_pos h]; exact ht h
  · rw [if_neg h]; exact hf h
theorem iteF {c : Prop} [inst : Decidable c] {a b : Prop} (h : ¬ c) (hb : b) : @ite Prop c inst a b := by rw [if_neg h]; exact hb
theorem iteT {c : Prop} [inst : Decidable c] {a b : Prop} (h : c) (ha : a) : @ite Prop c inst a b := by rw [if_pos h]; exact ha
theorem isDs_iff : ∀ {xs : List U}, isDs xs = true ↔ ∀ x ∈ xs, isD x = true
  | [] => by simp [isDs]
  | x :: xs => by simp [isDs, isDs_iff (xs := xs)]
theorem shws_iff : ∀ {xs : List U}, shws xs = true ↔ ∀ x ∈ xs, shw x = true
  | [] => by simp [shws]
  | x :: xs => by simp [shws, shws_iff (xs := xs)]
theorem deps_le {k : Nat} : ∀ {xs : List U}, deps xs ≤ k ↔ ∀ x ∈ xs, dep x ≤ k
  | [] => by simp [deps]
  | x :: xs => by simp [deps, deps_le (xs := xs), Nat.max_le]
theorem szs_le {k : Nat} : ∀ {xs : List U}, (∀ x ∈ xs, sz x ≤ k) → szs xs ≤ xs.length * (k + 2)
  | [], _ => by simp [szs]
  | x :: xs, h => by
    have h1 := h x (by simp)
    have h2 := szs_le (xs := xs) fun y hy => h y (by simp [hy])
    simp only [szs, List.length_cons, Nat.add_mul]
    omega
theorem mem_szs : ∀ {xs : List U} {x : U}, x ∈ xs → sz x ≤ szs xs
  | y :: ys, x, h => by
    rcases List.mem_cons.mp h with rfl | h
    · simp only [szs]; omega
    · have := mem_szs h
      simp only [szs]; omega
theorem len_szs : ∀ {xs : List U}, 2 * xs.length ≤ szs xs
  | [] => by simp [szs]
  | y :: ys => by
    have := len_szs (xs := ys)
    simp only [szs, List.length_cons]; omega
theorem szs_app : ∀ (xs ys : List U), szs (xs ++ ys) = szs xs + szs ys
  | [], ys => by simp [szs]
  | x :: xs, ys => by simp [szs, szs_app xs ys]; omega
theorem isDs_app (xs ys : List U) : isDs (xs ++ ys) = (isDs xs && isDs ys) := by
  induction xs with
  | nil => simp [isDs]
  | cons x xs ih => simp [isDs, ih, Bool.and_assoc]
/-- data of at most such depth and size, with short integers -/
structure Dt (k n : Nat) (x : U) : Prop where
  d : isD x = true
  s : shw x = true
  p : dep x ≤ k
  z : sz x ≤ n
theorem Dt.mono {k n k' n' : Nat} {x : U} (h : Dt k n x) (hk : k ≤ k') (hn : n ≤ n') : Dt k' n' x := ⟨h.d, h.s, Nat.le_trans h.p hk, Nat.le_trans h.z hn⟩
theorem Dt.okR {k n : Nat} {x : U} (h : Dt k n x) (hk : k ≤ 150) (hn : n ≤ 16000000) : okR x := ⟨h.d, h.s, Nat.le_trans h.p hk, Nat.le_trans h.z hn⟩
theorem Dt.tup {k n m : Nat} {xs : List U} (h : ∀ x ∈ xs, Dt k n x) (hm : xs.length * (n + 2) + 4 ≤ m) : Dt (k + 1) m (.tup xs) := by
  refine ⟨by simp only [isD]; exact isDs_iff.mpr fun x hx => (h x hx).d, by simp only [shw]; exact shws_iff.mpr fun x hx => (h x hx).s, ?_, ?_⟩
  · have := deps_le.mpr fun x hx => (h x hx).p
    simp only [dep]; omega
  · have := szs_le fun x hx => (h x hx).z
    simp only [sz]; omega
theorem Dt.lst {k n m : Nat} {xs : List U} (h : ∀ x ∈ xs, Dt k n x) (hm : xs.length * (n + 2) + 4 ≤ m) : Dt (k + 1) m (.lst xs) := by
  refine ⟨by simp only [isD]; exact isDs_iff.mpr fun x hx => (h x hx).d, by simp only [shw]; exact shws_iff.mpr fun x hx => (h x hx).s, ?_, ?_⟩
  · have := deps_le.mpr fun x hx => (h x hx).p
    simp only [dep]; omega
  · have := szs_le fun x hx => (h x hx).z
    simp only [sz]; omega
/-- decided at once, for what is written -/
def dtB (k n : Nat) (x : U) : Bool := isD x && shw x && decide (dep x ≤ k) && decide (sz x ≤ n)
theorem Dt.of {k n : Nat} {x : U} (h : dtB k n x = true) : Dt k n x := by
  simp only [dtB, Bool.and_eq_true, decide_eq_true_eq] at h
  exact ⟨h.1.1.1, h.1.1.2, h.1.2, h.2⟩
theorem Dt.ofs {k n : Nat} {xs : List U} (h : xs.all (dtB k n) = true) : ∀ x ∈ xs, Dt k n x := fun x hx => Dt.of (List.all_eq_true.mp h x hx)
theorem Dt.int {n : Nat} {i : Int} (h : i.natAbs.log2 + 2 ≤ n) (h2 : i.natAbs.log2 < 1920) : Dt 0 n (.int i) := ⟨rfl, by simp [shw, h2], Nat.le_refl _, by simpa [sz] using h⟩
theorem Dt.str {n : Nat} {z : Str} (h : okS z = true) (h2 : 10 * z.length + 2 ≤ n) : Dt 0 n (.str z) := ⟨by simpa [isD] using h, rfl, Nat.le_refl _, by simpa [sz] using h2⟩
/-- an item at a drawn place -/
theorem at_draw {xs : List U} {i : Int} (h0 : 0 ≤ i) (h1 : i < xs.length) : ∃ v, atI xs i = some v ∧ v ∈ xs := by
  have hj : i.toNat < xs.length := by omega
  refine ⟨xs[i.toNat], ?_, List.getElem_mem hj⟩
  unfold atI ixN
  rw [if_pos h0, if_pos h1]
  show xs[i.toNat]? = _
  exact List.getElem?_eq_getElem hj
/-- what stood still stands, but for s and c -/
def But (s c : Addr) (M M' : UHp) : Prop := ∀ b, b ≠ s → b ≠ c → ∀ o, M b = some o → M' b = some o
theorem But.refl {s c : Addr} {M : UHp} : But s c M M := fun _ _ _ _ e => e
theorem But.trans {s c : Addr} {M M1 M2 : UHp} (a : But s c M M1) (b : But s c M1 M2) : But s c M M2 := fun x h1 h2 o e => b x h1 h2 o (a x h1 h2 o e)
theorem But.eq {s c : Addr} {M M' : UHp} (h : ∀ b, b ≠ s → b ≠ c → M' b = M b) : But s c M M' := fun b h1 h2 o e => (h b h1 h2).trans e
theorem But.del {s c D : Addr} {M M' : UHp} (h : But s c M M') (hD : M D = none) : But s c M (delM M' D) := fun b h1 h2 o e => by
  by_cases hb : b = D
  · rw [hb, hD] at e; cases e
  · rw [delM_ne hb]; exact h b h1 h2 o e
theorem But.upd {s c D : Addr} {M M' : UHp} {o : MO} (h : But s c M M') (hD : M D = none) : But s c M (updM M' D o) := fun b h1 h2 u e => by
  by_cases hb : b = D
  · rw [hb, hD] at e; cases e
  · rw [updM_ne hb]; exact h b h1 h2 u e
/-- the stream of a law: the cells' list at c, the cell at hand, the number of draws (n more are allowed), the mix -/
def Strm (M : UHp) (s c : Addr) (n : Nat) : Prop := s ≠ c ∧ ∃ (ks : List Int) (a : Int) (b : Nat) (d : Int), M s = some (.lst [.ref c, .int a, .int b, .int d]) ∧ M c = some (.lst (ks.map .int)) ∧ 0 ≤ a ∧ b + n ≤ 8000000 ∧ 0 ≤ d ∧ d < 2147483647 ∧ ks.length ≤ 63
theorem Strm.le {M : UHp} {s c : Addr} {n m : Nat} (h : Strm M s c n) (hm : m ≤ n) : Strm M s c m := by
  obtain ⟨h1, ks, a, b, d, e1, e2, e3, e4, e5, e6, e7⟩ := h
  exact ⟨h1, ks, a, b, d, e1, e2, e3, by omega, e5, e6, e7⟩
theorem Strm.at {M M' : UHp} {s c : Addr} {n : Nat} (h : Strm M s c n) (e1 : M' s = M s) (e2 : M' c = M c) : Strm M' s c n := by
  obtain ⟨h1, ks, a, b, d, q1, q2, q⟩ := h
  exact ⟨h1, ks, a, b, d, e1.trans q1, e2.trans q2, q⟩
theorem Strm.upd {M : UHp} {s c p : Addr} {n : Nat} {o : MO} (h : Strm M s c n) (h1 : s ≠ p) (h2 : c ≠ p) : Strm (updM M p o) s c n := h.at (updM_ne h1) (updM_ne h2)
theorem Strm.del {M : UHp} {s c p : Addr} {n : Nat} (h : Strm M s c n) (h1 : s ≠ p) (h2 : c ≠ p) : Strm (delM M p) s c n := h.at (delM_ne h1) (delM_ne h2)
theorem Strm.sp {M : UHp} {s c p : Addr} {n : Nat} (h : Strm M s c n) (e : M p = none) : s ≠ p ∧ c ≠ p := by
  obtain ⟨_, ks, a, b, d, q1, q2, _⟩ := h
  exact ⟨fun z => (by rw [z, e] at q1; cases q1), fun z => (by rw [z, e] at q2; cases q2)⟩
theorem zq_l {Q : UK} {x : U} {M : UHp} (h : Q x M) : ZQ Q x M := .inl h
theorem isDs_ints : ∀ ks : List Int, isDs (ks.map .int) = true
  | [] => rfl
  | k :: ks => by simp [isDs, isD, isDs_ints ks]
/-! places that are written -/
section
variable {α : Type} {a b c d e f g h : α} {xs : List α} {n : Nat}
theorem at0 : atI (a :: xs) 0 = some a := atI_nat (j := 0) (by simp)
theorem at1 : atI (a :: b :: xs) 1 = some b := atI_nat (j := 1) (by simp)
theorem at2 : atI (a :: b :: c :: xs) 2 = some c := atI_nat (j := 2) (by simp)
theorem at3 : atI (a :: b :: c :: d :: xs) 3 = some d := atI_nat (j := 3) (by simp)
theorem at4 : atI (a :: b :: c :: d :: e :: xs) 4 = some e := atI_nat (j := 4) (by simp)
theorem ix0 : ixN (n + 1) 0 = some 0 := by simp [ixN] <;> omega
theorem ix1 : ixN (n + 2) 1 = some 1 := by simp [ixN] <;> omega
theorem ix2 : ixN (n + 3) 2 = some 2 := by simp [ixN] <;> omega
theorem ix3 : ixN (n + 4) 3 = some 3 := by simp [ixN] <;> omega
theorem ix4 : ixN (n + 5) 4 = some 4 := by simp [ixN] <;> omega
theorem line2 : 2 ≤ sizeLine := by rw [sizeLine_eq]; decide
theorem line_le {n : Nat} (h : n ≤ 1000000 := by decide) : n ≤ sizeLine := by rw [sizeLine_eq]; omega
theorem line_lt {n : Nat} (h : n ≤ 1000000 := by decide) : n < sizeLine := by rw [sizeLine_eq]; omega
end
/-! the law's draw -/
theorem strm_mk {M : UHp} {s c : Addr} {n b : Nat} {ks : List Int} {a d : Int} (hsc : s ≠ c) (e1 : M s = some (.lst [.ref c, .int a, .int (↑b + 1), .int d])) (e2 : M c = some (.lst (ks.map .int))) (ha : 0 ≤ a) (hb : b + (n + 1) ≤ 8000000)
    (h0 : 0 ≤ d) (h1 : d < 2147483647) (hk : ks.length ≤ 63) : Strm M s c n := ⟨hsc, ks, a, b + 1, d, by rw [e1]; simp, e2, ha, by omega, h0, h1, hk⟩
theorem mix_ok {d : Int} {b : Nat} {many : Int} {G : Int → Prop} (h0 : 0 ≤ d) (h1 : d < 2147483647) (hb : b < 8000000) (hm : 0 < many) (h : ∀ r, 0 ≤ r → r < many → G r) :
    CMul 104729 (↑b + 1) ∧ CPow (d + 104729 * (↑b + 1) + 17) 5 ∧ (0 : Int) < 2147483629 ∧ CMul ((d + 104729 * (↑b + 1) + 17) ^ Int.toNat 5 % 2147483629) 48271 ∧ CMul 40503 (↑b + 1) ∧ CMul (40503 * (↑b + 1)) (↑b + 1) ∧
      CPow ((d + 104729 * (↑b + 1) + 17) ^ Int.toNat 5 % 2147483629 * 48271 + 40503 * (↑b + 1) * (↑b + 1) + 13) 3 ∧ (0 : Int) < 1000000007 ∧ 0 < many ∧
      G (((d + 104729 * (↑b + 1) + 17) ^ Int.toNat 5 % 2147483629 * 48271 + 40503 * (↑b + 1) * (↑b + 1) + 13) ^ Int.toNat 3 % 1000000007 % many) := by
  have hx0 := Int.emod_nonneg ((d + 104729 * ((b : Int) + 1) + 17) ^ Int.toNat 5) (show (2147483629 : Int) ≠ 0 by decide)
  have hx1 := Int.emod_lt_of_pos ((d + 104729 * ((b : Int) + 1) + 17) ^ Int.toNat 5) (show (0 : Int) < 2147483629 by decide)
  generalize (d + 104729 * ((b : Int) + 1) + 17) ^ Int.toNat 5 % 2147483629 = x at hx0 hx1 ⊢
  have hsq : ((b : Int) + 1) * ((b : Int) + 1) ≤ 8000000 * 8000000 := Int.mul_le_mul (by omega) (by omega) (by omega) (by omega)
  have hsq0 : 0 ≤ ((b : Int) + 1) * ((b : Int) + 1) := Int.mul_nonneg (by omega) (by omega)
  have e : 40503 * ((b : Int) + 1) * ((b : Int) + 1) = 40503 * (((b : Int) + 1) * ((b : Int) + 1)) := Int.mul_assoc _ _ _
  rw [e]
  generalize ((b : Int) + 1) * ((b : Int) + 1) = y at hsq hsq0 ⊢
  refine ⟨.inl ⟨by omega, by omega⟩, ⟨by decide, by decide, by omega⟩, by decide, .inr ⟨by omega, by omega⟩, .inl ⟨by omega, by omega⟩, .inl ⟨by omega, by omega⟩, ⟨by decide, by decide, by omega⟩, by decide, hm, h _ (Int.emod_nonneg _ (by omega)) (Int.emod_lt_of_pos _ hm)⟩
/-! comprehensions that draw -/
theorem lc_inv {D : Addr} {n : NT} {te : UTE} {st : UHp → Prop} {σ : USt} {R : List U → UHp → Prop} (I : Nat → List U → UHp → Prop) (xs : List U) (hst : ∀ i acc M, I i acc M → st M)
    (he : ∀ i x acc M, xs[i]? = some x → I i acc M → M D = some (.lst acc) → ∃ σ2, n.put x σ = some σ2 ∧ ∀ Q : UK, (∀ y M4, M4 D = some (.lst acc) → I (i + 1) (acc ++ [y]) (updM M4 D (.lst (acc ++ [y]))) → Q y M4) → te σ2 M Q)
    (h : ∀ acc M, I xs.length acc M → M D = some (.lst acc) → R acc M) {M : UHp} (h0 : I 0 [] M) (hD : M D = some (.lst [])) : uLcGo D n uYes te st σ R xs [] M := by
  have go : ∀ (r : List U) (i : Nat) (acc : List U) (M : UHp), xs.drop i = r → i ≤ xs.length → I i acc M → M D = some (.lst acc) → uLcGo D n uYes te st σ R r acc M := by
    intro r
    induction r with
    | nil =>
      intro i acc M e hi hI hD
      have : i = xs.length := by
        have := congrArg List.length e
        simp at this; omega
      subst this
      exact ⟨hst _ _ _ hI, h acc M hI hD⟩
    | cons x r ih =>
      intro i acc M e hi hI hD
      have hlt : i < xs.length := by
        by_cases hlt : i < xs.length
        · exact hlt
        · rw [List.drop_eq_nil_of_le (by omega)] at e; cases e
      rw [List.drop_eq_getElem_cons hlt] at e
      have hx : xs[i]? = some x := by rw [List.getElem?_eq_getElem hlt, (List.cons.inj e).1]
      obtain ⟨σ2, e1, e2⟩ := he i x acc M hx hI hD
      refine ⟨hst _ _ _ hI, σ2, e1, ?_⟩
      simp only [uYes, if_true]
      exact e2 _ fun y M4 hD4 hI4 => ⟨hD4, ih (i + 1) (acc ++ [y]) _ (List.cons.inj e).2 hlt hI4 updM_same⟩
  exact go xs 0 [] M rfl (Nat.zero_le _) h0 hD
/-- .. each element takes k draws at most and has P -/
theorem lc_strm {D : Addr} {n : NT} {te : UTE} {σ : USt} {R : List U → UHp → Prop} {M0 : UHp} {s c : Addr} {N k : Nat} {xs : List U} (P : U → Prop) (hS : Strm M0 s c (N + xs.length * k))
    (he : ∀ x ∈ xs, ∃ σ2, n.put x σ = some σ2 ∧ ∀ M N', Strm M s c (N' + k) → ∀ Q : UK, (∀ y M', P y → Strm M' s c N' → But s c M M' → Q y M') → te σ2 M Q) (hD : M0 D = none)
    (h : ∀ ys M', ys.length = xs.length → (∀ y ∈ ys, P y) → Strm M' s c N → But s c M0 M' → M' D = some (.lst ys) → s ≠ D → c ≠ D → R ys M') :
    uLcGo D n uYes te (fun _ => True) σ R xs [] (updM M0 D (.lst [])) := by
  obtain ⟨h1, h2⟩ := hS.sp hD
  refine lc_inv (fun i acc M => acc.length = i ∧ i ≤ xs.length ∧ (∀ y ∈ acc, P y) ∧ Strm M s c (N + (xs.length - i) * k) ∧ But s c M0 M) xs (fun _ _ _ _ => True.intro) ?_ ?_
    ⟨rfl, Nat.zero_le _, by simp, hS.upd h1 h2, But.refl.upd hD⟩ updM_same
  · rintro i x acc M hx ⟨hl, hi, hP, hS', hB⟩ hD'
    have hlt : i < xs.length := (List.getElem?_eq_some_iff.mp hx).1
    obtain ⟨σ2, e1, e2⟩ := he x (List.mem_of_getElem? hx)
    have e : N + (xs.length - i) * k = (N + (xs.length - (i + 1)) * k) + k := by
      have : xs.length - i = (xs.length - (i + 1)) + 1 := by omega
      rw [this, Nat.add_mul]; omega
    rw [e] at hS'
    refine ⟨σ2, e1, fun Q q => e2 M _ hS' Q fun y M' hy hS2 hB2 => q y M' (hB2 D (Ne.symm h1) (Ne.symm h2) _ hD') ⟨by simp [hl], hlt, fun z hz => ?_, hS2.upd h1 h2, (hB.trans hB2).upd hD⟩⟩
    · rcases List.mem_append.mp hz with hz | hz
      · exact hP z hz
      · rw [List.mem_singleton.mp hz]; exact hy
  · rintro acc M ⟨hl, _, hP, hS', hB⟩ hD'
    rw [Nat.sub_self, Nat.zero_mul] at hS'
    exact h acc M hl hP hS' hB hD' h1 h2
theorem lc_strmF {n : NT} {te : UTE} {σ : USt} {Q : UK} {M0 : UHp} {s c : Addr} {N k : Nat} {xs : List U} (P : U → Prop) (hS : Strm M0 s c (N + xs.length * k))
    (he : ∀ x ∈ xs, ∃ σ2, n.put x σ = some σ2 ∧ ∀ M N', Strm M s c (N' + k) → ∀ Q : UK, (∀ y M', P y → Strm M' s c N' → But s c M M' → Q y M') → te σ2 M Q)
    (h : ∀ ys M', ys.length = xs.length → (∀ y ∈ ys, P y) → Strm M' s c N → But s c M0 M' → Q (.lst ys) M') :
    ∀ D, M0 D = none → uLcGo D n uYes te (fun _ => True) σ (fun acc M2 => M2 D = some (.lst acc) ∧ finL false D acc M2 Q) xs [] (updM M0 D (.lst [])) := fun D hD => by
  refine lc_strm P hS he hD fun ys M' hl hP hS' hB hD' h1 h2 => ⟨hD', ?_⟩
  show Q (.lst ys) (delM M' D)
  exact h ys _ hl hP (hS'.del h1 h2) (hB.del hD)
theorem lc_strmT {n : NT} {te : UTE} {σ : USt} {Q : UK} {M0 : UHp} {s c : Addr} {N k : Nat} {xs : List U} (P : U → Prop) (hS : Strm M0 s c (N + xs.length * k))
    (he : ∀ x ∈ xs, ∃ σ2, n.put x σ = some σ2 ∧ ∀ M N', Strm M s c (N' + k) → ∀ Q : UK, (∀ y M', P y → Strm M' s c N' → But s c M M' → Q y M') → te σ2 M Q)
    (h : ∀ D ys M', M0 D = none → ys.length = xs.length → (∀ y ∈ ys, P y) → Strm M' s c N → But s c M0 M' → M' D = some (.lst ys) → s ≠ D → c ≠ D → Q (.ref D) M') :
    ∀ D, M0 D = none → uLcGo D n uYes te (fun _ => True) σ (fun acc M2 => M2 D = some (.lst acc) ∧ finL true D acc M2 Q) xs [] (updM M0 D (.lst [])) := fun D hD =>
  lc_strm P hS he hD fun ys M' hl hP hS' hB hD' h1 h2 => ⟨hD', h D ys M' hD hl hP hS' hB hD' h1 h2⟩
/-! texts of single signs -/
def one (c : Nat) : Str := ⟨#[c]⟩
theorem join_ones : ∀ cs : List Nat, (Str.join "" (cs.map one)).cps.toList = cs
  | [] => rfl
  | [c] => rfl
  | c :: d :: cs => by
    have ih := join_ones (d :: cs)
    show (one c ++ ("" : Str) ++ Str.join "" ((d :: cs).map one)).cps.toList = _
    have e : (one c ++ ("" : Str) ++ Str.join "" ((d :: cs).map one)).cps.toList = [c] ++ ([] ++ (Str.join "" ((d :: cs).map one)).cps.toList) := by
      show ((#[c] ++ ("" : Str).cps) ++ (Str.join "" ((d :: cs).map one)).cps).toList = _
      rw [Array.toList_append, Array.toList_append]
      have : ("" : Str).cps.toList = [] := by decide +kernel
      rw [this]; simp
    rw [e, ih]; rfl
theorem str_len (z : Str) : z.length = z.cps.toList.length := by show z.cps.size = _; simp
theorem okS_iff {z : Str} : okS z = true ↔ z.length ≤ sizeLine ∧ ∀ c ∈ z.cps.toList, c < 0x110000 := by
  unfold okS
  rw [Bool.and_eq_true, decide_eq_true_eq, strOk_iff]
theorem ones_of {P : Nat → Prop} : ∀ {ys : List U}, (∀ y ∈ ys, ∃ c, y = .str (one c) ∧ P c) → ∃ cs : List Nat, ys = (cs.map one).map .str ∧ ∀ c ∈ cs, P c
  | [], _ => ⟨[], rfl, by simp⟩
  | y :: ys, h => by
    obtain ⟨c, rfl, hc⟩ := h y (by simp)
    obtain ⟨cs, rfl, hcs⟩ := ones_of (ys := ys) fun z hz => h z (by simp [hz])
    exact ⟨c :: cs, rfl, fun d hd => (List.mem_cons.mp hd).elim (fun e => e ▸ hc) (hcs d)⟩
theorem strs_ones (zs : List Str) : strsU (zs.map .str) = some zs := by
  have := strsU_map (fun z : Str => z) zs
  simpa using this
theorem range_len (lo : Int) (n : Nat) : (rangeU lo n).length = n := by simp [rangeU]
theorem val_isD {M : UHp} {x : U} (h : isD x = true) : val M x = x := by
  cases x <;> first | rfl | (simp [isD] at h)
theorem ufn_none {P : Program} {w : World} {K : PySem.W.Frag} {mg : Str → Option Value} {base : Heap} {CX : CXT} {k : Nat} {f : Addr} {fd : FuncData} {ps : List Str} : UFn P w K mg base CX k f fd ps (fun _ _ _ _ => False) :=
  ⟨fun _ _ _ _ z => z.elim, fun _ _ _ _ _ _ _ _ _ _ _ _ _ _ ⟨_, _, _, _, _, _, z, _⟩ => z.elim⟩
/-- a loop by what holds between its turns -/
theorem for_inv {g : UTG} {tb : UTS} {st : UHp → Prop} {D : UEnds} (I : Nat → USt → UHp → Prop) (xs : List U) (hst : ∀ i σ M, I i σ M → st M)
    (he : ∀ i x σ M (N : USt → UHp → Prop), xs[i]? = some x → I i σ M → (∀ σ' M', I (i + 1) σ' M' → N σ' M') → g x σ M fun σ2 M2 => tb { D with nx := N, ct := N, bk := D.nx } σ2 M2)
    (hd : ∀ σ M, I xs.length σ M → D.nx σ M) {σ : USt} {M : UHp} (h0 : I 0 σ M) : uForGo g tb st D xs σ M := by
  have go : ∀ (r : List U) (i : Nat) (σ : USt) (M : UHp), xs.drop i = r → i ≤ xs.length → I i σ M → uForGo g tb st D r σ M := by
    intro r
    induction r with
    | nil =>
      intro i σ M e hi hI
      have : i = xs.length := by
        have := congrArg List.length e
        simp at this; omega
      subst this
      exact ⟨hst _ _ _ hI, hd σ M hI⟩
    | cons x r ih =>
      intro i σ M e hi hI
      have hlt : i < xs.length := by
        by_cases hlt : i < xs.length
        · exact hlt
        · rw [List.drop_eq_nil_of_le (by omega)] at e; cases e
      rw [List.drop_eq_getElem_cons hlt] at e
      have hx : xs[i]? = some x := by rw [List.getElem?_eq_getElem hlt, (List.cons.inj e).1]
      exact ⟨hst _ _ _ hI, he i x σ M _ hx hI fun σ' M' hI' => ih (i + 1) σ' M' (List.cons.inj e).2 hlt hI'⟩
  exact go xs 0 σ M rfl (Nat.zero_le _) h0
theorem log2_lt {m k : Nat} (hk : 0 < k) (h : m < 2 ^ k) : m.log2 < k := by
  by_cases h0 : m = 0
  · subst h0; simpa using hk
  · exact (Nat.log2_lt h0).mpr h
theorem Dt.big {i : Int} {n : Nat} (h : i.natAbs ≤ 1000000000000000000000000000000) (hn : 101 ≤ n := by decide) : Dt 0 n (.int i) := by
  have : i.natAbs.log2 < 100 := log2_lt (by decide) (Nat.lt_of_le_of_lt h (by decide))
  exact Dt.int (by omega) (by omega)
theorem cut_len (z : Str) (lo hi : Option Int) : (cutS z lo hi).length ≤ z.length := by
  show ((z.cps.toList.drop _).take _).toArray.size ≤ z.cps.size
  rw [List.size_toArray, List.length_take, List.length_drop, Array.length_toList]
  omega
theorem zq_f {Q : UK} {p : Addr} {xs : List U} {M : UHp} (e : M p = some (.lst xs)) (h : Q (.lst xs) (delM M p)) : ZQ Q (.ref p) M := .inr ⟨p, xs, rfl, e, h⟩
end PU

set_option Elab.async false
set_option linter.all false
set_option maxRecDepth 100000
/-! USimp: what the words give, a case at a time (printed by mk_simp.py). -/
namespace PU
open PySem PySem.Spec PyProof.Rows L2
def anyI (x : U) (M1 : UHp) (R : UIt → UHp → Prop) : Prop := match x with
  | .tup xs => R ⟨xs, fun _ => True⟩ M1
  | .str z => R ⟨signs z, fun _ => True⟩ M1
  | x => ∃ xs, listU M1 x = some xs ∧ R ⟨xs, fun M' => listU M' x = some xs⟩ M1
def refV (p : Addr) : Option MO → U
  | some (.lst xs) => .lst xs
  | _ => .ref p
theorem refV_lst {p : Addr} {xs : List U} : refV p (some (.lst xs)) = .lst xs := rfl
def refL : Option MO → Option (List U)
  | some (.lst xs) => some xs
  | _ => none
theorem refL_lst {xs : List U} : refL (some (.lst xs)) = some xs := rfl
def refT : Option MO → Option String
  | some (.lst _) => some "list"
  | some (.dK _) => some "dict"
  | _ => none
theorem refT_lst {xs : List U} : refT (some (.lst xs)) = some "list" := rfl
theorem tyM_ref {M : UHp} {p : Addr} : tyM M (U.ref p) = refT (M p) := by
  unfold tyM refT; rfl
def truK (x : U) (M : UHp) (Q : Bool → UHp → Prop) : Prop := ∃ k, truU M x = some k ∧ Q k M
def blK (x : U) (M : UHp) (Q : Bool → UHp → Prop) : Prop := ∃ k, x = .bl k ∧ Q k M
def partK (x : U) (M : UHp) (Q : Option Int → UHp → Prop) : Prop := ∃ i, x = .int i ∧ Q (some i) M
def rngK (us : List U) (M : UHp) (R : UIt → UHp → Prop) : Prop := ∃ j : Int, us = [.int j] ∧ -(2 ^ 62) ≤ j ∧ j < 2 ^ 62 ∧ j.toNat ≤ sizeLine ∧ R ⟨rangeU 0 j.toNat, fun _ => True⟩ M
theorem add_ii {M : UHp} {Q : UK} {i j : Int} {m : Bool} : addR m (.int i) (.int j) M Q = Q (.int (i + j)) M := rfl
theorem add_ss {M : UHp} {Q : UK} {a b : Str} {m : Bool} : addR m (.str a) (.str b) M Q = (a.length + b.length ≤ sizeLine ∧ Q (.str (a ++ b)) M) := rfl
theorem add_tt {M : UHp} {Q : UK} {xs ys : List U} {m : Bool} : addR m (.tup xs) (.tup ys) M Q = (xs.length + ys.length ≤ sizeLine ∧ Q (.tup (xs ++ ys)) M) := rfl
theorem add_ll {M : UHp} {Q : UK} {xs ys : List U} {m : Bool} : addR m (.lst xs) (.lst ys) M Q = (∃ xs_1 ys_1, some xs = some xs_1 ∧ some ys = some ys_1 ∧ xs_1.length + ys_1.length ≤ sizeLine ∧ newL m (xs_1 ++ ys_1) M Q) := rfl
theorem add_lr_ {M : UHp} {Q : UK} {xs : List U} {p : Addr} {m : Bool} : addR m (.lst xs) (.ref p) M Q = (∃ xs_1 ys_1, some xs = some xs_1 ∧ refL (M p) = some ys_1 ∧ xs_1.length + ys_1.length ≤ sizeLine ∧ newL m (xs_1 ++ ys_1) M Q) := rfl
theorem add_rl_ {M : UHp} {Q : UK} {ys : List U} {p : Addr} {m : Bool} : addR m (.ref p) (.lst ys) M Q = (∃ xs_1 ys_1, refL (M p) = some xs_1 ∧ some ys = some ys_1 ∧ xs_1.length + ys_1.length ≤ sizeLine ∧ newL m (xs_1 ++ ys_1) M Q) := rfl
theorem sub_ii {M : UHp} {Q : UK} {i j : Int} : subR (.int i) (.int j) M Q = Q (.int (i - j)) M := rfl
theorem mul_ii {M : UHp} {Q : UK} {i j : Int} {m d : Bool} : mulR m d (.int i) (.int j) M Q = (CMul i j ∧ Q (.int (i * j)) M) := rfl
theorem mod_ii {M : UHp} {Q : UK} {i j : Int} : modR (.int i) (.int j) M Q = (0 < j ∧ Q (.int (i % j)) M) := rfl
theorem div_ii {M : UHp} {Q : UK} {i j : Int} : divR (.int i) (.int j) M Q = (CDiv i j ∧ Q (.int (i / j)) M) := rfl
theorem pow_ii {M : UHp} {Q : UK} {i j : Int} : powR (.int i) (.int j) M Q = (CPow i j ∧ Q (.int (i ^ j.toNat)) M) := rfl
theorem lt_ii {M : UHp} {Q : UK} {i j : Int} : ltR (.int i) (.int j) M Q = Q (.bl (decide (i < j))) M := rfl
theorem lt_ss {M : UHp} {Q : UK} {a b : Str} : ltR (.str a) (.str b) M Q = Q (.bl (decide (a.cps.toList < b.cps.toList))) M := rfl
theorem le_ii {M : UHp} {Q : UK} {i j : Int} : leR (.int i) (.int j) M Q = Q (.bl (decide (i ≤ j))) M := rfl
theorem gt_ii {M : UHp} {Q : UK} {i j : Int} : gtR (.int i) (.int j) M Q = Q (.bl (decide (j < i))) M := rfl
theorem ge_ii {M : UHp} {Q : UK} {i j : Int} : geR (.int i) (.int j) M Q = Q (.bl (decide (j ≤ i))) M := rfl
theorem neg_i {M : UHp} {Q : UK} {i : Int} : negR (.int i) M Q = Q (.int (-i)) M := rfl
theorem int_i {M : UHp} {Q : UK} {i : Int} : intR [.int i] M Q = Q (.int i) M := rfl
theorem aug_ii {M : UHp} {Q : UK} {i j : Int} {f : Int → Int → Int} : augI f (.int i) (.int j) M Q = Q (.int (f i j)) M := rfl
theorem isNon_non  : isNon (U.non) = true := rfl
theorem isNon_bl {k : Bool} : isNon (U.bl k) = false := rfl
theorem isNon_int {i : Int} : isNon (U.int i) = false := rfl
theorem isNon_str {z : Str} : isNon (U.str z) = false := rfl
theorem isNon_tup {xs : List U} : isNon (U.tup xs) = false := rfl
theorem isNon_lst {xs : List U} : isNon (U.lst xs) = false := rfl
theorem isNon_ref {p : Addr} : isNon (U.ref p) = false := rfl
theorem val_non {M : UHp} : val M (U.non) = U.non := rfl
theorem val_bl {M : UHp} {k : Bool} : val M (U.bl k) = U.bl k := rfl
theorem val_int {M : UHp} {i : Int} : val M (U.int i) = U.int i := rfl
theorem val_str {M : UHp} {z : Str} : val M (U.str z) = U.str z := rfl
theorem val_tup {M : UHp} {xs : List U} : val M (U.tup xs) = U.tup xs := rfl
theorem val_lst {M : UHp} {xs : List U} : val M (U.lst xs) = U.lst xs := rfl
theorem val_ref {M : UHp} {p : Addr} : val M (U.ref p) = refV p (M p) := by
  unfold val refV; rfl
theorem listU_lst {M : UHp} {xs : List U} : listU M (U.lst xs) = some xs := rfl
theorem listU_ref {M : UHp} {p : Addr} : listU M (U.ref p) = refL (M p) := by
  unfold listU refL; rfl
theorem seqU_lst {M : UHp} {xs : List U} : seqU M (U.lst xs) = some xs := rfl
theorem seqU_tup {M : UHp} {xs : List U} : seqU M (U.tup xs) = some xs := rfl
theorem seqU_ref {M : UHp} {p : Addr} : seqU M (U.ref p) = refL (M p) := by
  unfold seqU refL; rfl
theorem lenU_str {M : UHp} {z : Str} : lenU M (U.str z) = some z.length := rfl
theorem lenU_tup {M : UHp} {xs : List U} : lenU M (U.tup xs) = some xs.length := rfl
theorem lenU_lst {M : UHp} {xs : List U} : lenU M (U.lst xs) = some xs.length := rfl
theorem lenU_ref {M : UHp} {p : Addr} : lenU M (U.ref p) = (refL (M p)).map List.length := by
  show (match M p with | some (MO.lst xs) => some xs.length | _ => none) = _
  generalize M p = o
  cases o with
  | none => rfl
  | some o => cases o <;> rfl
theorem len_1 {M : UHp} {Q : UK} {x : U} : lenR [x] M Q = (∃ n, lenU M x = some n ∧ Q (.int (n : Nat)) M) := rfl
theorem tyM_non {M : UHp} : tyM M (U.non) = some "NoneType" := rfl
theorem tyM_bl {M : UHp} {k : Bool} : tyM M (U.bl k) = some "bool" := rfl
theorem tyM_int {M : UHp} {i : Int} : tyM M (U.int i) = some "int" := rfl
theorem tyM_str {M : UHp} {z : Str} : tyM M (U.str z) = some "str" := rfl
theorem tyM_tup {M : UHp} {xs : List U} : tyM M (U.tup xs) = some "tuple" := rfl
theorem tyM_lst {M : UHp} {xs : List U} : tyM M (U.lst xs) = some "list" := rfl
theorem isi_1 {M : UHp} {Q : UK} {x : U} {n : String} : isiR [x, .ty n] M Q = (∃ t, tyM M x = some t ∧ okN n = true ∧ Q (.bl (subT t n)) M) := rfl
theorem isi_2 {M : UHp} {Q : UK} {x : U} {n l : String} : isiR [x, .tup [.ty n, .ty l]] M Q = (∃ t, tyM M x = some t ∧ okN n = true ∧ okN l = true ∧ Q (.bl (subT t n || subT t l)) M) := rfl
theorem okN_str  : okN "str" = true := by decide
theorem okN_int  : okN "int" = true := by decide
theorem okN_bool  : okN "bool" = true := by decide
theorem okN_tuple  : okN "tuple" = true := by decide
theorem okN_list  : okN "list" = true := by decide
theorem okN_dict  : okN "dict" = true := by decide
theorem sub_NoneType_str  : subT "NoneType" "str" = false := by decide
theorem sub_NoneType_int  : subT "NoneType" "int" = false := by decide
theorem sub_NoneType_bool  : subT "NoneType" "bool" = false := by decide
theorem sub_NoneType_tuple  : subT "NoneType" "tuple" = false := by decide
theorem sub_NoneType_list  : subT "NoneType" "list" = false := by decide
theorem sub_NoneType_dict  : subT "NoneType" "dict" = false := by decide
theorem sub_bool_str  : subT "bool" "str" = false := by decide
theorem sub_bool_int  : subT "bool" "int" = true := by decide
theorem sub_bool_bool  : subT "bool" "bool" = true := by decide
theorem sub_bool_tuple  : subT "bool" "tuple" = false := by decide
theorem sub_bool_list  : subT "bool" "list" = false := by decide
theorem sub_bool_dict  : subT "bool" "dict" = false := by decide
theorem sub_int_str  : subT "int" "str" = false := by decide
theorem sub_int_int  : subT "int" "int" = true := by decide
theorem sub_int_bool  : subT "int" "bool" = false := by decide
theorem sub_int_tuple  : subT "int" "tuple" = false := by decide
theorem sub_int_list  : subT "int" "list" = false := by decide
theorem sub_int_dict  : subT "int" "dict" = false := by decide
theorem sub_str_str  : subT "str" "str" = true := by decide
theorem sub_str_int  : subT "str" "int" = false := by decide
theorem sub_str_bool  : subT "str" "bool" = false := by decide
theorem sub_str_tuple  : subT "str" "tuple" = false := by decide
theorem sub_str_list  : subT "str" "list" = false := by decide
theorem sub_str_dict  : subT "str" "dict" = false := by decide
theorem sub_tuple_str  : subT "tuple" "str" = false := by decide
theorem sub_tuple_int  : subT "tuple" "int" = false := by decide
theorem sub_tuple_bool  : subT "tuple" "bool" = false := by decide
theorem sub_tuple_tuple  : subT "tuple" "tuple" = true := by decide
theorem sub_tuple_list  : subT "tuple" "list" = false := by decide
theorem sub_tuple_dict  : subT "tuple" "dict" = false := by decide
theorem sub_list_str  : subT "list" "str" = false := by decide
theorem sub_list_int  : subT "list" "int" = false := by decide
theorem sub_list_bool  : subT "list" "bool" = false := by decide
theorem sub_list_tuple  : subT "list" "tuple" = false := by decide
theorem sub_list_list  : subT "list" "list" = true := by decide
theorem sub_list_dict  : subT "list" "dict" = false := by decide
theorem sub_dict_str  : subT "dict" "str" = false := by decide
theorem sub_dict_int  : subT "dict" "int" = false := by decide
theorem sub_dict_bool  : subT "dict" "bool" = false := by decide
theorem sub_dict_tuple  : subT "dict" "tuple" = false := by decide
theorem sub_dict_list  : subT "dict" "list" = false := by decide
theorem sub_dict_dict  : subT "dict" "dict" = true := by decide
theorem tru_non {M : UHp} : truU M U.non = some false := rfl
theorem tru_bl {M : UHp} {k : Bool} : truU M (U.bl k) = some k := rfl
theorem tru_int {M : UHp} {i : Int} : truU M (U.int i) = some (i != 0) := rfl
theorem tru_str {M : UHp} {z : Str} : truU M (U.str z) = some ((z.length : Int) != 0) := rfl
theorem tru_tup {M : UHp} {xs : List U} : truU M (U.tup xs) = some (!xs.isEmpty) := rfl
theorem tru_lst {M : UHp} {xs : List U} : truU M (U.lst xs) = some (!xs.isEmpty) := rfl
theorem eq_R {M : UHp} {Q : UK} {x y : U} : eqR x y M Q = (isD (val M x) = true ∧ isD (val M y) = true ∧ (dep (val M x) ≤ 64 ∨ dep (val M y) ≤ 64) ∧ Q (.bl (ueq (val M x) (val M y))) M) := rfl
theorem ne_R {M : UHp} {Q : UK} {x y : U} : neR x y M Q = (isD (val M x) = true ∧ isD (val M y) = true ∧ (dep (val M x) ≤ 64 ∨ dep (val M y) ≤ 64) ∧ Q (.bl (!ueq (val M x) (val M y))) M) := rfl
theorem isn_R {M : UHp} {Q : UK} {x y : U} {neg : Bool} : isnR neg x y M Q = (y = .non ∧ Q (.bl (if neg then !isNon x else isNon x)) M) := rfl
theorem isD_non  : isD U.non = true := rfl
theorem isD_bl {k : Bool} : isD (U.bl k) = true := rfl
theorem isD_int {i : Int} : isD (U.int i) = true := rfl
theorem isD_str {z : Str} : isD (U.str z) = okS z := rfl
theorem isD_tup {xs : List U} : isD (U.tup xs) = isDs xs := rfl
theorem isD_lst {xs : List U} : isD (U.lst xs) = isDs xs := rfl
theorem isDs_nil  : isDs [] = true := rfl
theorem isDs_cons {x : U} {xs : List U} : isDs (x :: xs) = (isD x && isDs xs) := rfl
theorem dep_non  : dep U.non = 0 := rfl
theorem dep_bl {k : Bool} : dep (U.bl k) = 0 := rfl
theorem dep_int {i : Int} : dep (U.int i) = 0 := rfl
theorem dep_str {z : Str} : dep (U.str z) = 0 := rfl
theorem dep_tup {xs : List U} : dep (U.tup xs) = deps xs + 1 := rfl
theorem dep_lst {xs : List U} : dep (U.lst xs) = deps xs + 1 := rfl
theorem deps_nil  : deps [] = 0 := rfl
theorem deps_cons {x : U} {xs : List U} : deps (x :: xs) = max (dep x) (deps xs) := rfl
theorem ueq_ii {i j : Int} : ueq (.int i) (.int j) = (i == j) := rfl
theorem ueq_ss {a b : Str} : ueq (.str a) (.str b) = (a == b) := rfl
theorem ueq_bb {k l : Bool} : ueq (.bl k) (.bl l) = (k == l) := rfl
theorem ueq_tt {xs ys : List U} : ueq (.tup xs) (.tup ys) = ueqs xs ys := rfl
theorem ueq_ll {xs ys : List U} : ueq (.lst xs) (.lst ys) = ueqs xs ys := rfl
theorem ueqs_nn  : ueqs [] [] = true := rfl
theorem ueqs_cc {x y : U} {xs ys : List U} : ueqs (x :: xs) (y :: ys) = (ueq x y && ueqs xs ys) := rfl
theorem ueqs_cn {x : U} {xs : List U} : ueqs (x :: xs) [] = false := rfl
theorem ueqs_nc {x : U} {xs : List U} : ueqs [] (x :: xs) = false := rfl
theorem ix_s {M : UHp} {Q : UK} {i : Int} {z : Str} : ixR (.str z) (.int i) M Q = (∃ c, atI z.cps.toList i = some c ∧ Q (.str ⟨#[c]⟩) M) := rfl
theorem ix_t {M : UHp} {Q : UK} {i : Int} {xs : List U} : ixR (.tup xs) (.int i) M Q = (∃ xs_1, seqU M (.tup xs) = some xs_1 ∧ ∃ v, atI xs_1 i = some v ∧ Q v M) := propext ⟨fun ⟨a, b, c, d⟩ => ⟨a, c, b, d⟩, fun ⟨a, c, b, d⟩ => ⟨a, b, c, d⟩⟩
theorem ix_l {M : UHp} {Q : UK} {i : Int} {xs : List U} : ixR (.lst xs) (.int i) M Q = (∃ xs_1, seqU M (.lst xs) = some xs_1 ∧ ∃ v, atI xs_1 i = some v ∧ Q v M) := propext ⟨fun ⟨a, b, c, d⟩ => ⟨a, c, b, d⟩, fun ⟨a, c, b, d⟩ => ⟨a, b, c, d⟩⟩
theorem ix_r {M : UHp} {Q : UK} {i : Int} {p : Addr} : ixR (.ref p) (.int i) M Q = (∃ xs_1, seqU M (.ref p) = some xs_1 ∧ ∃ v, atI xs_1 i = some v ∧ Q v M) := propext ⟨fun ⟨a, b, c, d⟩ => ⟨a, c, b, d⟩, fun ⟨a, c, b, d⟩ => ⟨a, b, c, d⟩⟩
theorem set_r {M : UHp} {R : UHp → Prop} {p : Addr} {k : Int} {v : U} : setR (.ref p) (.int k) v M R = (∃ xs, M p = some (.lst xs) ∧ ∃ j, ixN xs.length k = some j ∧ R (updM M p (.lst (xs.set j v)))) := propext ⟨fun ⟨a, b, c, d⟩ => ⟨a, c, b, d⟩, fun ⟨a, c, b, d⟩ => ⟨a, b, c, d⟩⟩
theorem app_r {M : UHp} {Q : UK} {p : Addr} {y : U} : appR (.ref p) [y] M Q = (∃ ys, M p = some (.lst ys) ∧ ys.length < sizeLine ∧ Q .non (updM M p (.lst (ys ++ [y])))) := rfl
theorem pop_r {M : UHp} {Q : UK} {i : Int} {p : Addr} : popR (.ref p) [.int i] M Q = (∃ ys, M p = some (.lst ys) ∧ i < 2 ^ 63 ∧ ∃ k, ixN ys.length i = some k ∧ ∃ y, ys[k]? = some y ∧ Q y (updM M p (.lst (ys.eraseIdx k)))) := propext ⟨fun ⟨a, b, c, d, e, f, g, h⟩ => ⟨a, d, e, b, f, c, g, h⟩, fun ⟨a, d, e, b, f, c, g, h⟩ => ⟨a, b, c, d, e, f, g, h⟩⟩
theorem ins_r {M : UHp} {Q : UK} {p : Addr} {i : Int} {y : U} : insR (.ref p) [.int i, y] M Q = (∃ ys, M p = some (.lst ys) ∧ ys.length < sizeLine ∧ 0 ≤ i ∧ i < 2 ^ 63 ∧ Q .non (updM M p (.lst (ys.take i.toNat ++ [y] ++ ys.drop i.toNat)))) := rfl
theorem join_r {M : UHp} {Q : UK} {a : Str} {y : U} : joinR (.str a) [y] M Q = (∃ ys, seqU M y = some ys ∧ ∃ zs, strsU ys = some zs ∧ (zs.map (·.length)).sum + zs.length * a.length ≤ 16777216 ∧ (okS a = true → (∀ z ∈ zs, okS z = true) → okS (Txt.join a zs) = true) ∧ Q (.str (Txt.join a zs)) M) := propext ⟨fun ⟨a, b, c, d⟩ => ⟨a, c, b, d⟩, fun ⟨a, c, b, d⟩ => ⟨a, b, c, d⟩⟩
theorem all_1 {M : UHp} {Q : UK} {x : U} : allR [x] M Q = (∃ ys, listU M x = some ys ∧ ∃ k, allU ys = some k ∧ Q (.bl k) M) := propext ⟨fun ⟨a, b, c, d⟩ => ⟨a, c, b, d⟩, fun ⟨a, c, b, d⟩ => ⟨a, b, c, d⟩⟩
theorem any_1 {M : UHp} {Q : UK} {x : U} : anyR [x] M Q = (∃ ys, listU M x = some ys ∧ ∃ k, anyU ys = some k ∧ Q (.bl k) M) := propext ⟨fun ⟨a, b, c, d⟩ => ⟨a, c, b, d⟩, fun ⟨a, c, b, d⟩ => ⟨a, b, c, d⟩⟩
theorem tuple_1 {M : UHp} {Q : UK} {x : U} : tupleR [x] M Q = (∃ ys, seqU M x = some ys ∧ Q (.tup ys) M) := rfl
theorem list_1 {M : UHp} {Q : UK} {x : U} {m : Bool} : listR m [x] M Q = (∃ ys, seqU M x = some ys ∧ newL m ys M Q) := rfl
theorem repr_1 {M : UHp} {Q : UK} {x : U} : reprR [x] M Q = (okR (val M x) ∧ Q (.str (rep (val M x))) M) := rfl
theorem newL_f {M : UHp} {Q : UK} {xs : List U} : newL false xs M Q = Q (.lst xs) M := by simp [newL]
theorem newL_t {M : UHp} {Q : UK} {xs : List U} : newL true xs M Q = (∀ p, M p = none → Q (.ref p) (updM M p (.lst xs))) := by simp [newL]
theorem sl_s {M : UHp} {Q : UK} {m : Bool} {z : Str} {lo hi : Option Int} : slR m (.str z) lo hi M Q = Q (.str (cutS z lo hi)) M := rfl
theorem sl_t {M : UHp} {Q : UK} {m : Bool} {xs : List U} {lo hi : Option Int} : slR m (.tup xs) lo hi M Q = Q (.tup (cutL xs lo hi)) M := rfl
theorem sl_l {M : UHp} {Q : UK} {m : Bool} {xs : List U} {lo hi : Option Int} : slR m (.lst xs) lo hi M Q = (∃ ys, some xs = some ys ∧ newL m (cutL ys lo hi) M Q) := rfl
theorem sl_r {M : UHp} {Q : UK} {m : Bool} {p : Addr} {lo hi : Option Int} : slR m (.ref p) lo hi M Q = (∃ ys, listU M (.ref p) = some ys ∧ newL m (cutL ys lo hi) M Q) := rfl
theorem in_ss {M : UHp} {Q : UK} {neg : Bool} {a b : Str} : inR neg (.str a) (.str b) M Q = (∃ c, U.str a = .str c ∧ Q (.bl (if neg then !inStr c b else inStr c b)) M) := rfl
theorem in_t {M : UHp} {Q : UK} {neg : Bool} {x : U} {xs : List U} : inR neg x (.tup xs) M Q = (isDs xs = true ∧ isD x = true ∧ (deps xs ≤ 64 ∨ dep x ≤ 64) ∧ Q (.bl (if neg then !inU x xs else inU x xs)) M) := rfl
theorem in_l {M : UHp} {Q : UK} {neg : Bool} {x : U} {xs : List U} : inR neg x (.lst xs) M Q = (isDs xs = true ∧ isD x = true ∧ (deps xs ≤ 64 ∨ dep x ≤ 64) ∧ Q (.bl (if neg then !inU x xs else inU x xs)) M) := rfl
theorem in_r {M : UHp} {Q : UK} {neg : Bool} {x : U} {p : Addr} : inR neg x (.ref p) M Q = (∃ xs, M p = some (.lst xs) ∧ isDs xs = true ∧ isD x = true ∧ (deps xs ≤ 64 ∨ dep x ≤ 64) ∧ Q (.bl (if neg then !inU x xs else inU x xs)) M) := rfl
theorem tyMt_rl {M : UHp} {p : Addr} : tyMt "list" M (.ref p) = (∃ xs, M p = some (.lst xs)) := by simp [tyMt]
theorem tyMt_rd {M : UHp} {p : Addr} : tyMt "dict" M (.ref p) = (∃ kvs, M p = some (.dK kvs)) := by simp [tyMt]
theorem tyMt_s {T : String} {M : UHp} {z : Str} : tyMt T M (.str z) = (T = "str") := rfl
theorem any_t {te : UTE} {M : UHp} {R : UIt → UHp → Prop} : uAnyI te σ M R = te σ M (fun x M1 => anyI x M1 R) := by unfold uAnyI anyI; rfl
theorem anyI_t {M : UHp} {R : UIt → UHp → Prop} {xs : List U} : anyI (.tup xs) M R = R ⟨xs, fun _ => True⟩ M := rfl
theorem anyI_s {M : UHp} {R : UIt → UHp → Prop} {z : Str} : anyI (.str z) M R = R ⟨signs z, fun _ => True⟩ M := rfl
theorem anyI_l {M : UHp} {R : UIt → UHp → Prop} {xs : List U} : anyI (.lst xs) M R = (∃ ys, some xs = some ys ∧ R ⟨ys, fun _ => some xs = some ys⟩ M) := rfl
theorem anyI_r {M : UHp} {R : UIt → UHp → Prop} {p : Addr} : anyI (.ref p) M R = (∃ ys, listU M (.ref p) = some ys ∧ R ⟨ys, fun M' => listU M' (.ref p) = some ys⟩ M) := rfl
theorem uVar_0 {a : U} {M : UHp} {Q : UK} : uVar 0 (some a :: σ) M Q = Q a M := by simp [uVar]
theorem uVar_1 {x0 : Option U} {a : U} {M : UHp} {Q : UK} : uVar 1 (x0 :: some a :: σ) M Q = Q a M := by simp [uVar]
theorem uVar_2 {x0 x1 : Option U} {a : U} {M : UHp} {Q : UK} : uVar 2 (x0 :: x1 :: some a :: σ) M Q = Q a M := by simp [uVar]
theorem uVar_3 {x0 x1 x2 : Option U} {a : U} {M : UHp} {Q : UK} : uVar 3 (x0 :: x1 :: x2 :: some a :: σ) M Q = Q a M := by simp [uVar]
theorem uVar_4 {x0 x1 x2 x3 : Option U} {a : U} {M : UHp} {Q : UK} : uVar 4 (x0 :: x1 :: x2 :: x3 :: some a :: σ) M Q = Q a M := by simp [uVar]
theorem uVar_5 {x0 x1 x2 x3 x4 : Option U} {a : U} {M : UHp} {Q : UK} : uVar 5 (x0 :: x1 :: x2 :: x3 :: x4 :: some a :: σ) M Q = Q a M := by simp [uVar]
theorem uVar_6 {x0 x1 x2 x3 x4 x5 : Option U} {a : U} {M : UHp} {Q : UK} : uVar 6 (x0 :: x1 :: x2 :: x3 :: x4 :: x5 :: some a :: σ) M Q = Q a M := by simp [uVar]
theorem uVar_7 {x0 x1 x2 x3 x4 x5 x6 : Option U} {a : U} {M : UHp} {Q : UK} : uVar 7 (x0 :: x1 :: x2 :: x3 :: x4 :: x5 :: x6 :: some a :: σ) M Q = Q a M := by simp [uVar]
theorem uVar_8 {x0 x1 x2 x3 x4 x5 x6 x7 : Option U} {a : U} {M : UHp} {Q : UK} : uVar 8 (x0 :: x1 :: x2 :: x3 :: x4 :: x5 :: x6 :: x7 :: some a :: σ) M Q = Q a M := by simp [uVar]
theorem uVar_9 {x0 x1 x2 x3 x4 x5 x6 x7 x8 : Option U} {a : U} {M : UHp} {Q : UK} : uVar 9 (x0 :: x1 :: x2 :: x3 :: x4 :: x5 :: x6 :: x7 :: x8 :: some a :: σ) M Q = Q a M := by simp [uVar]
theorem uVar_10 {x0 x1 x2 x3 x4 x5 x6 x7 x8 x9 : Option U} {a : U} {M : UHp} {Q : UK} : uVar 10 (x0 :: x1 :: x2 :: x3 :: x4 :: x5 :: x6 :: x7 :: x8 :: x9 :: some a :: σ) M Q = Q a M := by simp [uVar]
theorem uVar_11 {x0 x1 x2 x3 x4 x5 x6 x7 x8 x9 x10 : Option U} {a : U} {M : UHp} {Q : UK} : uVar 11 (x0 :: x1 :: x2 :: x3 :: x4 :: x5 :: x6 :: x7 :: x8 :: x9 :: x10 :: some a :: σ) M Q = Q a M := by simp [uVar]
theorem uVar_12 {x0 x1 x2 x3 x4 x5 x6 x7 x8 x9 x10 x11 : Option U} {a : U} {M : UHp} {Q : UK} : uVar 12 (x0 :: x1 :: x2 :: x3 :: x4 :: x5 :: x6 :: x7 :: x8 :: x9 :: x10 :: x11 :: some a :: σ) M Q = Q a M := by simp [uVar]
theorem uVar_13 {x0 x1 x2 x3 x4 x5 x6 x7 x8 x9 x10 x11 x12 : Option U} {a : U} {M : UHp} {Q : UK} : uVar 13 (x0 :: x1 :: x2 :: x3 :: x4 :: x5 :: x6 :: x7 :: x8 :: x9 :: x10 :: x11 :: x12 :: some a :: σ) M Q = Q a M := by simp [uVar]
theorem uVar_14 {x0 x1 x2 x3 x4 x5 x6 x7 x8 x9 x10 x11 x12 x13 : Option U} {a : U} {M : UHp} {Q : UK} : uVar 14 (x0 :: x1 :: x2 :: x3 :: x4 :: x5 :: x6 :: x7 :: x8 :: x9 :: x10 :: x11 :: x12 :: x13 :: some a :: σ) M Q = Q a M := by simp [uVar]
theorem uVar_15 {x0 x1 x2 x3 x4 x5 x6 x7 x8 x9 x10 x11 x12 x13 x14 : Option U} {a : U} {M : UHp} {Q : UK} : uVar 15 (x0 :: x1 :: x2 :: x3 :: x4 :: x5 :: x6 :: x7 :: x8 :: x9 :: x10 :: x11 :: x12 :: x13 :: x14 :: some a :: σ) M Q = Q a M := by simp [uVar]
theorem len_str {M : UHp} {Q : UK} {z : Str} : lenR [.str z] M Q = Q (.int (z.length : Nat)) M := by simp [lenR, lenU]
theorem len_tup {M : UHp} {Q : UK} {xs : List U} : lenR [.tup xs] M Q = Q (.int (xs.length : Nat)) M := by simp [lenR, lenU]
theorem len_lst {M : UHp} {Q : UK} {xs : List U} : lenR [.lst xs] M Q = Q (.int (xs.length : Nat)) M := by simp [lenR, lenU]
theorem isi_non_str {M : UHp} {Q : UK} : isiR [.non, .ty "str"] M Q = Q (.bl false) M := by simp only [isi_1, tyM_non, okN_str, Option.some.injEq, exists_eq_left', sub_NoneType_str, true_and]
theorem isi_non_int {M : UHp} {Q : UK} : isiR [.non, .ty "int"] M Q = Q (.bl false) M := by simp only [isi_1, tyM_non, okN_int, Option.some.injEq, exists_eq_left', sub_NoneType_int, true_and]
theorem isi_non_bool {M : UHp} {Q : UK} : isiR [.non, .ty "bool"] M Q = Q (.bl false) M := by simp only [isi_1, tyM_non, okN_bool, Option.some.injEq, exists_eq_left', sub_NoneType_bool, true_and]
theorem isi_non_tuple {M : UHp} {Q : UK} : isiR [.non, .ty "tuple"] M Q = Q (.bl false) M := by simp only [isi_1, tyM_non, okN_tuple, Option.some.injEq, exists_eq_left', sub_NoneType_tuple, true_and]
theorem isi_non_list {M : UHp} {Q : UK} : isiR [.non, .ty "list"] M Q = Q (.bl false) M := by simp only [isi_1, tyM_non, okN_list, Option.some.injEq, exists_eq_left', sub_NoneType_list, true_and]
theorem isi_non_dict {M : UHp} {Q : UK} : isiR [.non, .ty "dict"] M Q = Q (.bl false) M := by simp only [isi_1, tyM_non, okN_dict, Option.some.injEq, exists_eq_left', sub_NoneType_dict, true_and]
theorem isi_non_tuple_list {M : UHp} {Q : UK} : isiR [.non, .tup [.ty "tuple", .ty "list"]] M Q = Q (.bl false) M := by simp only [isi_2, tyM_non, okN_tuple, okN_list, Option.some.injEq, exists_eq_left', sub_NoneType_tuple, sub_NoneType_list, true_and, Bool.or_true, Bool.or_false, Bool.true_or, Bool.false_or]
theorem isi_bl_str {M : UHp} {Q : UK} {k : Bool} : isiR [.bl k, .ty "str"] M Q = Q (.bl false) M := by simp only [isi_1, tyM_bl, okN_str, Option.some.injEq, exists_eq_left', sub_bool_str, true_and]
theorem isi_bl_int {M : UHp} {Q : UK} {k : Bool} : isiR [.bl k, .ty "int"] M Q = Q (.bl true) M := by simp only [isi_1, tyM_bl, okN_int, Option.some.injEq, exists_eq_left', sub_bool_int, true_and]
theorem isi_bl_bool {M : UHp} {Q : UK} {k : Bool} : isiR [.bl k, .ty "bool"] M Q = Q (.bl true) M := by simp only [isi_1, tyM_bl, okN_bool, Option.some.injEq, exists_eq_left', sub_bool_bool, true_and]
theorem isi_bl_tuple {M : UHp} {Q : UK} {k : Bool} : isiR [.bl k, .ty "tuple"] M Q = Q (.bl false) M := by simp only [isi_1, tyM_bl, okN_tuple, Option.some.injEq, exists_eq_left', sub_bool_tuple, true_and]
theorem isi_bl_list {M : UHp} {Q : UK} {k : Bool} : isiR [.bl k, .ty "list"] M Q = Q (.bl false) M := by simp only [isi_1, tyM_bl, okN_list, Option.some.injEq, exists_eq_left', sub_bool_list, true_and]
theorem isi_bl_dict {M : UHp} {Q : UK} {k : Bool} : isiR [.bl k, .ty "dict"] M Q = Q (.bl false) M := by simp only [isi_1, tyM_bl, okN_dict, Option.some.injEq, exists_eq_left', sub_bool_dict, true_and]
theorem isi_bl_tuple_list {M : UHp} {Q : UK} {k : Bool} : isiR [.bl k, .tup [.ty "tuple", .ty "list"]] M Q = Q (.bl false) M := by simp only [isi_2, tyM_bl, okN_tuple, okN_list, Option.some.injEq, exists_eq_left', sub_bool_tuple, sub_bool_list, true_and, Bool.or_true, Bool.or_false, Bool.true_or, Bool.false_or]
theorem isi_int_str {M : UHp} {Q : UK} {i : Int} : isiR [.int i, .ty "str"] M Q = Q (.bl false) M := by simp only [isi_1, tyM_int, okN_str, Option.some.injEq, exists_eq_left', sub_int_str, true_and]
theorem isi_int_int {M : UHp} {Q : UK} {i : Int} : isiR [.int i, .ty "int"] M Q = Q (.bl true) M := by simp only [isi_1, tyM_int, okN_int, Option.some.injEq, exists_eq_left', sub_int_int, true_and]
theorem isi_int_bool {M : UHp} {Q : UK} {i : Int} : isiR [.int i, .ty "bool"] M Q = Q (.bl false) M := by simp only [isi_1, tyM_int, okN_bool, Option.some.injEq, exists_eq_left', sub_int_bool, true_and]
theorem isi_int_tuple {M : UHp} {Q : UK} {i : Int} : isiR [.int i, .ty "tuple"] M Q = Q (.bl false) M := by simp only [isi_1, tyM_int, okN_tuple, Option.some.injEq, exists_eq_left', sub_int_tuple, true_and]
theorem isi_int_list {M : UHp} {Q : UK} {i : Int} : isiR [.int i, .ty "list"] M Q = Q (.bl false) M := by simp only [isi_1, tyM_int, okN_list, Option.some.injEq, exists_eq_left', sub_int_list, true_and]
theorem isi_int_dict {M : UHp} {Q : UK} {i : Int} : isiR [.int i, .ty "dict"] M Q = Q (.bl false) M := by simp only [isi_1, tyM_int, okN_dict, Option.some.injEq, exists_eq_left', sub_int_dict, true_and]
theorem isi_int_tuple_list {M : UHp} {Q : UK} {i : Int} : isiR [.int i, .tup [.ty "tuple", .ty "list"]] M Q = Q (.bl false) M := by simp only [isi_2, tyM_int, okN_tuple, okN_list, Option.some.injEq, exists_eq_left', sub_int_tuple, sub_int_list, true_and, Bool.or_true, Bool.or_false, Bool.true_or, Bool.false_or]
theorem isi_str_str {M : UHp} {Q : UK} {z : Str} : isiR [.str z, .ty "str"] M Q = Q (.bl true) M := by simp only [isi_1, tyM_str, okN_str, Option.some.injEq, exists_eq_left', sub_str_str, true_and]
theorem isi_str_int {M : UHp} {Q : UK} {z : Str} : isiR [.str z, .ty "int"] M Q = Q (.bl false) M := by simp only [isi_1, tyM_str, okN_int, Option.some.injEq, exists_eq_left', sub_str_int, true_and]
theorem isi_str_bool {M : UHp} {Q : UK} {z : Str} : isiR [.str z, .ty "bool"] M Q = Q (.bl false) M := by simp only [isi_1, tyM_str, okN_bool, Option.some.injEq, exists_eq_left', sub_str_bool, true_and]
theorem isi_str_tuple {M : UHp} {Q : UK} {z : Str} : isiR [.str z, .ty "tuple"] M Q = Q (.bl false) M := by simp only [isi_1, tyM_str, okN_tuple, Option.some.injEq, exists_eq_left', sub_str_tuple, true_and]
theorem isi_str_list {M : UHp} {Q : UK} {z : Str} : isiR [.str z, .ty "list"] M Q = Q (.bl false) M := by simp only [isi_1, tyM_str, okN_list, Option.some.injEq, exists_eq_left', sub_str_list, true_and]
theorem isi_str_dict {M : UHp} {Q : UK} {z : Str} : isiR [.str z, .ty "dict"] M Q = Q (.bl false) M := by simp only [isi_1, tyM_str, okN_dict, Option.some.injEq, exists_eq_left', sub_str_dict, true_and]
theorem isi_str_tuple_list {M : UHp} {Q : UK} {z : Str} : isiR [.str z, .tup [.ty "tuple", .ty "list"]] M Q = Q (.bl false) M := by simp only [isi_2, tyM_str, okN_tuple, okN_list, Option.some.injEq, exists_eq_left', sub_str_tuple, sub_str_list, true_and, Bool.or_true, Bool.or_false, Bool.true_or, Bool.false_or]
theorem isi_tup_str {M : UHp} {Q : UK} {xs : List U} : isiR [.tup xs, .ty "str"] M Q = Q (.bl false) M := by simp only [isi_1, tyM_tup, okN_str, Option.some.injEq, exists_eq_left', sub_tuple_str, true_and]
theorem isi_tup_int {M : UHp} {Q : UK} {xs : List U} : isiR [.tup xs, .ty "int"] M Q = Q (.bl false) M := by simp only [isi_1, tyM_tup, okN_int, Option.some.injEq, exists_eq_left', sub_tuple_int, true_and]
theorem isi_tup_bool {M : UHp} {Q : UK} {xs : List U} : isiR [.tup xs, .ty "bool"] M Q = Q (.bl false) M := by simp only [isi_1, tyM_tup, okN_bool, Option.some.injEq, exists_eq_left', sub_tuple_bool, true_and]
theorem isi_tup_tuple {M : UHp} {Q : UK} {xs : List U} : isiR [.tup xs, .ty "tuple"] M Q = Q (.bl true) M := by simp only [isi_1, tyM_tup, okN_tuple, Option.some.injEq, exists_eq_left', sub_tuple_tuple, true_and]
theorem isi_tup_list {M : UHp} {Q : UK} {xs : List U} : isiR [.tup xs, .ty "list"] M Q = Q (.bl false) M := by simp only [isi_1, tyM_tup, okN_list, Option.some.injEq, exists_eq_left', sub_tuple_list, true_and]
theorem isi_tup_dict {M : UHp} {Q : UK} {xs : List U} : isiR [.tup xs, .ty "dict"] M Q = Q (.bl false) M := by simp only [isi_1, tyM_tup, okN_dict, Option.some.injEq, exists_eq_left', sub_tuple_dict, true_and]
theorem isi_tup_tuple_list {M : UHp} {Q : UK} {xs : List U} : isiR [.tup xs, .tup [.ty "tuple", .ty "list"]] M Q = Q (.bl true) M := by simp only [isi_2, tyM_tup, okN_tuple, okN_list, Option.some.injEq, exists_eq_left', sub_tuple_tuple, sub_tuple_list, true_and, Bool.or_true, Bool.or_false, Bool.true_or, Bool.false_or]
theorem isi_lst_str {M : UHp} {Q : UK} {xs : List U} : isiR [.lst xs, .ty "str"] M Q = Q (.bl false) M := by simp only [isi_1, tyM_lst, okN_str, Option.some.injEq, exists_eq_left', sub_list_str, true_and]
theorem isi_lst_int {M : UHp} {Q : UK} {xs : List U} : isiR [.lst xs, .ty "int"] M Q = Q (.bl false) M := by simp only [isi_1, tyM_lst, okN_int, Option.some.injEq, exists_eq_left', sub_list_int, true_and]
theorem isi_lst_bool {M : UHp} {Q : UK} {xs : List U} : isiR [.lst xs, .ty "bool"] M Q = Q (.bl false) M := by simp only [isi_1, tyM_lst, okN_bool, Option.some.injEq, exists_eq_left', sub_list_bool, true_and]
theorem isi_lst_tuple {M : UHp} {Q : UK} {xs : List U} : isiR [.lst xs, .ty "tuple"] M Q = Q (.bl false) M := by simp only [isi_1, tyM_lst, okN_tuple, Option.some.injEq, exists_eq_left', sub_list_tuple, true_and]
theorem isi_lst_list {M : UHp} {Q : UK} {xs : List U} : isiR [.lst xs, .ty "list"] M Q = Q (.bl true) M := by simp only [isi_1, tyM_lst, okN_list, Option.some.injEq, exists_eq_left', sub_list_list, true_and]
theorem isi_lst_dict {M : UHp} {Q : UK} {xs : List U} : isiR [.lst xs, .ty "dict"] M Q = Q (.bl false) M := by simp only [isi_1, tyM_lst, okN_dict, Option.some.injEq, exists_eq_left', sub_list_dict, true_and]
theorem isi_lst_tuple_list {M : UHp} {Q : UK} {xs : List U} : isiR [.lst xs, .tup [.ty "tuple", .ty "list"]] M Q = Q (.bl true) M := by simp only [isi_2, tyM_lst, okN_tuple, okN_list, Option.some.injEq, exists_eq_left', sub_list_tuple, sub_list_list, true_and, Bool.or_true, Bool.or_false, Bool.true_or, Bool.false_or]
theorem uTru_K {te : UTE} {M : UHp} {Q : Bool → UHp → Prop} : uTru te σ M Q = te σ M (fun x M1 => truK x M1 Q) := rfl
theorem uB_K {te : UTE} {M : UHp} {Q : Bool → UHp → Prop} : uB te σ M Q = te σ M (fun x M1 => blK x M1 Q) := rfl
theorem uPart_K {te : UTE} {M : UHp} {Q : Option Int → UHp → Prop} : uPart te σ M Q = te σ M (fun x M1 => partK x M1 Q) := rfl
theorem uRng_K {ta : UTA} {M : UHp} {R : UIt → UHp → Prop} : uRng1 ta σ M R = ta σ M (fun x M1 => rngK x M1 R) := rfl
theorem uOrV_K {ta tb : UTE} {M : UHp} {Q : UK} : uOrV ta tb σ M Q = ta σ M (fun x M1 => truK x M1 fun k M1 => if k = true then Q x M1 else tb σ M1 Q) := rfl
theorem uAndV_K {ta tb : UTE} {M : UHp} {Q : UK} : uAndV ta tb σ M Q = ta σ M (fun x M1 => truK x M1 fun k M1 => if k = true then tb σ M1 Q else Q x M1) := rfl
theorem uNotV_K {ta : UTE} {M : UHp} {Q : UK} : uNotV ta σ M Q = ta σ M (fun x M1 => truK x M1 fun k M1 => Q (.bl (!k)) M1) := rfl
theorem uChain_K {r r2 : UR2} {ta tb tc : UTE} {M : UHp} {Q : UK} : uChain r r2 ta tb tc σ M Q = ta σ M (fun x M1 => tb σ M1 fun y M2 => r x y M2 fun z M3 => blK z M3 fun k M3 => if k = true then tc σ M3 fun w' M4 => r2 y w' M4 Q else Q (.bl false) M3) := rfl
theorem uAug_K {i : Nat} {te : UTE} {r : UR2} {D : UEnds} {M : UHp} : uAug i te r D σ M = uVar i σ M (fun x _ => te σ M fun y M1 => r x y M1 fun z M2 => D.nx (σ.set i (some z)) M2) := rfl
theorem truK_non {M : UHp} {Q : Bool → UHp → Prop} : truK .non M Q = Q false M := by simp [truK, truU]
theorem truK_bl {M : UHp} {Q : Bool → UHp → Prop} {k : Bool} : truK (.bl k) M Q = Q k M := by simp only [truK, truU, Option.some.injEq, exists_eq_left']
theorem truK_int {M : UHp} {Q : Bool → UHp → Prop} {i : Int} : truK (.int i) M Q = Q (i != 0) M := by simp only [truK, truU, Option.some.injEq, exists_eq_left']
theorem truK_str {M : UHp} {Q : Bool → UHp → Prop} {z : Str} : truK (.str z) M Q = Q ((z.length : Int) != 0) M := by simp only [truK, truU, Option.some.injEq, exists_eq_left']
theorem truK_tup {M : UHp} {Q : Bool → UHp → Prop} {xs : List U} : truK (.tup xs) M Q = Q (!xs.isEmpty) M := by simp only [truK, truU, Option.some.injEq, exists_eq_left']
theorem truK_lst {M : UHp} {Q : Bool → UHp → Prop} {xs : List U} : truK (.lst xs) M Q = Q (!xs.isEmpty) M := by simp only [truK, truU, Option.some.injEq, exists_eq_left']
theorem blK_bl {M : UHp} {Q : Bool → UHp → Prop} {k : Bool} : blK (.bl k) M Q = Q k M := by simp only [blK, U.bl.injEq, exists_eq_left']
theorem partK_int {M : UHp} {Q : Option Int → UHp → Prop} {i : Int} : partK (.int i) M Q = Q (some i) M := by simp only [partK, U.int.injEq, exists_eq_left']
theorem rngK_int {M : UHp} {R : UIt → UHp → Prop} {j : Int} : rngK [.int j] M R = (-(2 ^ 62) ≤ j ∧ j < 2 ^ 62 ∧ j.toNat ≤ sizeLine ∧ R ⟨rangeU 0 j.toNat, fun _ => True⟩ M) := by simp only [rngK, List.cons.injEq, U.int.injEq, and_true, exists_eq_left']
theorem tuple_t {M : UHp} {Q : UK} {xs : List U} : tupleR [.tup xs] M Q = Q (.tup xs) M := by simp [tupleR, seqU]
theorem tuple_l {M : UHp} {Q : UK} {xs : List U} : tupleR [.lst xs] M Q = Q (.tup xs) M := by simp [tupleR, seqU]
theorem len_ref {M : UHp} {Q : UK} {p : Addr} : lenR [.ref p] M Q = (∃ n, (refL (M p)).map List.length = some n ∧ Q (.int (n : Nat)) M) := by simp only [len_1, lenU_ref]
theorem mul_rk {M : UHp} {Q : UK} {p : Addr} {k : Int} {m : Bool} : mulR m false (.ref p) (.int k) M Q = (∃ xs, M p = some (.lst xs) ∧ -(2 ^ 63) ≤ k ∧ k < 2 ^ 63 ∧ xs.length * k.toNat ≤ sizeLine ∧ newL m (List.replicate k.toNat xs).flatten M Q) := rfl
theorem mul_rd {M : UHp} {Q : UK} {p : Addr} {k : Int} {m : Bool} : mulR m true (.ref p) (.int k) M Q = (∃ xs, M p = some (.lst xs) ∧ -(2 ^ 63) ≤ k ∧ k < 2 ^ 63 ∧ xs.length * k.toNat ≤ sizeLine ∧ newL m (List.replicate k.toNat xs).flatten (delM M p) Q) := rfl
theorem tuple_r {M : UHp} {Q : UK} {p : Addr} : tupleR [.ref p] M Q = (∃ ys, refL (M p) = some ys ∧ Q (.tup ys) M) := by simp only [tuple_1, seqU_ref]
theorem list_r {M : UHp} {Q : UK} {p : Addr} {m : Bool} : listR m [.ref p] M Q = (∃ ys, refL (M p) = some ys ∧ newL m ys M Q) := by simp only [list_1, seqU_ref]
theorem list_t {M : UHp} {Q : UK} {xs : List U} {m : Bool} : listR m [.tup xs] M Q = newL m xs M Q := by simp [listR, seqU]
theorem list_l {M : UHp} {Q : UK} {xs : List U} {m : Bool} : listR m [.lst xs] M Q = newL m xs M Q := by simp [listR, seqU]
theorem ix_tup_0 {a : U} {ys : List U} {M : UHp} {Q : UK} : ixR (.tup (a :: ys)) (.int 0) M Q = Q a M := by simp only [ix_t, seqU_tup, Option.some.injEq, at0, exists_and_left, exists_eq_left']
theorem ix_lst_0 {a : U} {ys : List U} {M : UHp} {Q : UK} : ixR (.lst (a :: ys)) (.int 0) M Q = Q a M := by simp only [ix_l, seqU_lst, Option.some.injEq, at0, exists_and_left, exists_eq_left']
theorem ix_tup_1 {x0 : U} {a : U} {ys : List U} {M : UHp} {Q : UK} : ixR (.tup (x0 :: a :: ys)) (.int 1) M Q = Q a M := by simp only [ix_t, seqU_tup, Option.some.injEq, at1, exists_and_left, exists_eq_left']
theorem ix_lst_1 {x0 : U} {a : U} {ys : List U} {M : UHp} {Q : UK} : ixR (.lst (x0 :: a :: ys)) (.int 1) M Q = Q a M := by simp only [ix_l, seqU_lst, Option.some.injEq, at1, exists_and_left, exists_eq_left']
theorem ix_tup_2 {x0 x1 : U} {a : U} {ys : List U} {M : UHp} {Q : UK} : ixR (.tup (x0 :: x1 :: a :: ys)) (.int 2) M Q = Q a M := by simp only [ix_t, seqU_tup, Option.some.injEq, at2, exists_and_left, exists_eq_left']
theorem ix_lst_2 {x0 x1 : U} {a : U} {ys : List U} {M : UHp} {Q : UK} : ixR (.lst (x0 :: x1 :: a :: ys)) (.int 2) M Q = Q a M := by simp only [ix_l, seqU_lst, Option.some.injEq, at2, exists_and_left, exists_eq_left']
theorem ix_tup_3 {x0 x1 x2 : U} {a : U} {ys : List U} {M : UHp} {Q : UK} : ixR (.tup (x0 :: x1 :: x2 :: a :: ys)) (.int 3) M Q = Q a M := by simp only [ix_t, seqU_tup, Option.some.injEq, at3, exists_and_left, exists_eq_left']
theorem ix_lst_3 {x0 x1 x2 : U} {a : U} {ys : List U} {M : UHp} {Q : UK} : ixR (.lst (x0 :: x1 :: x2 :: a :: ys)) (.int 3) M Q = Q a M := by simp only [ix_l, seqU_lst, Option.some.injEq, at3, exists_and_left, exists_eq_left']
theorem ix_tup_4 {x0 x1 x2 x3 : U} {a : U} {ys : List U} {M : UHp} {Q : UK} : ixR (.tup (x0 :: x1 :: x2 :: x3 :: a :: ys)) (.int 4) M Q = Q a M := by simp only [ix_t, seqU_tup, Option.some.injEq, at4, exists_and_left, exists_eq_left']
theorem ix_lst_4 {x0 x1 x2 x3 : U} {a : U} {ys : List U} {M : UHp} {Q : UK} : ixR (.lst (x0 :: x1 :: x2 :: x3 :: a :: ys)) (.int 4) M Q = Q a M := by simp only [ix_l, seqU_lst, Option.some.injEq, at4, exists_and_left, exists_eq_left']
theorem ixt_g {xs : List U} {i : Int} {M : UHp} {Q : UK} : ixR (.tup xs) (.int i) M Q = (∃ v, atI xs i = some v ∧ Q v M) := by simp only [ix_t, seqU_tup, Option.some.injEq, exists_and_left, exists_eq_left']
theorem ixl_g {xs : List U} {i : Int} {M : UHp} {Q : UK} : ixR (.lst xs) (.int i) M Q = (∃ v, atI xs i = some v ∧ Q v M) := by simp only [ix_l, seqU_lst, Option.some.injEq, exists_and_left, exists_eq_left']
theorem add_ll2 {M : UHp} {Q : UK} {xs ys : List U} {m : Bool} : addR m (.lst xs) (.lst ys) M Q = (xs.length + ys.length ≤ sizeLine ∧ newL m (xs ++ ys) M Q) := by simp only [add_ll, Option.some.injEq, exists_and_left, exists_eq_left']
theorem in_ss2 {M : UHp} {Q : UK} {neg : Bool} {a b : Str} : inR neg (.str a) (.str b) M Q = Q (.bl (if neg then !inStr a b else inStr a b)) M := by simp only [in_ss, U.str.injEq, exists_eq_left']
theorem anyI_l2 {M : UHp} {R : UIt → UHp → Prop} {xs : List U} : anyI (.lst xs) M R = R ⟨xs, fun _ => True⟩ M := by simp only [anyI_l, Option.some.injEq, exists_eq_left']
theorem isn_n {M : UHp} {Q : UK} {x : U} {neg : Bool} : isnR neg x .non M Q = Q (.bl (if neg then !isNon x else isNon x)) M := by simp only [isn_R, true_and]
theorem gTup_t {n : Nat} {t : UTGs} {xs : List U} {M : UHp} {Q : USt → UHp → Prop} : ugTup n t (.tup xs) σ M Q = (xs.length = n ∧ t xs σ M Q) := by simp only [ugTup, U.tup.injEq, exists_eq_left']
theorem gCons_c {g : UTG} {gs : UTGs} {v : U} {r : List U} {M : UHp} {Q : USt → UHp → Prop} : ugCons g gs (v :: r) σ M Q = g v σ M (fun s m => gs r s m Q) := propext ⟨fun ⟨_, _, e, h⟩ => by cases e; exact h, fun h => ⟨v, r, rfl, h⟩⟩
theorem gNil_n {M : UHp} {Q : USt → UHp → Prop} : ugNil [] σ M Q = Q σ M := by simp [ugNil]
theorem cle {n k : Nat} : (((n : Nat) : Int) ≤ (no_index (@OfNat.ofNat Int k _))) = (n ≤ @OfNat.ofNat Nat k _) := propext (show ((n : Int) ≤ (k : Int)) ↔ n ≤ k by omega)
theorem clt {n k : Nat} : (((n : Nat) : Int) < (no_index (@OfNat.ofNat Int k _))) = (n < @OfNat.ofNat Nat k _) := propext (show ((n : Int) < (k : Int)) ↔ n < k by omega)
theorem cge {n k : Nat} : ((no_index (@OfNat.ofNat Int k _)) ≤ ((n : Nat) : Int)) = (@OfNat.ofNat Nat k _ ≤ n) := propext (show ((k : Int) ≤ (n : Int)) ↔ k ≤ n by omega)
theorem cgt {n k : Nat} : ((no_index (@OfNat.ofNat Int k _)) < ((n : Nat) : Int)) = (@OfNat.ofNat Nat k _ < n) := propext (show ((k : Int) < (n : Int)) ↔ k < n by omega)
theorem ceq {n k : Nat} : ((((n : Nat) : Int)) == (no_index (@OfNat.ofNat Int k _))) = (n == @OfNat.ofNat Nat k _) := by
  show ((n : Int) == (k : Int)) = (n == k)
  by_cases h : n = k
  · subst h; simp
  · rw [beq_eq_false_iff_ne.mpr h, beq_eq_false_iff_ne.mpr (by omega)]
theorem cne {n k : Nat} : ((((n : Nat) : Int)) != (no_index (@OfNat.ofNat Int k _))) = (n != @OfNat.ofNat Nat k _) := by
  show (!((n : Int) == (k : Int))) = !(n == k)
  rw [show ((n : Int) == (k : Int)) = (n == k) from ceq]
end PU

set_option Elab.async false
set_option linter.all false
set_option maxRecDepth 100000
/-! UShow: when a written word is the text of a value. -/
namespace PU
open PySem PySem.Spec PyProof.Rows L2
open Builtin.Str

theorem fold_rep (q : Nat) : ∀ (l : List Nat) (out : Array Nat), (l.foldl (fun out c => out ++ (reprChar q c).toArray) out).toList = out.toList ++ l.flatMap (reprChar q)
  | [], out => by simp
  | c :: l, out => by
    rw [List.foldl_cons, fold_rep q l]
    simp [List.append_assoc]
theorem reprText_list (z : Str) : (reprText z).cps.toList = reprQuote z :: (z.cps.toList.flatMap (reprChar (reprQuote z)) ++ [reprQuote z]) := by
  unfold reprText
  rw [← Array.foldl_toList, Array.toList_push, fold_rep]
  rfl
theorem reprChar_one (q c : Nat) : reprChar q c = [c] ∨ ∃ r, reprChar q c = 92 :: r := by
  unfold reprChar
  dsimp only
  repeat' split
  all_goals first | exact .inl rfl | exact .inr ⟨_, rfl⟩
theorem flat_word {q : Nat} : ∀ (l w : List Nat), (∀ c ∈ w, 97 ≤ c ∧ c ≤ 122) → l.flatMap (reprChar q) = w → l = w
  | [], w, _, e => by simpa using e
  | c :: l, w, hw, e => by
    rw [List.flatMap_cons] at e
    rcases reprChar_one q c with h | ⟨r, h⟩
    · rw [h] at e
      cases w with
      | nil => cases e
      | cons d w =>
        have e2 := List.cons.inj e
        rw [e2.1, flat_word l w (fun c hc => hw c (List.mem_cons_of_mem _ hc)) e2.2]
    · rw [h] at e
      have := hw 92 (by rw [← e]; simp)
      omega
theorem textFrom_head : ∀ (ts : List Str) (k : Nat) (acc : Str), ∃ r, (textFrom k acc ts).cps.toList = acc.cps.toList ++ r
  | [], k, acc => ⟨[], by unfold textFrom; simp⟩
  | t :: ts, k, acc => by
    unfold textFrom
    obtain ⟨r, e⟩ := textFrom_head ts (k + 1) (acc ++ Str.ofString (if k > 0 then ", " else "") ++ t)
    refine ⟨((Str.ofString (if k > 0 then ", " else "")).cps.toList ++ t.cps.toList) ++ r, ?_⟩
    have h1 : ∀ a b : Str, (a ++ b).cps.toList = a.cps.toList ++ b.cps.toList := fun a b => Array.toList_append ..
    rw [e, h1, h1, List.append_assoc, List.append_assoc, List.append_assoc]
/-- the text of a value is a word in quotes: the value is that word -/
theorem rep_word {x : U} (ok : okR x) {w : List Nat} (hw : ∀ c ∈ w, 97 ≤ c ∧ c ≤ 122) (h : (rep x).cps.toList = 39 :: (w ++ [39])) : x = .str ⟨w.toArray⟩ := by
  cases x with
  | non =>
    have e : (rep .non).cps.toList = [78, 111, 110, 101] := by decide +kernel
    rw [e] at h; cases h
  | bl b =>
    cases b
    · have e : (rep (.bl false)).cps.toList = [70, 97, 108, 115, 101] := by decide +kernel
      rw [e] at h; cases h
    · have e : (rep (.bl true)).cps.toList = [84, 114, 117, 101] := by decide +kernel
      rw [e] at h; cases h
  | int i =>
    have e : rep (.int i) = ((toString i : String) : Str) := by simp only [rep, toD, PyData.shown]
    rw [e] at h
    have := int_text_free' 39 ⟨by decide, by decide⟩ i
    rw [h] at this
    exact absurd (by simp) this
  | str z =>
    have e : rep (.str z) = reprText z := by simp only [rep, toD, PyData.shown]
    rw [e, reprText_list] at h
    obtain ⟨h1, h2⟩ := List.cons.inj h
    rw [h1] at h2
    have h3 := flat_word _ _ hw (List.append_cancel_right h2)
    rw [← h3]
  | ref a => exact absurd ok.1 (by simp [isD])
  | ty n => exact absurd ok.1 (by simp [isD])
  | lst xs =>
    obtain ⟨ds, e, _⟩ := toDs_some xs (by simpa [isD] using ok.1)
    have e : rep (.lst xs) = textFrom 0 "[" (PyData.shownAll ds) ++ "]" := by simp only [rep, toD, e, Option.map, PyData.shown, listText]
    obtain ⟨r, e2⟩ := textFrom_head (PyData.shownAll ds) 0 "["
    rw [e] at h
    have h1 : (textFrom 0 "[" (PyData.shownAll ds) ++ ("]" : Str)).cps.toList = (textFrom 0 "[" (PyData.shownAll ds)).cps.toList ++ ("]" : Str).cps.toList := Array.toList_append ..
    rw [h1, e2] at h
    have h2 : ("[" : Str).cps.toList = [91] := by decide +kernel
    rw [h2] at h
    cases h
  | tup xs =>
    obtain ⟨ds, e, _⟩ := toDs_some xs (by simpa [isD] using ok.1)
    have e : rep (.tup xs) = tupleText (PyData.shownAll ds) := by simp only [rep, toD, e, Option.map, PyData.shown]
    rw [e] at h
    unfold tupleText at h
    have h1 : ∀ a b : Str, (a ++ b).cps.toList = a.cps.toList ++ b.cps.toList := fun a b => Array.toList_append ..
    rw [h1, h1] at h
    have h2 : ("(" : Str).cps.toList = [40] := by decide +kernel
    rw [h2] at h
    cases h
end PU

set_option Elab.async false
set_option linter.all false
set_option maxRecDepth 100000
/-! ULaw: from a def's promise to the law's row. -/
namespace PU
open PySem PySem.Spec PyProof.Rows L2

theorem rel_ints {K : PySem.W.Frag} {H : Hp} : ∀ ns : List Int, RelUs K H (ns.map .int) (ns.map V.int)
  | [] => RelUs.nil
  | _ :: ns => RelUs.cons rfl (rel_ints ns)
/-- what a law's def promises of the script -/
abbrev LawSp (sp : USp) (m : Nat) : Prop := ∀ (ns : List Int), ns.length ≤ m → ∀ Q : UK, (∀ M, Q (.bl true) M) → sp [.lst (ns.map .int)] (fun _ => none) Q EU0
theorem call_law {P : Program} {w : World} {K : PySem.W.Frag} {mg mb : Str → Option Value} {k m : Nat} {fa a : Addr} {fd : FuncData} {x : Str} {sp : USp} {s₁ : Shared} {vs : List Value} {ns : List Int}
    (KX : K.In s₁.heap) (hns : s₁.heap.Ns mainGlobals mg) (hb : s₁.heap.Ns builtinsNs mb) (hbb : ∀ x : Str, x ≠ "__name__" → mb x = bootBuiltins x) (hlim : s₁.heap.NoLimit) (hg : s₁.gens = #[])
    (ha : s₁.heap.get? a = some { cls := .type "list", data := .seq vs.toArray }) (hi : IntsAre vs ns) (hm : ns.length ≤ m) (hl : m ≤ sizeLine) (hr : Room k callerA) (hG : callerA.guards = some [])
    (F : ∀ base : Heap, K.In base → base.Ns mainGlobals mg → UFn P w K mg base CX0 k fa fd [x] sp) (hbind : ∀ (s : Shared) (u : Value), BindsTo s fd ⟨[u], []⟩ [(x, u)]) (hsp : LawSp sp m) :
    codeAny (model P w) callerA (.call (.ref fa) ⟨[.ref a], []⟩) (fun r s' => r = .ok (.ret (.bool true)) ∧ OldK s₁.heap s'.heap ∧ s'.os = s₁.os ∧ AllBare s'.gens) s₁ := by
  have rv := vals_ints hi
  have lenV := hi.length
  have one : ∀ H : Hp, FzL K H a (ns.map V.int) → HOk P w H s₁.heap → (∀ b, H b = none ∨ (b = a ∧ K.lookup a = none ∧ ∃ o, H b = some (.frz o (.lst (ns.map V.int))))) →
      codeAny (model P w) callerA (.call (.ref fa) ⟨[.ref a], []⟩) (fun r s' => r = .ok (.ret (.bool true)) ∧ OldK s₁.heap s'.heap ∧ s'.os = s₁.os ∧ AllBare s'.gens) s₁ := by
    intro H hF hok hA
    have free : ∀ {b : Addr} {o : Obj}, s₁.heap.get? b = some o → (b = a → K.lookup a = none → False) → (hidT s₁.heap H).get? b = some o := fun {b o} e n => by
      rcases hA b with z | ⟨rfl, z, _⟩
      · exact hidT_get e z
      · exact (n rfl z).elim
    have space : ∀ {b : Addr} {f : Str → Option Value}, s₁.heap.Ns b f → (hidT s₁.heap H).Ns b f := fun {b f} ⟨o, es, ep, e, d, r⟩ => ⟨o, es, ep, free e fun h _ => (by
      subst h
      rw [ha] at e
      cases e
      have d' : Data.seq vs.toArray _ = Data.dict es ep := d
      cases d'), d, r⟩
    have kin : K.In (hidT s₁.heap H) := fun b o e => free (KX b o e) fun h z => (by subst h; rw [z] at e; cases e)
    have md : Mod K mg (hidT s₁.heap H) := ⟨kin, space hns, ⟨mb, space hb, hbb⟩, let ⟨mc, h1, h2⟩ := hlim; ⟨mc, space h1, h2⟩⟩
    have e0 : Env0 P w K mg (hidT s₁.heap H) callerA [] s₁ H := ⟨rfl, md, fun b o e => of_hidT e, Nat.le_of_eq (hidT_size _ _), trivial, fun b hb => absurd (show b ∈ ([] : List Addr) from hb) (by simp), hok, .of_eq hg⟩
    have prom : dnP K sp [.ref a] H (fun v _ => v = .bl true) (fun _ _ _ => False) := by
      refine ⟨[.lst (ns.map .int)], fun _ => none, fun y _ => y = .bl true, EU0, ⟨.ref a, [], rfl, ⟨a, _, rfl, hF, rel_ints ns⟩, rfl⟩, (fun b o e => by cases e), hsp ns hm _ (fun _ => rfl), (fun y M' v H' q _ _ r => ?_), fun _ _ _ _ z _ _ => z.elim⟩
      subst q
      exact r
    refine codeAny_mono ((F _ kin (space hns)).go callerA [] s₁ H ⟨[.ref a], []⟩ [.ref a] [.ref a] _ _ hr hG e0 (hbind s₁ (.ref a)) (.cons rfl .nil) prom) fun r s' h => ?_
    match r, h with
    | .error e, h => exact False.elim h
    | .ok .next, h => exact False.elim h
    | .ok .brk, h => exact False.elim h
    | .ok .cont, h => exact False.elim h
    | .ok (.ret u), h =>
      obtain ⟨v, H', os, bare, un, hok', r', q⟩ := h
      have q' : v = .bl true := q
      subst q'
      obtain rfl : u = Value.bool true := r'
      refine ⟨rfl, OldK.of_keep fun b o e => ?_, os, bare⟩
      rcases hA b with z | ⟨_, _, ob, z⟩
      · exact un.keep b o e z (by intro z; exact absurd (show b ∈ ([] : List Addr) from z) (by simp)) (by simp)
      · have z2 := un.frzs b ob _ z
        obtain ⟨e1, _⟩ := hok b _ z
        obtain ⟨e2, _⟩ := hok' b _ z2
        rw [e] at e1; cases e1
        exact e2
  cases hk : K.lookup a with
  | some o =>
    have e := KX a o hk
    rw [ha] at e
    cases e
    exact one (fun _ => none) (.inr ⟨_, vs.toArray, _, hk, rfl, rfl, rfl, by rw [List.size_toArray, lenV]; omega, by simpa using rv⟩) (fun b u z => by have z' : (none : Option HO) = some u := z; cases z') fun _ => .inl rfl
  | none =>
    have at_a : (fun b => if b = a then some (HO.frz { cls := .type "list", data := .seq vs.toArray } (.lst (ns.map V.int))) else none) a = some (HO.frz { cls := .type "list", data := .seq vs.toArray } (.lst (ns.map V.int))) := if_pos rfl
    refine one (fun b => if b = a then some (.frz { cls := .type "list", data := .seq vs.toArray } (.lst (ns.map V.int))) else none) (.inl ⟨_, at_a⟩) (fun b u z => ?_) fun b => ?_
    · by_cases h : b = a
      · subst h
        have z' := at_a.symm.trans z
        cases z'
        exact ⟨ha, by rw [List.length_map]; omega, vs, _, rv, ha⟩
      · have z' := (if_neg h).symm.trans z
        cases z'
    · by_cases h : b = a
      · exact .inr ⟨h, hk, _, if_pos h⟩
      · exact .inl (if_neg h)
theorem law_walk {l : PySem.W.OpenLaw} {n k : Nat} {q : Program} {loose : List Str} {XP : (Str → Option Value) → Heap → Prop} {YP : World → Heap → Prop} {d : DefRec} {K : Params → PySem.W.Frag} {sp : USp} {x : Str}
    (hn : l.most = some n) (hn2 : n ≤ sizeLine) (hdf : d.params.defaults = []) (hr : Room k callerA) (hG : callerA.guards = some []) (hY : ∀ (w : World) (h : Heap), YP w h → (K w.params).In h) (hsp : LawSp sp n)
    (F : ∀ (w : World) (mg : Str → Option Value) (fa : Addr) (h : Heap), (K w.params).In h → h.Ns mainGlobals mg → mg d.name = some (.ref fa) →
      ∃ fd : FuncData, (∀ (s : Shared) (u : Value), BindsTo s fd ⟨[u], []⟩ [(x, u)]) ∧ ∀ base : Heap, (K w.params).In base → base.Ns mainGlobals mg → UFn l.prog w (K w.params) mg base CX0 k fa fd [x] sp) :
    PySem.W.WalkO q loose XP YP l.row.toRowW d [] (fun f vs => PySem.call f vs) := by
  refine Att.attach_call hn hdf fun w s₀ s₁ mg mb fa o pm cd doc a vs ns G Y ho hd hcd hmg hobj hints hlen hg => ?_
  have KX := hY w _ Y
  obtain ⟨fd, hb, hF⟩ := F w mg fa _ KX G.T.g hmg
  exact call_law KX G.T.g G.T.b G.T.builtins G.T.nolimit hg hobj hints hlen hn2 hr hG hF hb hsp
end PU

set_option Elab.async false
set_option linter.all false
set_option maxRecDepth 100000
namespace PU
open PySem PySem.Spec PyProof.Rows L2
def topS (i : Nat) : Stmt := PySem.Challenge.pw_variantnest_k04_values.main.body.getD i (.Pass ⟨0, 0, 0, 0⟩)

/-! is_name -/
abbrev s_is_name : Stmt := topS 3
theorem sc_is_name : FnScope ["value", "letter"] ["value"] (defScope s_is_name) := ⟨rfl, rfl, rfl, by decide +kernel, rfl, by decide +kernel, by decide +kernel⟩

/-! is_integer -/
abbrev s_is_integer : Stmt := topS 4
theorem sc_is_integer : FnScope ["value"] ["value"] (defScope s_is_integer) := ⟨rfl, rfl, rfl, by decide +kernel, rfl, by decide +kernel, by decide +kernel⟩

/-! is_path -/
abbrev s_is_path : Stmt := topS 5
theorem sc_is_path : FnScope ["value", "part"] ["value"] (defScope s_is_path) := ⟨rfl, rfl, rfl, by decide +kernel, rfl, by decide +kernel, by decide +kernel⟩

/-! is_link -/
abbrev s_is_link : Stmt := topS 6
theorem sc_is_link : FnScope ["value"] ["value"] (defScope s_is_link) := ⟨rfl, rfl, rfl, by decide +kernel, rfl, by decide +kernel, by decide +kernel⟩

/-! is_value -/
abbrev s_is_value : Stmt := topS 7
theorem sc_is_value : FnScope ["value"] ["value"] (defScope s_is_value) := ⟨rfl, rfl, rfl, by decide +kernel, rfl, by decide +kernel, by decide +kernel⟩

/-! _law_draw -/
abbrev s__law_draw : Stmt := topS 9
theorem sc__law_draw : FnScope ["_law_stream", "_law_many", "_law_mixed", "_law_digit"] ["_law_stream", "_law_many"] (defScope s__law_draw) := ⟨rfl, rfl, rfl, by decide +kernel, rfl, by decide +kernel, by decide +kernel⟩

/-! _law_same -/
abbrev s__law_same : Stmt := topS 10
theorem sc__law_same : FnScope ["_law_found", "_law_due"] ["_law_found", "_law_due"] (defScope s__law_same) := ⟨rfl, rfl, rfl, by decide +kernel, rfl, by decide +kernel, by decide +kernel⟩

/-! _law_path -/
abbrev s__law_path : Stmt := topS 11
theorem sc__law_path : FnScope ["_law_stream", "_law_most", "_law_k"] ["_law_stream", "_law_most"] (defScope s__law_path) := ⟨rfl, rfl, rfl, by decide +kernel, rfl, by decide +kernel, by decide +kernel⟩

/-! _law_value -/
abbrev s__law_value : Stmt := topS 12
theorem sc__law_value : FnScope ["_law_stream", "_law_way"] ["_law_stream"] (defScope s__law_value) := ⟨rfl, rfl, rfl, by decide +kernel, rfl, by decide +kernel, by decide +kernel⟩

/-! _law_is_name -/
abbrev s__law_is_name : Stmt := topS 13
theorem sc__law_is_name : FnScope ["_law_thing_here", "_law_sign"] ["_law_thing_here"] (defScope s__law_is_name) := ⟨rfl, rfl, rfl, by decide +kernel, rfl, by decide +kernel, by decide +kernel⟩

/-! _law_is_path -/
abbrev s__law_is_path : Stmt := topS 14
theorem sc__law_is_path : FnScope ["_law_thing_here", "_law_one"] ["_law_thing_here"] (defScope s__law_is_path) := ⟨rfl, rfl, rfl, by decide +kernel, rfl, by decide +kernel, by decide +kernel⟩

/-! _law_is_value -/
abbrev s__law_is_value : Stmt := topS 15
theorem sc__law_is_value : FnScope ["_law_thing_here"] ["_law_thing_here"] (defScope s__law_is_value) := ⟨rfl, rfl, rfl, by decide +kernel, rfl, by decide +kernel, by decide +kernel⟩

/-! _law_letters -/
abbrev s__law_letters : Stmt := topS 16
theorem sc__law_letters : FnScope ["_law_stream", "_law_many", "_law_letters_here", "_law_k"] ["_law_stream", "_law_many"] (defScope s__law_letters) := ⟨rfl, rfl, rfl, by decide +kernel, rfl, by decide +kernel, by decide +kernel⟩

/-! _law_near_name -/
abbrev s__law_near_name : Stmt := topS 17
theorem sc__law_near_name : FnScope ["_law_stream", "_law_found", "_law_at", "_law_sign"] ["_law_stream"] (defScope s__law_near_name) := ⟨rfl, rfl, rfl, by decide +kernel, rfl, by decide +kernel, by decide +kernel⟩

/-! _law_thing -/
abbrev s__law_thing : Stmt := topS 18
theorem sc__law_thing : FnScope ["_law_stream", "_law_deep", "_law_some", "_law_parts", "_law_k"] ["_law_stream", "_law_deep"] (defScope s__law_thing) := ⟨rfl, rfl, rfl, by decide +kernel, rfl, by decide +kernel, by decide +kernel⟩

/-! _law_near_path -/
abbrev s__law_near_path : Stmt := topS 19
theorem sc__law_near_path : FnScope ["_law_stream", "_law_many", "_law_parts", "_law_odd", "_law_k"] ["_law_stream"] (defScope s__law_near_path) := ⟨rfl, rfl, rfl, by decide +kernel, rfl, by decide +kernel, by decide +kernel⟩

/-! _law_near_value -/
abbrev s__law_near_value : Stmt := topS 20
theorem sc__law_near_value : FnScope ["_law_stream", "_law_way", "_law_parts"] ["_law_stream"] (defScope s__law_near_value) := ⟨rfl, rfl, rfl, by decide +kernel, rfl, by decide +kernel, by decide +kernel⟩

/-! law -/
abbrev s_law : Stmt := topS 21
theorem sc_law : FnScope ["_law_script", "_law_stream", "_law_turn", "_law_some", "_law_thing_here", "_law_kept", "_law_found", "_law_again"] ["_law_script"] (defScope s_law) := ⟨rfl, rfl, rfl, by decide +kernel, rfl, by decide +kernel, by decide +kernel⟩

structure Lw (K : PySem.W.Frag) (mg : Str → Option Value) where
  f_is_name : Addr
  fd_is_name : FuncData
  D_is_name : Df K mg "is_name" s_is_name f_is_name fd_is_name ["value"]
  f_is_integer : Addr
  fd_is_integer : FuncData
  D_is_integer : Df K mg "is_integer" s_is_integer f_is_integer fd_is_integer ["value"]
  f_is_path : Addr
  fd_is_path : FuncData
  D_is_path : Df K mg "is_path" s_is_path f_is_path fd_is_path ["value"]
  f_is_link : Addr
  fd_is_link : FuncData
  D_is_link : Df K mg "is_link" s_is_link f_is_link fd_is_link ["value"]
  f_is_value : Addr
  fd_is_value : FuncData
  D_is_value : Df K mg "is_value" s_is_value f_is_value fd_is_value ["value"]
  f__law_draw : Addr
  fd__law_draw : FuncData
  D__law_draw : Df K mg "_law_draw" s__law_draw f__law_draw fd__law_draw ["_law_stream", "_law_many"]
  f__law_same : Addr
  fd__law_same : FuncData
  D__law_same : Df K mg "_law_same" s__law_same f__law_same fd__law_same ["_law_found", "_law_due"]
  f__law_path : Addr
  fd__law_path : FuncData
  D__law_path : Df K mg "_law_path" s__law_path f__law_path fd__law_path ["_law_stream", "_law_most"]
  f__law_value : Addr
  fd__law_value : FuncData
  D__law_value : Df K mg "_law_value" s__law_value f__law_value fd__law_value ["_law_stream"]
  f__law_is_name : Addr
  fd__law_is_name : FuncData
  D__law_is_name : Df K mg "_law_is_name" s__law_is_name f__law_is_name fd__law_is_name ["_law_thing_here"]
  f__law_is_path : Addr
  fd__law_is_path : FuncData
  D__law_is_path : Df K mg "_law_is_path" s__law_is_path f__law_is_path fd__law_is_path ["_law_thing_here"]
  f__law_is_value : Addr
  fd__law_is_value : FuncData
  D__law_is_value : Df K mg "_law_is_value" s__law_is_value f__law_is_value fd__law_is_value ["_law_thing_here"]
  f__law_letters : Addr
  fd__law_letters : FuncData
  D__law_letters : Df K mg "_law_letters" s__law_letters f__law_letters fd__law_letters ["_law_stream", "_law_many"]
  f__law_near_name : Addr
  fd__law_near_name : FuncData
  D__law_near_name : Df K mg "_law_near_name" s__law_near_name f__law_near_name fd__law_near_name ["_law_stream"]
  f__law_thing : Addr
  fd__law_thing : FuncData
  D__law_thing : Df K mg "_law_thing" s__law_thing f__law_thing fd__law_thing ["_law_stream", "_law_deep"]
  f__law_near_path : Addr
  fd__law_near_path : FuncData
  D__law_near_path : Df K mg "_law_near_path" s__law_near_path f__law_near_path fd__law_near_path ["_law_stream"]
  f__law_near_value : Addr
  fd__law_near_value : FuncData
  D__law_near_value : Df K mg "_law_near_value" s__law_near_value f__law_near_value fd__law_near_value ["_law_stream"]
  f_law : Addr
  fd_law : FuncData
  D_law : Df K mg "law" s_law f_law fd_law ["_law_script"]
  t_LETTERS : Tok
  g_LETTERS : mg "LETTERS" = some (.str "abcdefghijklmnopqrstuvwxyz" t_LETTERS)
  t_MOST : Tok
  g_MOST : mg "MOST" = some (.int 8 t_MOST)
  n_all : mg "all" = none
  n_bool : mg "bool" = none
  n_int : mg "int" = none
  n_isinstance : mg "isinstance" = none
  n_len : mg "len" = none
  n_list : mg "list" = none
  n_range : mg "range" = none
  n_repr : mg "repr" = none
  n_str : mg "str" = none
  n_tuple : mg "tuple" = none

section
variable {P : Program} {w : World} {K : PySem.W.Frag} {mg : Str → Option Value} {base : Heap}

/-! ### is_name -/
def isLow (c : Nat) : Bool := inStr ⟨#[c]⟩ "abcdefghijklmnopqrstuvwxyz"
def isNameU : U → Bool
  | .str z => decide (1 ≤ z.length) && (decide (z.length ≤ 8) && z.cps.toList.all isLow)
  | _ => false
def sp_is_name : USp := fun us M Q _ => ∃ x, us = [x] ∧ isD x = true ∧ Q (.bl (isNameU x)) M
theorem ok_is_name (L : Lw K mg) : UFn P w K mg base CX0 1 L.f_is_name L.fd_is_name ["value"] (sp_is_name) := by
  refine ufn_ok L.D_is_name.F sc_is_name (fun us M Q E h => ?_) (fun cdv A outer s H E hr hG =>
      (uss_cons (us_if (PW.pt (uw_or (ut_not (ut_val (ue_callB uc_isi (by rfl) L.n_isinstance bt_isi (ua_cons (uv 0) (ua_cons (ue_bltn (by rfl) L.n_str bt_str) ua_nil))))) (uw_or1 (ut_not (ut_chain uo_le uo_le ue_int (ue_callB uc_len (by rfl) L.n_len bt_len (ua_cons (uv 0) ua_nil)) (ue_gint (by rfl) L.g_MOST)))))) (uss_one (us_ret ue_bl)) uss_nil)
      (uss_one (us_ret (ue_callB (uc_all rfl) (by rfl) L.n_all bt_all (ua_cons (ue_lc (own := [("letter", 1)]) (n := (.one 1)) false rfl sc_is_name.nd (ui_any (uv 0)) (blkOk_by (own := [("letter", 1)]) (N := ["value", "letter"]) (sc := defScope s_is_name) (by decide +kernel)) (by decide) (fun _ _ _ _ _ => (pg_nt sc_is_name.nd rfl (.inl rfl))) (fun _ _ _ _ _ => uts_nil) (fun _ _ _ _ _ => (ue_cmp (uo_in (hu2 hr)) (uv 1) (ue_gstr (by rfl) L.g_LETTERS) (by rfl)))) ua_nil)))))) (fun us M Q E h => ?_)
  · obtain ⟨x, rfl, _⟩ := h
    rfl
  · obtain ⟨x, rfl, hx, q⟩ := h
    have q : ZQ Q (.bl (isNameU x)) M := .inl q
    cases x with
    | str z =>
      simp only [isNameU] at q
      simp only [uIfS, uOr, uAnd, uNot, uCB, uCons, uNil, uC, uRet, uNext, uOp, uUn, uTup, uLst, uIf, uAsg, uName, uDrop, uCall, uBM, uBM0, uSl, uNoPart, uSub, ustart, uSeq, uRng2, List.append_nil, uYes, add_ii, add_ss, add_tt, add_lr_, add_rl_, sub_ii, mul_ii, mod_ii, div_ii, pow_ii, lt_ii, lt_ss, le_ii, gt_ii, ge_ii, neg_i, int_i, aug_ii, isNon_non, isNon_bl, isNon_int, isNon_str, isNon_tup, isNon_lst, isNon_ref, val_non, val_bl, val_int, val_str, val_tup, val_lst, refV_lst, val_ref, refL_lst, listU_lst, listU_ref, seqU_lst, seqU_tup, seqU_ref, lenU_str, lenU_tup, lenU_lst, lenU_ref, tyM_non, tyM_bl, tyM_int, tyM_str, tyM_tup, tyM_lst, refT_lst, tyM_ref, okN_str, okN_int, okN_bool, okN_tuple, okN_list, okN_dict, sub_NoneType_str, sub_NoneType_int, sub_NoneType_bool, sub_NoneType_tuple, sub_NoneType_list, sub_NoneType_dict, sub_bool_str, sub_bool_int, sub_bool_bool, sub_bool_tuple, sub_bool_list, sub_bool_dict, sub_int_str, sub_int_int, sub_int_bool, sub_int_tuple, sub_int_list, sub_int_dict, sub_str_str, sub_str_int, sub_str_bool, sub_str_tuple, sub_str_list, sub_str_dict, sub_tuple_str, sub_tuple_int, sub_tuple_bool, sub_tuple_tuple, sub_tuple_list, sub_tuple_dict, sub_list_str, sub_list_int, sub_list_bool, sub_list_tuple, sub_list_list, sub_list_dict, sub_dict_str, sub_dict_int, sub_dict_bool, sub_dict_tuple, sub_dict_list, sub_dict_dict, tru_non, tru_bl, tru_int, tru_str, tru_tup, tru_lst, eq_R, ne_R, isD_non, isD_bl, isD_int, isD_str, isD_tup, isD_lst, isDs_nil, isDs_cons, dep_non, dep_bl, dep_int, dep_str, dep_tup, dep_lst, deps_nil, deps_cons, ueq_ii, ueq_ss, ueq_bb, ueq_tt, ueq_ll, ueqs_nn, ueqs_cc, ueqs_cn, ueqs_nc, ix_s, ix_r, set_r, app_r, pop_r, ins_r, join_r, all_1, any_1, repr_1, newL_f, newL_t, sl_s, sl_t, sl_l, sl_r, in_t, in_l, in_r, tyMt_rl, tyMt_rd, tyMt_s, any_t, anyI_t, anyI_s, anyI_r, uVar_0, uVar_1, uVar_2, uVar_3, uVar_4, uVar_5, uVar_6, uVar_7, uVar_8, uVar_9, uVar_10, uVar_11, uVar_12, uVar_13, uVar_14, uVar_15, len_str, len_tup, len_lst, isi_non_str, isi_non_int, isi_non_bool, isi_non_tuple, isi_non_list, isi_non_dict, isi_non_tuple_list, isi_bl_str, isi_bl_int, isi_bl_bool, isi_bl_tuple, isi_bl_list, isi_bl_dict, isi_bl_tuple_list, isi_int_str, isi_int_int, isi_int_bool, isi_int_tuple, isi_int_list, isi_int_dict, isi_int_tuple_list, isi_str_str, isi_str_int, isi_str_bool, isi_str_tuple, isi_str_list, isi_str_dict, isi_str_tuple_list, isi_tup_str, isi_tup_int, isi_tup_bool, isi_tup_tuple, isi_tup_list, isi_tup_dict, isi_tup_tuple_list, isi_lst_str, isi_lst_int, isi_lst_bool, isi_lst_tuple, isi_lst_list, isi_lst_dict, isi_lst_tuple_list, uTru_K, uB_K, uPart_K, uRng_K, uOrV_K, uAndV_K, uNotV_K, uChain_K, uAug_K, truK_non, truK_bl, truK_int, truK_str, truK_tup, truK_lst, blK_bl, partK_int, rngK_int, tuple_t, tuple_l, len_ref, mul_rk, mul_rd, tuple_r, list_r, list_t, list_l, ix_tup_0, ix_lst_0, ix_tup_1, ix_lst_1, ix_tup_2, ix_lst_2, ix_tup_3, ix_lst_3, ix_tup_4, ix_lst_4, ixt_g, ixl_g, add_ll2, in_ss2, anyI_l2, isn_n, gTup_t, gCons_c, gNil_n, cle, clt, cge, cgt, ceq, cne, exists_eq_left', exists_eq_left, Option.some.injEq, U.int.injEq, U.bl.injEq, U.str.injEq, U.ref.injEq, U.tup.injEq, U.lst.injEq, U.ty.injEq, List.cons.injEq, and_true, true_and, and_self, List.map_cons, List.map_nil, List.length_cons, List.length_nil, List.cons_append, List.nil_append, List.append_nil, List.getElem?_cons_zero, List.getElem?_cons_succ, List.set_cons_zero, List.set_cons_succ, List.replicate, ↓reduceIte, Bool.false_eq_true, Bool.not_true, Bool.not_false, reduceCtorEq, Nat.reduceAdd, Nat.reduceSub, Nat.reduceLeDiff, Nat.reduceEqDiff, decide_true, decide_false, at0, at1, at2, at3, at4, ix0, ix1, ix2, ix3, ix4, updM_same, beq_self_eq_true, Option.bind, Option.map, wipeU, NT.put, puts, MO.lst.injEq, exists_and_left, decide_eq_true_eq, Bool.and_eq_true, Bool.or_eq_true, exists_eq', Nat.zero_le, true_or, or_true]
      by_cases h1 : 1 ≤ z.length
      · by_cases h2 : z.length ≤ 8
        · have h0 : 0 < z.length := h1
          have h3 : z.length < 9 := by omega
          simp only [uIfS, uOr, uAnd, uNot, uCB, uCons, uNil, uC, uRet, uNext, uOp, uUn, uTup, uLst, uIf, uAsg, uName, uDrop, uCall, uBM, uBM0, uSl, uNoPart, uSub, ustart, uSeq, uRng2, List.append_nil, uYes, add_ii, add_ss, add_tt, add_lr_, add_rl_, sub_ii, mul_ii, mod_ii, div_ii, pow_ii, lt_ii, lt_ss, le_ii, gt_ii, ge_ii, neg_i, int_i, aug_ii, isNon_non, isNon_bl, isNon_int, isNon_str, isNon_tup, isNon_lst, isNon_ref, val_non, val_bl, val_int, val_str, val_tup, val_lst, refV_lst, val_ref, refL_lst, listU_lst, listU_ref, seqU_lst, seqU_tup, seqU_ref, lenU_str, lenU_tup, lenU_lst, lenU_ref, tyM_non, tyM_bl, tyM_int, tyM_str, tyM_tup, tyM_lst, refT_lst, tyM_ref, okN_str, okN_int, okN_bool, okN_tuple, okN_list, okN_dict, sub_NoneType_str, sub_NoneType_int, sub_NoneType_bool, sub_NoneType_tuple, sub_NoneType_list, sub_NoneType_dict, sub_bool_str, sub_bool_int, sub_bool_bool, sub_bool_tuple, sub_bool_list, sub_bool_dict, sub_int_str, sub_int_int, sub_int_bool, sub_int_tuple, sub_int_list, sub_int_dict, sub_str_str, sub_str_int, sub_str_bool, sub_str_tuple, sub_str_list, sub_str_dict, sub_tuple_str, sub_tuple_int, sub_tuple_bool, sub_tuple_tuple, sub_tuple_list, sub_tuple_dict, sub_list_str, sub_list_int, sub_list_bool, sub_list_tuple, sub_list_list, sub_list_dict, sub_dict_str, sub_dict_int, sub_dict_bool, sub_dict_tuple, sub_dict_list, sub_dict_dict, tru_non, tru_bl, tru_int, tru_str, tru_tup, tru_lst, eq_R, ne_R, isD_non, isD_bl, isD_int, isD_str, isD_tup, isD_lst, isDs_nil, isDs_cons, dep_non, dep_bl, dep_int, dep_str, dep_tup, dep_lst, deps_nil, deps_cons, ueq_ii, ueq_ss, ueq_bb, ueq_tt, ueq_ll, ueqs_nn, ueqs_cc, ueqs_cn, ueqs_nc, ix_s, ix_r, set_r, app_r, pop_r, ins_r, join_r, all_1, any_1, repr_1, newL_f, newL_t, sl_s, sl_t, sl_l, sl_r, in_t, in_l, in_r, tyMt_rl, tyMt_rd, tyMt_s, any_t, anyI_t, anyI_s, anyI_r, uVar_0, uVar_1, uVar_2, uVar_3, uVar_4, uVar_5, uVar_6, uVar_7, uVar_8, uVar_9, uVar_10, uVar_11, uVar_12, uVar_13, uVar_14, uVar_15, len_str, len_tup, len_lst, isi_non_str, isi_non_int, isi_non_bool, isi_non_tuple, isi_non_list, isi_non_dict, isi_non_tuple_list, isi_bl_str, isi_bl_int, isi_bl_bool, isi_bl_tuple, isi_bl_list, isi_bl_dict, isi_bl_tuple_list, isi_int_str, isi_int_int, isi_int_bool, isi_int_tuple, isi_int_list, isi_int_dict, isi_int_tuple_list, isi_str_str, isi_str_int, isi_str_bool, isi_str_tuple, isi_str_list, isi_str_dict, isi_str_tuple_list, isi_tup_str, isi_tup_int, isi_tup_bool, isi_tup_tuple, isi_tup_list, isi_tup_dict, isi_tup_tuple_list, isi_lst_str, isi_lst_int, isi_lst_bool, isi_lst_tuple, isi_lst_list, isi_lst_dict, isi_lst_tuple_list, uTru_K, uB_K, uPart_K, uRng_K, uOrV_K, uAndV_K, uNotV_K, uChain_K, uAug_K, truK_non, truK_bl, truK_int, truK_str, truK_tup, truK_lst, blK_bl, partK_int, rngK_int, tuple_t, tuple_l, len_ref, mul_rk, mul_rd, tuple_r, list_r, list_t, list_l, ix_tup_0, ix_lst_0, ix_tup_1, ix_lst_1, ix_tup_2, ix_lst_2, ix_tup_3, ix_lst_3, ix_tup_4, ix_lst_4, ixt_g, ixl_g, add_ll2, in_ss2, anyI_l2, isn_n, gTup_t, gCons_c, gNil_n, cle, clt, cge, cgt, ceq, cne, exists_eq_left', exists_eq_left, Option.some.injEq, U.int.injEq, U.bl.injEq, U.str.injEq, U.ref.injEq, U.tup.injEq, U.lst.injEq, U.ty.injEq, List.cons.injEq, and_true, true_and, and_self, List.map_cons, List.map_nil, List.length_cons, List.length_nil, List.cons_append, List.nil_append, List.append_nil, List.getElem?_cons_zero, List.getElem?_cons_succ, List.set_cons_zero, List.set_cons_succ, List.replicate, ↓reduceIte, Bool.false_eq_true, Bool.not_true, Bool.not_false, reduceCtorEq, Nat.reduceAdd, Nat.reduceSub, Nat.reduceLeDiff, Nat.reduceEqDiff, decide_true, decide_false, at0, at1, at2, at3, at4, ix0, ix1, ix2, ix3, ix4, updM_same, beq_self_eq_true, Option.bind, Option.map, wipeU, NT.put, puts, MO.lst.injEq, exists_and_left, decide_eq_true_eq, Bool.and_eq_true, Bool.or_eq_true, exists_eq', Nat.zero_le, true_or, or_true, h0, h1, h2, h3] at q ⊢
          simp only [uLc, uIfS, uOr, uAnd, uNot, uCB, uCons, uNil, uC, uRet, uNext, uOp, uUn, uTup, uLst, uIf, uAsg, uName, uDrop, uCall, uBM, uBM0, uSl, uNoPart, uSub, ustart, uSeq, uRng2, List.append_nil, uYes, add_ii, add_ss, add_tt, add_lr_, add_rl_, sub_ii, mul_ii, mod_ii, div_ii, pow_ii, lt_ii, lt_ss, le_ii, gt_ii, ge_ii, neg_i, int_i, aug_ii, isNon_non, isNon_bl, isNon_int, isNon_str, isNon_tup, isNon_lst, isNon_ref, val_non, val_bl, val_int, val_str, val_tup, val_lst, refV_lst, val_ref, refL_lst, listU_lst, listU_ref, seqU_lst, seqU_tup, seqU_ref, lenU_str, lenU_tup, lenU_lst, lenU_ref, tyM_non, tyM_bl, tyM_int, tyM_str, tyM_tup, tyM_lst, refT_lst, tyM_ref, okN_str, okN_int, okN_bool, okN_tuple, okN_list, okN_dict, sub_NoneType_str, sub_NoneType_int, sub_NoneType_bool, sub_NoneType_tuple, sub_NoneType_list, sub_NoneType_dict, sub_bool_str, sub_bool_int, sub_bool_bool, sub_bool_tuple, sub_bool_list, sub_bool_dict, sub_int_str, sub_int_int, sub_int_bool, sub_int_tuple, sub_int_list, sub_int_dict, sub_str_str, sub_str_int, sub_str_bool, sub_str_tuple, sub_str_list, sub_str_dict, sub_tuple_str, sub_tuple_int, sub_tuple_bool, sub_tuple_tuple, sub_tuple_list, sub_tuple_dict, sub_list_str, sub_list_int, sub_list_bool, sub_list_tuple, sub_list_list, sub_list_dict, sub_dict_str, sub_dict_int, sub_dict_bool, sub_dict_tuple, sub_dict_list, sub_dict_dict, tru_non, tru_bl, tru_int, tru_str, tru_tup, tru_lst, eq_R, ne_R, isD_non, isD_bl, isD_int, isD_str, isD_tup, isD_lst, isDs_nil, isDs_cons, dep_non, dep_bl, dep_int, dep_str, dep_tup, dep_lst, deps_nil, deps_cons, ueq_ii, ueq_ss, ueq_bb, ueq_tt, ueq_ll, ueqs_nn, ueqs_cc, ueqs_cn, ueqs_nc, ix_s, ix_r, set_r, app_r, pop_r, ins_r, join_r, all_1, any_1, repr_1, newL_f, newL_t, sl_s, sl_t, sl_l, sl_r, in_t, in_l, in_r, tyMt_rl, tyMt_rd, tyMt_s, any_t, anyI_t, anyI_s, anyI_r, uVar_0, uVar_1, uVar_2, uVar_3, uVar_4, uVar_5, uVar_6, uVar_7, uVar_8, uVar_9, uVar_10, uVar_11, uVar_12, uVar_13, uVar_14, uVar_15, len_str, len_tup, len_lst, isi_non_str, isi_non_int, isi_non_bool, isi_non_tuple, isi_non_list, isi_non_dict, isi_non_tuple_list, isi_bl_str, isi_bl_int, isi_bl_bool, isi_bl_tuple, isi_bl_list, isi_bl_dict, isi_bl_tuple_list, isi_int_str, isi_int_int, isi_int_bool, isi_int_tuple, isi_int_list, isi_int_dict, isi_int_tuple_list, isi_str_str, isi_str_int, isi_str_bool, isi_str_tuple, isi_str_list, isi_str_dict, isi_str_tuple_list, isi_tup_str, isi_tup_int, isi_tup_bool, isi_tup_tuple, isi_tup_list, isi_tup_dict, isi_tup_tuple_list, isi_lst_str, isi_lst_int, isi_lst_bool, isi_lst_tuple, isi_lst_list, isi_lst_dict, isi_lst_tuple_list, uTru_K, uB_K, uPart_K, uRng_K, uOrV_K, uAndV_K, uNotV_K, uChain_K, uAug_K, truK_non, truK_bl, truK_int, truK_str, truK_tup, truK_lst, blK_bl, partK_int, rngK_int, tuple_t, tuple_l, len_ref, mul_rk, mul_rd, tuple_r, list_r, list_t, list_l, ix_tup_0, ix_lst_0, ix_tup_1, ix_lst_1, ix_tup_2, ix_lst_2, ix_tup_3, ix_lst_3, ix_tup_4, ix_lst_4, ixt_g, ixl_g, add_ll2, in_ss2, anyI_l2, isn_n, gTup_t, gCons_c, gNil_n, cle, clt, cge, cgt, ceq, cne, exists_eq_left', exists_eq_left, Option.some.injEq, U.int.injEq, U.bl.injEq, U.str.injEq, U.ref.injEq, U.tup.injEq, U.lst.injEq, U.ty.injEq, List.cons.injEq, and_true, true_and, and_self, List.map_cons, List.map_nil, List.length_cons, List.length_nil, List.cons_append, List.nil_append, List.append_nil, List.getElem?_cons_zero, List.getElem?_cons_succ, List.set_cons_zero, List.set_cons_succ, List.replicate, ↓reduceIte, Bool.false_eq_true, Bool.not_true, Bool.not_false, reduceCtorEq, Nat.reduceAdd, Nat.reduceSub, Nat.reduceLeDiff, Nat.reduceEqDiff, decide_true, decide_false, at0, at1, at2, at3, at4, ix0, ix1, ix2, ix3, ix4, updM_same, beq_self_eq_true, Option.bind, Option.map, wipeU, NT.put, puts, MO.lst.injEq, exists_and_left, decide_eq_true_eq, Bool.and_eq_true, Bool.or_eq_true, exists_eq', Nat.zero_le, true_or, or_true]
          refine lc_of z.cps.toList (fun c => .str ⟨#[c]⟩) (fun c => .bl (isLow c)) (fun _ _ _ => True.intro) (fun D acc hD c hc => ⟨_, rfl, fun Q q => ?_⟩) ?_
          · simp only [uIfS, uOr, uAnd, uNot, uCB, uCons, uNil, uC, uRet, uNext, uOp, uUn, uTup, uLst, uIf, uAsg, uName, uDrop, uCall, uBM, uBM0, uSl, uNoPart, uSub, ustart, uSeq, uRng2, List.append_nil, uYes, add_ii, add_ss, add_tt, add_lr_, add_rl_, sub_ii, mul_ii, mod_ii, div_ii, pow_ii, lt_ii, lt_ss, le_ii, gt_ii, ge_ii, neg_i, int_i, aug_ii, isNon_non, isNon_bl, isNon_int, isNon_str, isNon_tup, isNon_lst, isNon_ref, val_non, val_bl, val_int, val_str, val_tup, val_lst, refV_lst, val_ref, refL_lst, listU_lst, listU_ref, seqU_lst, seqU_tup, seqU_ref, lenU_str, lenU_tup, lenU_lst, lenU_ref, tyM_non, tyM_bl, tyM_int, tyM_str, tyM_tup, tyM_lst, refT_lst, tyM_ref, okN_str, okN_int, okN_bool, okN_tuple, okN_list, okN_dict, sub_NoneType_str, sub_NoneType_int, sub_NoneType_bool, sub_NoneType_tuple, sub_NoneType_list, sub_NoneType_dict, sub_bool_str, sub_bool_int, sub_bool_bool, sub_bool_tuple, sub_bool_list, sub_bool_dict, sub_int_str, sub_int_int, sub_int_bool, sub_int_tuple, sub_int_list, sub_int_dict, sub_str_str, sub_str_int, sub_str_bool, sub_str_tuple, sub_str_list, sub_str_dict, sub_tuple_str, sub_tuple_int, sub_tuple_bool, sub_tuple_tuple, sub_tuple_list, sub_tuple_dict, sub_list_str, sub_list_int, sub_list_bool, sub_list_tuple, sub_list_list, sub_list_dict, sub_dict_str, sub_dict_int, sub_dict_bool, sub_dict_tuple, sub_dict_list, sub_dict_dict, tru_non, tru_bl, tru_int, tru_str, tru_tup, tru_lst, eq_R, ne_R, isD_non, isD_bl, isD_int, isD_str, isD_tup, isD_lst, isDs_nil, isDs_cons, dep_non, dep_bl, dep_int, dep_str, dep_tup, dep_lst, deps_nil, deps_cons, ueq_ii, ueq_ss, ueq_bb, ueq_tt, ueq_ll, ueqs_nn, ueqs_cc, ueqs_cn, ueqs_nc, ix_s, ix_r, set_r, app_r, pop_r, ins_r, join_r, all_1, any_1, repr_1, newL_f, newL_t, sl_s, sl_t, sl_l, sl_r, in_t, in_l, in_r, tyMt_rl, tyMt_rd, tyMt_s, any_t, anyI_t, anyI_s, anyI_r, uVar_0, uVar_1, uVar_2, uVar_3, uVar_4, uVar_5, uVar_6, uVar_7, uVar_8, uVar_9, uVar_10, uVar_11, uVar_12, uVar_13, uVar_14, uVar_15, len_str, len_tup, len_lst, isi_non_str, isi_non_int, isi_non_bool, isi_non_tuple, isi_non_list, isi_non_dict, isi_non_tuple_list, isi_bl_str, isi_bl_int, isi_bl_bool, isi_bl_tuple, isi_bl_list, isi_bl_dict, isi_bl_tuple_list, isi_int_str, isi_int_int, isi_int_bool, isi_int_tuple, isi_int_list, isi_int_dict, isi_int_tuple_list, isi_str_str, isi_str_int, isi_str_bool, isi_str_tuple, isi_str_list, isi_str_dict, isi_str_tuple_list, isi_tup_str, isi_tup_int, isi_tup_bool, isi_tup_tuple, isi_tup_list, isi_tup_dict, isi_tup_tuple_list, isi_lst_str, isi_lst_int, isi_lst_bool, isi_lst_tuple, isi_lst_list, isi_lst_dict, isi_lst_tuple_list, uTru_K, uB_K, uPart_K, uRng_K, uOrV_K, uAndV_K, uNotV_K, uChain_K, uAug_K, truK_non, truK_bl, truK_int, truK_str, truK_tup, truK_lst, blK_bl, partK_int, rngK_int, tuple_t, tuple_l, len_ref, mul_rk, mul_rd, tuple_r, list_r, list_t, list_l, ix_tup_0, ix_lst_0, ix_tup_1, ix_lst_1, ix_tup_2, ix_lst_2, ix_tup_3, ix_lst_3, ix_tup_4, ix_lst_4, ixt_g, ixl_g, add_ll2, in_ss2, anyI_l2, isn_n, gTup_t, gCons_c, gNil_n, cle, clt, cge, cgt, ceq, cne, exists_eq_left', exists_eq_left, Option.some.injEq, U.int.injEq, U.bl.injEq, U.str.injEq, U.ref.injEq, U.tup.injEq, U.lst.injEq, U.ty.injEq, List.cons.injEq, and_true, true_and, and_self, List.map_cons, List.map_nil, List.length_cons, List.length_nil, List.cons_append, List.nil_append, List.append_nil, List.getElem?_cons_zero, List.getElem?_cons_succ, List.set_cons_zero, List.set_cons_succ, List.replicate, ↓reduceIte, Bool.false_eq_true, Bool.not_true, Bool.not_false, reduceCtorEq, Nat.reduceAdd, Nat.reduceSub, Nat.reduceLeDiff, Nat.reduceEqDiff, decide_true, decide_false, at0, at1, at2, at3, at4, ix0, ix1, ix2, ix3, ix4, updM_same, beq_self_eq_true, Option.bind, Option.map, wipeU, NT.put, puts, MO.lst.injEq, exists_and_left, decide_eq_true_eq, Bool.and_eq_true, Bool.or_eq_true, exists_eq', Nat.zero_le, true_or, or_true]
            exact q
          · simp only [uIfS, uOr, uAnd, uNot, uCB, uCons, uNil, uC, uRet, uNext, uOp, uUn, uTup, uLst, uIf, uAsg, uName, uDrop, uCall, uBM, uBM0, uSl, uNoPart, uSub, ustart, uSeq, uRng2, List.append_nil, uYes, add_ii, add_ss, add_tt, add_lr_, add_rl_, sub_ii, mul_ii, mod_ii, div_ii, pow_ii, lt_ii, lt_ss, le_ii, gt_ii, ge_ii, neg_i, int_i, aug_ii, isNon_non, isNon_bl, isNon_int, isNon_str, isNon_tup, isNon_lst, isNon_ref, val_non, val_bl, val_int, val_str, val_tup, val_lst, refV_lst, val_ref, refL_lst, listU_lst, listU_ref, seqU_lst, seqU_tup, seqU_ref, lenU_str, lenU_tup, lenU_lst, lenU_ref, tyM_non, tyM_bl, tyM_int, tyM_str, tyM_tup, tyM_lst, refT_lst, tyM_ref, okN_str, okN_int, okN_bool, okN_tuple, okN_list, okN_dict, sub_NoneType_str, sub_NoneType_int, sub_NoneType_bool, sub_NoneType_tuple, sub_NoneType_list, sub_NoneType_dict, sub_bool_str, sub_bool_int, sub_bool_bool, sub_bool_tuple, sub_bool_list, sub_bool_dict, sub_int_str, sub_int_int, sub_int_bool, sub_int_tuple, sub_int_list, sub_int_dict, sub_str_str, sub_str_int, sub_str_bool, sub_str_tuple, sub_str_list, sub_str_dict, sub_tuple_str, sub_tuple_int, sub_tuple_bool, sub_tuple_tuple, sub_tuple_list, sub_tuple_dict, sub_list_str, sub_list_int, sub_list_bool, sub_list_tuple, sub_list_list, sub_list_dict, sub_dict_str, sub_dict_int, sub_dict_bool, sub_dict_tuple, sub_dict_list, sub_dict_dict, tru_non, tru_bl, tru_int, tru_str, tru_tup, tru_lst, eq_R, ne_R, isD_non, isD_bl, isD_int, isD_str, isD_tup, isD_lst, isDs_nil, isDs_cons, dep_non, dep_bl, dep_int, dep_str, dep_tup, dep_lst, deps_nil, deps_cons, ueq_ii, ueq_ss, ueq_bb, ueq_tt, ueq_ll, ueqs_nn, ueqs_cc, ueqs_cn, ueqs_nc, ix_s, ix_r, set_r, app_r, pop_r, ins_r, join_r, all_1, any_1, repr_1, newL_f, newL_t, sl_s, sl_t, sl_l, sl_r, in_t, in_l, in_r, tyMt_rl, tyMt_rd, tyMt_s, any_t, anyI_t, anyI_s, anyI_r, uVar_0, uVar_1, uVar_2, uVar_3, uVar_4, uVar_5, uVar_6, uVar_7, uVar_8, uVar_9, uVar_10, uVar_11, uVar_12, uVar_13, uVar_14, uVar_15, len_str, len_tup, len_lst, isi_non_str, isi_non_int, isi_non_bool, isi_non_tuple, isi_non_list, isi_non_dict, isi_non_tuple_list, isi_bl_str, isi_bl_int, isi_bl_bool, isi_bl_tuple, isi_bl_list, isi_bl_dict, isi_bl_tuple_list, isi_int_str, isi_int_int, isi_int_bool, isi_int_tuple, isi_int_list, isi_int_dict, isi_int_tuple_list, isi_str_str, isi_str_int, isi_str_bool, isi_str_tuple, isi_str_list, isi_str_dict, isi_str_tuple_list, isi_tup_str, isi_tup_int, isi_tup_bool, isi_tup_tuple, isi_tup_list, isi_tup_dict, isi_tup_tuple_list, isi_lst_str, isi_lst_int, isi_lst_bool, isi_lst_tuple, isi_lst_list, isi_lst_dict, isi_lst_tuple_list, uTru_K, uB_K, uPart_K, uRng_K, uOrV_K, uAndV_K, uNotV_K, uChain_K, uAug_K, truK_non, truK_bl, truK_int, truK_str, truK_tup, truK_lst, blK_bl, partK_int, rngK_int, tuple_t, tuple_l, len_ref, mul_rk, mul_rd, tuple_r, list_r, list_t, list_l, ix_tup_0, ix_lst_0, ix_tup_1, ix_lst_1, ix_tup_2, ix_lst_2, ix_tup_3, ix_lst_3, ix_tup_4, ix_lst_4, ixt_g, ixl_g, add_ll2, in_ss2, anyI_l2, isn_n, gTup_t, gCons_c, gNil_n, cle, clt, cge, cgt, ceq, cne, exists_eq_left', exists_eq_left, Option.some.injEq, U.int.injEq, U.bl.injEq, U.str.injEq, U.ref.injEq, U.tup.injEq, U.lst.injEq, U.ty.injEq, List.cons.injEq, and_true, true_and, and_self, List.map_cons, List.map_nil, List.length_cons, List.length_nil, List.cons_append, List.nil_append, List.append_nil, List.getElem?_cons_zero, List.getElem?_cons_succ, List.set_cons_zero, List.set_cons_succ, List.replicate, ↓reduceIte, Bool.false_eq_true, Bool.not_true, Bool.not_false, reduceCtorEq, Nat.reduceAdd, Nat.reduceSub, Nat.reduceLeDiff, Nat.reduceEqDiff, decide_true, decide_false, at0, at1, at2, at3, at4, ix0, ix1, ix2, ix3, ix4, updM_same, beq_self_eq_true, Option.bind, Option.map, wipeU, NT.put, puts, MO.lst.injEq, exists_and_left, decide_eq_true_eq, Bool.and_eq_true, Bool.or_eq_true, exists_eq', Nat.zero_le, true_or, or_true, allU_map, Bool.true_and] at q ⊢
            exact q
        · have h3 : ¬ z.length < 9 := by omega
          have h0 : 0 < z.length := h1
          simp only [uIfS, uOr, uAnd, uNot, uCB, uCons, uNil, uC, uRet, uNext, uOp, uUn, uTup, uLst, uIf, uAsg, uName, uDrop, uCall, uBM, uBM0, uSl, uNoPart, uSub, ustart, uSeq, uRng2, List.append_nil, uYes, add_ii, add_ss, add_tt, add_lr_, add_rl_, sub_ii, mul_ii, mod_ii, div_ii, pow_ii, lt_ii, lt_ss, le_ii, gt_ii, ge_ii, neg_i, int_i, aug_ii, isNon_non, isNon_bl, isNon_int, isNon_str, isNon_tup, isNon_lst, isNon_ref, val_non, val_bl, val_int, val_str, val_tup, val_lst, refV_lst, val_ref, refL_lst, listU_lst, listU_ref, seqU_lst, seqU_tup, seqU_ref, lenU_str, lenU_tup, lenU_lst, lenU_ref, tyM_non, tyM_bl, tyM_int, tyM_str, tyM_tup, tyM_lst, refT_lst, tyM_ref, okN_str, okN_int, okN_bool, okN_tuple, okN_list, okN_dict, sub_NoneType_str, sub_NoneType_int, sub_NoneType_bool, sub_NoneType_tuple, sub_NoneType_list, sub_NoneType_dict, sub_bool_str, sub_bool_int, sub_bool_bool, sub_bool_tuple, sub_bool_list, sub_bool_dict, sub_int_str, sub_int_int, sub_int_bool, sub_int_tuple, sub_int_list, sub_int_dict, sub_str_str, sub_str_int, sub_str_bool, sub_str_tuple, sub_str_list, sub_str_dict, sub_tuple_str, sub_tuple_int, sub_tuple_bool, sub_tuple_tuple, sub_tuple_list, sub_tuple_dict, sub_list_str, sub_list_int, sub_list_bool, sub_list_tuple, sub_list_list, sub_list_dict, sub_dict_str, sub_dict_int, sub_dict_bool, sub_dict_tuple, sub_dict_list, sub_dict_dict, tru_non, tru_bl, tru_int, tru_str, tru_tup, tru_lst, eq_R, ne_R, isD_non, isD_bl, isD_int, isD_str, isD_tup, isD_lst, isDs_nil, isDs_cons, dep_non, dep_bl, dep_int, dep_str, dep_tup, dep_lst, deps_nil, deps_cons, ueq_ii, ueq_ss, ueq_bb, ueq_tt, ueq_ll, ueqs_nn, ueqs_cc, ueqs_cn, ueqs_nc, ix_s, ix_r, set_r, app_r, pop_r, ins_r, join_r, all_1, any_1, repr_1, newL_f, newL_t, sl_s, sl_t, sl_l, sl_r, in_t, in_l, in_r, tyMt_rl, tyMt_rd, tyMt_s, any_t, anyI_t, anyI_s, anyI_r, uVar_0, uVar_1, uVar_2, uVar_3, uVar_4, uVar_5, uVar_6, uVar_7, uVar_8, uVar_9, uVar_10, uVar_11, uVar_12, uVar_13, uVar_14, uVar_15, len_str, len_tup, len_lst, isi_non_str, isi_non_int, isi_non_bool, isi_non_tuple, isi_non_list, isi_non_dict, isi_non_tuple_list, isi_bl_str, isi_bl_int, isi_bl_bool, isi_bl_tuple, isi_bl_list, isi_bl_dict, isi_bl_tuple_list, isi_int_str, isi_int_int, isi_int_bool, isi_int_tuple, isi_int_list, isi_int_dict, isi_int_tuple_list, isi_str_str, isi_str_int, isi_str_bool, isi_str_tuple, isi_str_list, isi_str_dict, isi_str_tuple_list, isi_tup_str, isi_tup_int, isi_tup_bool, isi_tup_tuple, isi_tup_list, isi_tup_dict, isi_tup_tuple_list, isi_lst_str, isi_lst_int, isi_lst_bool, isi_lst_tuple, isi_lst_list, isi_lst_dict, isi_lst_tuple_list, uTru_K, uB_K, uPart_K, uRng_K, uOrV_K, uAndV_K, uNotV_K, uChain_K, uAug_K, truK_non, truK_bl, truK_int, truK_str, truK_tup, truK_lst, blK_bl, partK_int, rngK_int, tuple_t, tuple_l, len_ref, mul_rk, mul_rd, tuple_r, list_r, list_t, list_l, ix_tup_0, ix_lst_0, ix_tup_1, ix_lst_1, ix_tup_2, ix_lst_2, ix_tup_3, ix_lst_3, ix_tup_4, ix_lst_4, ixt_g, ixl_g, add_ll2, in_ss2, anyI_l2, isn_n, gTup_t, gCons_c, gNil_n, cle, clt, cge, cgt, ceq, cne, exists_eq_left', exists_eq_left, Option.some.injEq, U.int.injEq, U.bl.injEq, U.str.injEq, U.ref.injEq, U.tup.injEq, U.lst.injEq, U.ty.injEq, List.cons.injEq, and_true, true_and, and_self, List.map_cons, List.map_nil, List.length_cons, List.length_nil, List.cons_append, List.nil_append, List.append_nil, List.getElem?_cons_zero, List.getElem?_cons_succ, List.set_cons_zero, List.set_cons_succ, List.replicate, ↓reduceIte, Bool.false_eq_true, Bool.not_true, Bool.not_false, reduceCtorEq, Nat.reduceAdd, Nat.reduceSub, Nat.reduceLeDiff, Nat.reduceEqDiff, decide_true, decide_false, at0, at1, at2, at3, at4, ix0, ix1, ix2, ix3, ix4, updM_same, beq_self_eq_true, Option.bind, Option.map, wipeU, NT.put, puts, MO.lst.injEq, exists_and_left, decide_eq_true_eq, Bool.and_eq_true, Bool.or_eq_true, exists_eq', Nat.zero_le, true_or, or_true, h0, h1, h2, h3, Bool.true_and, Bool.false_and] at q ⊢
          exact q
      · have h0 : ¬ 0 < z.length := h1
        simp only [uIfS, uOr, uAnd, uNot, uCB, uCons, uNil, uC, uRet, uNext, uOp, uUn, uTup, uLst, uIf, uAsg, uName, uDrop, uCall, uBM, uBM0, uSl, uNoPart, uSub, ustart, uSeq, uRng2, List.append_nil, uYes, add_ii, add_ss, add_tt, add_lr_, add_rl_, sub_ii, mul_ii, mod_ii, div_ii, pow_ii, lt_ii, lt_ss, le_ii, gt_ii, ge_ii, neg_i, int_i, aug_ii, isNon_non, isNon_bl, isNon_int, isNon_str, isNon_tup, isNon_lst, isNon_ref, val_non, val_bl, val_int, val_str, val_tup, val_lst, refV_lst, val_ref, refL_lst, listU_lst, listU_ref, seqU_lst, seqU_tup, seqU_ref, lenU_str, lenU_tup, lenU_lst, lenU_ref, tyM_non, tyM_bl, tyM_int, tyM_str, tyM_tup, tyM_lst, refT_lst, tyM_ref, okN_str, okN_int, okN_bool, okN_tuple, okN_list, okN_dict, sub_NoneType_str, sub_NoneType_int, sub_NoneType_bool, sub_NoneType_tuple, sub_NoneType_list, sub_NoneType_dict, sub_bool_str, sub_bool_int, sub_bool_bool, sub_bool_tuple, sub_bool_list, sub_bool_dict, sub_int_str, sub_int_int, sub_int_bool, sub_int_tuple, sub_int_list, sub_int_dict, sub_str_str, sub_str_int, sub_str_bool, sub_str_tuple, sub_str_list, sub_str_dict, sub_tuple_str, sub_tuple_int, sub_tuple_bool, sub_tuple_tuple, sub_tuple_list, sub_tuple_dict, sub_list_str, sub_list_int, sub_list_bool, sub_list_tuple, sub_list_list, sub_list_dict, sub_dict_str, sub_dict_int, sub_dict_bool, sub_dict_tuple, sub_dict_list, sub_dict_dict, tru_non, tru_bl, tru_int, tru_str, tru_tup, tru_lst, eq_R, ne_R, isD_non, isD_bl, isD_int, isD_str, isD_tup, isD_lst, isDs_nil, isDs_cons, dep_non, dep_bl, dep_int, dep_str, dep_tup, dep_lst, deps_nil, deps_cons, ueq_ii, ueq_ss, ueq_bb, ueq_tt, ueq_ll, ueqs_nn, ueqs_cc, ueqs_cn, ueqs_nc, ix_s, ix_r, set_r, app_r, pop_r, ins_r, join_r, all_1, any_1, repr_1, newL_f, newL_t, sl_s, sl_t, sl_l, sl_r, in_t, in_l, in_r, tyMt_rl, tyMt_rd, tyMt_s, any_t, anyI_t, anyI_s, anyI_r, uVar_0, uVar_1, uVar_2, uVar_3, uVar_4, uVar_5, uVar_6, uVar_7, uVar_8, uVar_9, uVar_10, uVar_11, uVar_12, uVar_13, uVar_14, uVar_15, len_str, len_tup, len_lst, isi_non_str, isi_non_int, isi_non_bool, isi_non_tuple, isi_non_list, isi_non_dict, isi_non_tuple_list, isi_bl_str, isi_bl_int, isi_bl_bool, isi_bl_tuple, isi_bl_list, isi_bl_dict, isi_bl_tuple_list, isi_int_str, isi_int_int, isi_int_bool, isi_int_tuple, isi_int_list, isi_int_dict, isi_int_tuple_list, isi_str_str, isi_str_int, isi_str_bool, isi_str_tuple, isi_str_list, isi_str_dict, isi_str_tuple_list, isi_tup_str, isi_tup_int, isi_tup_bool, isi_tup_tuple, isi_tup_list, isi_tup_dict, isi_tup_tuple_list, isi_lst_str, isi_lst_int, isi_lst_bool, isi_lst_tuple, isi_lst_list, isi_lst_dict, isi_lst_tuple_list, uTru_K, uB_K, uPart_K, uRng_K, uOrV_K, uAndV_K, uNotV_K, uChain_K, uAug_K, truK_non, truK_bl, truK_int, truK_str, truK_tup, truK_lst, blK_bl, partK_int, rngK_int, tuple_t, tuple_l, len_ref, mul_rk, mul_rd, tuple_r, list_r, list_t, list_l, ix_tup_0, ix_lst_0, ix_tup_1, ix_lst_1, ix_tup_2, ix_lst_2, ix_tup_3, ix_lst_3, ix_tup_4, ix_lst_4, ixt_g, ixl_g, add_ll2, in_ss2, anyI_l2, isn_n, gTup_t, gCons_c, gNil_n, cle, clt, cge, cgt, ceq, cne, exists_eq_left', exists_eq_left, Option.some.injEq, U.int.injEq, U.bl.injEq, U.str.injEq, U.ref.injEq, U.tup.injEq, U.lst.injEq, U.ty.injEq, List.cons.injEq, and_true, true_and, and_self, List.map_cons, List.map_nil, List.length_cons, List.length_nil, List.cons_append, List.nil_append, List.append_nil, List.getElem?_cons_zero, List.getElem?_cons_succ, List.set_cons_zero, List.set_cons_succ, List.replicate, ↓reduceIte, Bool.false_eq_true, Bool.not_true, Bool.not_false, reduceCtorEq, Nat.reduceAdd, Nat.reduceSub, Nat.reduceLeDiff, Nat.reduceEqDiff, decide_true, decide_false, at0, at1, at2, at3, at4, ix0, ix1, ix2, ix3, ix4, updM_same, beq_self_eq_true, Option.bind, Option.map, wipeU, NT.put, puts, MO.lst.injEq, exists_and_left, decide_eq_true_eq, Bool.and_eq_true, Bool.or_eq_true, exists_eq', Nat.zero_le, true_or, or_true, h0, h1, Bool.true_and, Bool.false_and] at q ⊢
        exact q
    | ref a => simp [isD] at hx
    | ty n => simp [isD] at hx
    | _ =>
      simp only [isNameU] at q
      simp only [uIfS, uOr, uAnd, uNot, uCB, uCons, uNil, uC, uRet, uNext, uOp, uUn, uTup, uLst, uIf, uAsg, uName, uDrop, uCall, uBM, uBM0, uSl, uNoPart, uSub, ustart, uSeq, uRng2, List.append_nil, uYes, add_ii, add_ss, add_tt, add_lr_, add_rl_, sub_ii, mul_ii, mod_ii, div_ii, pow_ii, lt_ii, lt_ss, le_ii, gt_ii, ge_ii, neg_i, int_i, aug_ii, isNon_non, isNon_bl, isNon_int, isNon_str, isNon_tup, isNon_lst, isNon_ref, val_non, val_bl, val_int, val_str, val_tup, val_lst, refV_lst, val_ref, refL_lst, listU_lst, listU_ref, seqU_lst, seqU_tup, seqU_ref, lenU_str, lenU_tup, lenU_lst, lenU_ref, tyM_non, tyM_bl, tyM_int, tyM_str, tyM_tup, tyM_lst, refT_lst, tyM_ref, okN_str, okN_int, okN_bool, okN_tuple, okN_list, okN_dict, sub_NoneType_str, sub_NoneType_int, sub_NoneType_bool, sub_NoneType_tuple, sub_NoneType_list, sub_NoneType_dict, sub_bool_str, sub_bool_int, sub_bool_bool, sub_bool_tuple, sub_bool_list, sub_bool_dict, sub_int_str, sub_int_int, sub_int_bool, sub_int_tuple, sub_int_list, sub_int_dict, sub_str_str, sub_str_int, sub_str_bool, sub_str_tuple, sub_str_list, sub_str_dict, sub_tuple_str, sub_tuple_int, sub_tuple_bool, sub_tuple_tuple, sub_tuple_list, sub_tuple_dict, sub_list_str, sub_list_int, sub_list_bool, sub_list_tuple, sub_list_list, sub_list_dict, sub_dict_str, sub_dict_int, sub_dict_bool, sub_dict_tuple, sub_dict_list, sub_dict_dict, tru_non, tru_bl, tru_int, tru_str, tru_tup, tru_lst, eq_R, ne_R, isD_non, isD_bl, isD_int, isD_str, isD_tup, isD_lst, isDs_nil, isDs_cons, dep_non, dep_bl, dep_int, dep_str, dep_tup, dep_lst, deps_nil, deps_cons, ueq_ii, ueq_ss, ueq_bb, ueq_tt, ueq_ll, ueqs_nn, ueqs_cc, ueqs_cn, ueqs_nc, ix_s, ix_r, set_r, app_r, pop_r, ins_r, join_r, all_1, any_1, repr_1, newL_f, newL_t, sl_s, sl_t, sl_l, sl_r, in_t, in_l, in_r, tyMt_rl, tyMt_rd, tyMt_s, any_t, anyI_t, anyI_s, anyI_r, uVar_0, uVar_1, uVar_2, uVar_3, uVar_4, uVar_5, uVar_6, uVar_7, uVar_8, uVar_9, uVar_10, uVar_11, uVar_12, uVar_13, uVar_14, uVar_15, len_str, len_tup, len_lst, isi_non_str, isi_non_int, isi_non_bool, isi_non_tuple, isi_non_list, isi_non_dict, isi_non_tuple_list, isi_bl_str, isi_bl_int, isi_bl_bool, isi_bl_tuple, isi_bl_list, isi_bl_dict, isi_bl_tuple_list, isi_int_str, isi_int_int, isi_int_bool, isi_int_tuple, isi_int_list, isi_int_dict, isi_int_tuple_list, isi_str_str, isi_str_int, isi_str_bool, isi_str_tuple, isi_str_list, isi_str_dict, isi_str_tuple_list, isi_tup_str, isi_tup_int, isi_tup_bool, isi_tup_tuple, isi_tup_list, isi_tup_dict, isi_tup_tuple_list, isi_lst_str, isi_lst_int, isi_lst_bool, isi_lst_tuple, isi_lst_list, isi_lst_dict, isi_lst_tuple_list, uTru_K, uB_K, uPart_K, uRng_K, uOrV_K, uAndV_K, uNotV_K, uChain_K, uAug_K, truK_non, truK_bl, truK_int, truK_str, truK_tup, truK_lst, blK_bl, partK_int, rngK_int, tuple_t, tuple_l, len_ref, mul_rk, mul_rd, tuple_r, list_r, list_t, list_l, ix_tup_0, ix_lst_0, ix_tup_1, ix_lst_1, ix_tup_2, ix_lst_2, ix_tup_3, ix_lst_3, ix_tup_4, ix_lst_4, ixt_g, ixl_g, add_ll2, in_ss2, anyI_l2, isn_n, gTup_t, gCons_c, gNil_n, cle, clt, cge, cgt, ceq, cne, exists_eq_left', exists_eq_left, Option.some.injEq, U.int.injEq, U.bl.injEq, U.str.injEq, U.ref.injEq, U.tup.injEq, U.lst.injEq, U.ty.injEq, List.cons.injEq, and_true, true_and, and_self, List.map_cons, List.map_nil, List.length_cons, List.length_nil, List.cons_append, List.nil_append, List.append_nil, List.getElem?_cons_zero, List.getElem?_cons_succ, List.set_cons_zero, List.set_cons_succ, List.replicate, ↓reduceIte, Bool.false_eq_true, Bool.not_true, Bool.not_false, reduceCtorEq, Nat.reduceAdd, Nat.reduceSub, Nat.reduceLeDiff, Nat.reduceEqDiff, decide_true, decide_false, at0, at1, at2, at3, at4, ix0, ix1, ix2, ix3, ix4, updM_same, beq_self_eq_true, Option.bind, Option.map, wipeU, NT.put, puts, MO.lst.injEq, exists_and_left, decide_eq_true_eq, Bool.and_eq_true, Bool.or_eq_true, exists_eq', Nat.zero_le, true_or, or_true]
      exact q

/-! ### is_integer -/
def isIntU : U → Bool
  | .int _ => true
  | _ => false
def sp_is_integer : USp := fun us M Q _ => ∃ x, us = [x] ∧ isD x = true ∧ Q (.bl (isIntU x)) M
theorem ok_is_integer (L : Lw K mg) : UFn P w K mg base CX0 1 L.f_is_integer L.fd_is_integer ["value"] (sp_is_integer) := by
  refine ufn_ok L.D_is_integer.F sc_is_integer (fun us M Q E h => ?_) (fun cdv A outer s H E hr hG =>
      (uss_one (us_ret (ue_and (ue_callB uc_isi (by rfl) L.n_isinstance bt_isi (ua_cons (uv 0) (ua_cons (ue_bltn (by rfl) L.n_int bt_int) ua_nil))) (ue_one (ue_not (ue_callB uc_isi (by rfl) L.n_isinstance bt_isi (ua_cons (uv 0) (ua_cons (ue_bltn (by rfl) L.n_bool bt_bool) ua_nil))))))))) (fun us M Q E h => ?_)
  · obtain ⟨x, rfl, _⟩ := h
    rfl
  · obtain ⟨x, rfl, hx, q⟩ := h
    have q : ZQ Q (.bl (isIntU x)) M := .inl q
    cases x with
    | ref a => simp [isD] at hx
    | ty n => simp [isD] at hx
    | _ =>
      simp only [uIfS, uOr, uAnd, uNot, uCB, uCons, uNil, uC, uRet, uNext, uOp, uUn, uTup, uLst, uIf, uAsg, uName, uDrop, uCall, uBM, uBM0, uSl, uNoPart, uSub, ustart, uSeq, uRng2, List.append_nil, uYes, add_ii, add_ss, add_tt, add_lr_, add_rl_, sub_ii, mul_ii, mod_ii, div_ii, pow_ii, lt_ii, lt_ss, le_ii, gt_ii, ge_ii, neg_i, int_i, aug_ii, isNon_non, isNon_bl, isNon_int, isNon_str, isNon_tup, isNon_lst, isNon_ref, val_non, val_bl, val_int, val_str, val_tup, val_lst, refV_lst, val_ref, refL_lst, listU_lst, listU_ref, seqU_lst, seqU_tup, seqU_ref, lenU_str, lenU_tup, lenU_lst, lenU_ref, tyM_non, tyM_bl, tyM_int, tyM_str, tyM_tup, tyM_lst, refT_lst, tyM_ref, okN_str, okN_int, okN_bool, okN_tuple, okN_list, okN_dict, sub_NoneType_str, sub_NoneType_int, sub_NoneType_bool, sub_NoneType_tuple, sub_NoneType_list, sub_NoneType_dict, sub_bool_str, sub_bool_int, sub_bool_bool, sub_bool_tuple, sub_bool_list, sub_bool_dict, sub_int_str, sub_int_int, sub_int_bool, sub_int_tuple, sub_int_list, sub_int_dict, sub_str_str, sub_str_int, sub_str_bool, sub_str_tuple, sub_str_list, sub_str_dict, sub_tuple_str, sub_tuple_int, sub_tuple_bool, sub_tuple_tuple, sub_tuple_list, sub_tuple_dict, sub_list_str, sub_list_int, sub_list_bool, sub_list_tuple, sub_list_list, sub_list_dict, sub_dict_str, sub_dict_int, sub_dict_bool, sub_dict_tuple, sub_dict_list, sub_dict_dict, tru_non, tru_bl, tru_int, tru_str, tru_tup, tru_lst, eq_R, ne_R, isD_non, isD_bl, isD_int, isD_str, isD_tup, isD_lst, isDs_nil, isDs_cons, dep_non, dep_bl, dep_int, dep_str, dep_tup, dep_lst, deps_nil, deps_cons, ueq_ii, ueq_ss, ueq_bb, ueq_tt, ueq_ll, ueqs_nn, ueqs_cc, ueqs_cn, ueqs_nc, ix_s, ix_r, set_r, app_r, pop_r, ins_r, join_r, all_1, any_1, repr_1, newL_f, newL_t, sl_s, sl_t, sl_l, sl_r, in_t, in_l, in_r, tyMt_rl, tyMt_rd, tyMt_s, any_t, anyI_t, anyI_s, anyI_r, uVar_0, uVar_1, uVar_2, uVar_3, uVar_4, uVar_5, uVar_6, uVar_7, uVar_8, uVar_9, uVar_10, uVar_11, uVar_12, uVar_13, uVar_14, uVar_15, len_str, len_tup, len_lst, isi_non_str, isi_non_int, isi_non_bool, isi_non_tuple, isi_non_list, isi_non_dict, isi_non_tuple_list, isi_bl_str, isi_bl_int, isi_bl_bool, isi_bl_tuple, isi_bl_list, isi_bl_dict, isi_bl_tuple_list, isi_int_str, isi_int_int, isi_int_bool, isi_int_tuple, isi_int_list, isi_int_dict, isi_int_tuple_list, isi_str_str, isi_str_int, isi_str_bool, isi_str_tuple, isi_str_list, isi_str_dict, isi_str_tuple_list, isi_tup_str, isi_tup_int, isi_tup_bool, isi_tup_tuple, isi_tup_list, isi_tup_dict, isi_tup_tuple_list, isi_lst_str, isi_lst_int, isi_lst_bool, isi_lst_tuple, isi_lst_list, isi_lst_dict, isi_lst_tuple_list, uTru_K, uB_K, uPart_K, uRng_K, uOrV_K, uAndV_K, uNotV_K, uChain_K, uAug_K, truK_non, truK_bl, truK_int, truK_str, truK_tup, truK_lst, blK_bl, partK_int, rngK_int, tuple_t, tuple_l, len_ref, mul_rk, mul_rd, tuple_r, list_r, list_t, list_l, ix_tup_0, ix_lst_0, ix_tup_1, ix_lst_1, ix_tup_2, ix_lst_2, ix_tup_3, ix_lst_3, ix_tup_4, ix_lst_4, ixt_g, ixl_g, add_ll2, in_ss2, anyI_l2, isn_n, gTup_t, gCons_c, gNil_n, cle, clt, cge, cgt, ceq, cne, exists_eq_left', exists_eq_left, Option.some.injEq, U.int.injEq, U.bl.injEq, U.str.injEq, U.ref.injEq, U.tup.injEq, U.lst.injEq, U.ty.injEq, List.cons.injEq, and_true, true_and, and_self, List.map_cons, List.map_nil, List.length_cons, List.length_nil, List.cons_append, List.nil_append, List.append_nil, List.getElem?_cons_zero, List.getElem?_cons_succ, List.set_cons_zero, List.set_cons_succ, List.replicate, ↓reduceIte, Bool.false_eq_true, Bool.not_true, Bool.not_false, reduceCtorEq, Nat.reduceAdd, Nat.reduceSub, Nat.reduceLeDiff, Nat.reduceEqDiff, decide_true, decide_false, at0, at1, at2, at3, at4, ix0, ix1, ix2, ix3, ix4, updM_same, beq_self_eq_true, Option.bind, Option.map, wipeU, NT.put, puts, MO.lst.injEq, exists_and_left, decide_eq_true_eq, Bool.and_eq_true, Bool.or_eq_true, exists_eq', Nat.zero_le, true_or, or_true, isIntU] at q ⊢
      exact q

/-! ### is_path -/
def isPathU : U → Bool
  | .tup xs => decide (xs.length ≤ 8) && xs.all isNameU
  | _ => false
def sp_is_path : USp := fun us M Q _ => ∃ x, us = [x] ∧ isD x = true ∧ Q (.bl (isPathU x)) M
theorem ok_is_path (L : Lw K mg) : UFn P w K mg base CX0 2 L.f_is_path L.fd_is_path ["value"] (sp_is_path) := by
  refine ufn_ok L.D_is_path.F sc_is_path (fun us M Q E h => ?_) (fun cdv A outer s H E hr hG =>
      (uss_one (us_ret (ue_and (ue_callB uc_isi (by rfl) L.n_isinstance bt_isi (ua_cons (uv 0) (ua_cons (ue_bltn (by rfl) L.n_tuple bt_tuple) ua_nil))) (ue_and (ue_cmp uo_le (ue_callB uc_len (by rfl) L.n_len bt_len (ua_cons (uv 0) ua_nil)) (ue_gint (by rfl) L.g_MOST) (nomark _)) (ue_one (ue_callB (uc_all rfl) (by rfl) L.n_all bt_all (ua_cons (ue_lc (own := [("part", 1)]) (n := (.one 1)) false rfl sc_is_path.nd (ui_any (uv 0)) (blkOk_by (own := [("part", 1)]) (N := ["value", "part"]) (sc := defScope s_is_path) (by decide +kernel)) (by decide) (fun _ _ _ _ _ => (pg_nt sc_is_path.nd rfl (.inl rfl))) (fun _ _ _ _ _ => uts_nil) (fun _ _ _ _ _ => (ue_call (ok_is_name L) (hr.mono (by decide)) hG rfl L.D_is_name.g L.D_is_name.F.kp L.D_is_name.b .nil (fun _ => RelUs.nil) (ua_cons (uv 1) ua_nil)))) ua_nil)))))))) (fun us M Q E h => ?_)
  · obtain ⟨x, rfl, _⟩ := h
    rfl
  · obtain ⟨x, rfl, hx, q⟩ := h
    have q : ZQ Q (.bl (isPathU x)) M := .inl q
    cases x with
    | tup xs =>
      have hxs := isDs_iff.mp (by simpa [isD] using hx)
      simp only [uIfS, uOr, uAnd, uNot, uCB, uCons, uNil, uC, uRet, uNext, uOp, uUn, uTup, uLst, uIf, uAsg, uName, uDrop, uCall, uBM, uBM0, uSl, uNoPart, uSub, ustart, uSeq, uRng2, List.append_nil, uYes, add_ii, add_ss, add_tt, add_lr_, add_rl_, sub_ii, mul_ii, mod_ii, div_ii, pow_ii, lt_ii, lt_ss, le_ii, gt_ii, ge_ii, neg_i, int_i, aug_ii, isNon_non, isNon_bl, isNon_int, isNon_str, isNon_tup, isNon_lst, isNon_ref, val_non, val_bl, val_int, val_str, val_tup, val_lst, refV_lst, val_ref, refL_lst, listU_lst, listU_ref, seqU_lst, seqU_tup, seqU_ref, lenU_str, lenU_tup, lenU_lst, lenU_ref, tyM_non, tyM_bl, tyM_int, tyM_str, tyM_tup, tyM_lst, refT_lst, tyM_ref, okN_str, okN_int, okN_bool, okN_tuple, okN_list, okN_dict, sub_NoneType_str, sub_NoneType_int, sub_NoneType_bool, sub_NoneType_tuple, sub_NoneType_list, sub_NoneType_dict, sub_bool_str, sub_bool_int, sub_bool_bool, sub_bool_tuple, sub_bool_list, sub_bool_dict, sub_int_str, sub_int_int, sub_int_bool, sub_int_tuple, sub_int_list, sub_int_dict, sub_str_str, sub_str_int, sub_str_bool, sub_str_tuple, sub_str_list, sub_str_dict, sub_tuple_str, sub_tuple_int, sub_tuple_bool, sub_tuple_tuple, sub_tuple_list, sub_tuple_dict, sub_list_str, sub_list_int, sub_list_bool, sub_list_tuple, sub_list_list, sub_list_dict, sub_dict_str, sub_dict_int, sub_dict_bool, sub_dict_tuple, sub_dict_list, sub_dict_dict, tru_non, tru_bl, tru_int, tru_str, tru_tup, tru_lst, eq_R, ne_R, isD_non, isD_bl, isD_int, isD_str, isD_tup, isD_lst, isDs_nil, isDs_cons, dep_non, dep_bl, dep_int, dep_str, dep_tup, dep_lst, deps_nil, deps_cons, ueq_ii, ueq_ss, ueq_bb, ueq_tt, ueq_ll, ueqs_nn, ueqs_cc, ueqs_cn, ueqs_nc, ix_s, ix_r, set_r, app_r, pop_r, ins_r, join_r, all_1, any_1, repr_1, newL_f, newL_t, sl_s, sl_t, sl_l, sl_r, in_t, in_l, in_r, tyMt_rl, tyMt_rd, tyMt_s, any_t, anyI_t, anyI_s, anyI_r, uVar_0, uVar_1, uVar_2, uVar_3, uVar_4, uVar_5, uVar_6, uVar_7, uVar_8, uVar_9, uVar_10, uVar_11, uVar_12, uVar_13, uVar_14, uVar_15, len_str, len_tup, len_lst, isi_non_str, isi_non_int, isi_non_bool, isi_non_tuple, isi_non_list, isi_non_dict, isi_non_tuple_list, isi_bl_str, isi_bl_int, isi_bl_bool, isi_bl_tuple, isi_bl_list, isi_bl_dict, isi_bl_tuple_list, isi_int_str, isi_int_int, isi_int_bool, isi_int_tuple, isi_int_list, isi_int_dict, isi_int_tuple_list, isi_str_str, isi_str_int, isi_str_bool, isi_str_tuple, isi_str_list, isi_str_dict, isi_str_tuple_list, isi_tup_str, isi_tup_int, isi_tup_bool, isi_tup_tuple, isi_tup_list, isi_tup_dict, isi_tup_tuple_list, isi_lst_str, isi_lst_int, isi_lst_bool, isi_lst_tuple, isi_lst_list, isi_lst_dict, isi_lst_tuple_list, uTru_K, uB_K, uPart_K, uRng_K, uOrV_K, uAndV_K, uNotV_K, uChain_K, uAug_K, truK_non, truK_bl, truK_int, truK_str, truK_tup, truK_lst, blK_bl, partK_int, rngK_int, tuple_t, tuple_l, len_ref, mul_rk, mul_rd, tuple_r, list_r, list_t, list_l, ix_tup_0, ix_lst_0, ix_tup_1, ix_lst_1, ix_tup_2, ix_lst_2, ix_tup_3, ix_lst_3, ix_tup_4, ix_lst_4, ixt_g, ixl_g, add_ll2, in_ss2, anyI_l2, isn_n, gTup_t, gCons_c, gNil_n, cle, clt, cge, cgt, ceq, cne, exists_eq_left', exists_eq_left, Option.some.injEq, U.int.injEq, U.bl.injEq, U.str.injEq, U.ref.injEq, U.tup.injEq, U.lst.injEq, U.ty.injEq, List.cons.injEq, and_true, true_and, and_self, List.map_cons, List.map_nil, List.length_cons, List.length_nil, List.cons_append, List.nil_append, List.append_nil, List.getElem?_cons_zero, List.getElem?_cons_succ, List.set_cons_zero, List.set_cons_succ, List.replicate, ↓reduceIte, Bool.false_eq_true, Bool.not_true, Bool.not_false, reduceCtorEq, Nat.reduceAdd, Nat.reduceSub, Nat.reduceLeDiff, Nat.reduceEqDiff, decide_true, decide_false, at0, at1, at2, at3, at4, ix0, ix1, ix2, ix3, ix4, updM_same, beq_self_eq_true, Option.bind, Option.map, wipeU, NT.put, puts, MO.lst.injEq, exists_and_left, decide_eq_true_eq, Bool.and_eq_true, Bool.or_eq_true, exists_eq', Nat.zero_le, true_or, or_true, isPathU] at q ⊢
      by_cases h1 : xs.length ≤ 8
      · have h3 : xs.length < 9 := by omega
        simp only [uIfS, uOr, uAnd, uNot, uCB, uCons, uNil, uC, uRet, uNext, uOp, uUn, uTup, uLst, uIf, uAsg, uName, uDrop, uCall, uBM, uBM0, uSl, uNoPart, uSub, ustart, uSeq, uRng2, List.append_nil, uYes, add_ii, add_ss, add_tt, add_lr_, add_rl_, sub_ii, mul_ii, mod_ii, div_ii, pow_ii, lt_ii, lt_ss, le_ii, gt_ii, ge_ii, neg_i, int_i, aug_ii, isNon_non, isNon_bl, isNon_int, isNon_str, isNon_tup, isNon_lst, isNon_ref, val_non, val_bl, val_int, val_str, val_tup, val_lst, refV_lst, val_ref, refL_lst, listU_lst, listU_ref, seqU_lst, seqU_tup, seqU_ref, lenU_str, lenU_tup, lenU_lst, lenU_ref, tyM_non, tyM_bl, tyM_int, tyM_str, tyM_tup, tyM_lst, refT_lst, tyM_ref, okN_str, okN_int, okN_bool, okN_tuple, okN_list, okN_dict, sub_NoneType_str, sub_NoneType_int, sub_NoneType_bool, sub_NoneType_tuple, sub_NoneType_list, sub_NoneType_dict, sub_bool_str, sub_bool_int, sub_bool_bool, sub_bool_tuple, sub_bool_list, sub_bool_dict, sub_int_str, sub_int_int, sub_int_bool, sub_int_tuple, sub_int_list, sub_int_dict, sub_str_str, sub_str_int, sub_str_bool, sub_str_tuple, sub_str_list, sub_str_dict, sub_tuple_str, sub_tuple_int, sub_tuple_bool, sub_tuple_tuple, sub_tuple_list, sub_tuple_dict, sub_list_str, sub_list_int, sub_list_bool, sub_list_tuple, sub_list_list, sub_list_dict, sub_dict_str, sub_dict_int, sub_dict_bool, sub_dict_tuple, sub_dict_list, sub_dict_dict, tru_non, tru_bl, tru_int, tru_str, tru_tup, tru_lst, eq_R, ne_R, isD_non, isD_bl, isD_int, isD_str, isD_tup, isD_lst, isDs_nil, isDs_cons, dep_non, dep_bl, dep_int, dep_str, dep_tup, dep_lst, deps_nil, deps_cons, ueq_ii, ueq_ss, ueq_bb, ueq_tt, ueq_ll, ueqs_nn, ueqs_cc, ueqs_cn, ueqs_nc, ix_s, ix_r, set_r, app_r, pop_r, ins_r, join_r, all_1, any_1, repr_1, newL_f, newL_t, sl_s, sl_t, sl_l, sl_r, in_t, in_l, in_r, tyMt_rl, tyMt_rd, tyMt_s, any_t, anyI_t, anyI_s, anyI_r, uVar_0, uVar_1, uVar_2, uVar_3, uVar_4, uVar_5, uVar_6, uVar_7, uVar_8, uVar_9, uVar_10, uVar_11, uVar_12, uVar_13, uVar_14, uVar_15, len_str, len_tup, len_lst, isi_non_str, isi_non_int, isi_non_bool, isi_non_tuple, isi_non_list, isi_non_dict, isi_non_tuple_list, isi_bl_str, isi_bl_int, isi_bl_bool, isi_bl_tuple, isi_bl_list, isi_bl_dict, isi_bl_tuple_list, isi_int_str, isi_int_int, isi_int_bool, isi_int_tuple, isi_int_list, isi_int_dict, isi_int_tuple_list, isi_str_str, isi_str_int, isi_str_bool, isi_str_tuple, isi_str_list, isi_str_dict, isi_str_tuple_list, isi_tup_str, isi_tup_int, isi_tup_bool, isi_tup_tuple, isi_tup_list, isi_tup_dict, isi_tup_tuple_list, isi_lst_str, isi_lst_int, isi_lst_bool, isi_lst_tuple, isi_lst_list, isi_lst_dict, isi_lst_tuple_list, uTru_K, uB_K, uPart_K, uRng_K, uOrV_K, uAndV_K, uNotV_K, uChain_K, uAug_K, truK_non, truK_bl, truK_int, truK_str, truK_tup, truK_lst, blK_bl, partK_int, rngK_int, tuple_t, tuple_l, len_ref, mul_rk, mul_rd, tuple_r, list_r, list_t, list_l, ix_tup_0, ix_lst_0, ix_tup_1, ix_lst_1, ix_tup_2, ix_lst_2, ix_tup_3, ix_lst_3, ix_tup_4, ix_lst_4, ixt_g, ixl_g, add_ll2, in_ss2, anyI_l2, isn_n, gTup_t, gCons_c, gNil_n, cle, clt, cge, cgt, ceq, cne, exists_eq_left', exists_eq_left, Option.some.injEq, U.int.injEq, U.bl.injEq, U.str.injEq, U.ref.injEq, U.tup.injEq, U.lst.injEq, U.ty.injEq, List.cons.injEq, and_true, true_and, and_self, List.map_cons, List.map_nil, List.length_cons, List.length_nil, List.cons_append, List.nil_append, List.append_nil, List.getElem?_cons_zero, List.getElem?_cons_succ, List.set_cons_zero, List.set_cons_succ, List.replicate, ↓reduceIte, Bool.false_eq_true, Bool.not_true, Bool.not_false, reduceCtorEq, Nat.reduceAdd, Nat.reduceSub, Nat.reduceLeDiff, Nat.reduceEqDiff, decide_true, decide_false, at0, at1, at2, at3, at4, ix0, ix1, ix2, ix3, ix4, updM_same, beq_self_eq_true, Option.bind, Option.map, wipeU, NT.put, puts, MO.lst.injEq, exists_and_left, decide_eq_true_eq, Bool.and_eq_true, Bool.or_eq_true, exists_eq', Nat.zero_le, true_or, or_true, h1, h3] at q ⊢
        simp only [uLc, uIfS, uOr, uAnd, uNot, uCB, uCons, uNil, uC, uRet, uNext, uOp, uUn, uTup, uLst, uIf, uAsg, uName, uDrop, uCall, uBM, uBM0, uSl, uNoPart, uSub, ustart, uSeq, uRng2, List.append_nil, uYes, add_ii, add_ss, add_tt, add_lr_, add_rl_, sub_ii, mul_ii, mod_ii, div_ii, pow_ii, lt_ii, lt_ss, le_ii, gt_ii, ge_ii, neg_i, int_i, aug_ii, isNon_non, isNon_bl, isNon_int, isNon_str, isNon_tup, isNon_lst, isNon_ref, val_non, val_bl, val_int, val_str, val_tup, val_lst, refV_lst, val_ref, refL_lst, listU_lst, listU_ref, seqU_lst, seqU_tup, seqU_ref, lenU_str, lenU_tup, lenU_lst, lenU_ref, tyM_non, tyM_bl, tyM_int, tyM_str, tyM_tup, tyM_lst, refT_lst, tyM_ref, okN_str, okN_int, okN_bool, okN_tuple, okN_list, okN_dict, sub_NoneType_str, sub_NoneType_int, sub_NoneType_bool, sub_NoneType_tuple, sub_NoneType_list, sub_NoneType_dict, sub_bool_str, sub_bool_int, sub_bool_bool, sub_bool_tuple, sub_bool_list, sub_bool_dict, sub_int_str, sub_int_int, sub_int_bool, sub_int_tuple, sub_int_list, sub_int_dict, sub_str_str, sub_str_int, sub_str_bool, sub_str_tuple, sub_str_list, sub_str_dict, sub_tuple_str, sub_tuple_int, sub_tuple_bool, sub_tuple_tuple, sub_tuple_list, sub_tuple_dict, sub_list_str, sub_list_int, sub_list_bool, sub_list_tuple, sub_list_list, sub_list_dict, sub_dict_str, sub_dict_int, sub_dict_bool, sub_dict_tuple, sub_dict_list, sub_dict_dict, tru_non, tru_bl, tru_int, tru_str, tru_tup, tru_lst, eq_R, ne_R, isD_non, isD_bl, isD_int, isD_str, isD_tup, isD_lst, isDs_nil, isDs_cons, dep_non, dep_bl, dep_int, dep_str, dep_tup, dep_lst, deps_nil, deps_cons, ueq_ii, ueq_ss, ueq_bb, ueq_tt, ueq_ll, ueqs_nn, ueqs_cc, ueqs_cn, ueqs_nc, ix_s, ix_r, set_r, app_r, pop_r, ins_r, join_r, all_1, any_1, repr_1, newL_f, newL_t, sl_s, sl_t, sl_l, sl_r, in_t, in_l, in_r, tyMt_rl, tyMt_rd, tyMt_s, any_t, anyI_t, anyI_s, anyI_r, uVar_0, uVar_1, uVar_2, uVar_3, uVar_4, uVar_5, uVar_6, uVar_7, uVar_8, uVar_9, uVar_10, uVar_11, uVar_12, uVar_13, uVar_14, uVar_15, len_str, len_tup, len_lst, isi_non_str, isi_non_int, isi_non_bool, isi_non_tuple, isi_non_list, isi_non_dict, isi_non_tuple_list, isi_bl_str, isi_bl_int, isi_bl_bool, isi_bl_tuple, isi_bl_list, isi_bl_dict, isi_bl_tuple_list, isi_int_str, isi_int_int, isi_int_bool, isi_int_tuple, isi_int_list, isi_int_dict, isi_int_tuple_list, isi_str_str, isi_str_int, isi_str_bool, isi_str_tuple, isi_str_list, isi_str_dict, isi_str_tuple_list, isi_tup_str, isi_tup_int, isi_tup_bool, isi_tup_tuple, isi_tup_list, isi_tup_dict, isi_tup_tuple_list, isi_lst_str, isi_lst_int, isi_lst_bool, isi_lst_tuple, isi_lst_list, isi_lst_dict, isi_lst_tuple_list, uTru_K, uB_K, uPart_K, uRng_K, uOrV_K, uAndV_K, uNotV_K, uChain_K, uAug_K, truK_non, truK_bl, truK_int, truK_str, truK_tup, truK_lst, blK_bl, partK_int, rngK_int, tuple_t, tuple_l, len_ref, mul_rk, mul_rd, tuple_r, list_r, list_t, list_l, ix_tup_0, ix_lst_0, ix_tup_1, ix_lst_1, ix_tup_2, ix_lst_2, ix_tup_3, ix_lst_3, ix_tup_4, ix_lst_4, ixt_g, ixl_g, add_ll2, in_ss2, anyI_l2, isn_n, gTup_t, gCons_c, gNil_n, cle, clt, cge, cgt, ceq, cne, exists_eq_left', exists_eq_left, Option.some.injEq, U.int.injEq, U.bl.injEq, U.str.injEq, U.ref.injEq, U.tup.injEq, U.lst.injEq, U.ty.injEq, List.cons.injEq, and_true, true_and, and_self, List.map_cons, List.map_nil, List.length_cons, List.length_nil, List.cons_append, List.nil_append, List.append_nil, List.getElem?_cons_zero, List.getElem?_cons_succ, List.set_cons_zero, List.set_cons_succ, List.replicate, ↓reduceIte, Bool.false_eq_true, Bool.not_true, Bool.not_false, reduceCtorEq, Nat.reduceAdd, Nat.reduceSub, Nat.reduceLeDiff, Nat.reduceEqDiff, decide_true, decide_false, at0, at1, at2, at3, at4, ix0, ix1, ix2, ix3, ix4, updM_same, beq_self_eq_true, Option.bind, Option.map, wipeU, NT.put, puts, MO.lst.injEq, exists_and_left, decide_eq_true_eq, Bool.and_eq_true, Bool.or_eq_true, exists_eq', Nat.zero_le, true_or, or_true]
        refine lc_map (fun x => .bl (isNameU x)) (fun _ _ _ => True.intro) (fun D acc hD x hx => ⟨_, rfl, fun Q q => ?_⟩) ?_
        · simp only [uIfS, uOr, uAnd, uNot, uCB, uCons, uNil, uC, uRet, uNext, uOp, uUn, uTup, uLst, uIf, uAsg, uName, uDrop, uCall, uBM, uBM0, uSl, uNoPart, uSub, ustart, uSeq, uRng2, List.append_nil, uYes, add_ii, add_ss, add_tt, add_lr_, add_rl_, sub_ii, mul_ii, mod_ii, div_ii, pow_ii, lt_ii, lt_ss, le_ii, gt_ii, ge_ii, neg_i, int_i, aug_ii, isNon_non, isNon_bl, isNon_int, isNon_str, isNon_tup, isNon_lst, isNon_ref, val_non, val_bl, val_int, val_str, val_tup, val_lst, refV_lst, val_ref, refL_lst, listU_lst, listU_ref, seqU_lst, seqU_tup, seqU_ref, lenU_str, lenU_tup, lenU_lst, lenU_ref, tyM_non, tyM_bl, tyM_int, tyM_str, tyM_tup, tyM_lst, refT_lst, tyM_ref, okN_str, okN_int, okN_bool, okN_tuple, okN_list, okN_dict, sub_NoneType_str, sub_NoneType_int, sub_NoneType_bool, sub_NoneType_tuple, sub_NoneType_list, sub_NoneType_dict, sub_bool_str, sub_bool_int, sub_bool_bool, sub_bool_tuple, sub_bool_list, sub_bool_dict, sub_int_str, sub_int_int, sub_int_bool, sub_int_tuple, sub_int_list, sub_int_dict, sub_str_str, sub_str_int, sub_str_bool, sub_str_tuple, sub_str_list, sub_str_dict, sub_tuple_str, sub_tuple_int, sub_tuple_bool, sub_tuple_tuple, sub_tuple_list, sub_tuple_dict, sub_list_str, sub_list_int, sub_list_bool, sub_list_tuple, sub_list_list, sub_list_dict, sub_dict_str, sub_dict_int, sub_dict_bool, sub_dict_tuple, sub_dict_list, sub_dict_dict, tru_non, tru_bl, tru_int, tru_str, tru_tup, tru_lst, eq_R, ne_R, isD_non, isD_bl, isD_int, isD_str, isD_tup, isD_lst, isDs_nil, isDs_cons, dep_non, dep_bl, dep_int, dep_str, dep_tup, dep_lst, deps_nil, deps_cons, ueq_ii, ueq_ss, ueq_bb, ueq_tt, ueq_ll, ueqs_nn, ueqs_cc, ueqs_cn, ueqs_nc, ix_s, ix_r, set_r, app_r, pop_r, ins_r, join_r, all_1, any_1, repr_1, newL_f, newL_t, sl_s, sl_t, sl_l, sl_r, in_t, in_l, in_r, tyMt_rl, tyMt_rd, tyMt_s, any_t, anyI_t, anyI_s, anyI_r, uVar_0, uVar_1, uVar_2, uVar_3, uVar_4, uVar_5, uVar_6, uVar_7, uVar_8, uVar_9, uVar_10, uVar_11, uVar_12, uVar_13, uVar_14, uVar_15, len_str, len_tup, len_lst, isi_non_str, isi_non_int, isi_non_bool, isi_non_tuple, isi_non_list, isi_non_dict, isi_non_tuple_list, isi_bl_str, isi_bl_int, isi_bl_bool, isi_bl_tuple, isi_bl_list, isi_bl_dict, isi_bl_tuple_list, isi_int_str, isi_int_int, isi_int_bool, isi_int_tuple, isi_int_list, isi_int_dict, isi_int_tuple_list, isi_str_str, isi_str_int, isi_str_bool, isi_str_tuple, isi_str_list, isi_str_dict, isi_str_tuple_list, isi_tup_str, isi_tup_int, isi_tup_bool, isi_tup_tuple, isi_tup_list, isi_tup_dict, isi_tup_tuple_list, isi_lst_str, isi_lst_int, isi_lst_bool, isi_lst_tuple, isi_lst_list, isi_lst_dict, isi_lst_tuple_list, uTru_K, uB_K, uPart_K, uRng_K, uOrV_K, uAndV_K, uNotV_K, uChain_K, uAug_K, truK_non, truK_bl, truK_int, truK_str, truK_tup, truK_lst, blK_bl, partK_int, rngK_int, tuple_t, tuple_l, len_ref, mul_rk, mul_rd, tuple_r, list_r, list_t, list_l, ix_tup_0, ix_lst_0, ix_tup_1, ix_lst_1, ix_tup_2, ix_lst_2, ix_tup_3, ix_lst_3, ix_tup_4, ix_lst_4, ixt_g, ixl_g, add_ll2, in_ss2, anyI_l2, isn_n, gTup_t, gCons_c, gNil_n, cle, clt, cge, cgt, ceq, cne, exists_eq_left', exists_eq_left, Option.some.injEq, U.int.injEq, U.bl.injEq, U.str.injEq, U.ref.injEq, U.tup.injEq, U.lst.injEq, U.ty.injEq, List.cons.injEq, and_true, true_and, and_self, List.map_cons, List.map_nil, List.length_cons, List.length_nil, List.cons_append, List.nil_append, List.append_nil, List.getElem?_cons_zero, List.getElem?_cons_succ, List.set_cons_zero, List.set_cons_succ, List.replicate, ↓reduceIte, Bool.false_eq_true, Bool.not_true, Bool.not_false, reduceCtorEq, Nat.reduceAdd, Nat.reduceSub, Nat.reduceLeDiff, Nat.reduceEqDiff, decide_true, decide_false, at0, at1, at2, at3, at4, ix0, ix1, ix2, ix3, ix4, updM_same, beq_self_eq_true, Option.bind, Option.map, wipeU, NT.put, puts, MO.lst.injEq, exists_and_left, decide_eq_true_eq, Bool.and_eq_true, Bool.or_eq_true, exists_eq', Nat.zero_le, true_or, or_true, sp_is_name]
          exact ⟨hxs x hx, q⟩
        · simp only [uIfS, uOr, uAnd, uNot, uCB, uCons, uNil, uC, uRet, uNext, uOp, uUn, uTup, uLst, uIf, uAsg, uName, uDrop, uCall, uBM, uBM0, uSl, uNoPart, uSub, ustart, uSeq, uRng2, List.append_nil, uYes, add_ii, add_ss, add_tt, add_lr_, add_rl_, sub_ii, mul_ii, mod_ii, div_ii, pow_ii, lt_ii, lt_ss, le_ii, gt_ii, ge_ii, neg_i, int_i, aug_ii, isNon_non, isNon_bl, isNon_int, isNon_str, isNon_tup, isNon_lst, isNon_ref, val_non, val_bl, val_int, val_str, val_tup, val_lst, refV_lst, val_ref, refL_lst, listU_lst, listU_ref, seqU_lst, seqU_tup, seqU_ref, lenU_str, lenU_tup, lenU_lst, lenU_ref, tyM_non, tyM_bl, tyM_int, tyM_str, tyM_tup, tyM_lst, refT_lst, tyM_ref, okN_str, okN_int, okN_bool, okN_tuple, okN_list, okN_dict, sub_NoneType_str, sub_NoneType_int, sub_NoneType_bool, sub_NoneType_tuple, sub_NoneType_list, sub_NoneType_dict, sub_bool_str, sub_bool_int, sub_bool_bool, sub_bool_tuple, sub_bool_list, sub_bool_dict, sub_int_str, sub_int_int, sub_int_bool, sub_int_tuple, sub_int_list, sub_int_dict, sub_str_str, sub_str_int, sub_str_bool, sub_str_tuple, sub_str_list, sub_str_dict, sub_tuple_str, sub_tuple_int, sub_tuple_bool, sub_tuple_tuple, sub_tuple_list, sub_tuple_dict, sub_list_str, sub_list_int, sub_list_bool, sub_list_tuple, sub_list_list, sub_list_dict, sub_dict_str, sub_dict_int, sub_dict_bool, sub_dict_tuple, sub_dict_list, sub_dict_dict, tru_non, tru_bl, tru_int, tru_str, tru_tup, tru_lst, eq_R, ne_R, isD_non, isD_bl, isD_int, isD_str, isD_tup, isD_lst, isDs_nil, isDs_cons, dep_non, dep_bl, dep_int, dep_str, dep_tup, dep_lst, deps_nil, deps_cons, ueq_ii, ueq_ss, ueq_bb, ueq_tt, ueq_ll, ueqs_nn, ueqs_cc, ueqs_cn, ueqs_nc, ix_s, ix_r, set_r, app_r, pop_r, ins_r, join_r, all_1, any_1, repr_1, newL_f, newL_t, sl_s, sl_t, sl_l, sl_r, in_t, in_l, in_r, tyMt_rl, tyMt_rd, tyMt_s, any_t, anyI_t, anyI_s, anyI_r, uVar_0, uVar_1, uVar_2, uVar_3, uVar_4, uVar_5, uVar_6, uVar_7, uVar_8, uVar_9, uVar_10, uVar_11, uVar_12, uVar_13, uVar_14, uVar_15, len_str, len_tup, len_lst, isi_non_str, isi_non_int, isi_non_bool, isi_non_tuple, isi_non_list, isi_non_dict, isi_non_tuple_list, isi_bl_str, isi_bl_int, isi_bl_bool, isi_bl_tuple, isi_bl_list, isi_bl_dict, isi_bl_tuple_list, isi_int_str, isi_int_int, isi_int_bool, isi_int_tuple, isi_int_list, isi_int_dict, isi_int_tuple_list, isi_str_str, isi_str_int, isi_str_bool, isi_str_tuple, isi_str_list, isi_str_dict, isi_str_tuple_list, isi_tup_str, isi_tup_int, isi_tup_bool, isi_tup_tuple, isi_tup_list, isi_tup_dict, isi_tup_tuple_list, isi_lst_str, isi_lst_int, isi_lst_bool, isi_lst_tuple, isi_lst_list, isi_lst_dict, isi_lst_tuple_list, uTru_K, uB_K, uPart_K, uRng_K, uOrV_K, uAndV_K, uNotV_K, uChain_K, uAug_K, truK_non, truK_bl, truK_int, truK_str, truK_tup, truK_lst, blK_bl, partK_int, rngK_int, tuple_t, tuple_l, len_ref, mul_rk, mul_rd, tuple_r, list_r, list_t, list_l, ix_tup_0, ix_lst_0, ix_tup_1, ix_lst_1, ix_tup_2, ix_lst_2, ix_tup_3, ix_lst_3, ix_tup_4, ix_lst_4, ixt_g, ixl_g, add_ll2, in_ss2, anyI_l2, isn_n, gTup_t, gCons_c, gNil_n, cle, clt, cge, cgt, ceq, cne, exists_eq_left', exists_eq_left, Option.some.injEq, U.int.injEq, U.bl.injEq, U.str.injEq, U.ref.injEq, U.tup.injEq, U.lst.injEq, U.ty.injEq, List.cons.injEq, and_true, true_and, and_self, List.map_cons, List.map_nil, List.length_cons, List.length_nil, List.cons_append, List.nil_append, List.append_nil, List.getElem?_cons_zero, List.getElem?_cons_succ, List.set_cons_zero, List.set_cons_succ, List.replicate, ↓reduceIte, Bool.false_eq_true, Bool.not_true, Bool.not_false, reduceCtorEq, Nat.reduceAdd, Nat.reduceSub, Nat.reduceLeDiff, Nat.reduceEqDiff, decide_true, decide_false, at0, at1, at2, at3, at4, ix0, ix1, ix2, ix3, ix4, updM_same, beq_self_eq_true, Option.bind, Option.map, wipeU, NT.put, puts, MO.lst.injEq, exists_and_left, decide_eq_true_eq, Bool.and_eq_true, Bool.or_eq_true, exists_eq', Nat.zero_le, true_or, or_true, allU_map, Bool.true_and] at q ⊢
          exact q
      · have h3 : ¬ xs.length < 9 := by omega
        simp only [uIfS, uOr, uAnd, uNot, uCB, uCons, uNil, uC, uRet, uNext, uOp, uUn, uTup, uLst, uIf, uAsg, uName, uDrop, uCall, uBM, uBM0, uSl, uNoPart, uSub, ustart, uSeq, uRng2, List.append_nil, uYes, add_ii, add_ss, add_tt, add_lr_, add_rl_, sub_ii, mul_ii, mod_ii, div_ii, pow_ii, lt_ii, lt_ss, le_ii, gt_ii, ge_ii, neg_i, int_i, aug_ii, isNon_non, isNon_bl, isNon_int, isNon_str, isNon_tup, isNon_lst, isNon_ref, val_non, val_bl, val_int, val_str, val_tup, val_lst, refV_lst, val_ref, refL_lst, listU_lst, listU_ref, seqU_lst, seqU_tup, seqU_ref, lenU_str, lenU_tup, lenU_lst, lenU_ref, tyM_non, tyM_bl, tyM_int, tyM_str, tyM_tup, tyM_lst, refT_lst, tyM_ref, okN_str, okN_int, okN_bool, okN_tuple, okN_list, okN_dict, sub_NoneType_str, sub_NoneType_int, sub_NoneType_bool, sub_NoneType_tuple, sub_NoneType_list, sub_NoneType_dict, sub_bool_str, sub_bool_int, sub_bool_bool, sub_bool_tuple, sub_bool_list, sub_bool_dict, sub_int_str, sub_int_int, sub_int_bool, sub_int_tuple, sub_int_list, sub_int_dict, sub_str_str, sub_str_int, sub_str_bool, sub_str_tuple, sub_str_list, sub_str_dict, sub_tuple_str, sub_tuple_int, sub_tuple_bool, sub_tuple_tuple, sub_tuple_list, sub_tuple_dict, sub_list_str, sub_list_int, sub_list_bool, sub_list_tuple, sub_list_list, sub_list_dict, sub_dict_str, sub_dict_int, sub_dict_bool, sub_dict_tuple, sub_dict_list, sub_dict_dict, tru_non, tru_bl, tru_int, tru_str, tru_tup, tru_lst, eq_R, ne_R, isD_non, isD_bl, isD_int, isD_str, isD_tup, isD_lst, isDs_nil, isDs_cons, dep_non, dep_bl, dep_int, dep_str, dep_tup, dep_lst, deps_nil, deps_cons, ueq_ii, ueq_ss, ueq_bb, ueq_tt, ueq_ll, ueqs_nn, ueqs_cc, ueqs_cn, ueqs_nc, ix_s, ix_r, set_r, app_r, pop_r, ins_r, join_r, all_1, any_1, repr_1, newL_f, newL_t, sl_s, sl_t, sl_l, sl_r, in_t, in_l, in_r, tyMt_rl, tyMt_rd, tyMt_s, any_t, anyI_t, anyI_s, anyI_r, uVar_0, uVar_1, uVar_2, uVar_3, uVar_4, uVar_5, uVar_6, uVar_7, uVar_8, uVar_9, uVar_10, uVar_11, uVar_12, uVar_13, uVar_14, uVar_15, len_str, len_tup, len_lst, isi_non_str, isi_non_int, isi_non_bool, isi_non_tuple, isi_non_list, isi_non_dict, isi_non_tuple_list, isi_bl_str, isi_bl_int, isi_bl_bool, isi_bl_tuple, isi_bl_list, isi_bl_dict, isi_bl_tuple_list, isi_int_str, isi_int_int, isi_int_bool, isi_int_tuple, isi_int_list, isi_int_dict, isi_int_tuple_list, isi_str_str, isi_str_int, isi_str_bool, isi_str_tuple, isi_str_list, isi_str_dict, isi_str_tuple_list, isi_tup_str, isi_tup_int, isi_tup_bool, isi_tup_tuple, isi_tup_list, isi_tup_dict, isi_tup_tuple_list, isi_lst_str, isi_lst_int, isi_lst_bool, isi_lst_tuple, isi_lst_list, isi_lst_dict, isi_lst_tuple_list, uTru_K, uB_K, uPart_K, uRng_K, uOrV_K, uAndV_K, uNotV_K, uChain_K, uAug_K, truK_non, truK_bl, truK_int, truK_str, truK_tup, truK_lst, blK_bl, partK_int, rngK_int, tuple_t, tuple_l, len_ref, mul_rk, mul_rd, tuple_r, list_r, list_t, list_l, ix_tup_0, ix_lst_0, ix_tup_1, ix_lst_1, ix_tup_2, ix_lst_2, ix_tup_3, ix_lst_3, ix_tup_4, ix_lst_4, ixt_g, ixl_g, add_ll2, in_ss2, anyI_l2, isn_n, gTup_t, gCons_c, gNil_n, cle, clt, cge, cgt, ceq, cne, exists_eq_left', exists_eq_left, Option.some.injEq, U.int.injEq, U.bl.injEq, U.str.injEq, U.ref.injEq, U.tup.injEq, U.lst.injEq, U.ty.injEq, List.cons.injEq, and_true, true_and, and_self, List.map_cons, List.map_nil, List.length_cons, List.length_nil, List.cons_append, List.nil_append, List.append_nil, List.getElem?_cons_zero, List.getElem?_cons_succ, List.set_cons_zero, List.set_cons_succ, List.replicate, ↓reduceIte, Bool.false_eq_true, Bool.not_true, Bool.not_false, reduceCtorEq, Nat.reduceAdd, Nat.reduceSub, Nat.reduceLeDiff, Nat.reduceEqDiff, decide_true, decide_false, at0, at1, at2, at3, at4, ix0, ix1, ix2, ix3, ix4, updM_same, beq_self_eq_true, Option.bind, Option.map, wipeU, NT.put, puts, MO.lst.injEq, exists_and_left, decide_eq_true_eq, Bool.and_eq_true, Bool.or_eq_true, exists_eq', Nat.zero_le, true_or, or_true, h1, h3, Bool.false_and] at q ⊢
        exact q
    | ref a => simp [isD] at hx
    | ty n => simp [isD] at hx
    | _ =>
      simp only [uIfS, uOr, uAnd, uNot, uCB, uCons, uNil, uC, uRet, uNext, uOp, uUn, uTup, uLst, uIf, uAsg, uName, uDrop, uCall, uBM, uBM0, uSl, uNoPart, uSub, ustart, uSeq, uRng2, List.append_nil, uYes, add_ii, add_ss, add_tt, add_lr_, add_rl_, sub_ii, mul_ii, mod_ii, div_ii, pow_ii, lt_ii, lt_ss, le_ii, gt_ii, ge_ii, neg_i, int_i, aug_ii, isNon_non, isNon_bl, isNon_int, isNon_str, isNon_tup, isNon_lst, isNon_ref, val_non, val_bl, val_int, val_str, val_tup, val_lst, refV_lst, val_ref, refL_lst, listU_lst, listU_ref, seqU_lst, seqU_tup, seqU_ref, lenU_str, lenU_tup, lenU_lst, lenU_ref, tyM_non, tyM_bl, tyM_int, tyM_str, tyM_tup, tyM_lst, refT_lst, tyM_ref, okN_str, okN_int, okN_bool, okN_tuple, okN_list, okN_dict, sub_NoneType_str, sub_NoneType_int, sub_NoneType_bool, sub_NoneType_tuple, sub_NoneType_list, sub_NoneType_dict, sub_bool_str, sub_bool_int, sub_bool_bool, sub_bool_tuple, sub_bool_list, sub_bool_dict, sub_int_str, sub_int_int, sub_int_bool, sub_int_tuple, sub_int_list, sub_int_dict, sub_str_str, sub_str_int, sub_str_bool, sub_str_tuple, sub_str_list, sub_str_dict, sub_tuple_str, sub_tuple_int, sub_tuple_bool, sub_tuple_tuple, sub_tuple_list, sub_tuple_dict, sub_list_str, sub_list_int, sub_list_bool, sub_list_tuple, sub_list_list, sub_list_dict, sub_dict_str, sub_dict_int, sub_dict_bool, sub_dict_tuple, sub_dict_list, sub_dict_dict, tru_non, tru_bl, tru_int, tru_str, tru_tup, tru_lst, eq_R, ne_R, isD_non, isD_bl, isD_int, isD_str, isD_tup, isD_lst, isDs_nil, isDs_cons, dep_non, dep_bl, dep_int, dep_str, dep_tup, dep_lst, deps_nil, deps_cons, ueq_ii, ueq_ss, ueq_bb, ueq_tt, ueq_ll, ueqs_nn, ueqs_cc, ueqs_cn, ueqs_nc, ix_s, ix_r, set_r, app_r, pop_r, ins_r, join_r, all_1, any_1, repr_1, newL_f, newL_t, sl_s, sl_t, sl_l, sl_r, in_t, in_l, in_r, tyMt_rl, tyMt_rd, tyMt_s, any_t, anyI_t, anyI_s, anyI_r, uVar_0, uVar_1, uVar_2, uVar_3, uVar_4, uVar_5, uVar_6, uVar_7, uVar_8, uVar_9, uVar_10, uVar_11, uVar_12, uVar_13, uVar_14, uVar_15, len_str, len_tup, len_lst, isi_non_str, isi_non_int, isi_non_bool, isi_non_tuple, isi_non_list, isi_non_dict, isi_non_tuple_list, isi_bl_str, isi_bl_int, isi_bl_bool, isi_bl_tuple, isi_bl_list, isi_bl_dict, isi_bl_tuple_list, isi_int_str, isi_int_int, isi_int_bool, isi_int_tuple, isi_int_list, isi_int_dict, isi_int_tuple_list, isi_str_str, isi_str_int, isi_str_bool, isi_str_tuple, isi_str_list, isi_str_dict, isi_str_tuple_list, isi_tup_str, isi_tup_int, isi_tup_bool, isi_tup_tuple, isi_tup_list, isi_tup_dict, isi_tup_tuple_list, isi_lst_str, isi_lst_int, isi_lst_bool, isi_lst_tuple, isi_lst_list, isi_lst_dict, isi_lst_tuple_list, uTru_K, uB_K, uPart_K, uRng_K, uOrV_K, uAndV_K, uNotV_K, uChain_K, uAug_K, truK_non, truK_bl, truK_int, truK_str, truK_tup, truK_lst, blK_bl, partK_int, rngK_int, tuple_t, tuple_l, len_ref, mul_rk, mul_rd, tuple_r, list_r, list_t, list_l, ix_tup_0, ix_lst_0, ix_tup_1, ix_lst_1, ix_tup_2, ix_lst_2, ix_tup_3, ix_lst_3, ix_tup_4, ix_lst_4, ixt_g, ixl_g, add_ll2, in_ss2, anyI_l2, isn_n, gTup_t, gCons_c, gNil_n, cle, clt, cge, cgt, ceq, cne, exists_eq_left', exists_eq_left, Option.some.injEq, U.int.injEq, U.bl.injEq, U.str.injEq, U.ref.injEq, U.tup.injEq, U.lst.injEq, U.ty.injEq, List.cons.injEq, and_true, true_and, and_self, List.map_cons, List.map_nil, List.length_cons, List.length_nil, List.cons_append, List.nil_append, List.append_nil, List.getElem?_cons_zero, List.getElem?_cons_succ, List.set_cons_zero, List.set_cons_succ, List.replicate, ↓reduceIte, Bool.false_eq_true, Bool.not_true, Bool.not_false, reduceCtorEq, Nat.reduceAdd, Nat.reduceSub, Nat.reduceLeDiff, Nat.reduceEqDiff, decide_true, decide_false, at0, at1, at2, at3, at4, ix0, ix1, ix2, ix3, ix4, updM_same, beq_self_eq_true, Option.bind, Option.map, wipeU, NT.put, puts, MO.lst.injEq, exists_and_left, decide_eq_true_eq, Bool.and_eq_true, Bool.or_eq_true, exists_eq', Nat.zero_le, true_or, or_true, isPathU] at q ⊢
      exact q

/-! ### is_link -/
def isLinkU : U → Bool
  | .tup [a, b] => ueq a (.str "link") && isPathU b
  | _ => false
theorem isLinkU_len {xs : List U} (h : xs.length ≠ 2) : isLinkU (.tup xs) = false := by
  match xs, h with
  | [], _ => rfl
  | [_], _ => rfl
  | _ :: _ :: _ :: _, _ => rfl
  | [_, _], h => exact absurd rfl h
def sp_is_link : USp := fun us M Q _ => ∃ x, us = [x] ∧ isD x = true ∧ Q (.bl (isLinkU x)) M
theorem ok_is_link (L : Lw K mg) : UFn P w K mg base CX0 3 L.f_is_link L.fd_is_link ["value"] (sp_is_link) := by
  refine ufn_ok L.D_is_link.F sc_is_link (fun us M Q E h => ?_) (fun cdv A outer s H E hr hG =>
      (uss_one (us_ret (ue_and (ue_callB uc_isi (by rfl) L.n_isinstance bt_isi (ua_cons (uv 0) (ua_cons (ue_bltn (by rfl) L.n_tuple bt_tuple) ua_nil))) (ue_and (ue_cmp (uo_eq (hu6 hr)) (ue_callB uc_len (by rfl) L.n_len bt_len (ua_cons (uv 0) ua_nil)) ue_int (nomark _)) (ue_and (ue_cmp (uo_eq (hu6 hr)) (ue_ix (uv 0) ue_int) ue_str (nomark _)) (ue_one (ue_call (ok_is_path L) (hr.mono (by decide)) hG rfl L.D_is_path.g L.D_is_path.F.kp L.D_is_path.b .nil (fun _ => RelUs.nil) (ua_cons (ue_ix (uv 0) ue_int) ua_nil))))))))) (fun us M Q E h => ?_)
  · obtain ⟨x, rfl, _⟩ := h
    rfl
  · obtain ⟨x, rfl, hx, q⟩ := h
    have q : ZQ Q (.bl (isLinkU x)) M := .inl q
    cases x with
    | tup xs =>
      have hxs := isDs_iff.mp (by simpa [isD] using hx)
      by_cases h2 : xs.length = 2
      · match xs, h2 with
        | [a, b], _ =>
          have ha : isD a = true := hxs a (by simp)
          have hb : isD b = true := hxs b (by simp)
          simp only [uIfS, uOr, uAnd, uNot, uCB, uCons, uNil, uC, uRet, uNext, uOp, uUn, uTup, uLst, uIf, uAsg, uName, uDrop, uCall, uBM, uBM0, uSl, uNoPart, uSub, ustart, uSeq, uRng2, List.append_nil, uYes, add_ii, add_ss, add_tt, add_lr_, add_rl_, sub_ii, mul_ii, mod_ii, div_ii, pow_ii, lt_ii, lt_ss, le_ii, gt_ii, ge_ii, neg_i, int_i, aug_ii, isNon_non, isNon_bl, isNon_int, isNon_str, isNon_tup, isNon_lst, isNon_ref, val_non, val_bl, val_int, val_str, val_tup, val_lst, refV_lst, val_ref, refL_lst, listU_lst, listU_ref, seqU_lst, seqU_tup, seqU_ref, lenU_str, lenU_tup, lenU_lst, lenU_ref, tyM_non, tyM_bl, tyM_int, tyM_str, tyM_tup, tyM_lst, refT_lst, tyM_ref, okN_str, okN_int, okN_bool, okN_tuple, okN_list, okN_dict, sub_NoneType_str, sub_NoneType_int, sub_NoneType_bool, sub_NoneType_tuple, sub_NoneType_list, sub_NoneType_dict, sub_bool_str, sub_bool_int, sub_bool_bool, sub_bool_tuple, sub_bool_list, sub_bool_dict, sub_int_str, sub_int_int, sub_int_bool, sub_int_tuple, sub_int_list, sub_int_dict, sub_str_str, sub_str_int, sub_str_bool, sub_str_tuple, sub_str_list, sub_str_dict, sub_tuple_str, sub_tuple_int, sub_tuple_bool, sub_tuple_tuple, sub_tuple_list, sub_tuple_dict, sub_list_str, sub_list_int, sub_list_bool, sub_list_tuple, sub_list_list, sub_list_dict, sub_dict_str, sub_dict_int, sub_dict_bool, sub_dict_tuple, sub_dict_list, sub_dict_dict, tru_non, tru_bl, tru_int, tru_str, tru_tup, tru_lst, eq_R, ne_R, isD_non, isD_bl, isD_int, isD_str, isD_tup, isD_lst, isDs_nil, isDs_cons, dep_non, dep_bl, dep_int, dep_str, dep_tup, dep_lst, deps_nil, deps_cons, ueq_ii, ueq_ss, ueq_bb, ueq_tt, ueq_ll, ueqs_nn, ueqs_cc, ueqs_cn, ueqs_nc, ix_s, ix_r, set_r, app_r, pop_r, ins_r, join_r, all_1, any_1, repr_1, newL_f, newL_t, sl_s, sl_t, sl_l, sl_r, in_t, in_l, in_r, tyMt_rl, tyMt_rd, tyMt_s, any_t, anyI_t, anyI_s, anyI_r, uVar_0, uVar_1, uVar_2, uVar_3, uVar_4, uVar_5, uVar_6, uVar_7, uVar_8, uVar_9, uVar_10, uVar_11, uVar_12, uVar_13, uVar_14, uVar_15, len_str, len_tup, len_lst, isi_non_str, isi_non_int, isi_non_bool, isi_non_tuple, isi_non_list, isi_non_dict, isi_non_tuple_list, isi_bl_str, isi_bl_int, isi_bl_bool, isi_bl_tuple, isi_bl_list, isi_bl_dict, isi_bl_tuple_list, isi_int_str, isi_int_int, isi_int_bool, isi_int_tuple, isi_int_list, isi_int_dict, isi_int_tuple_list, isi_str_str, isi_str_int, isi_str_bool, isi_str_tuple, isi_str_list, isi_str_dict, isi_str_tuple_list, isi_tup_str, isi_tup_int, isi_tup_bool, isi_tup_tuple, isi_tup_list, isi_tup_dict, isi_tup_tuple_list, isi_lst_str, isi_lst_int, isi_lst_bool, isi_lst_tuple, isi_lst_list, isi_lst_dict, isi_lst_tuple_list, uTru_K, uB_K, uPart_K, uRng_K, uOrV_K, uAndV_K, uNotV_K, uChain_K, uAug_K, truK_non, truK_bl, truK_int, truK_str, truK_tup, truK_lst, blK_bl, partK_int, rngK_int, tuple_t, tuple_l, len_ref, mul_rk, mul_rd, tuple_r, list_r, list_t, list_l, ix_tup_0, ix_lst_0, ix_tup_1, ix_lst_1, ix_tup_2, ix_lst_2, ix_tup_3, ix_lst_3, ix_tup_4, ix_lst_4, ixt_g, ixl_g, add_ll2, in_ss2, anyI_l2, isn_n, gTup_t, gCons_c, gNil_n, cle, clt, cge, cgt, ceq, cne, exists_eq_left', exists_eq_left, Option.some.injEq, U.int.injEq, U.bl.injEq, U.str.injEq, U.ref.injEq, U.tup.injEq, U.lst.injEq, U.ty.injEq, List.cons.injEq, and_true, true_and, and_self, List.map_cons, List.map_nil, List.length_cons, List.length_nil, List.cons_append, List.nil_append, List.append_nil, List.getElem?_cons_zero, List.getElem?_cons_succ, List.set_cons_zero, List.set_cons_succ, List.replicate, ↓reduceIte, Bool.false_eq_true, Bool.not_true, Bool.not_false, reduceCtorEq, Nat.reduceAdd, Nat.reduceSub, Nat.reduceLeDiff, Nat.reduceEqDiff, decide_true, decide_false, at0, at1, at2, at3, at4, ix0, ix1, ix2, ix3, ix4, updM_same, beq_self_eq_true, Option.bind, Option.map, wipeU, NT.put, puts, MO.lst.injEq, exists_and_left, decide_eq_true_eq, Bool.and_eq_true, Bool.or_eq_true, exists_eq', Nat.zero_le, true_or, or_true, isLinkU, val_isD ha, ha] at q ⊢
          refine ⟨by decide +kernel, ?_⟩
          cases hu : ueq a (.str "link") with
          | true =>
            simp only [uIfS, uOr, uAnd, uNot, uCB, uCons, uNil, uC, uRet, uNext, uOp, uUn, uTup, uLst, uIf, uAsg, uName, uDrop, uCall, uBM, uBM0, uSl, uNoPart, uSub, ustart, uSeq, uRng2, List.append_nil, uYes, add_ii, add_ss, add_tt, add_lr_, add_rl_, sub_ii, mul_ii, mod_ii, div_ii, pow_ii, lt_ii, lt_ss, le_ii, gt_ii, ge_ii, neg_i, int_i, aug_ii, isNon_non, isNon_bl, isNon_int, isNon_str, isNon_tup, isNon_lst, isNon_ref, val_non, val_bl, val_int, val_str, val_tup, val_lst, refV_lst, val_ref, refL_lst, listU_lst, listU_ref, seqU_lst, seqU_tup, seqU_ref, lenU_str, lenU_tup, lenU_lst, lenU_ref, tyM_non, tyM_bl, tyM_int, tyM_str, tyM_tup, tyM_lst, refT_lst, tyM_ref, okN_str, okN_int, okN_bool, okN_tuple, okN_list, okN_dict, sub_NoneType_str, sub_NoneType_int, sub_NoneType_bool, sub_NoneType_tuple, sub_NoneType_list, sub_NoneType_dict, sub_bool_str, sub_bool_int, sub_bool_bool, sub_bool_tuple, sub_bool_list, sub_bool_dict, sub_int_str, sub_int_int, sub_int_bool, sub_int_tuple, sub_int_list, sub_int_dict, sub_str_str, sub_str_int, sub_str_bool, sub_str_tuple, sub_str_list, sub_str_dict, sub_tuple_str, sub_tuple_int, sub_tuple_bool, sub_tuple_tuple, sub_tuple_list, sub_tuple_dict, sub_list_str, sub_list_int, sub_list_bool, sub_list_tuple, sub_list_list, sub_list_dict, sub_dict_str, sub_dict_int, sub_dict_bool, sub_dict_tuple, sub_dict_list, sub_dict_dict, tru_non, tru_bl, tru_int, tru_str, tru_tup, tru_lst, eq_R, ne_R, isD_non, isD_bl, isD_int, isD_str, isD_tup, isD_lst, isDs_nil, isDs_cons, dep_non, dep_bl, dep_int, dep_str, dep_tup, dep_lst, deps_nil, deps_cons, ueq_ii, ueq_ss, ueq_bb, ueq_tt, ueq_ll, ueqs_nn, ueqs_cc, ueqs_cn, ueqs_nc, ix_s, ix_r, set_r, app_r, pop_r, ins_r, join_r, all_1, any_1, repr_1, newL_f, newL_t, sl_s, sl_t, sl_l, sl_r, in_t, in_l, in_r, tyMt_rl, tyMt_rd, tyMt_s, any_t, anyI_t, anyI_s, anyI_r, uVar_0, uVar_1, uVar_2, uVar_3, uVar_4, uVar_5, uVar_6, uVar_7, uVar_8, uVar_9, uVar_10, uVar_11, uVar_12, uVar_13, uVar_14, uVar_15, len_str, len_tup, len_lst, isi_non_str, isi_non_int, isi_non_bool, isi_non_tuple, isi_non_list, isi_non_dict, isi_non_tuple_list, isi_bl_str, isi_bl_int, isi_bl_bool, isi_bl_tuple, isi_bl_list, isi_bl_dict, isi_bl_tuple_list, isi_int_str, isi_int_int, isi_int_bool, isi_int_tuple, isi_int_list, isi_int_dict, isi_int_tuple_list, isi_str_str, isi_str_int, isi_str_bool, isi_str_tuple, isi_str_list, isi_str_dict, isi_str_tuple_list, isi_tup_str, isi_tup_int, isi_tup_bool, isi_tup_tuple, isi_tup_list, isi_tup_dict, isi_tup_tuple_list, isi_lst_str, isi_lst_int, isi_lst_bool, isi_lst_tuple, isi_lst_list, isi_lst_dict, isi_lst_tuple_list, uTru_K, uB_K, uPart_K, uRng_K, uOrV_K, uAndV_K, uNotV_K, uChain_K, uAug_K, truK_non, truK_bl, truK_int, truK_str, truK_tup, truK_lst, blK_bl, partK_int, rngK_int, tuple_t, tuple_l, len_ref, mul_rk, mul_rd, tuple_r, list_r, list_t, list_l, ix_tup_0, ix_lst_0, ix_tup_1, ix_lst_1, ix_tup_2, ix_lst_2, ix_tup_3, ix_lst_3, ix_tup_4, ix_lst_4, ixt_g, ixl_g, add_ll2, in_ss2, anyI_l2, isn_n, gTup_t, gCons_c, gNil_n, cle, clt, cge, cgt, ceq, cne, exists_eq_left', exists_eq_left, Option.some.injEq, U.int.injEq, U.bl.injEq, U.str.injEq, U.ref.injEq, U.tup.injEq, U.lst.injEq, U.ty.injEq, List.cons.injEq, and_true, true_and, and_self, List.map_cons, List.map_nil, List.length_cons, List.length_nil, List.cons_append, List.nil_append, List.append_nil, List.getElem?_cons_zero, List.getElem?_cons_succ, List.set_cons_zero, List.set_cons_succ, List.replicate, ↓reduceIte, Bool.false_eq_true, Bool.not_true, Bool.not_false, reduceCtorEq, Nat.reduceAdd, Nat.reduceSub, Nat.reduceLeDiff, Nat.reduceEqDiff, decide_true, decide_false, at0, at1, at2, at3, at4, ix0, ix1, ix2, ix3, ix4, updM_same, beq_self_eq_true, Option.bind, Option.map, wipeU, NT.put, puts, MO.lst.injEq, exists_and_left, decide_eq_true_eq, Bool.and_eq_true, Bool.or_eq_true, exists_eq', Nat.zero_le, true_or, or_true, hu, sp_is_path, Bool.true_and] at q ⊢
            exact ⟨hb, q⟩
          | false =>
            simp only [uIfS, uOr, uAnd, uNot, uCB, uCons, uNil, uC, uRet, uNext, uOp, uUn, uTup, uLst, uIf, uAsg, uName, uDrop, uCall, uBM, uBM0, uSl, uNoPart, uSub, ustart, uSeq, uRng2, List.append_nil, uYes, add_ii, add_ss, add_tt, add_lr_, add_rl_, sub_ii, mul_ii, mod_ii, div_ii, pow_ii, lt_ii, lt_ss, le_ii, gt_ii, ge_ii, neg_i, int_i, aug_ii, isNon_non, isNon_bl, isNon_int, isNon_str, isNon_tup, isNon_lst, isNon_ref, val_non, val_bl, val_int, val_str, val_tup, val_lst, refV_lst, val_ref, refL_lst, listU_lst, listU_ref, seqU_lst, seqU_tup, seqU_ref, lenU_str, lenU_tup, lenU_lst, lenU_ref, tyM_non, tyM_bl, tyM_int, tyM_str, tyM_tup, tyM_lst, refT_lst, tyM_ref, okN_str, okN_int, okN_bool, okN_tuple, okN_list, okN_dict, sub_NoneType_str, sub_NoneType_int, sub_NoneType_bool, sub_NoneType_tuple, sub_NoneType_list, sub_NoneType_dict, sub_bool_str, sub_bool_int, sub_bool_bool, sub_bool_tuple, sub_bool_list, sub_bool_dict, sub_int_str, sub_int_int, sub_int_bool, sub_int_tuple, sub_int_list, sub_int_dict, sub_str_str, sub_str_int, sub_str_bool, sub_str_tuple, sub_str_list, sub_str_dict, sub_tuple_str, sub_tuple_int, sub_tuple_bool, sub_tuple_tuple, sub_tuple_list, sub_tuple_dict, sub_list_str, sub_list_int, sub_list_bool, sub_list_tuple, sub_list_list, sub_list_dict, sub_dict_str, sub_dict_int, sub_dict_bool, sub_dict_tuple, sub_dict_list, sub_dict_dict, tru_non, tru_bl, tru_int, tru_str, tru_tup, tru_lst, eq_R, ne_R, isD_non, isD_bl, isD_int, isD_str, isD_tup, isD_lst, isDs_nil, isDs_cons, dep_non, dep_bl, dep_int, dep_str, dep_tup, dep_lst, deps_nil, deps_cons, ueq_ii, ueq_ss, ueq_bb, ueq_tt, ueq_ll, ueqs_nn, ueqs_cc, ueqs_cn, ueqs_nc, ix_s, ix_r, set_r, app_r, pop_r, ins_r, join_r, all_1, any_1, repr_1, newL_f, newL_t, sl_s, sl_t, sl_l, sl_r, in_t, in_l, in_r, tyMt_rl, tyMt_rd, tyMt_s, any_t, anyI_t, anyI_s, anyI_r, uVar_0, uVar_1, uVar_2, uVar_3, uVar_4, uVar_5, uVar_6, uVar_7, uVar_8, uVar_9, uVar_10, uVar_11, uVar_12, uVar_13, uVar_14, uVar_15, len_str, len_tup, len_lst, isi_non_str, isi_non_int, isi_non_bool, isi_non_tuple, isi_non_list, isi_non_dict, isi_non_tuple_list, isi_bl_str, isi_bl_int, isi_bl_bool, isi_bl_tuple, isi_bl_list, isi_bl_dict, isi_bl_tuple_list, isi_int_str, isi_int_int, isi_int_bool, isi_int_tuple, isi_int_list, isi_int_dict, isi_int_tuple_list, isi_str_str, isi_str_int, isi_str_bool, isi_str_tuple, isi_str_list, isi_str_dict, isi_str_tuple_list, isi_tup_str, isi_tup_int, isi_tup_bool, isi_tup_tuple, isi_tup_list, isi_tup_dict, isi_tup_tuple_list, isi_lst_str, isi_lst_int, isi_lst_bool, isi_lst_tuple, isi_lst_list, isi_lst_dict, isi_lst_tuple_list, uTru_K, uB_K, uPart_K, uRng_K, uOrV_K, uAndV_K, uNotV_K, uChain_K, uAug_K, truK_non, truK_bl, truK_int, truK_str, truK_tup, truK_lst, blK_bl, partK_int, rngK_int, tuple_t, tuple_l, len_ref, mul_rk, mul_rd, tuple_r, list_r, list_t, list_l, ix_tup_0, ix_lst_0, ix_tup_1, ix_lst_1, ix_tup_2, ix_lst_2, ix_tup_3, ix_lst_3, ix_tup_4, ix_lst_4, ixt_g, ixl_g, add_ll2, in_ss2, anyI_l2, isn_n, gTup_t, gCons_c, gNil_n, cle, clt, cge, cgt, ceq, cne, exists_eq_left', exists_eq_left, Option.some.injEq, U.int.injEq, U.bl.injEq, U.str.injEq, U.ref.injEq, U.tup.injEq, U.lst.injEq, U.ty.injEq, List.cons.injEq, and_true, true_and, and_self, List.map_cons, List.map_nil, List.length_cons, List.length_nil, List.cons_append, List.nil_append, List.append_nil, List.getElem?_cons_zero, List.getElem?_cons_succ, List.set_cons_zero, List.set_cons_succ, List.replicate, ↓reduceIte, Bool.false_eq_true, Bool.not_true, Bool.not_false, reduceCtorEq, Nat.reduceAdd, Nat.reduceSub, Nat.reduceLeDiff, Nat.reduceEqDiff, decide_true, decide_false, at0, at1, at2, at3, at4, ix0, ix1, ix2, ix3, ix4, updM_same, beq_self_eq_true, Option.bind, Option.map, wipeU, NT.put, puts, MO.lst.injEq, exists_and_left, decide_eq_true_eq, Bool.and_eq_true, Bool.or_eq_true, exists_eq', Nat.zero_le, true_or, or_true, hu, Bool.false_and] at q ⊢
            exact q
      · have h3 : ((xs.length : Int) == 2) = false := beq_eq_false_iff_ne.mpr (by omega)
        simp only [uIfS, uOr, uAnd, uNot, uCB, uCons, uNil, uC, uRet, uNext, uOp, uUn, uTup, uLst, uIf, uAsg, uName, uDrop, uCall, uBM, uBM0, uSl, uNoPart, uSub, ustart, uSeq, uRng2, List.append_nil, uYes, add_ii, add_ss, add_tt, add_lr_, add_rl_, sub_ii, mul_ii, mod_ii, div_ii, pow_ii, lt_ii, lt_ss, le_ii, gt_ii, ge_ii, neg_i, int_i, aug_ii, isNon_non, isNon_bl, isNon_int, isNon_str, isNon_tup, isNon_lst, isNon_ref, val_non, val_bl, val_int, val_str, val_tup, val_lst, refV_lst, val_ref, refL_lst, listU_lst, listU_ref, seqU_lst, seqU_tup, seqU_ref, lenU_str, lenU_tup, lenU_lst, lenU_ref, tyM_non, tyM_bl, tyM_int, tyM_str, tyM_tup, tyM_lst, refT_lst, tyM_ref, okN_str, okN_int, okN_bool, okN_tuple, okN_list, okN_dict, sub_NoneType_str, sub_NoneType_int, sub_NoneType_bool, sub_NoneType_tuple, sub_NoneType_list, sub_NoneType_dict, sub_bool_str, sub_bool_int, sub_bool_bool, sub_bool_tuple, sub_bool_list, sub_bool_dict, sub_int_str, sub_int_int, sub_int_bool, sub_int_tuple, sub_int_list, sub_int_dict, sub_str_str, sub_str_int, sub_str_bool, sub_str_tuple, sub_str_list, sub_str_dict, sub_tuple_str, sub_tuple_int, sub_tuple_bool, sub_tuple_tuple, sub_tuple_list, sub_tuple_dict, sub_list_str, sub_list_int, sub_list_bool, sub_list_tuple, sub_list_list, sub_list_dict, sub_dict_str, sub_dict_int, sub_dict_bool, sub_dict_tuple, sub_dict_list, sub_dict_dict, tru_non, tru_bl, tru_int, tru_str, tru_tup, tru_lst, eq_R, ne_R, isD_non, isD_bl, isD_int, isD_str, isD_tup, isD_lst, isDs_nil, isDs_cons, dep_non, dep_bl, dep_int, dep_str, dep_tup, dep_lst, deps_nil, deps_cons, ueq_ii, ueq_ss, ueq_bb, ueq_tt, ueq_ll, ueqs_nn, ueqs_cc, ueqs_cn, ueqs_nc, ix_s, ix_r, set_r, app_r, pop_r, ins_r, join_r, all_1, any_1, repr_1, newL_f, newL_t, sl_s, sl_t, sl_l, sl_r, in_t, in_l, in_r, tyMt_rl, tyMt_rd, tyMt_s, any_t, anyI_t, anyI_s, anyI_r, uVar_0, uVar_1, uVar_2, uVar_3, uVar_4, uVar_5, uVar_6, uVar_7, uVar_8, uVar_9, uVar_10, uVar_11, uVar_12, uVar_13, uVar_14, uVar_15, len_str, len_tup, len_lst, isi_non_str, isi_non_int, isi_non_bool, isi_non_tuple, isi_non_list, isi_non_dict, isi_non_tuple_list, isi_bl_str, isi_bl_int, isi_bl_bool, isi_bl_tuple, isi_bl_list, isi_bl_dict, isi_bl_tuple_list, isi_int_str, isi_int_int, isi_int_bool, isi_int_tuple, isi_int_list, isi_int_dict, isi_int_tuple_list, isi_str_str, isi_str_int, isi_str_bool, isi_str_tuple, isi_str_list, isi_str_dict, isi_str_tuple_list, isi_tup_str, isi_tup_int, isi_tup_bool, isi_tup_tuple, isi_tup_list, isi_tup_dict, isi_tup_tuple_list, isi_lst_str, isi_lst_int, isi_lst_bool, isi_lst_tuple, isi_lst_list, isi_lst_dict, isi_lst_tuple_list, uTru_K, uB_K, uPart_K, uRng_K, uOrV_K, uAndV_K, uNotV_K, uChain_K, uAug_K, truK_non, truK_bl, truK_int, truK_str, truK_tup, truK_lst, blK_bl, partK_int, rngK_int, tuple_t, tuple_l, len_ref, mul_rk, mul_rd, tuple_r, list_r, list_t, list_l, ix_tup_0, ix_lst_0, ix_tup_1, ix_lst_1, ix_tup_2, ix_lst_2, ix_tup_3, ix_lst_3, ix_tup_4, ix_lst_4, ixt_g, ixl_g, add_ll2, in_ss2, anyI_l2, isn_n, gTup_t, gCons_c, gNil_n, cle, clt, cge, cgt, ceq, cne, exists_eq_left', exists_eq_left, Option.some.injEq, U.int.injEq, U.bl.injEq, U.str.injEq, U.ref.injEq, U.tup.injEq, U.lst.injEq, U.ty.injEq, List.cons.injEq, and_true, true_and, and_self, List.map_cons, List.map_nil, List.length_cons, List.length_nil, List.cons_append, List.nil_append, List.append_nil, List.getElem?_cons_zero, List.getElem?_cons_succ, List.set_cons_zero, List.set_cons_succ, List.replicate, ↓reduceIte, Bool.false_eq_true, Bool.not_true, Bool.not_false, reduceCtorEq, Nat.reduceAdd, Nat.reduceSub, Nat.reduceLeDiff, Nat.reduceEqDiff, decide_true, decide_false, at0, at1, at2, at3, at4, ix0, ix1, ix2, ix3, ix4, updM_same, beq_self_eq_true, Option.bind, Option.map, wipeU, NT.put, puts, MO.lst.injEq, exists_and_left, decide_eq_true_eq, Bool.and_eq_true, Bool.or_eq_true, exists_eq', Nat.zero_le, true_or, or_true, isLinkU_len h2, h3] at q ⊢
        exact q
    | ref a => simp [isD] at hx
    | ty n => simp [isD] at hx
    | _ =>
      simp only [uIfS, uOr, uAnd, uNot, uCB, uCons, uNil, uC, uRet, uNext, uOp, uUn, uTup, uLst, uIf, uAsg, uName, uDrop, uCall, uBM, uBM0, uSl, uNoPart, uSub, ustart, uSeq, uRng2, List.append_nil, uYes, add_ii, add_ss, add_tt, add_lr_, add_rl_, sub_ii, mul_ii, mod_ii, div_ii, pow_ii, lt_ii, lt_ss, le_ii, gt_ii, ge_ii, neg_i, int_i, aug_ii, isNon_non, isNon_bl, isNon_int, isNon_str, isNon_tup, isNon_lst, isNon_ref, val_non, val_bl, val_int, val_str, val_tup, val_lst, refV_lst, val_ref, refL_lst, listU_lst, listU_ref, seqU_lst, seqU_tup, seqU_ref, lenU_str, lenU_tup, lenU_lst, lenU_ref, tyM_non, tyM_bl, tyM_int, tyM_str, tyM_tup, tyM_lst, refT_lst, tyM_ref, okN_str, okN_int, okN_bool, okN_tuple, okN_list, okN_dict, sub_NoneType_str, sub_NoneType_int, sub_NoneType_bool, sub_NoneType_tuple, sub_NoneType_list, sub_NoneType_dict, sub_bool_str, sub_bool_int, sub_bool_bool, sub_bool_tuple, sub_bool_list, sub_bool_dict, sub_int_str, sub_int_int, sub_int_bool, sub_int_tuple, sub_int_list, sub_int_dict, sub_str_str, sub_str_int, sub_str_bool, sub_str_tuple, sub_str_list, sub_str_dict, sub_tuple_str, sub_tuple_int, sub_tuple_bool, sub_tuple_tuple, sub_tuple_list, sub_tuple_dict, sub_list_str, sub_list_int, sub_list_bool, sub_list_tuple, sub_list_list, sub_list_dict, sub_dict_str, sub_dict_int, sub_dict_bool, sub_dict_tuple, sub_dict_list, sub_dict_dict, tru_non, tru_bl, tru_int, tru_str, tru_tup, tru_lst, eq_R, ne_R, isD_non, isD_bl, isD_int, isD_str, isD_tup, isD_lst, isDs_nil, isDs_cons, dep_non, dep_bl, dep_int, dep_str, dep_tup, dep_lst, deps_nil, deps_cons, ueq_ii, ueq_ss, ueq_bb, ueq_tt, ueq_ll, ueqs_nn, ueqs_cc, ueqs_cn, ueqs_nc, ix_s, ix_r, set_r, app_r, pop_r, ins_r, join_r, all_1, any_1, repr_1, newL_f, newL_t, sl_s, sl_t, sl_l, sl_r, in_t, in_l, in_r, tyMt_rl, tyMt_rd, tyMt_s, any_t, anyI_t, anyI_s, anyI_r, uVar_0, uVar_1, uVar_2, uVar_3, uVar_4, uVar_5, uVar_6, uVar_7, uVar_8, uVar_9, uVar_10, uVar_11, uVar_12, uVar_13, uVar_14, uVar_15, len_str, len_tup, len_lst, isi_non_str, isi_non_int, isi_non_bool, isi_non_tuple, isi_non_list, isi_non_dict, isi_non_tuple_list, isi_bl_str, isi_bl_int, isi_bl_bool, isi_bl_tuple, isi_bl_list, isi_bl_dict, isi_bl_tuple_list, isi_int_str, isi_int_int, isi_int_bool, isi_int_tuple, isi_int_list, isi_int_dict, isi_int_tuple_list, isi_str_str, isi_str_int, isi_str_bool, isi_str_tuple, isi_str_list, isi_str_dict, isi_str_tuple_list, isi_tup_str, isi_tup_int, isi_tup_bool, isi_tup_tuple, isi_tup_list, isi_tup_dict, isi_tup_tuple_list, isi_lst_str, isi_lst_int, isi_lst_bool, isi_lst_tuple, isi_lst_list, isi_lst_dict, isi_lst_tuple_list, uTru_K, uB_K, uPart_K, uRng_K, uOrV_K, uAndV_K, uNotV_K, uChain_K, uAug_K, truK_non, truK_bl, truK_int, truK_str, truK_tup, truK_lst, blK_bl, partK_int, rngK_int, tuple_t, tuple_l, len_ref, mul_rk, mul_rd, tuple_r, list_r, list_t, list_l, ix_tup_0, ix_lst_0, ix_tup_1, ix_lst_1, ix_tup_2, ix_lst_2, ix_tup_3, ix_lst_3, ix_tup_4, ix_lst_4, ixt_g, ixl_g, add_ll2, in_ss2, anyI_l2, isn_n, gTup_t, gCons_c, gNil_n, cle, clt, cge, cgt, ceq, cne, exists_eq_left', exists_eq_left, Option.some.injEq, U.int.injEq, U.bl.injEq, U.str.injEq, U.ref.injEq, U.tup.injEq, U.lst.injEq, U.ty.injEq, List.cons.injEq, and_true, true_and, and_self, List.map_cons, List.map_nil, List.length_cons, List.length_nil, List.cons_append, List.nil_append, List.append_nil, List.getElem?_cons_zero, List.getElem?_cons_succ, List.set_cons_zero, List.set_cons_succ, List.replicate, ↓reduceIte, Bool.false_eq_true, Bool.not_true, Bool.not_false, reduceCtorEq, Nat.reduceAdd, Nat.reduceSub, Nat.reduceLeDiff, Nat.reduceEqDiff, decide_true, decide_false, at0, at1, at2, at3, at4, ix0, ix1, ix2, ix3, ix4, updM_same, beq_self_eq_true, Option.bind, Option.map, wipeU, NT.put, puts, MO.lst.injEq, exists_and_left, decide_eq_true_eq, Bool.and_eq_true, Bool.or_eq_true, exists_eq', Nat.zero_le, true_or, or_true, isLinkU] at q ⊢
      exact q

/-! ### is_value -/
def isValueU (x : U) : Bool := isIntU x || isNameU x || isLinkU x
def sp_is_value : USp := fun us M Q _ => ∃ x, us = [x] ∧ isD x = true ∧ Q (.bl (isValueU x)) M
theorem ok_is_value (L : Lw K mg) : UFn P w K mg base CX0 4 L.f_is_value L.fd_is_value ["value"] (sp_is_value) := by
  refine ufn_ok L.D_is_value.F sc_is_value (fun us M Q E h => ?_) (fun cdv A outer s H E hr hG =>
      (uss_one (us_ret (ue_or (ue_call (ok_is_integer L) (hr.mono (by decide)) hG rfl L.D_is_integer.g L.D_is_integer.F.kp L.D_is_integer.b .nil (fun _ => RelUs.nil) (ua_cons (uv 0) ua_nil)) (ue_or (ue_call (ok_is_name L) (hr.mono (by decide)) hG rfl L.D_is_name.g L.D_is_name.F.kp L.D_is_name.b .nil (fun _ => RelUs.nil) (ua_cons (uv 0) ua_nil)) (ue_one (ue_call (ok_is_link L) (hr.mono (by decide)) hG rfl L.D_is_link.g L.D_is_link.F.kp L.D_is_link.b .nil (fun _ => RelUs.nil) (ua_cons (uv 0) ua_nil)))))))) (fun us M Q E h => ?_)
  · obtain ⟨x, rfl, _⟩ := h
    rfl
  · obtain ⟨x, rfl, hx, q⟩ := h
    have q : ZQ Q (.bl (isValueU x)) M := .inl q
    unfold isValueU at q
    simp only [uIfS, uOr, uAnd, uNot, uCB, uCons, uNil, uC, uRet, uNext, uOp, uUn, uTup, uLst, uIf, uAsg, uName, uDrop, uCall, uBM, uBM0, uSl, uNoPart, uSub, ustart, uSeq, uRng2, List.append_nil, uYes, add_ii, add_ss, add_tt, add_lr_, add_rl_, sub_ii, mul_ii, mod_ii, div_ii, pow_ii, lt_ii, lt_ss, le_ii, gt_ii, ge_ii, neg_i, int_i, aug_ii, isNon_non, isNon_bl, isNon_int, isNon_str, isNon_tup, isNon_lst, isNon_ref, val_non, val_bl, val_int, val_str, val_tup, val_lst, refV_lst, val_ref, refL_lst, listU_lst, listU_ref, seqU_lst, seqU_tup, seqU_ref, lenU_str, lenU_tup, lenU_lst, lenU_ref, tyM_non, tyM_bl, tyM_int, tyM_str, tyM_tup, tyM_lst, refT_lst, tyM_ref, okN_str, okN_int, okN_bool, okN_tuple, okN_list, okN_dict, sub_NoneType_str, sub_NoneType_int, sub_NoneType_bool, sub_NoneType_tuple, sub_NoneType_list, sub_NoneType_dict, sub_bool_str, sub_bool_int, sub_bool_bool, sub_bool_tuple, sub_bool_list, sub_bool_dict, sub_int_str, sub_int_int, sub_int_bool, sub_int_tuple, sub_int_list, sub_int_dict, sub_str_str, sub_str_int, sub_str_bool, sub_str_tuple, sub_str_list, sub_str_dict, sub_tuple_str, sub_tuple_int, sub_tuple_bool, sub_tuple_tuple, sub_tuple_list, sub_tuple_dict, sub_list_str, sub_list_int, sub_list_bool, sub_list_tuple, sub_list_list, sub_list_dict, sub_dict_str, sub_dict_int, sub_dict_bool, sub_dict_tuple, sub_dict_list, sub_dict_dict, tru_non, tru_bl, tru_int, tru_str, tru_tup, tru_lst, eq_R, ne_R, isD_non, isD_bl, isD_int, isD_str, isD_tup, isD_lst, isDs_nil, isDs_cons, dep_non, dep_bl, dep_int, dep_str, dep_tup, dep_lst, deps_nil, deps_cons, ueq_ii, ueq_ss, ueq_bb, ueq_tt, ueq_ll, ueqs_nn, ueqs_cc, ueqs_cn, ueqs_nc, ix_s, ix_r, set_r, app_r, pop_r, ins_r, join_r, all_1, any_1, repr_1, newL_f, newL_t, sl_s, sl_t, sl_l, sl_r, in_t, in_l, in_r, tyMt_rl, tyMt_rd, tyMt_s, any_t, anyI_t, anyI_s, anyI_r, uVar_0, uVar_1, uVar_2, uVar_3, uVar_4, uVar_5, uVar_6, uVar_7, uVar_8, uVar_9, uVar_10, uVar_11, uVar_12, uVar_13, uVar_14, uVar_15, len_str, len_tup, len_lst, isi_non_str, isi_non_int, isi_non_bool, isi_non_tuple, isi_non_list, isi_non_dict, isi_non_tuple_list, isi_bl_str, isi_bl_int, isi_bl_bool, isi_bl_tuple, isi_bl_list, isi_bl_dict, isi_bl_tuple_list, isi_int_str, isi_int_int, isi_int_bool, isi_int_tuple, isi_int_list, isi_int_dict, isi_int_tuple_list, isi_str_str, isi_str_int, isi_str_bool, isi_str_tuple, isi_str_list, isi_str_dict, isi_str_tuple_list, isi_tup_str, isi_tup_int, isi_tup_bool, isi_tup_tuple, isi_tup_list, isi_tup_dict, isi_tup_tuple_list, isi_lst_str, isi_lst_int, isi_lst_bool, isi_lst_tuple, isi_lst_list, isi_lst_dict, isi_lst_tuple_list, uTru_K, uB_K, uPart_K, uRng_K, uOrV_K, uAndV_K, uNotV_K, uChain_K, uAug_K, truK_non, truK_bl, truK_int, truK_str, truK_tup, truK_lst, blK_bl, partK_int, rngK_int, tuple_t, tuple_l, len_ref, mul_rk, mul_rd, tuple_r, list_r, list_t, list_l, ix_tup_0, ix_lst_0, ix_tup_1, ix_lst_1, ix_tup_2, ix_lst_2, ix_tup_3, ix_lst_3, ix_tup_4, ix_lst_4, ixt_g, ixl_g, add_ll2, in_ss2, anyI_l2, isn_n, gTup_t, gCons_c, gNil_n, cle, clt, cge, cgt, ceq, cne, exists_eq_left', exists_eq_left, Option.some.injEq, U.int.injEq, U.bl.injEq, U.str.injEq, U.ref.injEq, U.tup.injEq, U.lst.injEq, U.ty.injEq, List.cons.injEq, and_true, true_and, and_self, List.map_cons, List.map_nil, List.length_cons, List.length_nil, List.cons_append, List.nil_append, List.append_nil, List.getElem?_cons_zero, List.getElem?_cons_succ, List.set_cons_zero, List.set_cons_succ, List.replicate, ↓reduceIte, Bool.false_eq_true, Bool.not_true, Bool.not_false, reduceCtorEq, Nat.reduceAdd, Nat.reduceSub, Nat.reduceLeDiff, Nat.reduceEqDiff, decide_true, decide_false, at0, at1, at2, at3, at4, ix0, ix1, ix2, ix3, ix4, updM_same, beq_self_eq_true, Option.bind, Option.map, wipeU, NT.put, puts, MO.lst.injEq, exists_and_left, decide_eq_true_eq, Bool.and_eq_true, Bool.or_eq_true, exists_eq', Nat.zero_le, true_or, or_true, sp_is_integer, sp_is_name, sp_is_link]
    refine ⟨hx, ?_⟩
    cases h1 : isIntU x with
    | true =>
      simp only [uIfS, uOr, uAnd, uNot, uCB, uCons, uNil, uC, uRet, uNext, uOp, uUn, uTup, uLst, uIf, uAsg, uName, uDrop, uCall, uBM, uBM0, uSl, uNoPart, uSub, ustart, uSeq, uRng2, List.append_nil, uYes, add_ii, add_ss, add_tt, add_lr_, add_rl_, sub_ii, mul_ii, mod_ii, div_ii, pow_ii, lt_ii, lt_ss, le_ii, gt_ii, ge_ii, neg_i, int_i, aug_ii, isNon_non, isNon_bl, isNon_int, isNon_str, isNon_tup, isNon_lst, isNon_ref, val_non, val_bl, val_int, val_str, val_tup, val_lst, refV_lst, val_ref, refL_lst, listU_lst, listU_ref, seqU_lst, seqU_tup, seqU_ref, lenU_str, lenU_tup, lenU_lst, lenU_ref, tyM_non, tyM_bl, tyM_int, tyM_str, tyM_tup, tyM_lst, refT_lst, tyM_ref, okN_str, okN_int, okN_bool, okN_tuple, okN_list, okN_dict, sub_NoneType_str, sub_NoneType_int, sub_NoneType_bool, sub_NoneType_tuple, sub_NoneType_list, sub_NoneType_dict, sub_bool_str, sub_bool_int, sub_bool_bool, sub_bool_tuple, sub_bool_list, sub_bool_dict, sub_int_str, sub_int_int, sub_int_bool, sub_int_tuple, sub_int_list, sub_int_dict, sub_str_str, sub_str_int, sub_str_bool, sub_str_tuple, sub_str_list, sub_str_dict, sub_tuple_str, sub_tuple_int, sub_tuple_bool, sub_tuple_tuple, sub_tuple_list, sub_tuple_dict, sub_list_str, sub_list_int, sub_list_bool, sub_list_tuple, sub_list_list, sub_list_dict, sub_dict_str, sub_dict_int, sub_dict_bool, sub_dict_tuple, sub_dict_list, sub_dict_dict, tru_non, tru_bl, tru_int, tru_str, tru_tup, tru_lst, eq_R, ne_R, isD_non, isD_bl, isD_int, isD_str, isD_tup, isD_lst, isDs_nil, isDs_cons, dep_non, dep_bl, dep_int, dep_str, dep_tup, dep_lst, deps_nil, deps_cons, ueq_ii, ueq_ss, ueq_bb, ueq_tt, ueq_ll, ueqs_nn, ueqs_cc, ueqs_cn, ueqs_nc, ix_s, ix_r, set_r, app_r, pop_r, ins_r, join_r, all_1, any_1, repr_1, newL_f, newL_t, sl_s, sl_t, sl_l, sl_r, in_t, in_l, in_r, tyMt_rl, tyMt_rd, tyMt_s, any_t, anyI_t, anyI_s, anyI_r, uVar_0, uVar_1, uVar_2, uVar_3, uVar_4, uVar_5, uVar_6, uVar_7, uVar_8, uVar_9, uVar_10, uVar_11, uVar_12, uVar_13, uVar_14, uVar_15, len_str, len_tup, len_lst, isi_non_str, isi_non_int, isi_non_bool, isi_non_tuple, isi_non_list, isi_non_dict, isi_non_tuple_list, isi_bl_str, isi_bl_int, isi_bl_bool, isi_bl_tuple, isi_bl_list, isi_bl_dict, isi_bl_tuple_list, isi_int_str, isi_int_int, isi_int_bool, isi_int_tuple, isi_int_list, isi_int_dict, isi_int_tuple_list, isi_str_str, isi_str_int, isi_str_bool, isi_str_tuple, isi_str_list, isi_str_dict, isi_str_tuple_list, isi_tup_str, isi_tup_int, isi_tup_bool, isi_tup_tuple, isi_tup_list, isi_tup_dict, isi_tup_tuple_list, isi_lst_str, isi_lst_int, isi_lst_bool, isi_lst_tuple, isi_lst_list, isi_lst_dict, isi_lst_tuple_list, uTru_K, uB_K, uPart_K, uRng_K, uOrV_K, uAndV_K, uNotV_K, uChain_K, uAug_K, truK_non, truK_bl, truK_int, truK_str, truK_tup, truK_lst, blK_bl, partK_int, rngK_int, tuple_t, tuple_l, len_ref, mul_rk, mul_rd, tuple_r, list_r, list_t, list_l, ix_tup_0, ix_lst_0, ix_tup_1, ix_lst_1, ix_tup_2, ix_lst_2, ix_tup_3, ix_lst_3, ix_tup_4, ix_lst_4, ixt_g, ixl_g, add_ll2, in_ss2, anyI_l2, isn_n, gTup_t, gCons_c, gNil_n, cle, clt, cge, cgt, ceq, cne, exists_eq_left', exists_eq_left, Option.some.injEq, U.int.injEq, U.bl.injEq, U.str.injEq, U.ref.injEq, U.tup.injEq, U.lst.injEq, U.ty.injEq, List.cons.injEq, and_true, true_and, and_self, List.map_cons, List.map_nil, List.length_cons, List.length_nil, List.cons_append, List.nil_append, List.append_nil, List.getElem?_cons_zero, List.getElem?_cons_succ, List.set_cons_zero, List.set_cons_succ, List.replicate, ↓reduceIte, Bool.false_eq_true, Bool.not_true, Bool.not_false, reduceCtorEq, Nat.reduceAdd, Nat.reduceSub, Nat.reduceLeDiff, Nat.reduceEqDiff, decide_true, decide_false, at0, at1, at2, at3, at4, ix0, ix1, ix2, ix3, ix4, updM_same, beq_self_eq_true, Option.bind, Option.map, wipeU, NT.put, puts, MO.lst.injEq, exists_and_left, decide_eq_true_eq, Bool.and_eq_true, Bool.or_eq_true, exists_eq', Nat.zero_le, true_or, or_true, h1, Bool.true_or] at q ⊢
      exact q
    | false =>
      simp only [uIfS, uOr, uAnd, uNot, uCB, uCons, uNil, uC, uRet, uNext, uOp, uUn, uTup, uLst, uIf, uAsg, uName, uDrop, uCall, uBM, uBM0, uSl, uNoPart, uSub, ustart, uSeq, uRng2, List.append_nil, uYes, add_ii, add_ss, add_tt, add_lr_, add_rl_, sub_ii, mul_ii, mod_ii, div_ii, pow_ii, lt_ii, lt_ss, le_ii, gt_ii, ge_ii, neg_i, int_i, aug_ii, isNon_non, isNon_bl, isNon_int, isNon_str, isNon_tup, isNon_lst, isNon_ref, val_non, val_bl, val_int, val_str, val_tup, val_lst, refV_lst, val_ref, refL_lst, listU_lst, listU_ref, seqU_lst, seqU_tup, seqU_ref, lenU_str, lenU_tup, lenU_lst, lenU_ref, tyM_non, tyM_bl, tyM_int, tyM_str, tyM_tup, tyM_lst, refT_lst, tyM_ref, okN_str, okN_int, okN_bool, okN_tuple, okN_list, okN_dict, sub_NoneType_str, sub_NoneType_int, sub_NoneType_bool, sub_NoneType_tuple, sub_NoneType_list, sub_NoneType_dict, sub_bool_str, sub_bool_int, sub_bool_bool, sub_bool_tuple, sub_bool_list, sub_bool_dict, sub_int_str, sub_int_int, sub_int_bool, sub_int_tuple, sub_int_list, sub_int_dict, sub_str_str, sub_str_int, sub_str_bool, sub_str_tuple, sub_str_list, sub_str_dict, sub_tuple_str, sub_tuple_int, sub_tuple_bool, sub_tuple_tuple, sub_tuple_list, sub_tuple_dict, sub_list_str, sub_list_int, sub_list_bool, sub_list_tuple, sub_list_list, sub_list_dict, sub_dict_str, sub_dict_int, sub_dict_bool, sub_dict_tuple, sub_dict_list, sub_dict_dict, tru_non, tru_bl, tru_int, tru_str, tru_tup, tru_lst, eq_R, ne_R, isD_non, isD_bl, isD_int, isD_str, isD_tup, isD_lst, isDs_nil, isDs_cons, dep_non, dep_bl, dep_int, dep_str, dep_tup, dep_lst, deps_nil, deps_cons, ueq_ii, ueq_ss, ueq_bb, ueq_tt, ueq_ll, ueqs_nn, ueqs_cc, ueqs_cn, ueqs_nc, ix_s, ix_r, set_r, app_r, pop_r, ins_r, join_r, all_1, any_1, repr_1, newL_f, newL_t, sl_s, sl_t, sl_l, sl_r, in_t, in_l, in_r, tyMt_rl, tyMt_rd, tyMt_s, any_t, anyI_t, anyI_s, anyI_r, uVar_0, uVar_1, uVar_2, uVar_3, uVar_4, uVar_5, uVar_6, uVar_7, uVar_8, uVar_9, uVar_10, uVar_11, uVar_12, uVar_13, uVar_14, uVar_15, len_str, len_tup, len_lst, isi_non_str, isi_non_int, isi_non_bool, isi_non_tuple, isi_non_list, isi_non_dict, isi_non_tuple_list, isi_bl_str, isi_bl_int, isi_bl_bool, isi_bl_tuple, isi_bl_list, isi_bl_dict, isi_bl_tuple_list, isi_int_str, isi_int_int, isi_int_bool, isi_int_tuple, isi_int_list, isi_int_dict, isi_int_tuple_list, isi_str_str, isi_str_int, isi_str_bool, isi_str_tuple, isi_str_list, isi_str_dict, isi_str_tuple_list, isi_tup_str, isi_tup_int, isi_tup_bool, isi_tup_tuple, isi_tup_list, isi_tup_dict, isi_tup_tuple_list, isi_lst_str, isi_lst_int, isi_lst_bool, isi_lst_tuple, isi_lst_list, isi_lst_dict, isi_lst_tuple_list, uTru_K, uB_K, uPart_K, uRng_K, uOrV_K, uAndV_K, uNotV_K, uChain_K, uAug_K, truK_non, truK_bl, truK_int, truK_str, truK_tup, truK_lst, blK_bl, partK_int, rngK_int, tuple_t, tuple_l, len_ref, mul_rk, mul_rd, tuple_r, list_r, list_t, list_l, ix_tup_0, ix_lst_0, ix_tup_1, ix_lst_1, ix_tup_2, ix_lst_2, ix_tup_3, ix_lst_3, ix_tup_4, ix_lst_4, ixt_g, ixl_g, add_ll2, in_ss2, anyI_l2, isn_n, gTup_t, gCons_c, gNil_n, cle, clt, cge, cgt, ceq, cne, exists_eq_left', exists_eq_left, Option.some.injEq, U.int.injEq, U.bl.injEq, U.str.injEq, U.ref.injEq, U.tup.injEq, U.lst.injEq, U.ty.injEq, List.cons.injEq, and_true, true_and, and_self, List.map_cons, List.map_nil, List.length_cons, List.length_nil, List.cons_append, List.nil_append, List.append_nil, List.getElem?_cons_zero, List.getElem?_cons_succ, List.set_cons_zero, List.set_cons_succ, List.replicate, ↓reduceIte, Bool.false_eq_true, Bool.not_true, Bool.not_false, reduceCtorEq, Nat.reduceAdd, Nat.reduceSub, Nat.reduceLeDiff, Nat.reduceEqDiff, decide_true, decide_false, at0, at1, at2, at3, at4, ix0, ix1, ix2, ix3, ix4, updM_same, beq_self_eq_true, Option.bind, Option.map, wipeU, NT.put, puts, MO.lst.injEq, exists_and_left, decide_eq_true_eq, Bool.and_eq_true, Bool.or_eq_true, exists_eq', Nat.zero_le, true_or, or_true, h1, Bool.false_or] at q ⊢
      refine ⟨hx, ?_⟩
      cases h2 : isNameU x with
      | true =>
        simp only [uIfS, uOr, uAnd, uNot, uCB, uCons, uNil, uC, uRet, uNext, uOp, uUn, uTup, uLst, uIf, uAsg, uName, uDrop, uCall, uBM, uBM0, uSl, uNoPart, uSub, ustart, uSeq, uRng2, List.append_nil, uYes, add_ii, add_ss, add_tt, add_lr_, add_rl_, sub_ii, mul_ii, mod_ii, div_ii, pow_ii, lt_ii, lt_ss, le_ii, gt_ii, ge_ii, neg_i, int_i, aug_ii, isNon_non, isNon_bl, isNon_int, isNon_str, isNon_tup, isNon_lst, isNon_ref, val_non, val_bl, val_int, val_str, val_tup, val_lst, refV_lst, val_ref, refL_lst, listU_lst, listU_ref, seqU_lst, seqU_tup, seqU_ref, lenU_str, lenU_tup, lenU_lst, lenU_ref, tyM_non, tyM_bl, tyM_int, tyM_str, tyM_tup, tyM_lst, refT_lst, tyM_ref, okN_str, okN_int, okN_bool, okN_tuple, okN_list, okN_dict, sub_NoneType_str, sub_NoneType_int, sub_NoneType_bool, sub_NoneType_tuple, sub_NoneType_list, sub_NoneType_dict, sub_bool_str, sub_bool_int, sub_bool_bool, sub_bool_tuple, sub_bool_list, sub_bool_dict, sub_int_str, sub_int_int, sub_int_bool, sub_int_tuple, sub_int_list, sub_int_dict, sub_str_str, sub_str_int, sub_str_bool, sub_str_tuple, sub_str_list, sub_str_dict, sub_tuple_str, sub_tuple_int, sub_tuple_bool, sub_tuple_tuple, sub_tuple_list, sub_tuple_dict, sub_list_str, sub_list_int, sub_list_bool, sub_list_tuple, sub_list_list, sub_list_dict, sub_dict_str, sub_dict_int, sub_dict_bool, sub_dict_tuple, sub_dict_list, sub_dict_dict, tru_non, tru_bl, tru_int, tru_str, tru_tup, tru_lst, eq_R, ne_R, isD_non, isD_bl, isD_int, isD_str, isD_tup, isD_lst, isDs_nil, isDs_cons, dep_non, dep_bl, dep_int, dep_str, dep_tup, dep_lst, deps_nil, deps_cons, ueq_ii, ueq_ss, ueq_bb, ueq_tt, ueq_ll, ueqs_nn, ueqs_cc, ueqs_cn, ueqs_nc, ix_s, ix_r, set_r, app_r, pop_r, ins_r, join_r, all_1, any_1, repr_1, newL_f, newL_t, sl_s, sl_t, sl_l, sl_r, in_t, in_l, in_r, tyMt_rl, tyMt_rd, tyMt_s, any_t, anyI_t, anyI_s, anyI_r, uVar_0, uVar_1, uVar_2, uVar_3, uVar_4, uVar_5, uVar_6, uVar_7, uVar_8, uVar_9, uVar_10, uVar_11, uVar_12, uVar_13, uVar_14, uVar_15, len_str, len_tup, len_lst, isi_non_str, isi_non_int, isi_non_bool, isi_non_tuple, isi_non_list, isi_non_dict, isi_non_tuple_list, isi_bl_str, isi_bl_int, isi_bl_bool, isi_bl_tuple, isi_bl_list, isi_bl_dict, isi_bl_tuple_list, isi_int_str, isi_int_int, isi_int_bool, isi_int_tuple, isi_int_list, isi_int_dict, isi_int_tuple_list, isi_str_str, isi_str_int, isi_str_bool, isi_str_tuple, isi_str_list, isi_str_dict, isi_str_tuple_list, isi_tup_str, isi_tup_int, isi_tup_bool, isi_tup_tuple, isi_tup_list, isi_tup_dict, isi_tup_tuple_list, isi_lst_str, isi_lst_int, isi_lst_bool, isi_lst_tuple, isi_lst_list, isi_lst_dict, isi_lst_tuple_list, uTru_K, uB_K, uPart_K, uRng_K, uOrV_K, uAndV_K, uNotV_K, uChain_K, uAug_K, truK_non, truK_bl, truK_int, truK_str, truK_tup, truK_lst, blK_bl, partK_int, rngK_int, tuple_t, tuple_l, len_ref, mul_rk, mul_rd, tuple_r, list_r, list_t, list_l, ix_tup_0, ix_lst_0, ix_tup_1, ix_lst_1, ix_tup_2, ix_lst_2, ix_tup_3, ix_lst_3, ix_tup_4, ix_lst_4, ixt_g, ixl_g, add_ll2, in_ss2, anyI_l2, isn_n, gTup_t, gCons_c, gNil_n, cle, clt, cge, cgt, ceq, cne, exists_eq_left', exists_eq_left, Option.some.injEq, U.int.injEq, U.bl.injEq, U.str.injEq, U.ref.injEq, U.tup.injEq, U.lst.injEq, U.ty.injEq, List.cons.injEq, and_true, true_and, and_self, List.map_cons, List.map_nil, List.length_cons, List.length_nil, List.cons_append, List.nil_append, List.append_nil, List.getElem?_cons_zero, List.getElem?_cons_succ, List.set_cons_zero, List.set_cons_succ, List.replicate, ↓reduceIte, Bool.false_eq_true, Bool.not_true, Bool.not_false, reduceCtorEq, Nat.reduceAdd, Nat.reduceSub, Nat.reduceLeDiff, Nat.reduceEqDiff, decide_true, decide_false, at0, at1, at2, at3, at4, ix0, ix1, ix2, ix3, ix4, updM_same, beq_self_eq_true, Option.bind, Option.map, wipeU, NT.put, puts, MO.lst.injEq, exists_and_left, decide_eq_true_eq, Bool.and_eq_true, Bool.or_eq_true, exists_eq', Nat.zero_le, true_or, or_true, h2, Bool.true_or] at q ⊢
        exact q
      | false =>
        simp only [uIfS, uOr, uAnd, uNot, uCB, uCons, uNil, uC, uRet, uNext, uOp, uUn, uTup, uLst, uIf, uAsg, uName, uDrop, uCall, uBM, uBM0, uSl, uNoPart, uSub, ustart, uSeq, uRng2, List.append_nil, uYes, add_ii, add_ss, add_tt, add_lr_, add_rl_, sub_ii, mul_ii, mod_ii, div_ii, pow_ii, lt_ii, lt_ss, le_ii, gt_ii, ge_ii, neg_i, int_i, aug_ii, isNon_non, isNon_bl, isNon_int, isNon_str, isNon_tup, isNon_lst, isNon_ref, val_non, val_bl, val_int, val_str, val_tup, val_lst, refV_lst, val_ref, refL_lst, listU_lst, listU_ref, seqU_lst, seqU_tup, seqU_ref, lenU_str, lenU_tup, lenU_lst, lenU_ref, tyM_non, tyM_bl, tyM_int, tyM_str, tyM_tup, tyM_lst, refT_lst, tyM_ref, okN_str, okN_int, okN_bool, okN_tuple, okN_list, okN_dict, sub_NoneType_str, sub_NoneType_int, sub_NoneType_bool, sub_NoneType_tuple, sub_NoneType_list, sub_NoneType_dict, sub_bool_str, sub_bool_int, sub_bool_bool, sub_bool_tuple, sub_bool_list, sub_bool_dict, sub_int_str, sub_int_int, sub_int_bool, sub_int_tuple, sub_int_list, sub_int_dict, sub_str_str, sub_str_int, sub_str_bool, sub_str_tuple, sub_str_list, sub_str_dict, sub_tuple_str, sub_tuple_int, sub_tuple_bool, sub_tuple_tuple, sub_tuple_list, sub_tuple_dict, sub_list_str, sub_list_int, sub_list_bool, sub_list_tuple, sub_list_list, sub_list_dict, sub_dict_str, sub_dict_int, sub_dict_bool, sub_dict_tuple, sub_dict_list, sub_dict_dict, tru_non, tru_bl, tru_int, tru_str, tru_tup, tru_lst, eq_R, ne_R, isD_non, isD_bl, isD_int, isD_str, isD_tup, isD_lst, isDs_nil, isDs_cons, dep_non, dep_bl, dep_int, dep_str, dep_tup, dep_lst, deps_nil, deps_cons, ueq_ii, ueq_ss, ueq_bb, ueq_tt, ueq_ll, ueqs_nn, ueqs_cc, ueqs_cn, ueqs_nc, ix_s, ix_r, set_r, app_r, pop_r, ins_r, join_r, all_1, any_1, repr_1, newL_f, newL_t, sl_s, sl_t, sl_l, sl_r, in_t, in_l, in_r, tyMt_rl, tyMt_rd, tyMt_s, any_t, anyI_t, anyI_s, anyI_r, uVar_0, uVar_1, uVar_2, uVar_3, uVar_4, uVar_5, uVar_6, uVar_7, uVar_8, uVar_9, uVar_10, uVar_11, uVar_12, uVar_13, uVar_14, uVar_15, len_str, len_tup, len_lst, isi_non_str, isi_non_int, isi_non_bool, isi_non_tuple, isi_non_list, isi_non_dict, isi_non_tuple_list, isi_bl_str, isi_bl_int, isi_bl_bool, isi_bl_tuple, isi_bl_list, isi_bl_dict, isi_bl_tuple_list, isi_int_str, isi_int_int, isi_int_bool, isi_int_tuple, isi_int_list, isi_int_dict, isi_int_tuple_list, isi_str_str, isi_str_int, isi_str_bool, isi_str_tuple, isi_str_list, isi_str_dict, isi_str_tuple_list, isi_tup_str, isi_tup_int, isi_tup_bool, isi_tup_tuple, isi_tup_list, isi_tup_dict, isi_tup_tuple_list, isi_lst_str, isi_lst_int, isi_lst_bool, isi_lst_tuple, isi_lst_list, isi_lst_dict, isi_lst_tuple_list, uTru_K, uB_K, uPart_K, uRng_K, uOrV_K, uAndV_K, uNotV_K, uChain_K, uAug_K, truK_non, truK_bl, truK_int, truK_str, truK_tup, truK_lst, blK_bl, partK_int, rngK_int, tuple_t, tuple_l, len_ref, mul_rk, mul_rd, tuple_r, list_r, list_t, list_l, ix_tup_0, ix_lst_0, ix_tup_1, ix_lst_1, ix_tup_2, ix_lst_2, ix_tup_3, ix_lst_3, ix_tup_4, ix_lst_4, ixt_g, ixl_g, add_ll2, in_ss2, anyI_l2, isn_n, gTup_t, gCons_c, gNil_n, cle, clt, cge, cgt, ceq, cne, exists_eq_left', exists_eq_left, Option.some.injEq, U.int.injEq, U.bl.injEq, U.str.injEq, U.ref.injEq, U.tup.injEq, U.lst.injEq, U.ty.injEq, List.cons.injEq, and_true, true_and, and_self, List.map_cons, List.map_nil, List.length_cons, List.length_nil, List.cons_append, List.nil_append, List.append_nil, List.getElem?_cons_zero, List.getElem?_cons_succ, List.set_cons_zero, List.set_cons_succ, List.replicate, ↓reduceIte, Bool.false_eq_true, Bool.not_true, Bool.not_false, reduceCtorEq, Nat.reduceAdd, Nat.reduceSub, Nat.reduceLeDiff, Nat.reduceEqDiff, decide_true, decide_false, at0, at1, at2, at3, at4, ix0, ix1, ix2, ix3, ix4, updM_same, beq_self_eq_true, Option.bind, Option.map, wipeU, NT.put, puts, MO.lst.injEq, exists_and_left, decide_eq_true_eq, Bool.and_eq_true, Bool.or_eq_true, exists_eq', Nat.zero_le, true_or, or_true, h2, Bool.false_or] at q ⊢
        exact ⟨hx, q⟩

/-! ### _law_draw -/
def sp__law_draw : USp := fun us M Q _ => ∃ s c n many, us = [.ref s, .int many] ∧ 0 < many ∧ many < 536870912 ∧ Strm M s c (n + 1) ∧ ∀ r M', 0 ≤ r → r < many → Strm M' s c n → But s c M M' → Q (.int r) M'
theorem draw_use {M : UHp} {Q : UK} {E : UXK} {s c : Addr} {n : Nat} {many : Int} (hS : Strm M s c (n + 1)) (h0 : 0 < many) (h1 : many < 536870912) (h : ∀ r M', 0 ≤ r → r < many → Strm M' s c n → But s c M M' → Q (.int r) M') :
    sp__law_draw [.ref s, .int many] M Q E := ⟨s, c, n, many, rfl, h0, h1, hS, h⟩
theorem ok__law_draw (L : Lw K mg) : UFn P w K mg base CX0 1 L.f__law_draw L.fd__law_draw ["_law_stream", "_law_many"] (sp__law_draw) := by
  refine ufn_ok L.D__law_draw.F sc__law_draw (fun us M Q E h => ?_) (fun cdv A outer s H E hr hG =>
      (uss_cons (us_asg (ue_op (uo_add false) (ue_ix (uv 0) ue_int) ue_int) (ug_sub ui_set (uv 0) ue_int))
      (uss_cons (us_if (PW.pt (uw_and (ut_cmp (uo_eq (hu6 hr)) (ue_ix (uv 0) ue_int) ue_int (nomark _)) (uw_and1 (ut_cmp (uo_ne (hu6 hr)) (ue_ix (uv 0) ue_int) (ue_lst false ua_nil) (nomark _))))) (uss_cons (us_asg (ue_bm PySem.F.plainAttrs_list PySem.F.slot_list_pop PySem.F.type_list_pop um_popAt (ue_ix (uv 0) ue_int) (ua_cons ue_int ua_nil)) (ug_sub ui_set (uv 0) ue_int))
      (uss_one (us_if (ut_cmp uo_lt (ue_ix (uv 0) ue_int) (ue_op uo_pow ue_int ue_int) (nomark _)) (uss_cons (us_asg (ue_op uo_mod (ue_callTy uc_int (by rfl) L.n_int bt_int (ua_cons (ue_op (uo_add false) (ue_op (uo_add false) (ue_op (uo_mul false false) (ue_ix (uv 0) ue_int) ue_int) (ue_ix (uv 0) ue_int)) ue_int) ua_nil)) ue_int) (ug_sub ui_set (uv 0) ue_int))
      (uss_one (us_asg ue_int (ug_sub ui_set (uv 0) ue_int)))) uss_nil))) uss_nil)
      (uss_cons (us_if (ut_cmp uo_gt (ue_ix (uv 0) ue_int) ue_int (nomark _)) (uss_cons (us_set (i := 3) sc__law_draw.nd rfl (.inl rfl) (ue_op uo_mod (ue_callTy uc_int (by rfl) L.n_int bt_int (ua_cons (ue_ix (uv 0) ue_int) ua_nil)) (uv 1)))
      (uss_cons (us_asg (ue_op uo_div (ue_ix (uv 0) ue_int) (uv 1)) (ug_sub ui_set (uv 0) ue_int))
      (uss_one (us_ret (uv 3))))) uss_nil)
      (uss_cons (us_set (i := 2) sc__law_draw.nd rfl (.inl rfl) (ue_op uo_mod (ue_op uo_pow (ue_op (uo_add false) (ue_op (uo_add false) (ue_ix (uv 0) ue_int) (ue_op (uo_mul false false) ue_int (ue_ix (uv 0) ue_int))) ue_int) ue_int) ue_int))
      (uss_one (us_ret (ue_op uo_mod (ue_op uo_mod (ue_op uo_pow (ue_op (uo_add false) (ue_op (uo_add false) (ue_op (uo_mul false false) (uv 2) ue_int) (ue_op (uo_mul false false) (ue_op (uo_mul false false) ue_int (ue_ix (uv 0) ue_int)) (ue_ix (uv 0) ue_int))) ue_int) ue_int) ue_int) (uv 1))))))))) (fun us M Q E h => ?_)
  · obtain ⟨s, c, n, many, rfl, _⟩ := h
    rfl
  · obtain ⟨s, c, n, many, rfl, hm0, hm1, ⟨hsc, ks, a, b, d, e1, e2, ha, hb, hd0, hd1, hk⟩, q⟩ := h
    have q : ∀ r M', 0 ≤ r → r < many → Strm M' s c n → But s c M M' → ZQ Q (.int r) M' := fun r M' h0 h1 h2 h3 => .inl (q r M' h0 h1 h2 h3)
    have hcs := Ne.symm hsc
    by_cases h0 : a = 0
    · subst h0
      cases ks with
      | nil =>
        simp only [uIfS, uOr, uAnd, uNot, uCB, uCons, uNil, uC, uRet, uNext, uOp, uUn, uTup, uLst, uIf, uAsg, uName, uDrop, uCall, uBM, uBM0, uSl, uNoPart, uSub, ustart, uSeq, uRng2, List.append_nil, uYes, add_ii, add_ss, add_tt, add_lr_, add_rl_, sub_ii, mul_ii, mod_ii, div_ii, pow_ii, lt_ii, lt_ss, le_ii, gt_ii, ge_ii, neg_i, int_i, aug_ii, isNon_non, isNon_bl, isNon_int, isNon_str, isNon_tup, isNon_lst, isNon_ref, val_non, val_bl, val_int, val_str, val_tup, val_lst, refV_lst, val_ref, refL_lst, listU_lst, listU_ref, seqU_lst, seqU_tup, seqU_ref, lenU_str, lenU_tup, lenU_lst, lenU_ref, tyM_non, tyM_bl, tyM_int, tyM_str, tyM_tup, tyM_lst, refT_lst, tyM_ref, okN_str, okN_int, okN_bool, okN_tuple, okN_list, okN_dict, sub_NoneType_str, sub_NoneType_int, sub_NoneType_bool, sub_NoneType_tuple, sub_NoneType_list, sub_NoneType_dict, sub_bool_str, sub_bool_int, sub_bool_bool, sub_bool_tuple, sub_bool_list, sub_bool_dict, sub_int_str, sub_int_int, sub_int_bool, sub_int_tuple, sub_int_list, sub_int_dict, sub_str_str, sub_str_int, sub_str_bool, sub_str_tuple, sub_str_list, sub_str_dict, sub_tuple_str, sub_tuple_int, sub_tuple_bool, sub_tuple_tuple, sub_tuple_list, sub_tuple_dict, sub_list_str, sub_list_int, sub_list_bool, sub_list_tuple, sub_list_list, sub_list_dict, sub_dict_str, sub_dict_int, sub_dict_bool, sub_dict_tuple, sub_dict_list, sub_dict_dict, tru_non, tru_bl, tru_int, tru_str, tru_tup, tru_lst, eq_R, ne_R, isD_non, isD_bl, isD_int, isD_str, isD_tup, isD_lst, isDs_nil, isDs_cons, dep_non, dep_bl, dep_int, dep_str, dep_tup, dep_lst, deps_nil, deps_cons, ueq_ii, ueq_ss, ueq_bb, ueq_tt, ueq_ll, ueqs_nn, ueqs_cc, ueqs_cn, ueqs_nc, ix_s, ix_r, set_r, app_r, pop_r, ins_r, join_r, all_1, any_1, repr_1, newL_f, newL_t, sl_s, sl_t, sl_l, sl_r, in_t, in_l, in_r, tyMt_rl, tyMt_rd, tyMt_s, any_t, anyI_t, anyI_s, anyI_r, uVar_0, uVar_1, uVar_2, uVar_3, uVar_4, uVar_5, uVar_6, uVar_7, uVar_8, uVar_9, uVar_10, uVar_11, uVar_12, uVar_13, uVar_14, uVar_15, len_str, len_tup, len_lst, isi_non_str, isi_non_int, isi_non_bool, isi_non_tuple, isi_non_list, isi_non_dict, isi_non_tuple_list, isi_bl_str, isi_bl_int, isi_bl_bool, isi_bl_tuple, isi_bl_list, isi_bl_dict, isi_bl_tuple_list, isi_int_str, isi_int_int, isi_int_bool, isi_int_tuple, isi_int_list, isi_int_dict, isi_int_tuple_list, isi_str_str, isi_str_int, isi_str_bool, isi_str_tuple, isi_str_list, isi_str_dict, isi_str_tuple_list, isi_tup_str, isi_tup_int, isi_tup_bool, isi_tup_tuple, isi_tup_list, isi_tup_dict, isi_tup_tuple_list, isi_lst_str, isi_lst_int, isi_lst_bool, isi_lst_tuple, isi_lst_list, isi_lst_dict, isi_lst_tuple_list, uTru_K, uB_K, uPart_K, uRng_K, uOrV_K, uAndV_K, uNotV_K, uChain_K, uAug_K, truK_non, truK_bl, truK_int, truK_str, truK_tup, truK_lst, blK_bl, partK_int, rngK_int, tuple_t, tuple_l, len_ref, mul_rk, mul_rd, tuple_r, list_r, list_t, list_l, ix_tup_0, ix_lst_0, ix_tup_1, ix_lst_1, ix_tup_2, ix_lst_2, ix_tup_3, ix_lst_3, ix_tup_4, ix_lst_4, ixt_g, ixl_g, add_ll2, in_ss2, anyI_l2, isn_n, gTup_t, gCons_c, gNil_n, cle, clt, cge, cgt, ceq, cne, exists_eq_left', exists_eq_left, Option.some.injEq, U.int.injEq, U.bl.injEq, U.str.injEq, U.ref.injEq, U.tup.injEq, U.lst.injEq, U.ty.injEq, List.cons.injEq, and_true, true_and, and_self, List.map_cons, List.map_nil, List.length_cons, List.length_nil, List.cons_append, List.nil_append, List.append_nil, List.getElem?_cons_zero, List.getElem?_cons_succ, List.set_cons_zero, List.set_cons_succ, List.replicate, ↓reduceIte, Bool.false_eq_true, Bool.not_true, Bool.not_false, reduceCtorEq, Nat.reduceAdd, Nat.reduceSub, Nat.reduceLeDiff, Nat.reduceEqDiff, decide_true, decide_false, at0, at1, at2, at3, at4, ix0, ix1, ix2, ix3, ix4, updM_same, beq_self_eq_true, Option.bind, Option.map, wipeU, NT.put, puts, MO.lst.injEq, exists_and_left, decide_eq_true_eq, Bool.and_eq_true, Bool.or_eq_true, exists_eq', Nat.zero_le, true_or, or_true, e1, e2, updM_ne hcs, updM_ne hsc]
        rw [if_neg (Int.lt_irrefl 0)]
        refine mix_ok (G := fun r => ZQ Q (.int r) _) hd0 hd1 (by omega) hm0 fun r h0 h1 => q r _ h0 h1 (strm_mk hsc updM_same (by rw [updM_ne hcs, e2]) (by decide) hb hd0 hd1 hk) (But.eq fun x h1 h2 => updM_ne h1)
      | cons k ks =>
        have hk' : ks.length ≤ 63 := by simp at hk; omega
        simp only [uIfS, uOr, uAnd, uNot, uCB, uCons, uNil, uC, uRet, uNext, uOp, uUn, uTup, uLst, uIf, uAsg, uName, uDrop, uCall, uBM, uBM0, uSl, uNoPart, uSub, ustart, uSeq, uRng2, List.append_nil, uYes, add_ii, add_ss, add_tt, add_lr_, add_rl_, sub_ii, mul_ii, mod_ii, div_ii, pow_ii, lt_ii, lt_ss, le_ii, gt_ii, ge_ii, neg_i, int_i, aug_ii, isNon_non, isNon_bl, isNon_int, isNon_str, isNon_tup, isNon_lst, isNon_ref, val_non, val_bl, val_int, val_str, val_tup, val_lst, refV_lst, val_ref, refL_lst, listU_lst, listU_ref, seqU_lst, seqU_tup, seqU_ref, lenU_str, lenU_tup, lenU_lst, lenU_ref, tyM_non, tyM_bl, tyM_int, tyM_str, tyM_tup, tyM_lst, refT_lst, tyM_ref, okN_str, okN_int, okN_bool, okN_tuple, okN_list, okN_dict, sub_NoneType_str, sub_NoneType_int, sub_NoneType_bool, sub_NoneType_tuple, sub_NoneType_list, sub_NoneType_dict, sub_bool_str, sub_bool_int, sub_bool_bool, sub_bool_tuple, sub_bool_list, sub_bool_dict, sub_int_str, sub_int_int, sub_int_bool, sub_int_tuple, sub_int_list, sub_int_dict, sub_str_str, sub_str_int, sub_str_bool, sub_str_tuple, sub_str_list, sub_str_dict, sub_tuple_str, sub_tuple_int, sub_tuple_bool, sub_tuple_tuple, sub_tuple_list, sub_tuple_dict, sub_list_str, sub_list_int, sub_list_bool, sub_list_tuple, sub_list_list, sub_list_dict, sub_dict_str, sub_dict_int, sub_dict_bool, sub_dict_tuple, sub_dict_list, sub_dict_dict, tru_non, tru_bl, tru_int, tru_str, tru_tup, tru_lst, eq_R, ne_R, isD_non, isD_bl, isD_int, isD_str, isD_tup, isD_lst, isDs_nil, isDs_cons, dep_non, dep_bl, dep_int, dep_str, dep_tup, dep_lst, deps_nil, deps_cons, ueq_ii, ueq_ss, ueq_bb, ueq_tt, ueq_ll, ueqs_nn, ueqs_cc, ueqs_cn, ueqs_nc, ix_s, ix_r, set_r, app_r, pop_r, ins_r, join_r, all_1, any_1, repr_1, newL_f, newL_t, sl_s, sl_t, sl_l, sl_r, in_t, in_l, in_r, tyMt_rl, tyMt_rd, tyMt_s, any_t, anyI_t, anyI_s, anyI_r, uVar_0, uVar_1, uVar_2, uVar_3, uVar_4, uVar_5, uVar_6, uVar_7, uVar_8, uVar_9, uVar_10, uVar_11, uVar_12, uVar_13, uVar_14, uVar_15, len_str, len_tup, len_lst, isi_non_str, isi_non_int, isi_non_bool, isi_non_tuple, isi_non_list, isi_non_dict, isi_non_tuple_list, isi_bl_str, isi_bl_int, isi_bl_bool, isi_bl_tuple, isi_bl_list, isi_bl_dict, isi_bl_tuple_list, isi_int_str, isi_int_int, isi_int_bool, isi_int_tuple, isi_int_list, isi_int_dict, isi_int_tuple_list, isi_str_str, isi_str_int, isi_str_bool, isi_str_tuple, isi_str_list, isi_str_dict, isi_str_tuple_list, isi_tup_str, isi_tup_int, isi_tup_bool, isi_tup_tuple, isi_tup_list, isi_tup_dict, isi_tup_tuple_list, isi_lst_str, isi_lst_int, isi_lst_bool, isi_lst_tuple, isi_lst_list, isi_lst_dict, isi_lst_tuple_list, uTru_K, uB_K, uPart_K, uRng_K, uOrV_K, uAndV_K, uNotV_K, uChain_K, uAug_K, truK_non, truK_bl, truK_int, truK_str, truK_tup, truK_lst, blK_bl, partK_int, rngK_int, tuple_t, tuple_l, len_ref, mul_rk, mul_rd, tuple_r, list_r, list_t, list_l, ix_tup_0, ix_lst_0, ix_tup_1, ix_lst_1, ix_tup_2, ix_lst_2, ix_tup_3, ix_lst_3, ix_tup_4, ix_lst_4, ixt_g, ixl_g, add_ll2, in_ss2, anyI_l2, isn_n, gTup_t, gCons_c, gNil_n, cle, clt, cge, cgt, ceq, cne, exists_eq_left', exists_eq_left, Option.some.injEq, U.int.injEq, U.bl.injEq, U.str.injEq, U.ref.injEq, U.tup.injEq, U.lst.injEq, U.ty.injEq, List.cons.injEq, and_true, true_and, and_self, List.map_cons, List.map_nil, List.length_cons, List.length_nil, List.cons_append, List.nil_append, List.append_nil, List.getElem?_cons_zero, List.getElem?_cons_succ, List.set_cons_zero, List.set_cons_succ, List.replicate, ↓reduceIte, Bool.false_eq_true, Bool.not_true, Bool.not_false, reduceCtorEq, Nat.reduceAdd, Nat.reduceSub, Nat.reduceLeDiff, Nat.reduceEqDiff, decide_true, decide_false, at0, at1, at2, at3, at4, ix0, ix1, ix2, ix3, ix4, updM_same, beq_self_eq_true, Option.bind, Option.map, wipeU, NT.put, puts, MO.lst.injEq, exists_and_left, decide_eq_true_eq, Bool.and_eq_true, Bool.or_eq_true, exists_eq', Nat.zero_le, true_or, or_true, e1, e2, updM_ne hcs, updM_ne hsc, isDs_ints, List.eraseIdx, updM_updM]
        refine ⟨by decide, ⟨by decide, by decide, by decide⟩, ?_⟩
        have hd2 := Int.emod_nonneg (d * 31 + k + 7) (show (2147483647 : Int) ≠ 0 by decide)
        have hd3 := Int.emod_lt_of_pos (d * 31 + k + 7) (show (0 : Int) < 2147483647 by decide)
        split
        · refine ⟨.inl ⟨by omega, by omega⟩, by decide, ?_⟩
          rw [if_neg (Int.lt_irrefl 0)]
          refine mix_ok (G := fun r => ZQ Q (.int r) _) hd2 hd3 (by omega) hm0 fun r h0 h1 => q r _ h0 h1 (strm_mk (ks := ks) hsc updM_same (by rw [updM_ne hcs, updM_same]) (by decide) hb hd2 hd3 hk') (But.eq fun x h1 h2 => ?_)
          rw [updM_ne h1, updM_ne h2, updM_ne h1]
        · rename_i h10
          have h11 : ¬ k < 1000000000000000000 := h10
          rw [if_pos (by omega)]
          refine ⟨hm0, ⟨hm0, by omega⟩, ?_⟩
          refine q _ _ (Int.emod_nonneg _ (by omega)) (Int.emod_lt_of_pos _ hm0) (strm_mk (ks := ks) hsc updM_same (by rw [updM_ne hcs, updM_same]) (Int.ediv_nonneg (by omega) (by omega)) hb hd0 hd1 hk') (But.eq fun x h1 h2 => ?_)
          rw [updM_ne h1, updM_ne h2, updM_ne h1]
    · simp only [uIfS, uOr, uAnd, uNot, uCB, uCons, uNil, uC, uRet, uNext, uOp, uUn, uTup, uLst, uIf, uAsg, uName, uDrop, uCall, uBM, uBM0, uSl, uNoPart, uSub, ustart, uSeq, uRng2, List.append_nil, uYes, add_ii, add_ss, add_tt, add_lr_, add_rl_, sub_ii, mul_ii, mod_ii, div_ii, pow_ii, lt_ii, lt_ss, le_ii, gt_ii, ge_ii, neg_i, int_i, aug_ii, isNon_non, isNon_bl, isNon_int, isNon_str, isNon_tup, isNon_lst, isNon_ref, val_non, val_bl, val_int, val_str, val_tup, val_lst, refV_lst, val_ref, refL_lst, listU_lst, listU_ref, seqU_lst, seqU_tup, seqU_ref, lenU_str, lenU_tup, lenU_lst, lenU_ref, tyM_non, tyM_bl, tyM_int, tyM_str, tyM_tup, tyM_lst, refT_lst, tyM_ref, okN_str, okN_int, okN_bool, okN_tuple, okN_list, okN_dict, sub_NoneType_str, sub_NoneType_int, sub_NoneType_bool, sub_NoneType_tuple, sub_NoneType_list, sub_NoneType_dict, sub_bool_str, sub_bool_int, sub_bool_bool, sub_bool_tuple, sub_bool_list, sub_bool_dict, sub_int_str, sub_int_int, sub_int_bool, sub_int_tuple, sub_int_list, sub_int_dict, sub_str_str, sub_str_int, sub_str_bool, sub_str_tuple, sub_str_list, sub_str_dict, sub_tuple_str, sub_tuple_int, sub_tuple_bool, sub_tuple_tuple, sub_tuple_list, sub_tuple_dict, sub_list_str, sub_list_int, sub_list_bool, sub_list_tuple, sub_list_list, sub_list_dict, sub_dict_str, sub_dict_int, sub_dict_bool, sub_dict_tuple, sub_dict_list, sub_dict_dict, tru_non, tru_bl, tru_int, tru_str, tru_tup, tru_lst, eq_R, ne_R, isD_non, isD_bl, isD_int, isD_str, isD_tup, isD_lst, isDs_nil, isDs_cons, dep_non, dep_bl, dep_int, dep_str, dep_tup, dep_lst, deps_nil, deps_cons, ueq_ii, ueq_ss, ueq_bb, ueq_tt, ueq_ll, ueqs_nn, ueqs_cc, ueqs_cn, ueqs_nc, ix_s, ix_r, set_r, app_r, pop_r, ins_r, join_r, all_1, any_1, repr_1, newL_f, newL_t, sl_s, sl_t, sl_l, sl_r, in_t, in_l, in_r, tyMt_rl, tyMt_rd, tyMt_s, any_t, anyI_t, anyI_s, anyI_r, uVar_0, uVar_1, uVar_2, uVar_3, uVar_4, uVar_5, uVar_6, uVar_7, uVar_8, uVar_9, uVar_10, uVar_11, uVar_12, uVar_13, uVar_14, uVar_15, len_str, len_tup, len_lst, isi_non_str, isi_non_int, isi_non_bool, isi_non_tuple, isi_non_list, isi_non_dict, isi_non_tuple_list, isi_bl_str, isi_bl_int, isi_bl_bool, isi_bl_tuple, isi_bl_list, isi_bl_dict, isi_bl_tuple_list, isi_int_str, isi_int_int, isi_int_bool, isi_int_tuple, isi_int_list, isi_int_dict, isi_int_tuple_list, isi_str_str, isi_str_int, isi_str_bool, isi_str_tuple, isi_str_list, isi_str_dict, isi_str_tuple_list, isi_tup_str, isi_tup_int, isi_tup_bool, isi_tup_tuple, isi_tup_list, isi_tup_dict, isi_tup_tuple_list, isi_lst_str, isi_lst_int, isi_lst_bool, isi_lst_tuple, isi_lst_list, isi_lst_dict, isi_lst_tuple_list, uTru_K, uB_K, uPart_K, uRng_K, uOrV_K, uAndV_K, uNotV_K, uChain_K, uAug_K, truK_non, truK_bl, truK_int, truK_str, truK_tup, truK_lst, blK_bl, partK_int, rngK_int, tuple_t, tuple_l, len_ref, mul_rk, mul_rd, tuple_r, list_r, list_t, list_l, ix_tup_0, ix_lst_0, ix_tup_1, ix_lst_1, ix_tup_2, ix_lst_2, ix_tup_3, ix_lst_3, ix_tup_4, ix_lst_4, ixt_g, ixl_g, add_ll2, in_ss2, anyI_l2, isn_n, gTup_t, gCons_c, gNil_n, cle, clt, cge, cgt, ceq, cne, exists_eq_left', exists_eq_left, Option.some.injEq, U.int.injEq, U.bl.injEq, U.str.injEq, U.ref.injEq, U.tup.injEq, U.lst.injEq, U.ty.injEq, List.cons.injEq, and_true, true_and, and_self, List.map_cons, List.map_nil, List.length_cons, List.length_nil, List.cons_append, List.nil_append, List.append_nil, List.getElem?_cons_zero, List.getElem?_cons_succ, List.set_cons_zero, List.set_cons_succ, List.replicate, ↓reduceIte, Bool.false_eq_true, Bool.not_true, Bool.not_false, reduceCtorEq, Nat.reduceAdd, Nat.reduceSub, Nat.reduceLeDiff, Nat.reduceEqDiff, decide_true, decide_false, at0, at1, at2, at3, at4, ix0, ix1, ix2, ix3, ix4, updM_same, beq_self_eq_true, Option.bind, Option.map, wipeU, NT.put, puts, MO.lst.injEq, exists_and_left, decide_eq_true_eq, Bool.and_eq_true, Bool.or_eq_true, exists_eq', Nat.zero_le, true_or, or_true, e1, e2, updM_ne hcs, updM_ne hsc, beq_eq_false_iff_ne.mpr h0, updM_updM]
      rw [if_pos (by omega)]
      refine ⟨hm0, ⟨hm0, by omega⟩, ?_⟩
      exact q _ _ (Int.emod_nonneg _ (by omega)) (Int.emod_lt_of_pos _ hm0) (strm_mk hsc updM_same (by rw [updM_ne hcs, e2]) (Int.ediv_nonneg (by omega) (by omega)) hb hd0 hd1 hk) (But.eq fun x h1 h2 => updM_ne h1)

/-! ### _law_same -/
def sp__law_same : USp := fun us M Q _ => ∃ x y, us = [x, y] ∧ okR x ∧ okR y ∧ Q (.bl (rep x == rep y)) M
theorem ok__law_same (L : Lw K mg) : UFn P w K mg base CX0 1 L.f__law_same L.fd__law_same ["_law_found", "_law_due"] (sp__law_same) := by
  refine ufn_ok L.D__law_same.F sc__law_same (fun us M Q E h => ?_) (fun cdv A outer s H E hr hG =>
      (uss_one (us_ret (ue_cmp (uo_eq (hu6 hr)) (ue_callB (uc_repr hG (hu2 hr)) (by rfl) L.n_repr bt_repr (ua_cons (uv 0) ua_nil)) (ue_callB (uc_repr hG (hu2 hr)) (by rfl) L.n_repr bt_repr (ua_cons (uv 1) ua_nil)) (nomark _))))) (fun us M Q E h => ?_)
  · obtain ⟨x, y, rfl, _⟩ := h
    rfl
  · obtain ⟨x, y, rfl, hx, hy, q⟩ := h
    have q : ZQ Q _ M := .inl q
    simp only [uIfS, uOr, uAnd, uNot, uCB, uCons, uNil, uC, uRet, uNext, uOp, uUn, uTup, uLst, uIf, uAsg, uName, uDrop, uCall, uBM, uBM0, uSl, uNoPart, uSub, ustart, uSeq, uRng2, List.append_nil, uYes, add_ii, add_ss, add_tt, add_lr_, add_rl_, sub_ii, mul_ii, mod_ii, div_ii, pow_ii, lt_ii, lt_ss, le_ii, gt_ii, ge_ii, neg_i, int_i, aug_ii, isNon_non, isNon_bl, isNon_int, isNon_str, isNon_tup, isNon_lst, isNon_ref, val_non, val_bl, val_int, val_str, val_tup, val_lst, refV_lst, val_ref, refL_lst, listU_lst, listU_ref, seqU_lst, seqU_tup, seqU_ref, lenU_str, lenU_tup, lenU_lst, lenU_ref, tyM_non, tyM_bl, tyM_int, tyM_str, tyM_tup, tyM_lst, refT_lst, tyM_ref, okN_str, okN_int, okN_bool, okN_tuple, okN_list, okN_dict, sub_NoneType_str, sub_NoneType_int, sub_NoneType_bool, sub_NoneType_tuple, sub_NoneType_list, sub_NoneType_dict, sub_bool_str, sub_bool_int, sub_bool_bool, sub_bool_tuple, sub_bool_list, sub_bool_dict, sub_int_str, sub_int_int, sub_int_bool, sub_int_tuple, sub_int_list, sub_int_dict, sub_str_str, sub_str_int, sub_str_bool, sub_str_tuple, sub_str_list, sub_str_dict, sub_tuple_str, sub_tuple_int, sub_tuple_bool, sub_tuple_tuple, sub_tuple_list, sub_tuple_dict, sub_list_str, sub_list_int, sub_list_bool, sub_list_tuple, sub_list_list, sub_list_dict, sub_dict_str, sub_dict_int, sub_dict_bool, sub_dict_tuple, sub_dict_list, sub_dict_dict, tru_non, tru_bl, tru_int, tru_str, tru_tup, tru_lst, eq_R, ne_R, isD_non, isD_bl, isD_int, isD_str, isD_tup, isD_lst, isDs_nil, isDs_cons, dep_non, dep_bl, dep_int, dep_str, dep_tup, dep_lst, deps_nil, deps_cons, ueq_ii, ueq_ss, ueq_bb, ueq_tt, ueq_ll, ueqs_nn, ueqs_cc, ueqs_cn, ueqs_nc, ix_s, ix_r, set_r, app_r, pop_r, ins_r, join_r, all_1, any_1, repr_1, newL_f, newL_t, sl_s, sl_t, sl_l, sl_r, in_t, in_l, in_r, tyMt_rl, tyMt_rd, tyMt_s, any_t, anyI_t, anyI_s, anyI_r, uVar_0, uVar_1, uVar_2, uVar_3, uVar_4, uVar_5, uVar_6, uVar_7, uVar_8, uVar_9, uVar_10, uVar_11, uVar_12, uVar_13, uVar_14, uVar_15, len_str, len_tup, len_lst, isi_non_str, isi_non_int, isi_non_bool, isi_non_tuple, isi_non_list, isi_non_dict, isi_non_tuple_list, isi_bl_str, isi_bl_int, isi_bl_bool, isi_bl_tuple, isi_bl_list, isi_bl_dict, isi_bl_tuple_list, isi_int_str, isi_int_int, isi_int_bool, isi_int_tuple, isi_int_list, isi_int_dict, isi_int_tuple_list, isi_str_str, isi_str_int, isi_str_bool, isi_str_tuple, isi_str_list, isi_str_dict, isi_str_tuple_list, isi_tup_str, isi_tup_int, isi_tup_bool, isi_tup_tuple, isi_tup_list, isi_tup_dict, isi_tup_tuple_list, isi_lst_str, isi_lst_int, isi_lst_bool, isi_lst_tuple, isi_lst_list, isi_lst_dict, isi_lst_tuple_list, uTru_K, uB_K, uPart_K, uRng_K, uOrV_K, uAndV_K, uNotV_K, uChain_K, uAug_K, truK_non, truK_bl, truK_int, truK_str, truK_tup, truK_lst, blK_bl, partK_int, rngK_int, tuple_t, tuple_l, len_ref, mul_rk, mul_rd, tuple_r, list_r, list_t, list_l, ix_tup_0, ix_lst_0, ix_tup_1, ix_lst_1, ix_tup_2, ix_lst_2, ix_tup_3, ix_lst_3, ix_tup_4, ix_lst_4, ixt_g, ixl_g, add_ll2, in_ss2, anyI_l2, isn_n, gTup_t, gCons_c, gNil_n, cle, clt, cge, cgt, ceq, cne, exists_eq_left', exists_eq_left, Option.some.injEq, U.int.injEq, U.bl.injEq, U.str.injEq, U.ref.injEq, U.tup.injEq, U.lst.injEq, U.ty.injEq, List.cons.injEq, and_true, true_and, and_self, List.map_cons, List.map_nil, List.length_cons, List.length_nil, List.cons_append, List.nil_append, List.append_nil, List.getElem?_cons_zero, List.getElem?_cons_succ, List.set_cons_zero, List.set_cons_succ, List.replicate, ↓reduceIte, Bool.false_eq_true, Bool.not_true, Bool.not_false, reduceCtorEq, Nat.reduceAdd, Nat.reduceSub, Nat.reduceLeDiff, Nat.reduceEqDiff, decide_true, decide_false, at0, at1, at2, at3, at4, ix0, ix1, ix2, ix3, ix4, updM_same, beq_self_eq_true, Option.bind, Option.map, wipeU, NT.put, puts, MO.lst.injEq, exists_and_left, decide_eq_true_eq, Bool.and_eq_true, Bool.or_eq_true, exists_eq', Nat.zero_le, true_or, or_true, val_isD hx.1, val_isD hy.1, rep_ok hx, rep_ok hy]
    exact ⟨hx, hy, q⟩

/-! ### _law_path -/
def sp__law_path : USp := fun us M Q _ => ∃ (s c : Addr) (n most : Nat), us = [.ref s, .int most] ∧ most ≤ 1000 ∧ Strm M s c (n + (most + 1)) ∧
  ∀ xs M', xs.length ≤ most → (∀ x ∈ xs, x = .str "a" ∨ x = .str "ab" ∨ x = .str "kid") → Strm M' s c n → But s c M M' → Q (.tup xs) M'
theorem ok__law_path (L : Lw K mg) : UFn P w K mg base CX0 2 L.f__law_path L.fd__law_path ["_law_stream", "_law_most"] (sp__law_path) := by
  refine ufn_ok L.D__law_path.F sc__law_path (fun us M Q E h => ?_) (fun cdv A outer s H E hr hG =>
      (uss_one (us_ret (ue_callTy uc_tuple (by rfl) L.n_tuple bt_tuple (ua_cons (ue_lc (own := [("_law_k", 2)]) (n := (.one 2)) false rfl sc__law_path.nd (ui_range1 (by rfl) L.n_range (ua_cons (ue_call (ok__law_draw L) (hr.mono (by decide)) hG rfl L.D__law_draw.g L.D__law_draw.F.kp L.D__law_draw.b .nil (fun _ => RelUs.nil) (ua_cons (uv 0) (ua_cons (ue_op (uo_add false) (uv 1) ue_int) ua_nil))) ua_nil)) (blkOk_by (own := [("_law_k", 2)]) (N := ["_law_stream", "_law_most", "_law_k"]) (sc := defScope s__law_path) (by decide +kernel)) (by decide) (fun _ _ _ _ _ => (pg_nt sc__law_path.nd rfl (.inl rfl))) (fun _ _ _ _ _ => uts_nil) (fun _ _ _ _ _ => (ue_ix (ue_lst false (ua_cons ue_str (ua_cons ue_str (ua_cons ue_str ua_nil)))) (ue_call (ok__law_draw L) (hr.mono (by decide)) hG rfl L.D__law_draw.g L.D__law_draw.F.kp L.D__law_draw.b .nil (fun _ => RelUs.nil) (ua_cons (uv 0) (ua_cons ue_int ua_nil)))))) ua_nil))))) (fun us M Q E h => ?_)
  · obtain ⟨s, c, n, most, rfl, _⟩ := h
    rfl
  · obtain ⟨s, c, n, most, rfl, hm, hS, q⟩ := h
    have q : ∀ xs M', xs.length ≤ most → (∀ x ∈ xs, x = .str "a" ∨ x = .str "ab" ∨ x = .str "kid") → Strm M' s c n → But s c M M' → ZQ Q (.tup xs) M' := fun xs M' h1 h2 h3 h4 => .inl (q xs M' h1 h2 h3 h4)
    simp only [uLc, uIfS, uOr, uAnd, uNot, uCB, uCons, uNil, uC, uRet, uNext, uOp, uUn, uTup, uLst, uIf, uAsg, uName, uDrop, uCall, uBM, uBM0, uSl, uNoPart, uSub, ustart, uSeq, uRng2, List.append_nil, uYes, add_ii, add_ss, add_tt, add_lr_, add_rl_, sub_ii, mul_ii, mod_ii, div_ii, pow_ii, lt_ii, lt_ss, le_ii, gt_ii, ge_ii, neg_i, int_i, aug_ii, isNon_non, isNon_bl, isNon_int, isNon_str, isNon_tup, isNon_lst, isNon_ref, val_non, val_bl, val_int, val_str, val_tup, val_lst, refV_lst, val_ref, refL_lst, listU_lst, listU_ref, seqU_lst, seqU_tup, seqU_ref, lenU_str, lenU_tup, lenU_lst, lenU_ref, tyM_non, tyM_bl, tyM_int, tyM_str, tyM_tup, tyM_lst, refT_lst, tyM_ref, okN_str, okN_int, okN_bool, okN_tuple, okN_list, okN_dict, sub_NoneType_str, sub_NoneType_int, sub_NoneType_bool, sub_NoneType_tuple, sub_NoneType_list, sub_NoneType_dict, sub_bool_str, sub_bool_int, sub_bool_bool, sub_bool_tuple, sub_bool_list, sub_bool_dict, sub_int_str, sub_int_int, sub_int_bool, sub_int_tuple, sub_int_list, sub_int_dict, sub_str_str, sub_str_int, sub_str_bool, sub_str_tuple, sub_str_list, sub_str_dict, sub_tuple_str, sub_tuple_int, sub_tuple_bool, sub_tuple_tuple, sub_tuple_list, sub_tuple_dict, sub_list_str, sub_list_int, sub_list_bool, sub_list_tuple, sub_list_list, sub_list_dict, sub_dict_str, sub_dict_int, sub_dict_bool, sub_dict_tuple, sub_dict_list, sub_dict_dict, tru_non, tru_bl, tru_int, tru_str, tru_tup, tru_lst, eq_R, ne_R, isD_non, isD_bl, isD_int, isD_str, isD_tup, isD_lst, isDs_nil, isDs_cons, dep_non, dep_bl, dep_int, dep_str, dep_tup, dep_lst, deps_nil, deps_cons, ueq_ii, ueq_ss, ueq_bb, ueq_tt, ueq_ll, ueqs_nn, ueqs_cc, ueqs_cn, ueqs_nc, ix_s, ix_r, set_r, app_r, pop_r, ins_r, join_r, all_1, any_1, repr_1, newL_f, newL_t, sl_s, sl_t, sl_l, sl_r, in_t, in_l, in_r, tyMt_rl, tyMt_rd, tyMt_s, any_t, anyI_t, anyI_s, anyI_r, uVar_0, uVar_1, uVar_2, uVar_3, uVar_4, uVar_5, uVar_6, uVar_7, uVar_8, uVar_9, uVar_10, uVar_11, uVar_12, uVar_13, uVar_14, uVar_15, len_str, len_tup, len_lst, isi_non_str, isi_non_int, isi_non_bool, isi_non_tuple, isi_non_list, isi_non_dict, isi_non_tuple_list, isi_bl_str, isi_bl_int, isi_bl_bool, isi_bl_tuple, isi_bl_list, isi_bl_dict, isi_bl_tuple_list, isi_int_str, isi_int_int, isi_int_bool, isi_int_tuple, isi_int_list, isi_int_dict, isi_int_tuple_list, isi_str_str, isi_str_int, isi_str_bool, isi_str_tuple, isi_str_list, isi_str_dict, isi_str_tuple_list, isi_tup_str, isi_tup_int, isi_tup_bool, isi_tup_tuple, isi_tup_list, isi_tup_dict, isi_tup_tuple_list, isi_lst_str, isi_lst_int, isi_lst_bool, isi_lst_tuple, isi_lst_list, isi_lst_dict, isi_lst_tuple_list, uTru_K, uB_K, uPart_K, uRng_K, uOrV_K, uAndV_K, uNotV_K, uChain_K, uAug_K, truK_non, truK_bl, truK_int, truK_str, truK_tup, truK_lst, blK_bl, partK_int, rngK_int, tuple_t, tuple_l, len_ref, mul_rk, mul_rd, tuple_r, list_r, list_t, list_l, ix_tup_0, ix_lst_0, ix_tup_1, ix_lst_1, ix_tup_2, ix_lst_2, ix_tup_3, ix_lst_3, ix_tup_4, ix_lst_4, ixt_g, ixl_g, add_ll2, in_ss2, anyI_l2, isn_n, gTup_t, gCons_c, gNil_n, cle, clt, cge, cgt, ceq, cne, exists_eq_left', exists_eq_left, Option.some.injEq, U.int.injEq, U.bl.injEq, U.str.injEq, U.ref.injEq, U.tup.injEq, U.lst.injEq, U.ty.injEq, List.cons.injEq, and_true, true_and, and_self, List.map_cons, List.map_nil, List.length_cons, List.length_nil, List.cons_append, List.nil_append, List.append_nil, List.getElem?_cons_zero, List.getElem?_cons_succ, List.set_cons_zero, List.set_cons_succ, List.replicate, ↓reduceIte, Bool.false_eq_true, Bool.not_true, Bool.not_false, reduceCtorEq, Nat.reduceAdd, Nat.reduceSub, Nat.reduceLeDiff, Nat.reduceEqDiff, decide_true, decide_false, at0, at1, at2, at3, at4, ix0, ix1, ix2, ix3, ix4, updM_same, beq_self_eq_true, Option.bind, Option.map, wipeU, NT.put, puts, MO.lst.injEq, exists_and_left, decide_eq_true_eq, Bool.and_eq_true, Bool.or_eq_true, exists_eq', Nat.zero_le, true_or, or_true]
    refine draw_use (n := n + most) hS (by omega) (by omega) fun r M1 h0 h1 hS1 hB1 => ?_
    simp only [uIfS, uOr, uAnd, uNot, uCB, uCons, uNil, uC, uRet, uNext, uOp, uUn, uTup, uLst, uIf, uAsg, uName, uDrop, uCall, uBM, uBM0, uSl, uNoPart, uSub, ustart, uSeq, uRng2, List.append_nil, uYes, add_ii, add_ss, add_tt, add_lr_, add_rl_, sub_ii, mul_ii, mod_ii, div_ii, pow_ii, lt_ii, lt_ss, le_ii, gt_ii, ge_ii, neg_i, int_i, aug_ii, isNon_non, isNon_bl, isNon_int, isNon_str, isNon_tup, isNon_lst, isNon_ref, val_non, val_bl, val_int, val_str, val_tup, val_lst, refV_lst, val_ref, refL_lst, listU_lst, listU_ref, seqU_lst, seqU_tup, seqU_ref, lenU_str, lenU_tup, lenU_lst, lenU_ref, tyM_non, tyM_bl, tyM_int, tyM_str, tyM_tup, tyM_lst, refT_lst, tyM_ref, okN_str, okN_int, okN_bool, okN_tuple, okN_list, okN_dict, sub_NoneType_str, sub_NoneType_int, sub_NoneType_bool, sub_NoneType_tuple, sub_NoneType_list, sub_NoneType_dict, sub_bool_str, sub_bool_int, sub_bool_bool, sub_bool_tuple, sub_bool_list, sub_bool_dict, sub_int_str, sub_int_int, sub_int_bool, sub_int_tuple, sub_int_list, sub_int_dict, sub_str_str, sub_str_int, sub_str_bool, sub_str_tuple, sub_str_list, sub_str_dict, sub_tuple_str, sub_tuple_int, sub_tuple_bool, sub_tuple_tuple, sub_tuple_list, sub_tuple_dict, sub_list_str, sub_list_int, sub_list_bool, sub_list_tuple, sub_list_list, sub_list_dict, sub_dict_str, sub_dict_int, sub_dict_bool, sub_dict_tuple, sub_dict_list, sub_dict_dict, tru_non, tru_bl, tru_int, tru_str, tru_tup, tru_lst, eq_R, ne_R, isD_non, isD_bl, isD_int, isD_str, isD_tup, isD_lst, isDs_nil, isDs_cons, dep_non, dep_bl, dep_int, dep_str, dep_tup, dep_lst, deps_nil, deps_cons, ueq_ii, ueq_ss, ueq_bb, ueq_tt, ueq_ll, ueqs_nn, ueqs_cc, ueqs_cn, ueqs_nc, ix_s, ix_r, set_r, app_r, pop_r, ins_r, join_r, all_1, any_1, repr_1, newL_f, newL_t, sl_s, sl_t, sl_l, sl_r, in_t, in_l, in_r, tyMt_rl, tyMt_rd, tyMt_s, any_t, anyI_t, anyI_s, anyI_r, uVar_0, uVar_1, uVar_2, uVar_3, uVar_4, uVar_5, uVar_6, uVar_7, uVar_8, uVar_9, uVar_10, uVar_11, uVar_12, uVar_13, uVar_14, uVar_15, len_str, len_tup, len_lst, isi_non_str, isi_non_int, isi_non_bool, isi_non_tuple, isi_non_list, isi_non_dict, isi_non_tuple_list, isi_bl_str, isi_bl_int, isi_bl_bool, isi_bl_tuple, isi_bl_list, isi_bl_dict, isi_bl_tuple_list, isi_int_str, isi_int_int, isi_int_bool, isi_int_tuple, isi_int_list, isi_int_dict, isi_int_tuple_list, isi_str_str, isi_str_int, isi_str_bool, isi_str_tuple, isi_str_list, isi_str_dict, isi_str_tuple_list, isi_tup_str, isi_tup_int, isi_tup_bool, isi_tup_tuple, isi_tup_list, isi_tup_dict, isi_tup_tuple_list, isi_lst_str, isi_lst_int, isi_lst_bool, isi_lst_tuple, isi_lst_list, isi_lst_dict, isi_lst_tuple_list, uTru_K, uB_K, uPart_K, uRng_K, uOrV_K, uAndV_K, uNotV_K, uChain_K, uAug_K, truK_non, truK_bl, truK_int, truK_str, truK_tup, truK_lst, blK_bl, partK_int, rngK_int, tuple_t, tuple_l, len_ref, mul_rk, mul_rd, tuple_r, list_r, list_t, list_l, ix_tup_0, ix_lst_0, ix_tup_1, ix_lst_1, ix_tup_2, ix_lst_2, ix_tup_3, ix_lst_3, ix_tup_4, ix_lst_4, ixt_g, ixl_g, add_ll2, in_ss2, anyI_l2, isn_n, gTup_t, gCons_c, gNil_n, cle, clt, cge, cgt, ceq, cne, exists_eq_left', exists_eq_left, Option.some.injEq, U.int.injEq, U.bl.injEq, U.str.injEq, U.ref.injEq, U.tup.injEq, U.lst.injEq, U.ty.injEq, List.cons.injEq, and_true, true_and, and_self, List.map_cons, List.map_nil, List.length_cons, List.length_nil, List.cons_append, List.nil_append, List.append_nil, List.getElem?_cons_zero, List.getElem?_cons_succ, List.set_cons_zero, List.set_cons_succ, List.replicate, ↓reduceIte, Bool.false_eq_true, Bool.not_true, Bool.not_false, reduceCtorEq, Nat.reduceAdd, Nat.reduceSub, Nat.reduceLeDiff, Nat.reduceEqDiff, decide_true, decide_false, at0, at1, at2, at3, at4, ix0, ix1, ix2, ix3, ix4, updM_same, beq_self_eq_true, Option.bind, Option.map, wipeU, NT.put, puts, MO.lst.injEq, exists_and_left, decide_eq_true_eq, Bool.and_eq_true, Bool.or_eq_true, exists_eq', Nat.zero_le, true_or, or_true]
    refine ⟨by omega, by omega, line_le (by omega), ?_⟩
    refine lc_strmF (k := 1) (N := n) (fun x => x = .str "a" ∨ x = .str "ab" ∨ x = .str "kid") (hS1.le (by rw [range_len]; omega)) (fun x hx => ⟨_, rfl, fun M N' hS2 Q q => ?_⟩) fun ys M' hl hP hS3 hB3 => ?_
    · simp only [uIfS, uOr, uAnd, uNot, uCB, uCons, uNil, uC, uRet, uNext, uOp, uUn, uTup, uLst, uIf, uAsg, uName, uDrop, uCall, uBM, uBM0, uSl, uNoPart, uSub, ustart, uSeq, uRng2, List.append_nil, uYes, add_ii, add_ss, add_tt, add_lr_, add_rl_, sub_ii, mul_ii, mod_ii, div_ii, pow_ii, lt_ii, lt_ss, le_ii, gt_ii, ge_ii, neg_i, int_i, aug_ii, isNon_non, isNon_bl, isNon_int, isNon_str, isNon_tup, isNon_lst, isNon_ref, val_non, val_bl, val_int, val_str, val_tup, val_lst, refV_lst, val_ref, refL_lst, listU_lst, listU_ref, seqU_lst, seqU_tup, seqU_ref, lenU_str, lenU_tup, lenU_lst, lenU_ref, tyM_non, tyM_bl, tyM_int, tyM_str, tyM_tup, tyM_lst, refT_lst, tyM_ref, okN_str, okN_int, okN_bool, okN_tuple, okN_list, okN_dict, sub_NoneType_str, sub_NoneType_int, sub_NoneType_bool, sub_NoneType_tuple, sub_NoneType_list, sub_NoneType_dict, sub_bool_str, sub_bool_int, sub_bool_bool, sub_bool_tuple, sub_bool_list, sub_bool_dict, sub_int_str, sub_int_int, sub_int_bool, sub_int_tuple, sub_int_list, sub_int_dict, sub_str_str, sub_str_int, sub_str_bool, sub_str_tuple, sub_str_list, sub_str_dict, sub_tuple_str, sub_tuple_int, sub_tuple_bool, sub_tuple_tuple, sub_tuple_list, sub_tuple_dict, sub_list_str, sub_list_int, sub_list_bool, sub_list_tuple, sub_list_list, sub_list_dict, sub_dict_str, sub_dict_int, sub_dict_bool, sub_dict_tuple, sub_dict_list, sub_dict_dict, tru_non, tru_bl, tru_int, tru_str, tru_tup, tru_lst, eq_R, ne_R, isD_non, isD_bl, isD_int, isD_str, isD_tup, isD_lst, isDs_nil, isDs_cons, dep_non, dep_bl, dep_int, dep_str, dep_tup, dep_lst, deps_nil, deps_cons, ueq_ii, ueq_ss, ueq_bb, ueq_tt, ueq_ll, ueqs_nn, ueqs_cc, ueqs_cn, ueqs_nc, ix_s, ix_r, set_r, app_r, pop_r, ins_r, join_r, all_1, any_1, repr_1, newL_f, newL_t, sl_s, sl_t, sl_l, sl_r, in_t, in_l, in_r, tyMt_rl, tyMt_rd, tyMt_s, any_t, anyI_t, anyI_s, anyI_r, uVar_0, uVar_1, uVar_2, uVar_3, uVar_4, uVar_5, uVar_6, uVar_7, uVar_8, uVar_9, uVar_10, uVar_11, uVar_12, uVar_13, uVar_14, uVar_15, len_str, len_tup, len_lst, isi_non_str, isi_non_int, isi_non_bool, isi_non_tuple, isi_non_list, isi_non_dict, isi_non_tuple_list, isi_bl_str, isi_bl_int, isi_bl_bool, isi_bl_tuple, isi_bl_list, isi_bl_dict, isi_bl_tuple_list, isi_int_str, isi_int_int, isi_int_bool, isi_int_tuple, isi_int_list, isi_int_dict, isi_int_tuple_list, isi_str_str, isi_str_int, isi_str_bool, isi_str_tuple, isi_str_list, isi_str_dict, isi_str_tuple_list, isi_tup_str, isi_tup_int, isi_tup_bool, isi_tup_tuple, isi_tup_list, isi_tup_dict, isi_tup_tuple_list, isi_lst_str, isi_lst_int, isi_lst_bool, isi_lst_tuple, isi_lst_list, isi_lst_dict, isi_lst_tuple_list, uTru_K, uB_K, uPart_K, uRng_K, uOrV_K, uAndV_K, uNotV_K, uChain_K, uAug_K, truK_non, truK_bl, truK_int, truK_str, truK_tup, truK_lst, blK_bl, partK_int, rngK_int, tuple_t, tuple_l, len_ref, mul_rk, mul_rd, tuple_r, list_r, list_t, list_l, ix_tup_0, ix_lst_0, ix_tup_1, ix_lst_1, ix_tup_2, ix_lst_2, ix_tup_3, ix_lst_3, ix_tup_4, ix_lst_4, ixt_g, ixl_g, add_ll2, in_ss2, anyI_l2, isn_n, gTup_t, gCons_c, gNil_n, cle, clt, cge, cgt, ceq, cne, exists_eq_left', exists_eq_left, Option.some.injEq, U.int.injEq, U.bl.injEq, U.str.injEq, U.ref.injEq, U.tup.injEq, U.lst.injEq, U.ty.injEq, List.cons.injEq, and_true, true_and, and_self, List.map_cons, List.map_nil, List.length_cons, List.length_nil, List.cons_append, List.nil_append, List.append_nil, List.getElem?_cons_zero, List.getElem?_cons_succ, List.set_cons_zero, List.set_cons_succ, List.replicate, ↓reduceIte, Bool.false_eq_true, Bool.not_true, Bool.not_false, reduceCtorEq, Nat.reduceAdd, Nat.reduceSub, Nat.reduceLeDiff, Nat.reduceEqDiff, decide_true, decide_false, at0, at1, at2, at3, at4, ix0, ix1, ix2, ix3, ix4, updM_same, beq_self_eq_true, Option.bind, Option.map, wipeU, NT.put, puts, MO.lst.injEq, exists_and_left, decide_eq_true_eq, Bool.and_eq_true, Bool.or_eq_true, exists_eq', Nat.zero_le, true_or, or_true]
      refine ⟨line_le, draw_use hS2 (by decide) (by decide) fun r M1 h0 h1 hS1 hB1 => ?_⟩
      simp only [uIfS, uOr, uAnd, uNot, uCB, uCons, uNil, uC, uRet, uNext, uOp, uUn, uTup, uLst, uIf, uAsg, uName, uDrop, uCall, uBM, uBM0, uSl, uNoPart, uSub, ustart, uSeq, uRng2, List.append_nil, uYes, add_ii, add_ss, add_tt, add_lr_, add_rl_, sub_ii, mul_ii, mod_ii, div_ii, pow_ii, lt_ii, lt_ss, le_ii, gt_ii, ge_ii, neg_i, int_i, aug_ii, isNon_non, isNon_bl, isNon_int, isNon_str, isNon_tup, isNon_lst, isNon_ref, val_non, val_bl, val_int, val_str, val_tup, val_lst, refV_lst, val_ref, refL_lst, listU_lst, listU_ref, seqU_lst, seqU_tup, seqU_ref, lenU_str, lenU_tup, lenU_lst, lenU_ref, tyM_non, tyM_bl, tyM_int, tyM_str, tyM_tup, tyM_lst, refT_lst, tyM_ref, okN_str, okN_int, okN_bool, okN_tuple, okN_list, okN_dict, sub_NoneType_str, sub_NoneType_int, sub_NoneType_bool, sub_NoneType_tuple, sub_NoneType_list, sub_NoneType_dict, sub_bool_str, sub_bool_int, sub_bool_bool, sub_bool_tuple, sub_bool_list, sub_bool_dict, sub_int_str, sub_int_int, sub_int_bool, sub_int_tuple, sub_int_list, sub_int_dict, sub_str_str, sub_str_int, sub_str_bool, sub_str_tuple, sub_str_list, sub_str_dict, sub_tuple_str, sub_tuple_int, sub_tuple_bool, sub_tuple_tuple, sub_tuple_list, sub_tuple_dict, sub_list_str, sub_list_int, sub_list_bool, sub_list_tuple, sub_list_list, sub_list_dict, sub_dict_str, sub_dict_int, sub_dict_bool, sub_dict_tuple, sub_dict_list, sub_dict_dict, tru_non, tru_bl, tru_int, tru_str, tru_tup, tru_lst, eq_R, ne_R, isD_non, isD_bl, isD_int, isD_str, isD_tup, isD_lst, isDs_nil, isDs_cons, dep_non, dep_bl, dep_int, dep_str, dep_tup, dep_lst, deps_nil, deps_cons, ueq_ii, ueq_ss, ueq_bb, ueq_tt, ueq_ll, ueqs_nn, ueqs_cc, ueqs_cn, ueqs_nc, ix_s, ix_r, set_r, app_r, pop_r, ins_r, join_r, all_1, any_1, repr_1, newL_f, newL_t, sl_s, sl_t, sl_l, sl_r, in_t, in_l, in_r, tyMt_rl, tyMt_rd, tyMt_s, any_t, anyI_t, anyI_s, anyI_r, uVar_0, uVar_1, uVar_2, uVar_3, uVar_4, uVar_5, uVar_6, uVar_7, uVar_8, uVar_9, uVar_10, uVar_11, uVar_12, uVar_13, uVar_14, uVar_15, len_str, len_tup, len_lst, isi_non_str, isi_non_int, isi_non_bool, isi_non_tuple, isi_non_list, isi_non_dict, isi_non_tuple_list, isi_bl_str, isi_bl_int, isi_bl_bool, isi_bl_tuple, isi_bl_list, isi_bl_dict, isi_bl_tuple_list, isi_int_str, isi_int_int, isi_int_bool, isi_int_tuple, isi_int_list, isi_int_dict, isi_int_tuple_list, isi_str_str, isi_str_int, isi_str_bool, isi_str_tuple, isi_str_list, isi_str_dict, isi_str_tuple_list, isi_tup_str, isi_tup_int, isi_tup_bool, isi_tup_tuple, isi_tup_list, isi_tup_dict, isi_tup_tuple_list, isi_lst_str, isi_lst_int, isi_lst_bool, isi_lst_tuple, isi_lst_list, isi_lst_dict, isi_lst_tuple_list, uTru_K, uB_K, uPart_K, uRng_K, uOrV_K, uAndV_K, uNotV_K, uChain_K, uAug_K, truK_non, truK_bl, truK_int, truK_str, truK_tup, truK_lst, blK_bl, partK_int, rngK_int, tuple_t, tuple_l, len_ref, mul_rk, mul_rd, tuple_r, list_r, list_t, list_l, ix_tup_0, ix_lst_0, ix_tup_1, ix_lst_1, ix_tup_2, ix_lst_2, ix_tup_3, ix_lst_3, ix_tup_4, ix_lst_4, ixt_g, ixl_g, add_ll2, in_ss2, anyI_l2, isn_n, gTup_t, gCons_c, gNil_n, cle, clt, cge, cgt, ceq, cne, exists_eq_left', exists_eq_left, Option.some.injEq, U.int.injEq, U.bl.injEq, U.str.injEq, U.ref.injEq, U.tup.injEq, U.lst.injEq, U.ty.injEq, List.cons.injEq, and_true, true_and, and_self, List.map_cons, List.map_nil, List.length_cons, List.length_nil, List.cons_append, List.nil_append, List.append_nil, List.getElem?_cons_zero, List.getElem?_cons_succ, List.set_cons_zero, List.set_cons_succ, List.replicate, ↓reduceIte, Bool.false_eq_true, Bool.not_true, Bool.not_false, reduceCtorEq, Nat.reduceAdd, Nat.reduceSub, Nat.reduceLeDiff, Nat.reduceEqDiff, decide_true, decide_false, at0, at1, at2, at3, at4, ix0, ix1, ix2, ix3, ix4, updM_same, beq_self_eq_true, Option.bind, Option.map, wipeU, NT.put, puts, MO.lst.injEq, exists_and_left, decide_eq_true_eq, Bool.and_eq_true, Bool.or_eq_true, exists_eq', Nat.zero_le, true_or, or_true]
      obtain ⟨v, e, hv⟩ := at_draw (xs := [.str "a", .str "ab", .str "kid"]) h0 h1
      exact ⟨v, e, q v M1 (by simpa using hv) hS1 hB1⟩
    · simp only [uIfS, uOr, uAnd, uNot, uCB, uCons, uNil, uC, uRet, uNext, uOp, uUn, uTup, uLst, uIf, uAsg, uName, uDrop, uCall, uBM, uBM0, uSl, uNoPart, uSub, ustart, uSeq, uRng2, List.append_nil, uYes, add_ii, add_ss, add_tt, add_lr_, add_rl_, sub_ii, mul_ii, mod_ii, div_ii, pow_ii, lt_ii, lt_ss, le_ii, gt_ii, ge_ii, neg_i, int_i, aug_ii, isNon_non, isNon_bl, isNon_int, isNon_str, isNon_tup, isNon_lst, isNon_ref, val_non, val_bl, val_int, val_str, val_tup, val_lst, refV_lst, val_ref, refL_lst, listU_lst, listU_ref, seqU_lst, seqU_tup, seqU_ref, lenU_str, lenU_tup, lenU_lst, lenU_ref, tyM_non, tyM_bl, tyM_int, tyM_str, tyM_tup, tyM_lst, refT_lst, tyM_ref, okN_str, okN_int, okN_bool, okN_tuple, okN_list, okN_dict, sub_NoneType_str, sub_NoneType_int, sub_NoneType_bool, sub_NoneType_tuple, sub_NoneType_list, sub_NoneType_dict, sub_bool_str, sub_bool_int, sub_bool_bool, sub_bool_tuple, sub_bool_list, sub_bool_dict, sub_int_str, sub_int_int, sub_int_bool, sub_int_tuple, sub_int_list, sub_int_dict, sub_str_str, sub_str_int, sub_str_bool, sub_str_tuple, sub_str_list, sub_str_dict, sub_tuple_str, sub_tuple_int, sub_tuple_bool, sub_tuple_tuple, sub_tuple_list, sub_tuple_dict, sub_list_str, sub_list_int, sub_list_bool, sub_list_tuple, sub_list_list, sub_list_dict, sub_dict_str, sub_dict_int, sub_dict_bool, sub_dict_tuple, sub_dict_list, sub_dict_dict, tru_non, tru_bl, tru_int, tru_str, tru_tup, tru_lst, eq_R, ne_R, isD_non, isD_bl, isD_int, isD_str, isD_tup, isD_lst, isDs_nil, isDs_cons, dep_non, dep_bl, dep_int, dep_str, dep_tup, dep_lst, deps_nil, deps_cons, ueq_ii, ueq_ss, ueq_bb, ueq_tt, ueq_ll, ueqs_nn, ueqs_cc, ueqs_cn, ueqs_nc, ix_s, ix_r, set_r, app_r, pop_r, ins_r, join_r, all_1, any_1, repr_1, newL_f, newL_t, sl_s, sl_t, sl_l, sl_r, in_t, in_l, in_r, tyMt_rl, tyMt_rd, tyMt_s, any_t, anyI_t, anyI_s, anyI_r, uVar_0, uVar_1, uVar_2, uVar_3, uVar_4, uVar_5, uVar_6, uVar_7, uVar_8, uVar_9, uVar_10, uVar_11, uVar_12, uVar_13, uVar_14, uVar_15, len_str, len_tup, len_lst, isi_non_str, isi_non_int, isi_non_bool, isi_non_tuple, isi_non_list, isi_non_dict, isi_non_tuple_list, isi_bl_str, isi_bl_int, isi_bl_bool, isi_bl_tuple, isi_bl_list, isi_bl_dict, isi_bl_tuple_list, isi_int_str, isi_int_int, isi_int_bool, isi_int_tuple, isi_int_list, isi_int_dict, isi_int_tuple_list, isi_str_str, isi_str_int, isi_str_bool, isi_str_tuple, isi_str_list, isi_str_dict, isi_str_tuple_list, isi_tup_str, isi_tup_int, isi_tup_bool, isi_tup_tuple, isi_tup_list, isi_tup_dict, isi_tup_tuple_list, isi_lst_str, isi_lst_int, isi_lst_bool, isi_lst_tuple, isi_lst_list, isi_lst_dict, isi_lst_tuple_list, uTru_K, uB_K, uPart_K, uRng_K, uOrV_K, uAndV_K, uNotV_K, uChain_K, uAug_K, truK_non, truK_bl, truK_int, truK_str, truK_tup, truK_lst, blK_bl, partK_int, rngK_int, tuple_t, tuple_l, len_ref, mul_rk, mul_rd, tuple_r, list_r, list_t, list_l, ix_tup_0, ix_lst_0, ix_tup_1, ix_lst_1, ix_tup_2, ix_lst_2, ix_tup_3, ix_lst_3, ix_tup_4, ix_lst_4, ixt_g, ixl_g, add_ll2, in_ss2, anyI_l2, isn_n, gTup_t, gCons_c, gNil_n, cle, clt, cge, cgt, ceq, cne, exists_eq_left', exists_eq_left, Option.some.injEq, U.int.injEq, U.bl.injEq, U.str.injEq, U.ref.injEq, U.tup.injEq, U.lst.injEq, U.ty.injEq, List.cons.injEq, and_true, true_and, and_self, List.map_cons, List.map_nil, List.length_cons, List.length_nil, List.cons_append, List.nil_append, List.append_nil, List.getElem?_cons_zero, List.getElem?_cons_succ, List.set_cons_zero, List.set_cons_succ, List.replicate, ↓reduceIte, Bool.false_eq_true, Bool.not_true, Bool.not_false, reduceCtorEq, Nat.reduceAdd, Nat.reduceSub, Nat.reduceLeDiff, Nat.reduceEqDiff, decide_true, decide_false, at0, at1, at2, at3, at4, ix0, ix1, ix2, ix3, ix4, updM_same, beq_self_eq_true, Option.bind, Option.map, wipeU, NT.put, puts, MO.lst.injEq, exists_and_left, decide_eq_true_eq, Bool.and_eq_true, Bool.or_eq_true, exists_eq', Nat.zero_le, true_or, or_true]
      exact q ys M' (by rw [hl, range_len]; omega) hP hS3 (hB1.trans hB3)

/-! ### _law_value -/
/-- a drawn value -/
def VlU (y : U) : Prop := (∃ i : Int, y = .int i ∧ i.natAbs ≤ 1000000000000000000000000000000) ∨ y = .str "on" ∨ y = .str "rank" ∨ ∃ p, y = .tup [.str "link", .tup p] ∧ p.length ≤ 2 ∧ ∀ x ∈ p, x = .str "a" ∨ x = .str "ab" ∨ x = .str "kid"
theorem VlU.dt {y : U} (h : VlU y) : Dt 2 200 y := by
  rcases h with ⟨i, rfl, h⟩ | rfl | rfl | ⟨p, rfl, h1, h2⟩
  · exact (Dt.big (n := 200) h).mono (by decide) (Nat.le_refl _)
  · exact Dt.of (by decide +kernel)
  · exact Dt.of (by decide +kernel)
  · have : ∀ x ∈ p, Dt 0 32 x := fun x hx => by
      rcases h2 x hx with rfl | rfl | rfl <;> exact Dt.of (by decide +kernel)
    have hp : Dt 1 72 (.tup p) := Dt.tup this (by omega)
    exact Dt.tup (k := 1) (n := 72) (fun x hx => by
      rcases List.mem_cons.mp hx with rfl | hx
      · exact Dt.of (by decide +kernel)
      · rw [List.mem_singleton.mp hx]; exact hp) (by simp)
def sp__law_value : USp := fun us M Q _ => ∃ (s c : Addr) (n : Nat), us = [.ref s] ∧ Strm M s c (n + 5) ∧ ∀ y M', VlU y → Strm M' s c n → But s c M M' → Q y M'
theorem value_use {M : UHp} {Q : UK} {E : UXK} {s c : Addr} {n : Nat} (hS : Strm M s c (n + 5)) (h : ∀ y M', VlU y → Strm M' s c n → But s c M M' → Q y M') : sp__law_value [.ref s] M Q E := ⟨s, c, n, rfl, hS, h⟩
theorem ok__law_value (L : Lw K mg) : UFn P w K mg base CX0 3 L.f__law_value L.fd__law_value ["_law_stream"] (sp__law_value) := by
  refine ufn_ok L.D__law_value.F sc__law_value (fun us M Q E h => ?_) (fun cdv A outer s H E hr hG =>
      (uss_cons (us_set (i := 1) sc__law_value.nd rfl (.inl rfl) (ue_call (ok__law_draw L) (hr.mono (by decide)) hG rfl L.D__law_draw.g L.D__law_draw.F.kp L.D__law_draw.b .nil (fun _ => RelUs.nil) (ua_cons (uv 0) (ua_cons ue_int ua_nil))))
      (uss_cons (us_if (ut_cmp uo_lt (uv 1) ue_int (nomark _)) (uss_one (us_ret (ue_op uo_sub (ue_call (ok__law_draw L) (hr.mono (by decide)) hG rfl L.D__law_draw.g L.D__law_draw.F.kp L.D__law_draw.b .nil (fun _ => RelUs.nil) (ua_cons (uv 0) (ua_cons ue_int ua_nil))) ue_int))) uss_nil)
      (uss_cons (us_if (ut_cmp (uo_eq (hu6 hr)) (uv 1) ue_int (nomark _)) (uss_one (us_ret (ue_ix (ue_lst false (ua_cons (ue_op uo_sub (ue_op uo_pow ue_int ue_int) ue_int) (ua_cons (ue_op uo_sub ue_int (ue_op uo_pow ue_int ue_int)) (ua_cons ue_int (ua_cons ue_int ua_nil))))) (ue_call (ok__law_draw L) (hr.mono (by decide)) hG rfl L.D__law_draw.g L.D__law_draw.F.kp L.D__law_draw.b .nil (fun _ => RelUs.nil) (ua_cons (uv 0) (ua_cons ue_int ua_nil)))))) uss_nil)
      (uss_one (us_ret (ue_ix (ue_lst false (ua_cons ue_str (ua_cons ue_str (ua_cons (ue_tup (ua_cons ue_str (ua_cons (ue_call (ok__law_path L) (hr.mono (by decide)) hG rfl L.D__law_path.g L.D__law_path.F.kp L.D__law_path.b .nil (fun _ => RelUs.nil) (ua_cons (uv 0) (ua_cons ue_int ua_nil))) ua_nil))) ua_nil)))) (ue_call (ok__law_draw L) (hr.mono (by decide)) hG rfl L.D__law_draw.g L.D__law_draw.F.kp L.D__law_draw.b .nil (fun _ => RelUs.nil) (ua_cons (uv 0) (ua_cons ue_int ua_nil)))))))))) (fun us M Q E h => ?_)
  · obtain ⟨s, c, n, rfl, _⟩ := h
    rfl
  · obtain ⟨s, c, n, rfl, hS, q⟩ := h
    have q : ∀ y M', VlU y → Strm M' s c n → But s c M M' → ZQ Q y M' := fun y M' h1 h2 h3 => .inl (q y M' h1 h2 h3)
    simp only [uIfS, uOr, uAnd, uNot, uCB, uCons, uNil, uC, uRet, uNext, uOp, uUn, uTup, uLst, uIf, uAsg, uName, uDrop, uCall, uBM, uBM0, uSl, uNoPart, uSub, ustart, uSeq, uRng2, List.append_nil, uYes, add_ii, add_ss, add_tt, add_lr_, add_rl_, sub_ii, mul_ii, mod_ii, div_ii, pow_ii, lt_ii, lt_ss, le_ii, gt_ii, ge_ii, neg_i, int_i, aug_ii, isNon_non, isNon_bl, isNon_int, isNon_str, isNon_tup, isNon_lst, isNon_ref, val_non, val_bl, val_int, val_str, val_tup, val_lst, refV_lst, val_ref, refL_lst, listU_lst, listU_ref, seqU_lst, seqU_tup, seqU_ref, lenU_str, lenU_tup, lenU_lst, lenU_ref, tyM_non, tyM_bl, tyM_int, tyM_str, tyM_tup, tyM_lst, refT_lst, tyM_ref, okN_str, okN_int, okN_bool, okN_tuple, okN_list, okN_dict, sub_NoneType_str, sub_NoneType_int, sub_NoneType_bool, sub_NoneType_tuple, sub_NoneType_list, sub_NoneType_dict, sub_bool_str, sub_bool_int, sub_bool_bool, sub_bool_tuple, sub_bool_list, sub_bool_dict, sub_int_str, sub_int_int, sub_int_bool, sub_int_tuple, sub_int_list, sub_int_dict, sub_str_str, sub_str_int, sub_str_bool, sub_str_tuple, sub_str_list, sub_str_dict, sub_tuple_str, sub_tuple_int, sub_tuple_bool, sub_tuple_tuple, sub_tuple_list, sub_tuple_dict, sub_list_str, sub_list_int, sub_list_bool, sub_list_tuple, sub_list_list, sub_list_dict, sub_dict_str, sub_dict_int, sub_dict_bool, sub_dict_tuple, sub_dict_list, sub_dict_dict, tru_non, tru_bl, tru_int, tru_str, tru_tup, tru_lst, eq_R, ne_R, isD_non, isD_bl, isD_int, isD_str, isD_tup, isD_lst, isDs_nil, isDs_cons, dep_non, dep_bl, dep_int, dep_str, dep_tup, dep_lst, deps_nil, deps_cons, ueq_ii, ueq_ss, ueq_bb, ueq_tt, ueq_ll, ueqs_nn, ueqs_cc, ueqs_cn, ueqs_nc, ix_s, ix_r, set_r, app_r, pop_r, ins_r, join_r, all_1, any_1, repr_1, newL_f, newL_t, sl_s, sl_t, sl_l, sl_r, in_t, in_l, in_r, tyMt_rl, tyMt_rd, tyMt_s, any_t, anyI_t, anyI_s, anyI_r, uVar_0, uVar_1, uVar_2, uVar_3, uVar_4, uVar_5, uVar_6, uVar_7, uVar_8, uVar_9, uVar_10, uVar_11, uVar_12, uVar_13, uVar_14, uVar_15, len_str, len_tup, len_lst, isi_non_str, isi_non_int, isi_non_bool, isi_non_tuple, isi_non_list, isi_non_dict, isi_non_tuple_list, isi_bl_str, isi_bl_int, isi_bl_bool, isi_bl_tuple, isi_bl_list, isi_bl_dict, isi_bl_tuple_list, isi_int_str, isi_int_int, isi_int_bool, isi_int_tuple, isi_int_list, isi_int_dict, isi_int_tuple_list, isi_str_str, isi_str_int, isi_str_bool, isi_str_tuple, isi_str_list, isi_str_dict, isi_str_tuple_list, isi_tup_str, isi_tup_int, isi_tup_bool, isi_tup_tuple, isi_tup_list, isi_tup_dict, isi_tup_tuple_list, isi_lst_str, isi_lst_int, isi_lst_bool, isi_lst_tuple, isi_lst_list, isi_lst_dict, isi_lst_tuple_list, uTru_K, uB_K, uPart_K, uRng_K, uOrV_K, uAndV_K, uNotV_K, uChain_K, uAug_K, truK_non, truK_bl, truK_int, truK_str, truK_tup, truK_lst, blK_bl, partK_int, rngK_int, tuple_t, tuple_l, len_ref, mul_rk, mul_rd, tuple_r, list_r, list_t, list_l, ix_tup_0, ix_lst_0, ix_tup_1, ix_lst_1, ix_tup_2, ix_lst_2, ix_tup_3, ix_lst_3, ix_tup_4, ix_lst_4, ixt_g, ixl_g, add_ll2, in_ss2, anyI_l2, isn_n, gTup_t, gCons_c, gNil_n, cle, clt, cge, cgt, ceq, cne, exists_eq_left', exists_eq_left, Option.some.injEq, U.int.injEq, U.bl.injEq, U.str.injEq, U.ref.injEq, U.tup.injEq, U.lst.injEq, U.ty.injEq, List.cons.injEq, and_true, true_and, and_self, List.map_cons, List.map_nil, List.length_cons, List.length_nil, List.cons_append, List.nil_append, List.append_nil, List.getElem?_cons_zero, List.getElem?_cons_succ, List.set_cons_zero, List.set_cons_succ, List.replicate, ↓reduceIte, Bool.false_eq_true, Bool.not_true, Bool.not_false, reduceCtorEq, Nat.reduceAdd, Nat.reduceSub, Nat.reduceLeDiff, Nat.reduceEqDiff, decide_true, decide_false, at0, at1, at2, at3, at4, ix0, ix1, ix2, ix3, ix4, updM_same, beq_self_eq_true, Option.bind, Option.map, wipeU, NT.put, puts, MO.lst.injEq, exists_and_left, decide_eq_true_eq, Bool.and_eq_true, Bool.or_eq_true, exists_eq', Nat.zero_le, true_or, or_true]
    refine draw_use (n := n + 4) hS (by decide) (by decide) fun r M1 h0 h1 hS1 hB1 => ?_
    simp only [uIfS, uOr, uAnd, uNot, uCB, uCons, uNil, uC, uRet, uNext, uOp, uUn, uTup, uLst, uIf, uAsg, uName, uDrop, uCall, uBM, uBM0, uSl, uNoPart, uSub, ustart, uSeq, uRng2, List.append_nil, uYes, add_ii, add_ss, add_tt, add_lr_, add_rl_, sub_ii, mul_ii, mod_ii, div_ii, pow_ii, lt_ii, lt_ss, le_ii, gt_ii, ge_ii, neg_i, int_i, aug_ii, isNon_non, isNon_bl, isNon_int, isNon_str, isNon_tup, isNon_lst, isNon_ref, val_non, val_bl, val_int, val_str, val_tup, val_lst, refV_lst, val_ref, refL_lst, listU_lst, listU_ref, seqU_lst, seqU_tup, seqU_ref, lenU_str, lenU_tup, lenU_lst, lenU_ref, tyM_non, tyM_bl, tyM_int, tyM_str, tyM_tup, tyM_lst, refT_lst, tyM_ref, okN_str, okN_int, okN_bool, okN_tuple, okN_list, okN_dict, sub_NoneType_str, sub_NoneType_int, sub_NoneType_bool, sub_NoneType_tuple, sub_NoneType_list, sub_NoneType_dict, sub_bool_str, sub_bool_int, sub_bool_bool, sub_bool_tuple, sub_bool_list, sub_bool_dict, sub_int_str, sub_int_int, sub_int_bool, sub_int_tuple, sub_int_list, sub_int_dict, sub_str_str, sub_str_int, sub_str_bool, sub_str_tuple, sub_str_list, sub_str_dict, sub_tuple_str, sub_tuple_int, sub_tuple_bool, sub_tuple_tuple, sub_tuple_list, sub_tuple_dict, sub_list_str, sub_list_int, sub_list_bool, sub_list_tuple, sub_list_list, sub_list_dict, sub_dict_str, sub_dict_int, sub_dict_bool, sub_dict_tuple, sub_dict_list, sub_dict_dict, tru_non, tru_bl, tru_int, tru_str, tru_tup, tru_lst, eq_R, ne_R, isD_non, isD_bl, isD_int, isD_str, isD_tup, isD_lst, isDs_nil, isDs_cons, dep_non, dep_bl, dep_int, dep_str, dep_tup, dep_lst, deps_nil, deps_cons, ueq_ii, ueq_ss, ueq_bb, ueq_tt, ueq_ll, ueqs_nn, ueqs_cc, ueqs_cn, ueqs_nc, ix_s, ix_r, set_r, app_r, pop_r, ins_r, join_r, all_1, any_1, repr_1, newL_f, newL_t, sl_s, sl_t, sl_l, sl_r, in_t, in_l, in_r, tyMt_rl, tyMt_rd, tyMt_s, any_t, anyI_t, anyI_s, anyI_r, uVar_0, uVar_1, uVar_2, uVar_3, uVar_4, uVar_5, uVar_6, uVar_7, uVar_8, uVar_9, uVar_10, uVar_11, uVar_12, uVar_13, uVar_14, uVar_15, len_str, len_tup, len_lst, isi_non_str, isi_non_int, isi_non_bool, isi_non_tuple, isi_non_list, isi_non_dict, isi_non_tuple_list, isi_bl_str, isi_bl_int, isi_bl_bool, isi_bl_tuple, isi_bl_list, isi_bl_dict, isi_bl_tuple_list, isi_int_str, isi_int_int, isi_int_bool, isi_int_tuple, isi_int_list, isi_int_dict, isi_int_tuple_list, isi_str_str, isi_str_int, isi_str_bool, isi_str_tuple, isi_str_list, isi_str_dict, isi_str_tuple_list, isi_tup_str, isi_tup_int, isi_tup_bool, isi_tup_tuple, isi_tup_list, isi_tup_dict, isi_tup_tuple_list, isi_lst_str, isi_lst_int, isi_lst_bool, isi_lst_tuple, isi_lst_list, isi_lst_dict, isi_lst_tuple_list, uTru_K, uB_K, uPart_K, uRng_K, uOrV_K, uAndV_K, uNotV_K, uChain_K, uAug_K, truK_non, truK_bl, truK_int, truK_str, truK_tup, truK_lst, blK_bl, partK_int, rngK_int, tuple_t, tuple_l, len_ref, mul_rk, mul_rd, tuple_r, list_r, list_t, list_l, ix_tup_0, ix_lst_0, ix_tup_1, ix_lst_1, ix_tup_2, ix_lst_2, ix_tup_3, ix_lst_3, ix_tup_4, ix_lst_4, ixt_g, ixl_g, add_ll2, in_ss2, anyI_l2, isn_n, gTup_t, gCons_c, gNil_n, cle, clt, cge, cgt, ceq, cne, exists_eq_left', exists_eq_left, Option.some.injEq, U.int.injEq, U.bl.injEq, U.str.injEq, U.ref.injEq, U.tup.injEq, U.lst.injEq, U.ty.injEq, List.cons.injEq, and_true, true_and, and_self, List.map_cons, List.map_nil, List.length_cons, List.length_nil, List.cons_append, List.nil_append, List.append_nil, List.getElem?_cons_zero, List.getElem?_cons_succ, List.set_cons_zero, List.set_cons_succ, List.replicate, ↓reduceIte, Bool.false_eq_true, Bool.not_true, Bool.not_false, reduceCtorEq, Nat.reduceAdd, Nat.reduceSub, Nat.reduceLeDiff, Nat.reduceEqDiff, decide_true, decide_false, at0, at1, at2, at3, at4, ix0, ix1, ix2, ix3, ix4, updM_same, beq_self_eq_true, Option.bind, Option.map, wipeU, NT.put, puts, MO.lst.injEq, exists_and_left, decide_eq_true_eq, Bool.and_eq_true, Bool.or_eq_true, exists_eq', Nat.zero_le, true_or, or_true]
    refine iteI (fun e1 => ?_) (fun e1 => ?_)
    · refine draw_use (n := n + 3) hS1 (by decide) (by decide) fun r2 M2 h2 h3 hS2 hB2 => ?_
      simp only [uIfS, uOr, uAnd, uNot, uCB, uCons, uNil, uC, uRet, uNext, uOp, uUn, uTup, uLst, uIf, uAsg, uName, uDrop, uCall, uBM, uBM0, uSl, uNoPart, uSub, ustart, uSeq, uRng2, List.append_nil, uYes, add_ii, add_ss, add_tt, add_lr_, add_rl_, sub_ii, mul_ii, mod_ii, div_ii, pow_ii, lt_ii, lt_ss, le_ii, gt_ii, ge_ii, neg_i, int_i, aug_ii, isNon_non, isNon_bl, isNon_int, isNon_str, isNon_tup, isNon_lst, isNon_ref, val_non, val_bl, val_int, val_str, val_tup, val_lst, refV_lst, val_ref, refL_lst, listU_lst, listU_ref, seqU_lst, seqU_tup, seqU_ref, lenU_str, lenU_tup, lenU_lst, lenU_ref, tyM_non, tyM_bl, tyM_int, tyM_str, tyM_tup, tyM_lst, refT_lst, tyM_ref, okN_str, okN_int, okN_bool, okN_tuple, okN_list, okN_dict, sub_NoneType_str, sub_NoneType_int, sub_NoneType_bool, sub_NoneType_tuple, sub_NoneType_list, sub_NoneType_dict, sub_bool_str, sub_bool_int, sub_bool_bool, sub_bool_tuple, sub_bool_list, sub_bool_dict, sub_int_str, sub_int_int, sub_int_bool, sub_int_tuple, sub_int_list, sub_int_dict, sub_str_str, sub_str_int, sub_str_bool, sub_str_tuple, sub_str_list, sub_str_dict, sub_tuple_str, sub_tuple_int, sub_tuple_bool, sub_tuple_tuple, sub_tuple_list, sub_tuple_dict, sub_list_str, sub_list_int, sub_list_bool, sub_list_tuple, sub_list_list, sub_list_dict, sub_dict_str, sub_dict_int, sub_dict_bool, sub_dict_tuple, sub_dict_list, sub_dict_dict, tru_non, tru_bl, tru_int, tru_str, tru_tup, tru_lst, eq_R, ne_R, isD_non, isD_bl, isD_int, isD_str, isD_tup, isD_lst, isDs_nil, isDs_cons, dep_non, dep_bl, dep_int, dep_str, dep_tup, dep_lst, deps_nil, deps_cons, ueq_ii, ueq_ss, ueq_bb, ueq_tt, ueq_ll, ueqs_nn, ueqs_cc, ueqs_cn, ueqs_nc, ix_s, ix_r, set_r, app_r, pop_r, ins_r, join_r, all_1, any_1, repr_1, newL_f, newL_t, sl_s, sl_t, sl_l, sl_r, in_t, in_l, in_r, tyMt_rl, tyMt_rd, tyMt_s, any_t, anyI_t, anyI_s, anyI_r, uVar_0, uVar_1, uVar_2, uVar_3, uVar_4, uVar_5, uVar_6, uVar_7, uVar_8, uVar_9, uVar_10, uVar_11, uVar_12, uVar_13, uVar_14, uVar_15, len_str, len_tup, len_lst, isi_non_str, isi_non_int, isi_non_bool, isi_non_tuple, isi_non_list, isi_non_dict, isi_non_tuple_list, isi_bl_str, isi_bl_int, isi_bl_bool, isi_bl_tuple, isi_bl_list, isi_bl_dict, isi_bl_tuple_list, isi_int_str, isi_int_int, isi_int_bool, isi_int_tuple, isi_int_list, isi_int_dict, isi_int_tuple_list, isi_str_str, isi_str_int, isi_str_bool, isi_str_tuple, isi_str_list, isi_str_dict, isi_str_tuple_list, isi_tup_str, isi_tup_int, isi_tup_bool, isi_tup_tuple, isi_tup_list, isi_tup_dict, isi_tup_tuple_list, isi_lst_str, isi_lst_int, isi_lst_bool, isi_lst_tuple, isi_lst_list, isi_lst_dict, isi_lst_tuple_list, uTru_K, uB_K, uPart_K, uRng_K, uOrV_K, uAndV_K, uNotV_K, uChain_K, uAug_K, truK_non, truK_bl, truK_int, truK_str, truK_tup, truK_lst, blK_bl, partK_int, rngK_int, tuple_t, tuple_l, len_ref, mul_rk, mul_rd, tuple_r, list_r, list_t, list_l, ix_tup_0, ix_lst_0, ix_tup_1, ix_lst_1, ix_tup_2, ix_lst_2, ix_tup_3, ix_lst_3, ix_tup_4, ix_lst_4, ixt_g, ixl_g, add_ll2, in_ss2, anyI_l2, isn_n, gTup_t, gCons_c, gNil_n, cle, clt, cge, cgt, ceq, cne, exists_eq_left', exists_eq_left, Option.some.injEq, U.int.injEq, U.bl.injEq, U.str.injEq, U.ref.injEq, U.tup.injEq, U.lst.injEq, U.ty.injEq, List.cons.injEq, and_true, true_and, and_self, List.map_cons, List.map_nil, List.length_cons, List.length_nil, List.cons_append, List.nil_append, List.append_nil, List.getElem?_cons_zero, List.getElem?_cons_succ, List.set_cons_zero, List.set_cons_succ, List.replicate, ↓reduceIte, Bool.false_eq_true, Bool.not_true, Bool.not_false, reduceCtorEq, Nat.reduceAdd, Nat.reduceSub, Nat.reduceLeDiff, Nat.reduceEqDiff, decide_true, decide_false, at0, at1, at2, at3, at4, ix0, ix1, ix2, ix3, ix4, updM_same, beq_self_eq_true, Option.bind, Option.map, wipeU, NT.put, puts, MO.lst.injEq, exists_and_left, decide_eq_true_eq, Bool.and_eq_true, Bool.or_eq_true, exists_eq', Nat.zero_le, true_or, or_true]
      exact q _ _ (.inl ⟨_, rfl, by omega⟩) (hS2.le (by omega)) (hB1.trans hB2)
    · refine iteI (fun e4 => ?_) (fun e4 => ?_)
      · refine ⟨⟨by decide, by decide, by decide⟩, ⟨by decide, by decide, by decide⟩, line_le, ?_⟩
        refine draw_use (n := n + 3) hS1 (by decide) (by decide) fun r2 M2 h2 h3 hS2 hB2 => ?_
        simp only [uIfS, uOr, uAnd, uNot, uCB, uCons, uNil, uC, uRet, uNext, uOp, uUn, uTup, uLst, uIf, uAsg, uName, uDrop, uCall, uBM, uBM0, uSl, uNoPart, uSub, ustart, uSeq, uRng2, List.append_nil, uYes, add_ii, add_ss, add_tt, add_lr_, add_rl_, sub_ii, mul_ii, mod_ii, div_ii, pow_ii, lt_ii, lt_ss, le_ii, gt_ii, ge_ii, neg_i, int_i, aug_ii, isNon_non, isNon_bl, isNon_int, isNon_str, isNon_tup, isNon_lst, isNon_ref, val_non, val_bl, val_int, val_str, val_tup, val_lst, refV_lst, val_ref, refL_lst, listU_lst, listU_ref, seqU_lst, seqU_tup, seqU_ref, lenU_str, lenU_tup, lenU_lst, lenU_ref, tyM_non, tyM_bl, tyM_int, tyM_str, tyM_tup, tyM_lst, refT_lst, tyM_ref, okN_str, okN_int, okN_bool, okN_tuple, okN_list, okN_dict, sub_NoneType_str, sub_NoneType_int, sub_NoneType_bool, sub_NoneType_tuple, sub_NoneType_list, sub_NoneType_dict, sub_bool_str, sub_bool_int, sub_bool_bool, sub_bool_tuple, sub_bool_list, sub_bool_dict, sub_int_str, sub_int_int, sub_int_bool, sub_int_tuple, sub_int_list, sub_int_dict, sub_str_str, sub_str_int, sub_str_bool, sub_str_tuple, sub_str_list, sub_str_dict, sub_tuple_str, sub_tuple_int, sub_tuple_bool, sub_tuple_tuple, sub_tuple_list, sub_tuple_dict, sub_list_str, sub_list_int, sub_list_bool, sub_list_tuple, sub_list_list, sub_list_dict, sub_dict_str, sub_dict_int, sub_dict_bool, sub_dict_tuple, sub_dict_list, sub_dict_dict, tru_non, tru_bl, tru_int, tru_str, tru_tup, tru_lst, eq_R, ne_R, isD_non, isD_bl, isD_int, isD_str, isD_tup, isD_lst, isDs_nil, isDs_cons, dep_non, dep_bl, dep_int, dep_str, dep_tup, dep_lst, deps_nil, deps_cons, ueq_ii, ueq_ss, ueq_bb, ueq_tt, ueq_ll, ueqs_nn, ueqs_cc, ueqs_cn, ueqs_nc, ix_s, ix_r, set_r, app_r, pop_r, ins_r, join_r, all_1, any_1, repr_1, newL_f, newL_t, sl_s, sl_t, sl_l, sl_r, in_t, in_l, in_r, tyMt_rl, tyMt_rd, tyMt_s, any_t, anyI_t, anyI_s, anyI_r, uVar_0, uVar_1, uVar_2, uVar_3, uVar_4, uVar_5, uVar_6, uVar_7, uVar_8, uVar_9, uVar_10, uVar_11, uVar_12, uVar_13, uVar_14, uVar_15, len_str, len_tup, len_lst, isi_non_str, isi_non_int, isi_non_bool, isi_non_tuple, isi_non_list, isi_non_dict, isi_non_tuple_list, isi_bl_str, isi_bl_int, isi_bl_bool, isi_bl_tuple, isi_bl_list, isi_bl_dict, isi_bl_tuple_list, isi_int_str, isi_int_int, isi_int_bool, isi_int_tuple, isi_int_list, isi_int_dict, isi_int_tuple_list, isi_str_str, isi_str_int, isi_str_bool, isi_str_tuple, isi_str_list, isi_str_dict, isi_str_tuple_list, isi_tup_str, isi_tup_int, isi_tup_bool, isi_tup_tuple, isi_tup_list, isi_tup_dict, isi_tup_tuple_list, isi_lst_str, isi_lst_int, isi_lst_bool, isi_lst_tuple, isi_lst_list, isi_lst_dict, isi_lst_tuple_list, uTru_K, uB_K, uPart_K, uRng_K, uOrV_K, uAndV_K, uNotV_K, uChain_K, uAug_K, truK_non, truK_bl, truK_int, truK_str, truK_tup, truK_lst, blK_bl, partK_int, rngK_int, tuple_t, tuple_l, len_ref, mul_rk, mul_rd, tuple_r, list_r, list_t, list_l, ix_tup_0, ix_lst_0, ix_tup_1, ix_lst_1, ix_tup_2, ix_lst_2, ix_tup_3, ix_lst_3, ix_tup_4, ix_lst_4, ixt_g, ixl_g, add_ll2, in_ss2, anyI_l2, isn_n, gTup_t, gCons_c, gNil_n, cle, clt, cge, cgt, ceq, cne, exists_eq_left', exists_eq_left, Option.some.injEq, U.int.injEq, U.bl.injEq, U.str.injEq, U.ref.injEq, U.tup.injEq, U.lst.injEq, U.ty.injEq, List.cons.injEq, and_true, true_and, and_self, List.map_cons, List.map_nil, List.length_cons, List.length_nil, List.cons_append, List.nil_append, List.append_nil, List.getElem?_cons_zero, List.getElem?_cons_succ, List.set_cons_zero, List.set_cons_succ, List.replicate, ↓reduceIte, Bool.false_eq_true, Bool.not_true, Bool.not_false, reduceCtorEq, Nat.reduceAdd, Nat.reduceSub, Nat.reduceLeDiff, Nat.reduceEqDiff, decide_true, decide_false, at0, at1, at2, at3, at4, ix0, ix1, ix2, ix3, ix4, updM_same, beq_self_eq_true, Option.bind, Option.map, wipeU, NT.put, puts, MO.lst.injEq, exists_and_left, decide_eq_true_eq, Bool.and_eq_true, Bool.or_eq_true, exists_eq', Nat.zero_le, true_or, or_true]
        obtain ⟨v, e, hv⟩ := at_draw (xs := [.int (10 ^ Int.toNat 30 - 1), .int (1 - 10 ^ Int.toNat 30), .int 17, .int 1000]) h2 h3
        refine ⟨v, e, q v _ (.inl ?_) (hS2.le (by omega)) (hB1.trans hB2)⟩
        simp only [List.mem_cons, List.not_mem_nil, or_false] at hv
        rcases hv with rfl | rfl | rfl | rfl <;> exact ⟨_, rfl, by decide +kernel⟩
      · refine ⟨s, c, n + 1, 2, rfl, by decide, hS1.le (by omega), fun p M2 hl hp hS2 hB2 => ?_⟩
        simp only [uIfS, uOr, uAnd, uNot, uCB, uCons, uNil, uC, uRet, uNext, uOp, uUn, uTup, uLst, uIf, uAsg, uName, uDrop, uCall, uBM, uBM0, uSl, uNoPart, uSub, ustart, uSeq, uRng2, List.append_nil, uYes, add_ii, add_ss, add_tt, add_lr_, add_rl_, sub_ii, mul_ii, mod_ii, div_ii, pow_ii, lt_ii, lt_ss, le_ii, gt_ii, ge_ii, neg_i, int_i, aug_ii, isNon_non, isNon_bl, isNon_int, isNon_str, isNon_tup, isNon_lst, isNon_ref, val_non, val_bl, val_int, val_str, val_tup, val_lst, refV_lst, val_ref, refL_lst, listU_lst, listU_ref, seqU_lst, seqU_tup, seqU_ref, lenU_str, lenU_tup, lenU_lst, lenU_ref, tyM_non, tyM_bl, tyM_int, tyM_str, tyM_tup, tyM_lst, refT_lst, tyM_ref, okN_str, okN_int, okN_bool, okN_tuple, okN_list, okN_dict, sub_NoneType_str, sub_NoneType_int, sub_NoneType_bool, sub_NoneType_tuple, sub_NoneType_list, sub_NoneType_dict, sub_bool_str, sub_bool_int, sub_bool_bool, sub_bool_tuple, sub_bool_list, sub_bool_dict, sub_int_str, sub_int_int, sub_int_bool, sub_int_tuple, sub_int_list, sub_int_dict, sub_str_str, sub_str_int, sub_str_bool, sub_str_tuple, sub_str_list, sub_str_dict, sub_tuple_str, sub_tuple_int, sub_tuple_bool, sub_tuple_tuple, sub_tuple_list, sub_tuple_dict, sub_list_str, sub_list_int, sub_list_bool, sub_list_tuple, sub_list_list, sub_list_dict, sub_dict_str, sub_dict_int, sub_dict_bool, sub_dict_tuple, sub_dict_list, sub_dict_dict, tru_non, tru_bl, tru_int, tru_str, tru_tup, tru_lst, eq_R, ne_R, isD_non, isD_bl, isD_int, isD_str, isD_tup, isD_lst, isDs_nil, isDs_cons, dep_non, dep_bl, dep_int, dep_str, dep_tup, dep_lst, deps_nil, deps_cons, ueq_ii, ueq_ss, ueq_bb, ueq_tt, ueq_ll, ueqs_nn, ueqs_cc, ueqs_cn, ueqs_nc, ix_s, ix_r, set_r, app_r, pop_r, ins_r, join_r, all_1, any_1, repr_1, newL_f, newL_t, sl_s, sl_t, sl_l, sl_r, in_t, in_l, in_r, tyMt_rl, tyMt_rd, tyMt_s, any_t, anyI_t, anyI_s, anyI_r, uVar_0, uVar_1, uVar_2, uVar_3, uVar_4, uVar_5, uVar_6, uVar_7, uVar_8, uVar_9, uVar_10, uVar_11, uVar_12, uVar_13, uVar_14, uVar_15, len_str, len_tup, len_lst, isi_non_str, isi_non_int, isi_non_bool, isi_non_tuple, isi_non_list, isi_non_dict, isi_non_tuple_list, isi_bl_str, isi_bl_int, isi_bl_bool, isi_bl_tuple, isi_bl_list, isi_bl_dict, isi_bl_tuple_list, isi_int_str, isi_int_int, isi_int_bool, isi_int_tuple, isi_int_list, isi_int_dict, isi_int_tuple_list, isi_str_str, isi_str_int, isi_str_bool, isi_str_tuple, isi_str_list, isi_str_dict, isi_str_tuple_list, isi_tup_str, isi_tup_int, isi_tup_bool, isi_tup_tuple, isi_tup_list, isi_tup_dict, isi_tup_tuple_list, isi_lst_str, isi_lst_int, isi_lst_bool, isi_lst_tuple, isi_lst_list, isi_lst_dict, isi_lst_tuple_list, uTru_K, uB_K, uPart_K, uRng_K, uOrV_K, uAndV_K, uNotV_K, uChain_K, uAug_K, truK_non, truK_bl, truK_int, truK_str, truK_tup, truK_lst, blK_bl, partK_int, rngK_int, tuple_t, tuple_l, len_ref, mul_rk, mul_rd, tuple_r, list_r, list_t, list_l, ix_tup_0, ix_lst_0, ix_tup_1, ix_lst_1, ix_tup_2, ix_lst_2, ix_tup_3, ix_lst_3, ix_tup_4, ix_lst_4, ixt_g, ixl_g, add_ll2, in_ss2, anyI_l2, isn_n, gTup_t, gCons_c, gNil_n, cle, clt, cge, cgt, ceq, cne, exists_eq_left', exists_eq_left, Option.some.injEq, U.int.injEq, U.bl.injEq, U.str.injEq, U.ref.injEq, U.tup.injEq, U.lst.injEq, U.ty.injEq, List.cons.injEq, and_true, true_and, and_self, List.map_cons, List.map_nil, List.length_cons, List.length_nil, List.cons_append, List.nil_append, List.append_nil, List.getElem?_cons_zero, List.getElem?_cons_succ, List.set_cons_zero, List.set_cons_succ, List.replicate, ↓reduceIte, Bool.false_eq_true, Bool.not_true, Bool.not_false, reduceCtorEq, Nat.reduceAdd, Nat.reduceSub, Nat.reduceLeDiff, Nat.reduceEqDiff, decide_true, decide_false, at0, at1, at2, at3, at4, ix0, ix1, ix2, ix3, ix4, updM_same, beq_self_eq_true, Option.bind, Option.map, wipeU, NT.put, puts, MO.lst.injEq, exists_and_left, decide_eq_true_eq, Bool.and_eq_true, Bool.or_eq_true, exists_eq', Nat.zero_le, true_or, or_true]
        refine ⟨line_le, line_le, ?_⟩
        refine draw_use hS2 (by decide) (by decide) fun r2 M3 h2 h3 hS3 hB3 => ?_
        simp only [uIfS, uOr, uAnd, uNot, uCB, uCons, uNil, uC, uRet, uNext, uOp, uUn, uTup, uLst, uIf, uAsg, uName, uDrop, uCall, uBM, uBM0, uSl, uNoPart, uSub, ustart, uSeq, uRng2, List.append_nil, uYes, add_ii, add_ss, add_tt, add_lr_, add_rl_, sub_ii, mul_ii, mod_ii, div_ii, pow_ii, lt_ii, lt_ss, le_ii, gt_ii, ge_ii, neg_i, int_i, aug_ii, isNon_non, isNon_bl, isNon_int, isNon_str, isNon_tup, isNon_lst, isNon_ref, val_non, val_bl, val_int, val_str, val_tup, val_lst, refV_lst, val_ref, refL_lst, listU_lst, listU_ref, seqU_lst, seqU_tup, seqU_ref, lenU_str, lenU_tup, lenU_lst, lenU_ref, tyM_non, tyM_bl, tyM_int, tyM_str, tyM_tup, tyM_lst, refT_lst, tyM_ref, okN_str, okN_int, okN_bool, okN_tuple, okN_list, okN_dict, sub_NoneType_str, sub_NoneType_int, sub_NoneType_bool, sub_NoneType_tuple, sub_NoneType_list, sub_NoneType_dict, sub_bool_str, sub_bool_int, sub_bool_bool, sub_bool_tuple, sub_bool_list, sub_bool_dict, sub_int_str, sub_int_int, sub_int_bool, sub_int_tuple, sub_int_list, sub_int_dict, sub_str_str, sub_str_int, sub_str_bool, sub_str_tuple, sub_str_list, sub_str_dict, sub_tuple_str, sub_tuple_int, sub_tuple_bool, sub_tuple_tuple, sub_tuple_list, sub_tuple_dict, sub_list_str, sub_list_int, sub_list_bool, sub_list_tuple, sub_list_list, sub_list_dict, sub_dict_str, sub_dict_int, sub_dict_bool, sub_dict_tuple, sub_dict_list, sub_dict_dict, tru_non, tru_bl, tru_int, tru_str, tru_tup, tru_lst, eq_R, ne_R, isD_non, isD_bl, isD_int, isD_str, isD_tup, isD_lst, isDs_nil, isDs_cons, dep_non, dep_bl, dep_int, dep_str, dep_tup, dep_lst, deps_nil, deps_cons, ueq_ii, ueq_ss, ueq_bb, ueq_tt, ueq_ll, ueqs_nn, ueqs_cc, ueqs_cn, ueqs_nc, ix_s, ix_r, set_r, app_r, pop_r, ins_r, join_r, all_1, any_1, repr_1, newL_f, newL_t, sl_s, sl_t, sl_l, sl_r, in_t, in_l, in_r, tyMt_rl, tyMt_rd, tyMt_s, any_t, anyI_t, anyI_s, anyI_r, uVar_0, uVar_1, uVar_2, uVar_3, uVar_4, uVar_5, uVar_6, uVar_7, uVar_8, uVar_9, uVar_10, uVar_11, uVar_12, uVar_13, uVar_14, uVar_15, len_str, len_tup, len_lst, isi_non_str, isi_non_int, isi_non_bool, isi_non_tuple, isi_non_list, isi_non_dict, isi_non_tuple_list, isi_bl_str, isi_bl_int, isi_bl_bool, isi_bl_tuple, isi_bl_list, isi_bl_dict, isi_bl_tuple_list, isi_int_str, isi_int_int, isi_int_bool, isi_int_tuple, isi_int_list, isi_int_dict, isi_int_tuple_list, isi_str_str, isi_str_int, isi_str_bool, isi_str_tuple, isi_str_list, isi_str_dict, isi_str_tuple_list, isi_tup_str, isi_tup_int, isi_tup_bool, isi_tup_tuple, isi_tup_list, isi_tup_dict, isi_tup_tuple_list, isi_lst_str, isi_lst_int, isi_lst_bool, isi_lst_tuple, isi_lst_list, isi_lst_dict, isi_lst_tuple_list, uTru_K, uB_K, uPart_K, uRng_K, uOrV_K, uAndV_K, uNotV_K, uChain_K, uAug_K, truK_non, truK_bl, truK_int, truK_str, truK_tup, truK_lst, blK_bl, partK_int, rngK_int, tuple_t, tuple_l, len_ref, mul_rk, mul_rd, tuple_r, list_r, list_t, list_l, ix_tup_0, ix_lst_0, ix_tup_1, ix_lst_1, ix_tup_2, ix_lst_2, ix_tup_3, ix_lst_3, ix_tup_4, ix_lst_4, ixt_g, ixl_g, add_ll2, in_ss2, anyI_l2, isn_n, gTup_t, gCons_c, gNil_n, cle, clt, cge, cgt, ceq, cne, exists_eq_left', exists_eq_left, Option.some.injEq, U.int.injEq, U.bl.injEq, U.str.injEq, U.ref.injEq, U.tup.injEq, U.lst.injEq, U.ty.injEq, List.cons.injEq, and_true, true_and, and_self, List.map_cons, List.map_nil, List.length_cons, List.length_nil, List.cons_append, List.nil_append, List.append_nil, List.getElem?_cons_zero, List.getElem?_cons_succ, List.set_cons_zero, List.set_cons_succ, List.replicate, ↓reduceIte, Bool.false_eq_true, Bool.not_true, Bool.not_false, reduceCtorEq, Nat.reduceAdd, Nat.reduceSub, Nat.reduceLeDiff, Nat.reduceEqDiff, decide_true, decide_false, at0, at1, at2, at3, at4, ix0, ix1, ix2, ix3, ix4, updM_same, beq_self_eq_true, Option.bind, Option.map, wipeU, NT.put, puts, MO.lst.injEq, exists_and_left, decide_eq_true_eq, Bool.and_eq_true, Bool.or_eq_true, exists_eq', Nat.zero_le, true_or, or_true]
        obtain ⟨v, e, hv⟩ := at_draw (xs := [.str "on", .str "rank", .tup [.str "link", .tup p]]) h2 h3
        refine ⟨v, e, q v _ ?_ hS3 ((hB1.trans hB2).trans hB3)⟩
        simp only [List.mem_cons, List.not_mem_nil, or_false] at hv
        rcases hv with rfl | rfl | rfl
        · exact .inr (.inl rfl)
        · exact .inr (.inr (.inl rfl))
        · exact .inr (.inr (.inr ⟨p, rfl, hl, hp⟩))

/-! ### _law_is_name -/
def sp__law_is_name : USp := fun us M Q _ => ∃ x, us = [x] ∧ isD x = true ∧ Q (.bl (isNameU x)) M
theorem ok__law_is_name (L : Lw K mg) : UFn P w K mg base CX0 1 L.f__law_is_name L.fd__law_is_name ["_law_thing_here"] (sp__law_is_name) := by
  refine ufn_ok L.D__law_is_name.F sc__law_is_name (fun us M Q E h => ?_) (fun cdv A outer s H E hr hG =>
      (uss_cons (us_if (PW.pt (uw_or (ut_not (ut_val (ue_callB uc_isi (by rfl) L.n_isinstance bt_isi (ua_cons (uv 0) (ua_cons (ue_bltn (by rfl) L.n_str bt_str) ua_nil))))) (uw_or1 (ut_not (ut_chain uo_lt uo_lt ue_int (ue_callB uc_len (by rfl) L.n_len bt_len (ua_cons (uv 0) ua_nil)) ue_int))))) (uss_one (us_ret ue_bl)) uss_nil)
      (uss_one (us_ret (ue_callB (uc_all rfl) (by rfl) L.n_all bt_all (ua_cons (ue_lc (own := [("_law_sign", 1)]) (n := (.one 1)) false rfl sc__law_is_name.nd (ui_any (uv 0)) (blkOk_by (own := [("_law_sign", 1)]) (N := ["_law_thing_here", "_law_sign"]) (sc := defScope s__law_is_name) (by decide +kernel)) (by decide) (fun _ _ _ _ _ => (pg_nt sc__law_is_name.nd rfl (.inl rfl))) (fun _ _ _ _ _ => uts_nil) (fun _ _ _ _ _ => (ue_cmp (uo_in (hu2 hr)) (uv 1) ue_str (by rfl)))) ua_nil)))))) (fun us M Q E h => ?_)
  · obtain ⟨x, rfl, _⟩ := h
    rfl
  · obtain ⟨x, rfl, hx, q⟩ := h
    have q : ZQ Q (.bl (isNameU x)) M := .inl q
    cases x with
    | str z =>
      simp only [isNameU] at q
      simp only [uIfS, uOr, uAnd, uNot, uCB, uCons, uNil, uC, uRet, uNext, uOp, uUn, uTup, uLst, uIf, uAsg, uName, uDrop, uCall, uBM, uBM0, uSl, uNoPart, uSub, ustart, uSeq, uRng2, List.append_nil, uYes, add_ii, add_ss, add_tt, add_lr_, add_rl_, sub_ii, mul_ii, mod_ii, div_ii, pow_ii, lt_ii, lt_ss, le_ii, gt_ii, ge_ii, neg_i, int_i, aug_ii, isNon_non, isNon_bl, isNon_int, isNon_str, isNon_tup, isNon_lst, isNon_ref, val_non, val_bl, val_int, val_str, val_tup, val_lst, refV_lst, val_ref, refL_lst, listU_lst, listU_ref, seqU_lst, seqU_tup, seqU_ref, lenU_str, lenU_tup, lenU_lst, lenU_ref, tyM_non, tyM_bl, tyM_int, tyM_str, tyM_tup, tyM_lst, refT_lst, tyM_ref, okN_str, okN_int, okN_bool, okN_tuple, okN_list, okN_dict, sub_NoneType_str, sub_NoneType_int, sub_NoneType_bool, sub_NoneType_tuple, sub_NoneType_list, sub_NoneType_dict, sub_bool_str, sub_bool_int, sub_bool_bool, sub_bool_tuple, sub_bool_list, sub_bool_dict, sub_int_str, sub_int_int, sub_int_bool, sub_int_tuple, sub_int_list, sub_int_dict, sub_str_str, sub_str_int, sub_str_bool, sub_str_tuple, sub_str_list, sub_str_dict, sub_tuple_str, sub_tuple_int, sub_tuple_bool, sub_tuple_tuple, sub_tuple_list, sub_tuple_dict, sub_list_str, sub_list_int, sub_list_bool, sub_list_tuple, sub_list_list, sub_list_dict, sub_dict_str, sub_dict_int, sub_dict_bool, sub_dict_tuple, sub_dict_list, sub_dict_dict, tru_non, tru_bl, tru_int, tru_str, tru_tup, tru_lst, eq_R, ne_R, isD_non, isD_bl, isD_int, isD_str, isD_tup, isD_lst, isDs_nil, isDs_cons, dep_non, dep_bl, dep_int, dep_str, dep_tup, dep_lst, deps_nil, deps_cons, ueq_ii, ueq_ss, ueq_bb, ueq_tt, ueq_ll, ueqs_nn, ueqs_cc, ueqs_cn, ueqs_nc, ix_s, ix_r, set_r, app_r, pop_r, ins_r, join_r, all_1, any_1, repr_1, newL_f, newL_t, sl_s, sl_t, sl_l, sl_r, in_t, in_l, in_r, tyMt_rl, tyMt_rd, tyMt_s, any_t, anyI_t, anyI_s, anyI_r, uVar_0, uVar_1, uVar_2, uVar_3, uVar_4, uVar_5, uVar_6, uVar_7, uVar_8, uVar_9, uVar_10, uVar_11, uVar_12, uVar_13, uVar_14, uVar_15, len_str, len_tup, len_lst, isi_non_str, isi_non_int, isi_non_bool, isi_non_tuple, isi_non_list, isi_non_dict, isi_non_tuple_list, isi_bl_str, isi_bl_int, isi_bl_bool, isi_bl_tuple, isi_bl_list, isi_bl_dict, isi_bl_tuple_list, isi_int_str, isi_int_int, isi_int_bool, isi_int_tuple, isi_int_list, isi_int_dict, isi_int_tuple_list, isi_str_str, isi_str_int, isi_str_bool, isi_str_tuple, isi_str_list, isi_str_dict, isi_str_tuple_list, isi_tup_str, isi_tup_int, isi_tup_bool, isi_tup_tuple, isi_tup_list, isi_tup_dict, isi_tup_tuple_list, isi_lst_str, isi_lst_int, isi_lst_bool, isi_lst_tuple, isi_lst_list, isi_lst_dict, isi_lst_tuple_list, uTru_K, uB_K, uPart_K, uRng_K, uOrV_K, uAndV_K, uNotV_K, uChain_K, uAug_K, truK_non, truK_bl, truK_int, truK_str, truK_tup, truK_lst, blK_bl, partK_int, rngK_int, tuple_t, tuple_l, len_ref, mul_rk, mul_rd, tuple_r, list_r, list_t, list_l, ix_tup_0, ix_lst_0, ix_tup_1, ix_lst_1, ix_tup_2, ix_lst_2, ix_tup_3, ix_lst_3, ix_tup_4, ix_lst_4, ixt_g, ixl_g, add_ll2, in_ss2, anyI_l2, isn_n, gTup_t, gCons_c, gNil_n, cle, clt, cge, cgt, ceq, cne, exists_eq_left', exists_eq_left, Option.some.injEq, U.int.injEq, U.bl.injEq, U.str.injEq, U.ref.injEq, U.tup.injEq, U.lst.injEq, U.ty.injEq, List.cons.injEq, and_true, true_and, and_self, List.map_cons, List.map_nil, List.length_cons, List.length_nil, List.cons_append, List.nil_append, List.append_nil, List.getElem?_cons_zero, List.getElem?_cons_succ, List.set_cons_zero, List.set_cons_succ, List.replicate, ↓reduceIte, Bool.false_eq_true, Bool.not_true, Bool.not_false, reduceCtorEq, Nat.reduceAdd, Nat.reduceSub, Nat.reduceLeDiff, Nat.reduceEqDiff, decide_true, decide_false, at0, at1, at2, at3, at4, ix0, ix1, ix2, ix3, ix4, updM_same, beq_self_eq_true, Option.bind, Option.map, wipeU, NT.put, puts, MO.lst.injEq, exists_and_left, decide_eq_true_eq, Bool.and_eq_true, Bool.or_eq_true, exists_eq', Nat.zero_le, true_or, or_true]
      by_cases h1 : 1 ≤ z.length
      · by_cases h2 : z.length ≤ 8
        · have h0 : 0 < z.length := h1
          have h3 : z.length < 9 := by omega
          simp only [uIfS, uOr, uAnd, uNot, uCB, uCons, uNil, uC, uRet, uNext, uOp, uUn, uTup, uLst, uIf, uAsg, uName, uDrop, uCall, uBM, uBM0, uSl, uNoPart, uSub, ustart, uSeq, uRng2, List.append_nil, uYes, add_ii, add_ss, add_tt, add_lr_, add_rl_, sub_ii, mul_ii, mod_ii, div_ii, pow_ii, lt_ii, lt_ss, le_ii, gt_ii, ge_ii, neg_i, int_i, aug_ii, isNon_non, isNon_bl, isNon_int, isNon_str, isNon_tup, isNon_lst, isNon_ref, val_non, val_bl, val_int, val_str, val_tup, val_lst, refV_lst, val_ref, refL_lst, listU_lst, listU_ref, seqU_lst, seqU_tup, seqU_ref, lenU_str, lenU_tup, lenU_lst, lenU_ref, tyM_non, tyM_bl, tyM_int, tyM_str, tyM_tup, tyM_lst, refT_lst, tyM_ref, okN_str, okN_int, okN_bool, okN_tuple, okN_list, okN_dict, sub_NoneType_str, sub_NoneType_int, sub_NoneType_bool, sub_NoneType_tuple, sub_NoneType_list, sub_NoneType_dict, sub_bool_str, sub_bool_int, sub_bool_bool, sub_bool_tuple, sub_bool_list, sub_bool_dict, sub_int_str, sub_int_int, sub_int_bool, sub_int_tuple, sub_int_list, sub_int_dict, sub_str_str, sub_str_int, sub_str_bool, sub_str_tuple, sub_str_list, sub_str_dict, sub_tuple_str, sub_tuple_int, sub_tuple_bool, sub_tuple_tuple, sub_tuple_list, sub_tuple_dict, sub_list_str, sub_list_int, sub_list_bool, sub_list_tuple, sub_list_list, sub_list_dict, sub_dict_str, sub_dict_int, sub_dict_bool, sub_dict_tuple, sub_dict_list, sub_dict_dict, tru_non, tru_bl, tru_int, tru_str, tru_tup, tru_lst, eq_R, ne_R, isD_non, isD_bl, isD_int, isD_str, isD_tup, isD_lst, isDs_nil, isDs_cons, dep_non, dep_bl, dep_int, dep_str, dep_tup, dep_lst, deps_nil, deps_cons, ueq_ii, ueq_ss, ueq_bb, ueq_tt, ueq_ll, ueqs_nn, ueqs_cc, ueqs_cn, ueqs_nc, ix_s, ix_r, set_r, app_r, pop_r, ins_r, join_r, all_1, any_1, repr_1, newL_f, newL_t, sl_s, sl_t, sl_l, sl_r, in_t, in_l, in_r, tyMt_rl, tyMt_rd, tyMt_s, any_t, anyI_t, anyI_s, anyI_r, uVar_0, uVar_1, uVar_2, uVar_3, uVar_4, uVar_5, uVar_6, uVar_7, uVar_8, uVar_9, uVar_10, uVar_11, uVar_12, uVar_13, uVar_14, uVar_15, len_str, len_tup, len_lst, isi_non_str, isi_non_int, isi_non_bool, isi_non_tuple, isi_non_list, isi_non_dict, isi_non_tuple_list, isi_bl_str, isi_bl_int, isi_bl_bool, isi_bl_tuple, isi_bl_list, isi_bl_dict, isi_bl_tuple_list, isi_int_str, isi_int_int, isi_int_bool, isi_int_tuple, isi_int_list, isi_int_dict, isi_int_tuple_list, isi_str_str, isi_str_int, isi_str_bool, isi_str_tuple, isi_str_list, isi_str_dict, isi_str_tuple_list, isi_tup_str, isi_tup_int, isi_tup_bool, isi_tup_tuple, isi_tup_list, isi_tup_dict, isi_tup_tuple_list, isi_lst_str, isi_lst_int, isi_lst_bool, isi_lst_tuple, isi_lst_list, isi_lst_dict, isi_lst_tuple_list, uTru_K, uB_K, uPart_K, uRng_K, uOrV_K, uAndV_K, uNotV_K, uChain_K, uAug_K, truK_non, truK_bl, truK_int, truK_str, truK_tup, truK_lst, blK_bl, partK_int, rngK_int, tuple_t, tuple_l, len_ref, mul_rk, mul_rd, tuple_r, list_r, list_t, list_l, ix_tup_0, ix_lst_0, ix_tup_1, ix_lst_1, ix_tup_2, ix_lst_2, ix_tup_3, ix_lst_3, ix_tup_4, ix_lst_4, ixt_g, ixl_g, add_ll2, in_ss2, anyI_l2, isn_n, gTup_t, gCons_c, gNil_n, cle, clt, cge, cgt, ceq, cne, exists_eq_left', exists_eq_left, Option.some.injEq, U.int.injEq, U.bl.injEq, U.str.injEq, U.ref.injEq, U.tup.injEq, U.lst.injEq, U.ty.injEq, List.cons.injEq, and_true, true_and, and_self, List.map_cons, List.map_nil, List.length_cons, List.length_nil, List.cons_append, List.nil_append, List.append_nil, List.getElem?_cons_zero, List.getElem?_cons_succ, List.set_cons_zero, List.set_cons_succ, List.replicate, ↓reduceIte, Bool.false_eq_true, Bool.not_true, Bool.not_false, reduceCtorEq, Nat.reduceAdd, Nat.reduceSub, Nat.reduceLeDiff, Nat.reduceEqDiff, decide_true, decide_false, at0, at1, at2, at3, at4, ix0, ix1, ix2, ix3, ix4, updM_same, beq_self_eq_true, Option.bind, Option.map, wipeU, NT.put, puts, MO.lst.injEq, exists_and_left, decide_eq_true_eq, Bool.and_eq_true, Bool.or_eq_true, exists_eq', Nat.zero_le, true_or, or_true, h0, h1, h2, h3] at q ⊢
          simp only [uLc, uIfS, uOr, uAnd, uNot, uCB, uCons, uNil, uC, uRet, uNext, uOp, uUn, uTup, uLst, uIf, uAsg, uName, uDrop, uCall, uBM, uBM0, uSl, uNoPart, uSub, ustart, uSeq, uRng2, List.append_nil, uYes, add_ii, add_ss, add_tt, add_lr_, add_rl_, sub_ii, mul_ii, mod_ii, div_ii, pow_ii, lt_ii, lt_ss, le_ii, gt_ii, ge_ii, neg_i, int_i, aug_ii, isNon_non, isNon_bl, isNon_int, isNon_str, isNon_tup, isNon_lst, isNon_ref, val_non, val_bl, val_int, val_str, val_tup, val_lst, refV_lst, val_ref, refL_lst, listU_lst, listU_ref, seqU_lst, seqU_tup, seqU_ref, lenU_str, lenU_tup, lenU_lst, lenU_ref, tyM_non, tyM_bl, tyM_int, tyM_str, tyM_tup, tyM_lst, refT_lst, tyM_ref, okN_str, okN_int, okN_bool, okN_tuple, okN_list, okN_dict, sub_NoneType_str, sub_NoneType_int, sub_NoneType_bool, sub_NoneType_tuple, sub_NoneType_list, sub_NoneType_dict, sub_bool_str, sub_bool_int, sub_bool_bool, sub_bool_tuple, sub_bool_list, sub_bool_dict, sub_int_str, sub_int_int, sub_int_bool, sub_int_tuple, sub_int_list, sub_int_dict, sub_str_str, sub_str_int, sub_str_bool, sub_str_tuple, sub_str_list, sub_str_dict, sub_tuple_str, sub_tuple_int, sub_tuple_bool, sub_tuple_tuple, sub_tuple_list, sub_tuple_dict, sub_list_str, sub_list_int, sub_list_bool, sub_list_tuple, sub_list_list, sub_list_dict, sub_dict_str, sub_dict_int, sub_dict_bool, sub_dict_tuple, sub_dict_list, sub_dict_dict, tru_non, tru_bl, tru_int, tru_str, tru_tup, tru_lst, eq_R, ne_R, isD_non, isD_bl, isD_int, isD_str, isD_tup, isD_lst, isDs_nil, isDs_cons, dep_non, dep_bl, dep_int, dep_str, dep_tup, dep_lst, deps_nil, deps_cons, ueq_ii, ueq_ss, ueq_bb, ueq_tt, ueq_ll, ueqs_nn, ueqs_cc, ueqs_cn, ueqs_nc, ix_s, ix_r, set_r, app_r, pop_r, ins_r, join_r, all_1, any_1, repr_1, newL_f, newL_t, sl_s, sl_t, sl_l, sl_r, in_t, in_l, in_r, tyMt_rl, tyMt_rd, tyMt_s, any_t, anyI_t, anyI_s, anyI_r, uVar_0, uVar_1, uVar_2, uVar_3, uVar_4, uVar_5, uVar_6, uVar_7, uVar_8, uVar_9, uVar_10, uVar_11, uVar_12, uVar_13, uVar_14, uVar_15, len_str, len_tup, len_lst, isi_non_str, isi_non_int, isi_non_bool, isi_non_tuple, isi_non_list, isi_non_dict, isi_non_tuple_list, isi_bl_str, isi_bl_int, isi_bl_bool, isi_bl_tuple, isi_bl_list, isi_bl_dict, isi_bl_tuple_list, isi_int_str, isi_int_int, isi_int_bool, isi_int_tuple, isi_int_list, isi_int_dict, isi_int_tuple_list, isi_str_str, isi_str_int, isi_str_bool, isi_str_tuple, isi_str_list, isi_str_dict, isi_str_tuple_list, isi_tup_str, isi_tup_int, isi_tup_bool, isi_tup_tuple, isi_tup_list, isi_tup_dict, isi_tup_tuple_list, isi_lst_str, isi_lst_int, isi_lst_bool, isi_lst_tuple, isi_lst_list, isi_lst_dict, isi_lst_tuple_list, uTru_K, uB_K, uPart_K, uRng_K, uOrV_K, uAndV_K, uNotV_K, uChain_K, uAug_K, truK_non, truK_bl, truK_int, truK_str, truK_tup, truK_lst, blK_bl, partK_int, rngK_int, tuple_t, tuple_l, len_ref, mul_rk, mul_rd, tuple_r, list_r, list_t, list_l, ix_tup_0, ix_lst_0, ix_tup_1, ix_lst_1, ix_tup_2, ix_lst_2, ix_tup_3, ix_lst_3, ix_tup_4, ix_lst_4, ixt_g, ixl_g, add_ll2, in_ss2, anyI_l2, isn_n, gTup_t, gCons_c, gNil_n, cle, clt, cge, cgt, ceq, cne, exists_eq_left', exists_eq_left, Option.some.injEq, U.int.injEq, U.bl.injEq, U.str.injEq, U.ref.injEq, U.tup.injEq, U.lst.injEq, U.ty.injEq, List.cons.injEq, and_true, true_and, and_self, List.map_cons, List.map_nil, List.length_cons, List.length_nil, List.cons_append, List.nil_append, List.append_nil, List.getElem?_cons_zero, List.getElem?_cons_succ, List.set_cons_zero, List.set_cons_succ, List.replicate, ↓reduceIte, Bool.false_eq_true, Bool.not_true, Bool.not_false, reduceCtorEq, Nat.reduceAdd, Nat.reduceSub, Nat.reduceLeDiff, Nat.reduceEqDiff, decide_true, decide_false, at0, at1, at2, at3, at4, ix0, ix1, ix2, ix3, ix4, updM_same, beq_self_eq_true, Option.bind, Option.map, wipeU, NT.put, puts, MO.lst.injEq, exists_and_left, decide_eq_true_eq, Bool.and_eq_true, Bool.or_eq_true, exists_eq', Nat.zero_le, true_or, or_true]
          refine lc_of z.cps.toList (fun c => .str ⟨#[c]⟩) (fun c => .bl (isLow c)) (fun _ _ _ => True.intro) (fun D acc hD c hc => ⟨_, rfl, fun Q q => ?_⟩) ?_
          · simp only [uIfS, uOr, uAnd, uNot, uCB, uCons, uNil, uC, uRet, uNext, uOp, uUn, uTup, uLst, uIf, uAsg, uName, uDrop, uCall, uBM, uBM0, uSl, uNoPart, uSub, ustart, uSeq, uRng2, List.append_nil, uYes, add_ii, add_ss, add_tt, add_lr_, add_rl_, sub_ii, mul_ii, mod_ii, div_ii, pow_ii, lt_ii, lt_ss, le_ii, gt_ii, ge_ii, neg_i, int_i, aug_ii, isNon_non, isNon_bl, isNon_int, isNon_str, isNon_tup, isNon_lst, isNon_ref, val_non, val_bl, val_int, val_str, val_tup, val_lst, refV_lst, val_ref, refL_lst, listU_lst, listU_ref, seqU_lst, seqU_tup, seqU_ref, lenU_str, lenU_tup, lenU_lst, lenU_ref, tyM_non, tyM_bl, tyM_int, tyM_str, tyM_tup, tyM_lst, refT_lst, tyM_ref, okN_str, okN_int, okN_bool, okN_tuple, okN_list, okN_dict, sub_NoneType_str, sub_NoneType_int, sub_NoneType_bool, sub_NoneType_tuple, sub_NoneType_list, sub_NoneType_dict, sub_bool_str, sub_bool_int, sub_bool_bool, sub_bool_tuple, sub_bool_list, sub_bool_dict, sub_int_str, sub_int_int, sub_int_bool, sub_int_tuple, sub_int_list, sub_int_dict, sub_str_str, sub_str_int, sub_str_bool, sub_str_tuple, sub_str_list, sub_str_dict, sub_tuple_str, sub_tuple_int, sub_tuple_bool, sub_tuple_tuple, sub_tuple_list, sub_tuple_dict, sub_list_str, sub_list_int, sub_list_bool, sub_list_tuple, sub_list_list, sub_list_dict, sub_dict_str, sub_dict_int, sub_dict_bool, sub_dict_tuple, sub_dict_list, sub_dict_dict, tru_non, tru_bl, tru_int, tru_str, tru_tup, tru_lst, eq_R, ne_R, isD_non, isD_bl, isD_int, isD_str, isD_tup, isD_lst, isDs_nil, isDs_cons, dep_non, dep_bl, dep_int, dep_str, dep_tup, dep_lst, deps_nil, deps_cons, ueq_ii, ueq_ss, ueq_bb, ueq_tt, ueq_ll, ueqs_nn, ueqs_cc, ueqs_cn, ueqs_nc, ix_s, ix_r, set_r, app_r, pop_r, ins_r, join_r, all_1, any_1, repr_1, newL_f, newL_t, sl_s, sl_t, sl_l, sl_r, in_t, in_l, in_r, tyMt_rl, tyMt_rd, tyMt_s, any_t, anyI_t, anyI_s, anyI_r, uVar_0, uVar_1, uVar_2, uVar_3, uVar_4, uVar_5, uVar_6, uVar_7, uVar_8, uVar_9, uVar_10, uVar_11, uVar_12, uVar_13, uVar_14, uVar_15, len_str, len_tup, len_lst, isi_non_str, isi_non_int, isi_non_bool, isi_non_tuple, isi_non_list, isi_non_dict, isi_non_tuple_list, isi_bl_str, isi_bl_int, isi_bl_bool, isi_bl_tuple, isi_bl_list, isi_bl_dict, isi_bl_tuple_list, isi_int_str, isi_int_int, isi_int_bool, isi_int_tuple, isi_int_list, isi_int_dict, isi_int_tuple_list, isi_str_str, isi_str_int, isi_str_bool, isi_str_tuple, isi_str_list, isi_str_dict, isi_str_tuple_list, isi_tup_str, isi_tup_int, isi_tup_bool, isi_tup_tuple, isi_tup_list, isi_tup_dict, isi_tup_tuple_list, isi_lst_str, isi_lst_int, isi_lst_bool, isi_lst_tuple, isi_lst_list, isi_lst_dict, isi_lst_tuple_list, uTru_K, uB_K, uPart_K, uRng_K, uOrV_K, uAndV_K, uNotV_K, uChain_K, uAug_K, truK_non, truK_bl, truK_int, truK_str, truK_tup, truK_lst, blK_bl, partK_int, rngK_int, tuple_t, tuple_l, len_ref, mul_rk, mul_rd, tuple_r, list_r, list_t, list_l, ix_tup_0, ix_lst_0, ix_tup_1, ix_lst_1, ix_tup_2, ix_lst_2, ix_tup_3, ix_lst_3, ix_tup_4, ix_lst_4, ixt_g, ixl_g, add_ll2, in_ss2, anyI_l2, isn_n, gTup_t, gCons_c, gNil_n, cle, clt, cge, cgt, ceq, cne, exists_eq_left', exists_eq_left, Option.some.injEq, U.int.injEq, U.bl.injEq, U.str.injEq, U.ref.injEq, U.tup.injEq, U.lst.injEq, U.ty.injEq, List.cons.injEq, and_true, true_and, and_self, List.map_cons, List.map_nil, List.length_cons, List.length_nil, List.cons_append, List.nil_append, List.append_nil, List.getElem?_cons_zero, List.getElem?_cons_succ, List.set_cons_zero, List.set_cons_succ, List.replicate, ↓reduceIte, Bool.false_eq_true, Bool.not_true, Bool.not_false, reduceCtorEq, Nat.reduceAdd, Nat.reduceSub, Nat.reduceLeDiff, Nat.reduceEqDiff, decide_true, decide_false, at0, at1, at2, at3, at4, ix0, ix1, ix2, ix3, ix4, updM_same, beq_self_eq_true, Option.bind, Option.map, wipeU, NT.put, puts, MO.lst.injEq, exists_and_left, decide_eq_true_eq, Bool.and_eq_true, Bool.or_eq_true, exists_eq', Nat.zero_le, true_or, or_true]
            exact q
          · simp only [uIfS, uOr, uAnd, uNot, uCB, uCons, uNil, uC, uRet, uNext, uOp, uUn, uTup, uLst, uIf, uAsg, uName, uDrop, uCall, uBM, uBM0, uSl, uNoPart, uSub, ustart, uSeq, uRng2, List.append_nil, uYes, add_ii, add_ss, add_tt, add_lr_, add_rl_, sub_ii, mul_ii, mod_ii, div_ii, pow_ii, lt_ii, lt_ss, le_ii, gt_ii, ge_ii, neg_i, int_i, aug_ii, isNon_non, isNon_bl, isNon_int, isNon_str, isNon_tup, isNon_lst, isNon_ref, val_non, val_bl, val_int, val_str, val_tup, val_lst, refV_lst, val_ref, refL_lst, listU_lst, listU_ref, seqU_lst, seqU_tup, seqU_ref, lenU_str, lenU_tup, lenU_lst, lenU_ref, tyM_non, tyM_bl, tyM_int, tyM_str, tyM_tup, tyM_lst, refT_lst, tyM_ref, okN_str, okN_int, okN_bool, okN_tuple, okN_list, okN_dict, sub_NoneType_str, sub_NoneType_int, sub_NoneType_bool, sub_NoneType_tuple, sub_NoneType_list, sub_NoneType_dict, sub_bool_str, sub_bool_int, sub_bool_bool, sub_bool_tuple, sub_bool_list, sub_bool_dict, sub_int_str, sub_int_int, sub_int_bool, sub_int_tuple, sub_int_list, sub_int_dict, sub_str_str, sub_str_int, sub_str_bool, sub_str_tuple, sub_str_list, sub_str_dict, sub_tuple_str, sub_tuple_int, sub_tuple_bool, sub_tuple_tuple, sub_tuple_list, sub_tuple_dict, sub_list_str, sub_list_int, sub_list_bool, sub_list_tuple, sub_list_list, sub_list_dict, sub_dict_str, sub_dict_int, sub_dict_bool, sub_dict_tuple, sub_dict_list, sub_dict_dict, tru_non, tru_bl, tru_int, tru_str, tru_tup, tru_lst, eq_R, ne_R, isD_non, isD_bl, isD_int, isD_str, isD_tup, isD_lst, isDs_nil, isDs_cons, dep_non, dep_bl, dep_int, dep_str, dep_tup, dep_lst, deps_nil, deps_cons, ueq_ii, ueq_ss, ueq_bb, ueq_tt, ueq_ll, ueqs_nn, ueqs_cc, ueqs_cn, ueqs_nc, ix_s, ix_r, set_r, app_r, pop_r, ins_r, join_r, all_1, any_1, repr_1, newL_f, newL_t, sl_s, sl_t, sl_l, sl_r, in_t, in_l, in_r, tyMt_rl, tyMt_rd, tyMt_s, any_t, anyI_t, anyI_s, anyI_r, uVar_0, uVar_1, uVar_2, uVar_3, uVar_4, uVar_5, uVar_6, uVar_7, uVar_8, uVar_9, uVar_10, uVar_11, uVar_12, uVar_13, uVar_14, uVar_15, len_str, len_tup, len_lst, isi_non_str, isi_non_int, isi_non_bool, isi_non_tuple, isi_non_list, isi_non_dict, isi_non_tuple_list, isi_bl_str, isi_bl_int, isi_bl_bool, isi_bl_tuple, isi_bl_list, isi_bl_dict, isi_bl_tuple_list, isi_int_str, isi_int_int, isi_int_bool, isi_int_tuple, isi_int_list, isi_int_dict, isi_int_tuple_list, isi_str_str, isi_str_int, isi_str_bool, isi_str_tuple, isi_str_list, isi_str_dict, isi_str_tuple_list, isi_tup_str, isi_tup_int, isi_tup_bool, isi_tup_tuple, isi_tup_list, isi_tup_dict, isi_tup_tuple_list, isi_lst_str, isi_lst_int, isi_lst_bool, isi_lst_tuple, isi_lst_list, isi_lst_dict, isi_lst_tuple_list, uTru_K, uB_K, uPart_K, uRng_K, uOrV_K, uAndV_K, uNotV_K, uChain_K, uAug_K, truK_non, truK_bl, truK_int, truK_str, truK_tup, truK_lst, blK_bl, partK_int, rngK_int, tuple_t, tuple_l, len_ref, mul_rk, mul_rd, tuple_r, list_r, list_t, list_l, ix_tup_0, ix_lst_0, ix_tup_1, ix_lst_1, ix_tup_2, ix_lst_2, ix_tup_3, ix_lst_3, ix_tup_4, ix_lst_4, ixt_g, ixl_g, add_ll2, in_ss2, anyI_l2, isn_n, gTup_t, gCons_c, gNil_n, cle, clt, cge, cgt, ceq, cne, exists_eq_left', exists_eq_left, Option.some.injEq, U.int.injEq, U.bl.injEq, U.str.injEq, U.ref.injEq, U.tup.injEq, U.lst.injEq, U.ty.injEq, List.cons.injEq, and_true, true_and, and_self, List.map_cons, List.map_nil, List.length_cons, List.length_nil, List.cons_append, List.nil_append, List.append_nil, List.getElem?_cons_zero, List.getElem?_cons_succ, List.set_cons_zero, List.set_cons_succ, List.replicate, ↓reduceIte, Bool.false_eq_true, Bool.not_true, Bool.not_false, reduceCtorEq, Nat.reduceAdd, Nat.reduceSub, Nat.reduceLeDiff, Nat.reduceEqDiff, decide_true, decide_false, at0, at1, at2, at3, at4, ix0, ix1, ix2, ix3, ix4, updM_same, beq_self_eq_true, Option.bind, Option.map, wipeU, NT.put, puts, MO.lst.injEq, exists_and_left, decide_eq_true_eq, Bool.and_eq_true, Bool.or_eq_true, exists_eq', Nat.zero_le, true_or, or_true, allU_map, Bool.true_and] at q ⊢
            exact q
        · have h3 : ¬ z.length < 9 := by omega
          have h0 : 0 < z.length := h1
          simp only [uIfS, uOr, uAnd, uNot, uCB, uCons, uNil, uC, uRet, uNext, uOp, uUn, uTup, uLst, uIf, uAsg, uName, uDrop, uCall, uBM, uBM0, uSl, uNoPart, uSub, ustart, uSeq, uRng2, List.append_nil, uYes, add_ii, add_ss, add_tt, add_lr_, add_rl_, sub_ii, mul_ii, mod_ii, div_ii, pow_ii, lt_ii, lt_ss, le_ii, gt_ii, ge_ii, neg_i, int_i, aug_ii, isNon_non, isNon_bl, isNon_int, isNon_str, isNon_tup, isNon_lst, isNon_ref, val_non, val_bl, val_int, val_str, val_tup, val_lst, refV_lst, val_ref, refL_lst, listU_lst, listU_ref, seqU_lst, seqU_tup, seqU_ref, lenU_str, lenU_tup, lenU_lst, lenU_ref, tyM_non, tyM_bl, tyM_int, tyM_str, tyM_tup, tyM_lst, refT_lst, tyM_ref, okN_str, okN_int, okN_bool, okN_tuple, okN_list, okN_dict, sub_NoneType_str, sub_NoneType_int, sub_NoneType_bool, sub_NoneType_tuple, sub_NoneType_list, sub_NoneType_dict, sub_bool_str, sub_bool_int, sub_bool_bool, sub_bool_tuple, sub_bool_list, sub_bool_dict, sub_int_str, sub_int_int, sub_int_bool, sub_int_tuple, sub_int_list, sub_int_dict, sub_str_str, sub_str_int, sub_str_bool, sub_str_tuple, sub_str_list, sub_str_dict, sub_tuple_str, sub_tuple_int, sub_tuple_bool, sub_tuple_tuple, sub_tuple_list, sub_tuple_dict, sub_list_str, sub_list_int, sub_list_bool, sub_list_tuple, sub_list_list, sub_list_dict, sub_dict_str, sub_dict_int, sub_dict_bool, sub_dict_tuple, sub_dict_list, sub_dict_dict, tru_non, tru_bl, tru_int, tru_str, tru_tup, tru_lst, eq_R, ne_R, isD_non, isD_bl, isD_int, isD_str, isD_tup, isD_lst, isDs_nil, isDs_cons, dep_non, dep_bl, dep_int, dep_str, dep_tup, dep_lst, deps_nil, deps_cons, ueq_ii, ueq_ss, ueq_bb, ueq_tt, ueq_ll, ueqs_nn, ueqs_cc, ueqs_cn, ueqs_nc, ix_s, ix_r, set_r, app_r, pop_r, ins_r, join_r, all_1, any_1, repr_1, newL_f, newL_t, sl_s, sl_t, sl_l, sl_r, in_t, in_l, in_r, tyMt_rl, tyMt_rd, tyMt_s, any_t, anyI_t, anyI_s, anyI_r, uVar_0, uVar_1, uVar_2, uVar_3, uVar_4, uVar_5, uVar_6, uVar_7, uVar_8, uVar_9, uVar_10, uVar_11, uVar_12, uVar_13, uVar_14, uVar_15, len_str, len_tup, len_lst, isi_non_str, isi_non_int, isi_non_bool, isi_non_tuple, isi_non_list, isi_non_dict, isi_non_tuple_list, isi_bl_str, isi_bl_int, isi_bl_bool, isi_bl_tuple, isi_bl_list, isi_bl_dict, isi_bl_tuple_list, isi_int_str, isi_int_int, isi_int_bool, isi_int_tuple, isi_int_list, isi_int_dict, isi_int_tuple_list, isi_str_str, isi_str_int, isi_str_bool, isi_str_tuple, isi_str_list, isi_str_dict, isi_str_tuple_list, isi_tup_str, isi_tup_int, isi_tup_bool, isi_tup_tuple, isi_tup_list, isi_tup_dict, isi_tup_tuple_list, isi_lst_str, isi_lst_int, isi_lst_bool, isi_lst_tuple, isi_lst_list, isi_lst_dict, isi_lst_tuple_list, uTru_K, uB_K, uPart_K, uRng_K, uOrV_K, uAndV_K, uNotV_K, uChain_K, uAug_K, truK_non, truK_bl, truK_int, truK_str, truK_tup, truK_lst, blK_bl, partK_int, rngK_int, tuple_t, tuple_l, len_ref, mul_rk, mul_rd, tuple_r, list_r, list_t, list_l, ix_tup_0, ix_lst_0, ix_tup_1, ix_lst_1, ix_tup_2, ix_lst_2, ix_tup_3, ix_lst_3, ix_tup_4, ix_lst_4, ixt_g, ixl_g, add_ll2, in_ss2, anyI_l2, isn_n, gTup_t, gCons_c, gNil_n, cle, clt, cge, cgt, ceq, cne, exists_eq_left', exists_eq_left, Option.some.injEq, U.int.injEq, U.bl.injEq, U.str.injEq, U.ref.injEq, U.tup.injEq, U.lst.injEq, U.ty.injEq, List.cons.injEq, and_true, true_and, and_self, List.map_cons, List.map_nil, List.length_cons, List.length_nil, List.cons_append, List.nil_append, List.append_nil, List.getElem?_cons_zero, List.getElem?_cons_succ, List.set_cons_zero, List.set_cons_succ, List.replicate, ↓reduceIte, Bool.false_eq_true, Bool.not_true, Bool.not_false, reduceCtorEq, Nat.reduceAdd, Nat.reduceSub, Nat.reduceLeDiff, Nat.reduceEqDiff, decide_true, decide_false, at0, at1, at2, at3, at4, ix0, ix1, ix2, ix3, ix4, updM_same, beq_self_eq_true, Option.bind, Option.map, wipeU, NT.put, puts, MO.lst.injEq, exists_and_left, decide_eq_true_eq, Bool.and_eq_true, Bool.or_eq_true, exists_eq', Nat.zero_le, true_or, or_true, h0, h1, h2, h3, Bool.true_and, Bool.false_and] at q ⊢
          exact q
      · have h0 : ¬ 0 < z.length := h1
        simp only [uIfS, uOr, uAnd, uNot, uCB, uCons, uNil, uC, uRet, uNext, uOp, uUn, uTup, uLst, uIf, uAsg, uName, uDrop, uCall, uBM, uBM0, uSl, uNoPart, uSub, ustart, uSeq, uRng2, List.append_nil, uYes, add_ii, add_ss, add_tt, add_lr_, add_rl_, sub_ii, mul_ii, mod_ii, div_ii, pow_ii, lt_ii, lt_ss, le_ii, gt_ii, ge_ii, neg_i, int_i, aug_ii, isNon_non, isNon_bl, isNon_int, isNon_str, isNon_tup, isNon_lst, isNon_ref, val_non, val_bl, val_int, val_str, val_tup, val_lst, refV_lst, val_ref, refL_lst, listU_lst, listU_ref, seqU_lst, seqU_tup, seqU_ref, lenU_str, lenU_tup, lenU_lst, lenU_ref, tyM_non, tyM_bl, tyM_int, tyM_str, tyM_tup, tyM_lst, refT_lst, tyM_ref, okN_str, okN_int, okN_bool, okN_tuple, okN_list, okN_dict, sub_NoneType_str, sub_NoneType_int, sub_NoneType_bool, sub_NoneType_tuple, sub_NoneType_list, sub_NoneType_dict, sub_bool_str, sub_bool_int, sub_bool_bool, sub_bool_tuple, sub_bool_list, sub_bool_dict, sub_int_str, sub_int_int, sub_int_bool, sub_int_tuple, sub_int_list, sub_int_dict, sub_str_str, sub_str_int, sub_str_bool, sub_str_tuple, sub_str_list, sub_str_dict, sub_tuple_str, sub_tuple_int, sub_tuple_bool, sub_tuple_tuple, sub_tuple_list, sub_tuple_dict, sub_list_str, sub_list_int, sub_list_bool, sub_list_tuple, sub_list_list, sub_list_dict, sub_dict_str, sub_dict_int, sub_dict_bool, sub_dict_tuple, sub_dict_list, sub_dict_dict, tru_non, tru_bl, tru_int, tru_str, tru_tup, tru_lst, eq_R, ne_R, isD_non, isD_bl, isD_int, isD_str, isD_tup, isD_lst, isDs_nil, isDs_cons, dep_non, dep_bl, dep_int, dep_str, dep_tup, dep_lst, deps_nil, deps_cons, ueq_ii, ueq_ss, ueq_bb, ueq_tt, ueq_ll, ueqs_nn, ueqs_cc, ueqs_cn, ueqs_nc, ix_s, ix_r, set_r, app_r, pop_r, ins_r, join_r, all_1, any_1, repr_1, newL_f, newL_t, sl_s, sl_t, sl_l, sl_r, in_t, in_l, in_r, tyMt_rl, tyMt_rd, tyMt_s, any_t, anyI_t, anyI_s, anyI_r, uVar_0, uVar_1, uVar_2, uVar_3, uVar_4, uVar_5, uVar_6, uVar_7, uVar_8, uVar_9, uVar_10, uVar_11, uVar_12, uVar_13, uVar_14, uVar_15, len_str, len_tup, len_lst, isi_non_str, isi_non_int, isi_non_bool, isi_non_tuple, isi_non_list, isi_non_dict, isi_non_tuple_list, isi_bl_str, isi_bl_int, isi_bl_bool, isi_bl_tuple, isi_bl_list, isi_bl_dict, isi_bl_tuple_list, isi_int_str, isi_int_int, isi_int_bool, isi_int_tuple, isi_int_list, isi_int_dict, isi_int_tuple_list, isi_str_str, isi_str_int, isi_str_bool, isi_str_tuple, isi_str_list, isi_str_dict, isi_str_tuple_list, isi_tup_str, isi_tup_int, isi_tup_bool, isi_tup_tuple, isi_tup_list, isi_tup_dict, isi_tup_tuple_list, isi_lst_str, isi_lst_int, isi_lst_bool, isi_lst_tuple, isi_lst_list, isi_lst_dict, isi_lst_tuple_list, uTru_K, uB_K, uPart_K, uRng_K, uOrV_K, uAndV_K, uNotV_K, uChain_K, uAug_K, truK_non, truK_bl, truK_int, truK_str, truK_tup, truK_lst, blK_bl, partK_int, rngK_int, tuple_t, tuple_l, len_ref, mul_rk, mul_rd, tuple_r, list_r, list_t, list_l, ix_tup_0, ix_lst_0, ix_tup_1, ix_lst_1, ix_tup_2, ix_lst_2, ix_tup_3, ix_lst_3, ix_tup_4, ix_lst_4, ixt_g, ixl_g, add_ll2, in_ss2, anyI_l2, isn_n, gTup_t, gCons_c, gNil_n, cle, clt, cge, cgt, ceq, cne, exists_eq_left', exists_eq_left, Option.some.injEq, U.int.injEq, U.bl.injEq, U.str.injEq, U.ref.injEq, U.tup.injEq, U.lst.injEq, U.ty.injEq, List.cons.injEq, and_true, true_and, and_self, List.map_cons, List.map_nil, List.length_cons, List.length_nil, List.cons_append, List.nil_append, List.append_nil, List.getElem?_cons_zero, List.getElem?_cons_succ, List.set_cons_zero, List.set_cons_succ, List.replicate, ↓reduceIte, Bool.false_eq_true, Bool.not_true, Bool.not_false, reduceCtorEq, Nat.reduceAdd, Nat.reduceSub, Nat.reduceLeDiff, Nat.reduceEqDiff, decide_true, decide_false, at0, at1, at2, at3, at4, ix0, ix1, ix2, ix3, ix4, updM_same, beq_self_eq_true, Option.bind, Option.map, wipeU, NT.put, puts, MO.lst.injEq, exists_and_left, decide_eq_true_eq, Bool.and_eq_true, Bool.or_eq_true, exists_eq', Nat.zero_le, true_or, or_true, h0, h1, Bool.true_and, Bool.false_and] at q ⊢
        exact q
    | ref a => simp [isD] at hx
    | ty n => simp [isD] at hx
    | _ =>
      simp only [isNameU] at q
      simp only [uIfS, uOr, uAnd, uNot, uCB, uCons, uNil, uC, uRet, uNext, uOp, uUn, uTup, uLst, uIf, uAsg, uName, uDrop, uCall, uBM, uBM0, uSl, uNoPart, uSub, ustart, uSeq, uRng2, List.append_nil, uYes, add_ii, add_ss, add_tt, add_lr_, add_rl_, sub_ii, mul_ii, mod_ii, div_ii, pow_ii, lt_ii, lt_ss, le_ii, gt_ii, ge_ii, neg_i, int_i, aug_ii, isNon_non, isNon_bl, isNon_int, isNon_str, isNon_tup, isNon_lst, isNon_ref, val_non, val_bl, val_int, val_str, val_tup, val_lst, refV_lst, val_ref, refL_lst, listU_lst, listU_ref, seqU_lst, seqU_tup, seqU_ref, lenU_str, lenU_tup, lenU_lst, lenU_ref, tyM_non, tyM_bl, tyM_int, tyM_str, tyM_tup, tyM_lst, refT_lst, tyM_ref, okN_str, okN_int, okN_bool, okN_tuple, okN_list, okN_dict, sub_NoneType_str, sub_NoneType_int, sub_NoneType_bool, sub_NoneType_tuple, sub_NoneType_list, sub_NoneType_dict, sub_bool_str, sub_bool_int, sub_bool_bool, sub_bool_tuple, sub_bool_list, sub_bool_dict, sub_int_str, sub_int_int, sub_int_bool, sub_int_tuple, sub_int_list, sub_int_dict, sub_str_str, sub_str_int, sub_str_bool, sub_str_tuple, sub_str_list, sub_str_dict, sub_tuple_str, sub_tuple_int, sub_tuple_bool, sub_tuple_tuple, sub_tuple_list, sub_tuple_dict, sub_list_str, sub_list_int, sub_list_bool, sub_list_tuple, sub_list_list, sub_list_dict, sub_dict_str, sub_dict_int, sub_dict_bool, sub_dict_tuple, sub_dict_list, sub_dict_dict, tru_non, tru_bl, tru_int, tru_str, tru_tup, tru_lst, eq_R, ne_R, isD_non, isD_bl, isD_int, isD_str, isD_tup, isD_lst, isDs_nil, isDs_cons, dep_non, dep_bl, dep_int, dep_str, dep_tup, dep_lst, deps_nil, deps_cons, ueq_ii, ueq_ss, ueq_bb, ueq_tt, ueq_ll, ueqs_nn, ueqs_cc, ueqs_cn, ueqs_nc, ix_s, ix_r, set_r, app_r, pop_r, ins_r, join_r, all_1, any_1, repr_1, newL_f, newL_t, sl_s, sl_t, sl_l, sl_r, in_t, in_l, in_r, tyMt_rl, tyMt_rd, tyMt_s, any_t, anyI_t, anyI_s, anyI_r, uVar_0, uVar_1, uVar_2, uVar_3, uVar_4, uVar_5, uVar_6, uVar_7, uVar_8, uVar_9, uVar_10, uVar_11, uVar_12, uVar_13, uVar_14, uVar_15, len_str, len_tup, len_lst, isi_non_str, isi_non_int, isi_non_bool, isi_non_tuple, isi_non_list, isi_non_dict, isi_non_tuple_list, isi_bl_str, isi_bl_int, isi_bl_bool, isi_bl_tuple, isi_bl_list, isi_bl_dict, isi_bl_tuple_list, isi_int_str, isi_int_int, isi_int_bool, isi_int_tuple, isi_int_list, isi_int_dict, isi_int_tuple_list, isi_str_str, isi_str_int, isi_str_bool, isi_str_tuple, isi_str_list, isi_str_dict, isi_str_tuple_list, isi_tup_str, isi_tup_int, isi_tup_bool, isi_tup_tuple, isi_tup_list, isi_tup_dict, isi_tup_tuple_list, isi_lst_str, isi_lst_int, isi_lst_bool, isi_lst_tuple, isi_lst_list, isi_lst_dict, isi_lst_tuple_list, uTru_K, uB_K, uPart_K, uRng_K, uOrV_K, uAndV_K, uNotV_K, uChain_K, uAug_K, truK_non, truK_bl, truK_int, truK_str, truK_tup, truK_lst, blK_bl, partK_int, rngK_int, tuple_t, tuple_l, len_ref, mul_rk, mul_rd, tuple_r, list_r, list_t, list_l, ix_tup_0, ix_lst_0, ix_tup_1, ix_lst_1, ix_tup_2, ix_lst_2, ix_tup_3, ix_lst_3, ix_tup_4, ix_lst_4, ixt_g, ixl_g, add_ll2, in_ss2, anyI_l2, isn_n, gTup_t, gCons_c, gNil_n, cle, clt, cge, cgt, ceq, cne, exists_eq_left', exists_eq_left, Option.some.injEq, U.int.injEq, U.bl.injEq, U.str.injEq, U.ref.injEq, U.tup.injEq, U.lst.injEq, U.ty.injEq, List.cons.injEq, and_true, true_and, and_self, List.map_cons, List.map_nil, List.length_cons, List.length_nil, List.cons_append, List.nil_append, List.append_nil, List.getElem?_cons_zero, List.getElem?_cons_succ, List.set_cons_zero, List.set_cons_succ, List.replicate, ↓reduceIte, Bool.false_eq_true, Bool.not_true, Bool.not_false, reduceCtorEq, Nat.reduceAdd, Nat.reduceSub, Nat.reduceLeDiff, Nat.reduceEqDiff, decide_true, decide_false, at0, at1, at2, at3, at4, ix0, ix1, ix2, ix3, ix4, updM_same, beq_self_eq_true, Option.bind, Option.map, wipeU, NT.put, puts, MO.lst.injEq, exists_and_left, decide_eq_true_eq, Bool.and_eq_true, Bool.or_eq_true, exists_eq', Nat.zero_le, true_or, or_true]
      exact q

/-! ### _law_is_path -/
def sp__law_is_path : USp := fun us M Q _ => ∃ x, us = [x] ∧ isD x = true ∧ Q (.bl (isPathU x)) M
theorem ok__law_is_path (L : Lw K mg) : UFn P w K mg base CX0 2 L.f__law_is_path L.fd__law_is_path ["_law_thing_here"] (sp__law_is_path) := by
  refine ufn_ok L.D__law_is_path.F sc__law_is_path (fun us M Q E h => ?_) (fun cdv A outer s H E hr hG =>
      (uss_one (us_ret (ue_and (ue_callB uc_isi (by rfl) L.n_isinstance bt_isi (ua_cons (uv 0) (ua_cons (ue_bltn (by rfl) L.n_tuple bt_tuple) ua_nil))) (ue_and (ue_cmp uo_lt (ue_callB uc_len (by rfl) L.n_len bt_len (ua_cons (uv 0) ua_nil)) ue_int (nomark _)) (ue_one (ue_callB (uc_all rfl) (by rfl) L.n_all bt_all (ua_cons (ue_lc (own := [("_law_one", 1)]) (n := (.one 1)) false rfl sc__law_is_path.nd (ui_any (uv 0)) (blkOk_by (own := [("_law_one", 1)]) (N := ["_law_thing_here", "_law_one"]) (sc := defScope s__law_is_path) (by decide +kernel)) (by decide) (fun _ _ _ _ _ => (pg_nt sc__law_is_path.nd rfl (.inl rfl))) (fun _ _ _ _ _ => uts_nil) (fun _ _ _ _ _ => (ue_call (ok__law_is_name L) (hr.mono (by decide)) hG rfl L.D__law_is_name.g L.D__law_is_name.F.kp L.D__law_is_name.b .nil (fun _ => RelUs.nil) (ua_cons (uv 1) ua_nil)))) ua_nil)))))))) (fun us M Q E h => ?_)
  · obtain ⟨x, rfl, _⟩ := h
    rfl
  · obtain ⟨x, rfl, hx, q⟩ := h
    have q : ZQ Q (.bl (isPathU x)) M := .inl q
    cases x with
    | tup xs =>
      have hxs := isDs_iff.mp (by simpa [isD] using hx)
      simp only [uIfS, uOr, uAnd, uNot, uCB, uCons, uNil, uC, uRet, uNext, uOp, uUn, uTup, uLst, uIf, uAsg, uName, uDrop, uCall, uBM, uBM0, uSl, uNoPart, uSub, ustart, uSeq, uRng2, List.append_nil, uYes, add_ii, add_ss, add_tt, add_lr_, add_rl_, sub_ii, mul_ii, mod_ii, div_ii, pow_ii, lt_ii, lt_ss, le_ii, gt_ii, ge_ii, neg_i, int_i, aug_ii, isNon_non, isNon_bl, isNon_int, isNon_str, isNon_tup, isNon_lst, isNon_ref, val_non, val_bl, val_int, val_str, val_tup, val_lst, refV_lst, val_ref, refL_lst, listU_lst, listU_ref, seqU_lst, seqU_tup, seqU_ref, lenU_str, lenU_tup, lenU_lst, lenU_ref, tyM_non, tyM_bl, tyM_int, tyM_str, tyM_tup, tyM_lst, refT_lst, tyM_ref, okN_str, okN_int, okN_bool, okN_tuple, okN_list, okN_dict, sub_NoneType_str, sub_NoneType_int, sub_NoneType_bool, sub_NoneType_tuple, sub_NoneType_list, sub_NoneType_dict, sub_bool_str, sub_bool_int, sub_bool_bool, sub_bool_tuple, sub_bool_list, sub_bool_dict, sub_int_str, sub_int_int, sub_int_bool, sub_int_tuple, sub_int_list, sub_int_dict, sub_str_str, sub_str_int, sub_str_bool, sub_str_tuple, sub_str_list, sub_str_dict, sub_tuple_str, sub_tuple_int, sub_tuple_bool, sub_tuple_tuple, sub_tuple_list, sub_tuple_dict, sub_list_str, sub_list_int, sub_list_bool, sub_list_tuple, sub_list_list, sub_list_dict, sub_dict_str, sub_dict_int, sub_dict_bool, sub_dict_tuple, sub_dict_list, sub_dict_dict, tru_non, tru_bl, tru_int, tru_str, tru_tup, tru_lst, eq_R, ne_R, isD_non, isD_bl, isD_int, isD_str, isD_tup, isD_lst, isDs_nil, isDs_cons, dep_non, dep_bl, dep_int, dep_str, dep_tup, dep_lst, deps_nil, deps_cons, ueq_ii, ueq_ss, ueq_bb, ueq_tt, ueq_ll, ueqs_nn, ueqs_cc, ueqs_cn, ueqs_nc, ix_s, ix_r, set_r, app_r, pop_r, ins_r, join_r, all_1, any_1, repr_1, newL_f, newL_t, sl_s, sl_t, sl_l, sl_r, in_t, in_l, in_r, tyMt_rl, tyMt_rd, tyMt_s, any_t, anyI_t, anyI_s, anyI_r, uVar_0, uVar_1, uVar_2, uVar_3, uVar_4, uVar_5, uVar_6, uVar_7, uVar_8, uVar_9, uVar_10, uVar_11, uVar_12, uVar_13, uVar_14, uVar_15, len_str, len_tup, len_lst, isi_non_str, isi_non_int, isi_non_bool, isi_non_tuple, isi_non_list, isi_non_dict, isi_non_tuple_list, isi_bl_str, isi_bl_int, isi_bl_bool, isi_bl_tuple, isi_bl_list, isi_bl_dict, isi_bl_tuple_list, isi_int_str, isi_int_int, isi_int_bool, isi_int_tuple, isi_int_list, isi_int_dict, isi_int_tuple_list, isi_str_str, isi_str_int, isi_str_bool, isi_str_tuple, isi_str_list, isi_str_dict, isi_str_tuple_list, isi_tup_str, isi_tup_int, isi_tup_bool, isi_tup_tuple, isi_tup_list, isi_tup_dict, isi_tup_tuple_list, isi_lst_str, isi_lst_int, isi_lst_bool, isi_lst_tuple, isi_lst_list, isi_lst_dict, isi_lst_tuple_list, uTru_K, uB_K, uPart_K, uRng_K, uOrV_K, uAndV_K, uNotV_K, uChain_K, uAug_K, truK_non, truK_bl, truK_int, truK_str, truK_tup, truK_lst, blK_bl, partK_int, rngK_int, tuple_t, tuple_l, len_ref, mul_rk, mul_rd, tuple_r, list_r, list_t, list_l, ix_tup_0, ix_lst_0, ix_tup_1, ix_lst_1, ix_tup_2, ix_lst_2, ix_tup_3, ix_lst_3, ix_tup_4, ix_lst_4, ixt_g, ixl_g, add_ll2, in_ss2, anyI_l2, isn_n, gTup_t, gCons_c, gNil_n, cle, clt, cge, cgt, ceq, cne, exists_eq_left', exists_eq_left, Option.some.injEq, U.int.injEq, U.bl.injEq, U.str.injEq, U.ref.injEq, U.tup.injEq, U.lst.injEq, U.ty.injEq, List.cons.injEq, and_true, true_and, and_self, List.map_cons, List.map_nil, List.length_cons, List.length_nil, List.cons_append, List.nil_append, List.append_nil, List.getElem?_cons_zero, List.getElem?_cons_succ, List.set_cons_zero, List.set_cons_succ, List.replicate, ↓reduceIte, Bool.false_eq_true, Bool.not_true, Bool.not_false, reduceCtorEq, Nat.reduceAdd, Nat.reduceSub, Nat.reduceLeDiff, Nat.reduceEqDiff, decide_true, decide_false, at0, at1, at2, at3, at4, ix0, ix1, ix2, ix3, ix4, updM_same, beq_self_eq_true, Option.bind, Option.map, wipeU, NT.put, puts, MO.lst.injEq, exists_and_left, decide_eq_true_eq, Bool.and_eq_true, Bool.or_eq_true, exists_eq', Nat.zero_le, true_or, or_true, isPathU] at q ⊢
      by_cases h1 : xs.length ≤ 8
      · have h3 : xs.length < 9 := by omega
        simp only [uIfS, uOr, uAnd, uNot, uCB, uCons, uNil, uC, uRet, uNext, uOp, uUn, uTup, uLst, uIf, uAsg, uName, uDrop, uCall, uBM, uBM0, uSl, uNoPart, uSub, ustart, uSeq, uRng2, List.append_nil, uYes, add_ii, add_ss, add_tt, add_lr_, add_rl_, sub_ii, mul_ii, mod_ii, div_ii, pow_ii, lt_ii, lt_ss, le_ii, gt_ii, ge_ii, neg_i, int_i, aug_ii, isNon_non, isNon_bl, isNon_int, isNon_str, isNon_tup, isNon_lst, isNon_ref, val_non, val_bl, val_int, val_str, val_tup, val_lst, refV_lst, val_ref, refL_lst, listU_lst, listU_ref, seqU_lst, seqU_tup, seqU_ref, lenU_str, lenU_tup, lenU_lst, lenU_ref, tyM_non, tyM_bl, tyM_int, tyM_str, tyM_tup, tyM_lst, refT_lst, tyM_ref, okN_str, okN_int, okN_bool, okN_tuple, okN_list, okN_dict, sub_NoneType_str, sub_NoneType_int, sub_NoneType_bool, sub_NoneType_tuple, sub_NoneType_list, sub_NoneType_dict, sub_bool_str, sub_bool_int, sub_bool_bool, sub_bool_tuple, sub_bool_list, sub_bool_dict, sub_int_str, sub_int_int, sub_int_bool, sub_int_tuple, sub_int_list, sub_int_dict, sub_str_str, sub_str_int, sub_str_bool, sub_str_tuple, sub_str_list, sub_str_dict, sub_tuple_str, sub_tuple_int, sub_tuple_bool, sub_tuple_tuple, sub_tuple_list, sub_tuple_dict, sub_list_str, sub_list_int, sub_list_bool, sub_list_tuple, sub_list_list, sub_list_dict, sub_dict_str, sub_dict_int, sub_dict_bool, sub_dict_tuple, sub_dict_list, sub_dict_dict, tru_non, tru_bl, tru_int, tru_str, tru_tup, tru_lst, eq_R, ne_R, isD_non, isD_bl, isD_int, isD_str, isD_tup, isD_lst, isDs_nil, isDs_cons, dep_non, dep_bl, dep_int, dep_str, dep_tup, dep_lst, deps_nil, deps_cons, ueq_ii, ueq_ss, ueq_bb, ueq_tt, ueq_ll, ueqs_nn, ueqs_cc, ueqs_cn, ueqs_nc, ix_s, ix_r, set_r, app_r, pop_r, ins_r, join_r, all_1, any_1, repr_1, newL_f, newL_t, sl_s, sl_t, sl_l, sl_r, in_t, in_l, in_r, tyMt_rl, tyMt_rd, tyMt_s, any_t, anyI_t, anyI_s, anyI_r, uVar_0, uVar_1, uVar_2, uVar_3, uVar_4, uVar_5, uVar_6, uVar_7, uVar_8, uVar_9, uVar_10, uVar_11, uVar_12, uVar_13, uVar_14, uVar_15, len_str, len_tup, len_lst, isi_non_str, isi_non_int, isi_non_bool, isi_non_tuple, isi_non_list, isi_non_dict, isi_non_tuple_list, isi_bl_str, isi_bl_int, isi_bl_bool, isi_bl_tuple, isi_bl_list, isi_bl_dict, isi_bl_tuple_list, isi_int_str, isi_int_int, isi_int_bool, isi_int_tuple, isi_int_list, isi_int_dict, isi_int_tuple_list, isi_str_str, isi_str_int, isi_str_bool, isi_str_tuple, isi_str_list, isi_str_dict, isi_str_tuple_list, isi_tup_str, isi_tup_int, isi_tup_bool, isi_tup_tuple, isi_tup_list, isi_tup_dict, isi_tup_tuple_list, isi_lst_str, isi_lst_int, isi_lst_bool, isi_lst_tuple, isi_lst_list, isi_lst_dict, isi_lst_tuple_list, uTru_K, uB_K, uPart_K, uRng_K, uOrV_K, uAndV_K, uNotV_K, uChain_K, uAug_K, truK_non, truK_bl, truK_int, truK_str, truK_tup, truK_lst, blK_bl, partK_int, rngK_int, tuple_t, tuple_l, len_ref, mul_rk, mul_rd, tuple_r, list_r, list_t, list_l, ix_tup_0, ix_lst_0, ix_tup_1, ix_lst_1, ix_tup_2, ix_lst_2, ix_tup_3, ix_lst_3, ix_tup_4, ix_lst_4, ixt_g, ixl_g, add_ll2, in_ss2, anyI_l2, isn_n, gTup_t, gCons_c, gNil_n, cle, clt, cge, cgt, ceq, cne, exists_eq_left', exists_eq_left, Option.some.injEq, U.int.injEq, U.bl.injEq, U.str.injEq, U.ref.injEq, U.tup.injEq, U.lst.injEq, U.ty.injEq, List.cons.injEq, and_true, true_and, and_self, List.map_cons, List.map_nil, List.length_cons, List.length_nil, List.cons_append, List.nil_append, List.append_nil, List.getElem?_cons_zero, List.getElem?_cons_succ, List.set_cons_zero, List.set_cons_succ, List.replicate, ↓reduceIte, Bool.false_eq_true, Bool.not_true, Bool.not_false, reduceCtorEq, Nat.reduceAdd, Nat.reduceSub, Nat.reduceLeDiff, Nat.reduceEqDiff, decide_true, decide_false, at0, at1, at2, at3, at4, ix0, ix1, ix2, ix3, ix4, updM_same, beq_self_eq_true, Option.bind, Option.map, wipeU, NT.put, puts, MO.lst.injEq, exists_and_left, decide_eq_true_eq, Bool.and_eq_true, Bool.or_eq_true, exists_eq', Nat.zero_le, true_or, or_true, h1, h3] at q ⊢
        simp only [uLc, uIfS, uOr, uAnd, uNot, uCB, uCons, uNil, uC, uRet, uNext, uOp, uUn, uTup, uLst, uIf, uAsg, uName, uDrop, uCall, uBM, uBM0, uSl, uNoPart, uSub, ustart, uSeq, uRng2, List.append_nil, uYes, add_ii, add_ss, add_tt, add_lr_, add_rl_, sub_ii, mul_ii, mod_ii, div_ii, pow_ii, lt_ii, lt_ss, le_ii, gt_ii, ge_ii, neg_i, int_i, aug_ii, isNon_non, isNon_bl, isNon_int, isNon_str, isNon_tup, isNon_lst, isNon_ref, val_non, val_bl, val_int, val_str, val_tup, val_lst, refV_lst, val_ref, refL_lst, listU_lst, listU_ref, seqU_lst, seqU_tup, seqU_ref, lenU_str, lenU_tup, lenU_lst, lenU_ref, tyM_non, tyM_bl, tyM_int, tyM_str, tyM_tup, tyM_lst, refT_lst, tyM_ref, okN_str, okN_int, okN_bool, okN_tuple, okN_list, okN_dict, sub_NoneType_str, sub_NoneType_int, sub_NoneType_bool, sub_NoneType_tuple, sub_NoneType_list, sub_NoneType_dict, sub_bool_str, sub_bool_int, sub_bool_bool, sub_bool_tuple, sub_bool_list, sub_bool_dict, sub_int_str, sub_int_int, sub_int_bool, sub_int_tuple, sub_int_list, sub_int_dict, sub_str_str, sub_str_int, sub_str_bool, sub_str_tuple, sub_str_list, sub_str_dict, sub_tuple_str, sub_tuple_int, sub_tuple_bool, sub_tuple_tuple, sub_tuple_list, sub_tuple_dict, sub_list_str, sub_list_int, sub_list_bool, sub_list_tuple, sub_list_list, sub_list_dict, sub_dict_str, sub_dict_int, sub_dict_bool, sub_dict_tuple, sub_dict_list, sub_dict_dict, tru_non, tru_bl, tru_int, tru_str, tru_tup, tru_lst, eq_R, ne_R, isD_non, isD_bl, isD_int, isD_str, isD_tup, isD_lst, isDs_nil, isDs_cons, dep_non, dep_bl, dep_int, dep_str, dep_tup, dep_lst, deps_nil, deps_cons, ueq_ii, ueq_ss, ueq_bb, ueq_tt, ueq_ll, ueqs_nn, ueqs_cc, ueqs_cn, ueqs_nc, ix_s, ix_r, set_r, app_r, pop_r, ins_r, join_r, all_1, any_1, repr_1, newL_f, newL_t, sl_s, sl_t, sl_l, sl_r, in_t, in_l, in_r, tyMt_rl, tyMt_rd, tyMt_s, any_t, anyI_t, anyI_s, anyI_r, uVar_0, uVar_1, uVar_2, uVar_3, uVar_4, uVar_5, uVar_6, uVar_7, uVar_8, uVar_9, uVar_10, uVar_11, uVar_12, uVar_13, uVar_14, uVar_15, len_str, len_tup, len_lst, isi_non_str, isi_non_int, isi_non_bool, isi_non_tuple, isi_non_list, isi_non_dict, isi_non_tuple_list, isi_bl_str, isi_bl_int, isi_bl_bool, isi_bl_tuple, isi_bl_list, isi_bl_dict, isi_bl_tuple_list, isi_int_str, isi_int_int, isi_int_bool, isi_int_tuple, isi_int_list, isi_int_dict, isi_int_tuple_list, isi_str_str, isi_str_int, isi_str_bool, isi_str_tuple, isi_str_list, isi_str_dict, isi_str_tuple_list, isi_tup_str, isi_tup_int, isi_tup_bool, isi_tup_tuple, isi_tup_list, isi_tup_dict, isi_tup_tuple_list, isi_lst_str, isi_lst_int, isi_lst_bool, isi_lst_tuple, isi_lst_list, isi_lst_dict, isi_lst_tuple_list, uTru_K, uB_K, uPart_K, uRng_K, uOrV_K, uAndV_K, uNotV_K, uChain_K, uAug_K, truK_non, truK_bl, truK_int, truK_str, truK_tup, truK_lst, blK_bl, partK_int, rngK_int, tuple_t, tuple_l, len_ref, mul_rk, mul_rd, tuple_r, list_r, list_t, list_l, ix_tup_0, ix_lst_0, ix_tup_1, ix_lst_1, ix_tup_2, ix_lst_2, ix_tup_3, ix_lst_3, ix_tup_4, ix_lst_4, ixt_g, ixl_g, add_ll2, in_ss2, anyI_l2, isn_n, gTup_t, gCons_c, gNil_n, cle, clt, cge, cgt, ceq, cne, exists_eq_left', exists_eq_left, Option.some.injEq, U.int.injEq, U.bl.injEq, U.str.injEq, U.ref.injEq, U.tup.injEq, U.lst.injEq, U.ty.injEq, List.cons.injEq, and_true, true_and, and_self, List.map_cons, List.map_nil, List.length_cons, List.length_nil, List.cons_append, List.nil_append, List.append_nil, List.getElem?_cons_zero, List.getElem?_cons_succ, List.set_cons_zero, List.set_cons_succ, List.replicate, ↓reduceIte, Bool.false_eq_true, Bool.not_true, Bool.not_false, reduceCtorEq, Nat.reduceAdd, Nat.reduceSub, Nat.reduceLeDiff, Nat.reduceEqDiff, decide_true, decide_false, at0, at1, at2, at3, at4, ix0, ix1, ix2, ix3, ix4, updM_same, beq_self_eq_true, Option.bind, Option.map, wipeU, NT.put, puts, MO.lst.injEq, exists_and_left, decide_eq_true_eq, Bool.and_eq_true, Bool.or_eq_true, exists_eq', Nat.zero_le, true_or, or_true]
        refine lc_map (fun x => .bl (isNameU x)) (fun _ _ _ => True.intro) (fun D acc hD x hx => ⟨_, rfl, fun Q q => ?_⟩) ?_
        · simp only [uIfS, uOr, uAnd, uNot, uCB, uCons, uNil, uC, uRet, uNext, uOp, uUn, uTup, uLst, uIf, uAsg, uName, uDrop, uCall, uBM, uBM0, uSl, uNoPart, uSub, ustart, uSeq, uRng2, List.append_nil, uYes, add_ii, add_ss, add_tt, add_lr_, add_rl_, sub_ii, mul_ii, mod_ii, div_ii, pow_ii, lt_ii, lt_ss, le_ii, gt_ii, ge_ii, neg_i, int_i, aug_ii, isNon_non, isNon_bl, isNon_int, isNon_str, isNon_tup, isNon_lst, isNon_ref, val_non, val_bl, val_int, val_str, val_tup, val_lst, refV_lst, val_ref, refL_lst, listU_lst, listU_ref, seqU_lst, seqU_tup, seqU_ref, lenU_str, lenU_tup, lenU_lst, lenU_ref, tyM_non, tyM_bl, tyM_int, tyM_str, tyM_tup, tyM_lst, refT_lst, tyM_ref, okN_str, okN_int, okN_bool, okN_tuple, okN_list, okN_dict, sub_NoneType_str, sub_NoneType_int, sub_NoneType_bool, sub_NoneType_tuple, sub_NoneType_list, sub_NoneType_dict, sub_bool_str, sub_bool_int, sub_bool_bool, sub_bool_tuple, sub_bool_list, sub_bool_dict, sub_int_str, sub_int_int, sub_int_bool, sub_int_tuple, sub_int_list, sub_int_dict, sub_str_str, sub_str_int, sub_str_bool, sub_str_tuple, sub_str_list, sub_str_dict, sub_tuple_str, sub_tuple_int, sub_tuple_bool, sub_tuple_tuple, sub_tuple_list, sub_tuple_dict, sub_list_str, sub_list_int, sub_list_bool, sub_list_tuple, sub_list_list, sub_list_dict, sub_dict_str, sub_dict_int, sub_dict_bool, sub_dict_tuple, sub_dict_list, sub_dict_dict, tru_non, tru_bl, tru_int, tru_str, tru_tup, tru_lst, eq_R, ne_R, isD_non, isD_bl, isD_int, isD_str, isD_tup, isD_lst, isDs_nil, isDs_cons, dep_non, dep_bl, dep_int, dep_str, dep_tup, dep_lst, deps_nil, deps_cons, ueq_ii, ueq_ss, ueq_bb, ueq_tt, ueq_ll, ueqs_nn, ueqs_cc, ueqs_cn, ueqs_nc, ix_s, ix_r, set_r, app_r, pop_r, ins_r, join_r, all_1, any_1, repr_1, newL_f, newL_t, sl_s, sl_t, sl_l, sl_r, in_t, in_l, in_r, tyMt_rl, tyMt_rd, tyMt_s, any_t, anyI_t, anyI_s, anyI_r, uVar_0, uVar_1, uVar_2, uVar_3, uVar_4, uVar_5, uVar_6, uVar_7, uVar_8, uVar_9, uVar_10, uVar_11, uVar_12, uVar_13, uVar_14, uVar_15, len_str, len_tup, len_lst, isi_non_str, isi_non_int, isi_non_bool, isi_non_tuple, isi_non_list, isi_non_dict, isi_non_tuple_list, isi_bl_str, isi_bl_int, isi_bl_bool, isi_bl_tuple, isi_bl_list, isi_bl_dict, isi_bl_tuple_list, isi_int_str, isi_int_int, isi_int_bool, isi_int_tuple, isi_int_list, isi_int_dict, isi_int_tuple_list, isi_str_str, isi_str_int, isi_str_bool, isi_str_tuple, isi_str_list, isi_str_dict, isi_str_tuple_list, isi_tup_str, isi_tup_int, isi_tup_bool, isi_tup_tuple, isi_tup_list, isi_tup_dict, isi_tup_tuple_list, isi_lst_str, isi_lst_int, isi_lst_bool, isi_lst_tuple, isi_lst_list, isi_lst_dict, isi_lst_tuple_list, uTru_K, uB_K, uPart_K, uRng_K, uOrV_K, uAndV_K, uNotV_K, uChain_K, uAug_K, truK_non, truK_bl, truK_int, truK_str, truK_tup, truK_lst, blK_bl, partK_int, rngK_int, tuple_t, tuple_l, len_ref, mul_rk, mul_rd, tuple_r, list_r, list_t, list_l, ix_tup_0, ix_lst_0, ix_tup_1, ix_lst_1, ix_tup_2, ix_lst_2, ix_tup_3, ix_lst_3, ix_tup_4, ix_lst_4, ixt_g, ixl_g, add_ll2, in_ss2, anyI_l2, isn_n, gTup_t, gCons_c, gNil_n, cle, clt, cge, cgt, ceq, cne, exists_eq_left', exists_eq_left, Option.some.injEq, U.int.injEq, U.bl.injEq, U.str.injEq, U.ref.injEq, U.tup.injEq, U.lst.injEq, U.ty.injEq, List.cons.injEq, and_true, true_and, and_self, List.map_cons, List.map_nil, List.length_cons, List.length_nil, List.cons_append, List.nil_append, List.append_nil, List.getElem?_cons_zero, List.getElem?_cons_succ, List.set_cons_zero, List.set_cons_succ, List.replicate, ↓reduceIte, Bool.false_eq_true, Bool.not_true, Bool.not_false, reduceCtorEq, Nat.reduceAdd, Nat.reduceSub, Nat.reduceLeDiff, Nat.reduceEqDiff, decide_true, decide_false, at0, at1, at2, at3, at4, ix0, ix1, ix2, ix3, ix4, updM_same, beq_self_eq_true, Option.bind, Option.map, wipeU, NT.put, puts, MO.lst.injEq, exists_and_left, decide_eq_true_eq, Bool.and_eq_true, Bool.or_eq_true, exists_eq', Nat.zero_le, true_or, or_true, sp__law_is_name]
          exact ⟨hxs x hx, q⟩
        · simp only [uIfS, uOr, uAnd, uNot, uCB, uCons, uNil, uC, uRet, uNext, uOp, uUn, uTup, uLst, uIf, uAsg, uName, uDrop, uCall, uBM, uBM0, uSl, uNoPart, uSub, ustart, uSeq, uRng2, List.append_nil, uYes, add_ii, add_ss, add_tt, add_lr_, add_rl_, sub_ii, mul_ii, mod_ii, div_ii, pow_ii, lt_ii, lt_ss, le_ii, gt_ii, ge_ii, neg_i, int_i, aug_ii, isNon_non, isNon_bl, isNon_int, isNon_str, isNon_tup, isNon_lst, isNon_ref, val_non, val_bl, val_int, val_str, val_tup, val_lst, refV_lst, val_ref, refL_lst, listU_lst, listU_ref, seqU_lst, seqU_tup, seqU_ref, lenU_str, lenU_tup, lenU_lst, lenU_ref, tyM_non, tyM_bl, tyM_int, tyM_str, tyM_tup, tyM_lst, refT_lst, tyM_ref, okN_str, okN_int, okN_bool, okN_tuple, okN_list, okN_dict, sub_NoneType_str, sub_NoneType_int, sub_NoneType_bool, sub_NoneType_tuple, sub_NoneType_list, sub_NoneType_dict, sub_bool_str, sub_bool_int, sub_bool_bool, sub_bool_tuple, sub_bool_list, sub_bool_dict, sub_int_str, sub_int_int, sub_int_bool, sub_int_tuple, sub_int_list, sub_int_dict, sub_str_str, sub_str_int, sub_str_bool, sub_str_tuple, sub_str_list, sub_str_dict, sub_tuple_str, sub_tuple_int, sub_tuple_bool, sub_tuple_tuple, sub_tuple_list, sub_tuple_dict, sub_list_str, sub_list_int, sub_list_bool, sub_list_tuple, sub_list_list, sub_list_dict, sub_dict_str, sub_dict_int, sub_dict_bool, sub_dict_tuple, sub_dict_list, sub_dict_dict, tru_non, tru_bl, tru_int, tru_str, tru_tup, tru_lst, eq_R, ne_R, isD_non, isD_bl, isD_int, isD_str, isD_tup, isD_lst, isDs_nil, isDs_cons, dep_non, dep_bl, dep_int, dep_str, dep_tup, dep_lst, deps_nil, deps_cons, ueq_ii, ueq_ss, ueq_bb, ueq_tt, ueq_ll, ueqs_nn, ueqs_cc, ueqs_cn, ueqs_nc, ix_s, ix_r, set_r, app_r, pop_r, ins_r, join_r, all_1, any_1, repr_1, newL_f, newL_t, sl_s, sl_t, sl_l, sl_r, in_t, in_l, in_r, tyMt_rl, tyMt_rd, tyMt_s, any_t, anyI_t, anyI_s, anyI_r, uVar_0, uVar_1, uVar_2, uVar_3, uVar_4, uVar_5, uVar_6, uVar_7, uVar_8, uVar_9, uVar_10, uVar_11, uVar_12, uVar_13, uVar_14, uVar_15, len_str, len_tup, len_lst, isi_non_str, isi_non_int, isi_non_bool, isi_non_tuple, isi_non_list, isi_non_dict, isi_non_tuple_list, isi_bl_str, isi_bl_int, isi_bl_bool, isi_bl_tuple, isi_bl_list, isi_bl_dict, isi_bl_tuple_list, isi_int_str, isi_int_int, isi_int_bool, isi_int_tuple, isi_int_list, isi_int_dict, isi_int_tuple_list, isi_str_str, isi_str_int, isi_str_bool, isi_str_tuple, isi_str_list, isi_str_dict, isi_str_tuple_list, isi_tup_str, isi_tup_int, isi_tup_bool, isi_tup_tuple, isi_tup_list, isi_tup_dict, isi_tup_tuple_list, isi_lst_str, isi_lst_int, isi_lst_bool, isi_lst_tuple, isi_lst_list, isi_lst_dict, isi_lst_tuple_list, uTru_K, uB_K, uPart_K, uRng_K, uOrV_K, uAndV_K, uNotV_K, uChain_K, uAug_K, truK_non, truK_bl, truK_int, truK_str, truK_tup, truK_lst, blK_bl, partK_int, rngK_int, tuple_t, tuple_l, len_ref, mul_rk, mul_rd, tuple_r, list_r, list_t, list_l, ix_tup_0, ix_lst_0, ix_tup_1, ix_lst_1, ix_tup_2, ix_lst_2, ix_tup_3, ix_lst_3, ix_tup_4, ix_lst_4, ixt_g, ixl_g, add_ll2, in_ss2, anyI_l2, isn_n, gTup_t, gCons_c, gNil_n, cle, clt, cge, cgt, ceq, cne, exists_eq_left', exists_eq_left, Option.some.injEq, U.int.injEq, U.bl.injEq, U.str.injEq, U.ref.injEq, U.tup.injEq, U.lst.injEq, U.ty.injEq, List.cons.injEq, and_true, true_and, and_self, List.map_cons, List.map_nil, List.length_cons, List.length_nil, List.cons_append, List.nil_append, List.append_nil, List.getElem?_cons_zero, List.getElem?_cons_succ, List.set_cons_zero, List.set_cons_succ, List.replicate, ↓reduceIte, Bool.false_eq_true, Bool.not_true, Bool.not_false, reduceCtorEq, Nat.reduceAdd, Nat.reduceSub, Nat.reduceLeDiff, Nat.reduceEqDiff, decide_true, decide_false, at0, at1, at2, at3, at4, ix0, ix1, ix2, ix3, ix4, updM_same, beq_self_eq_true, Option.bind, Option.map, wipeU, NT.put, puts, MO.lst.injEq, exists_and_left, decide_eq_true_eq, Bool.and_eq_true, Bool.or_eq_true, exists_eq', Nat.zero_le, true_or, or_true, allU_map, Bool.true_and] at q ⊢
          exact q
      · have h3 : ¬ xs.length < 9 := by omega
        simp only [uIfS, uOr, uAnd, uNot, uCB, uCons, uNil, uC, uRet, uNext, uOp, uUn, uTup, uLst, uIf, uAsg, uName, uDrop, uCall, uBM, uBM0, uSl, uNoPart, uSub, ustart, uSeq, uRng2, List.append_nil, uYes, add_ii, add_ss, add_tt, add_lr_, add_rl_, sub_ii, mul_ii, mod_ii, div_ii, pow_ii, lt_ii, lt_ss, le_ii, gt_ii, ge_ii, neg_i, int_i, aug_ii, isNon_non, isNon_bl, isNon_int, isNon_str, isNon_tup, isNon_lst, isNon_ref, val_non, val_bl, val_int, val_str, val_tup, val_lst, refV_lst, val_ref, refL_lst, listU_lst, listU_ref, seqU_lst, seqU_tup, seqU_ref, lenU_str, lenU_tup, lenU_lst, lenU_ref, tyM_non, tyM_bl, tyM_int, tyM_str, tyM_tup, tyM_lst, refT_lst, tyM_ref, okN_str, okN_int, okN_bool, okN_tuple, okN_list, okN_dict, sub_NoneType_str, sub_NoneType_int, sub_NoneType_bool, sub_NoneType_tuple, sub_NoneType_list, sub_NoneType_dict, sub_bool_str, sub_bool_int, sub_bool_bool, sub_bool_tuple, sub_bool_list, sub_bool_dict, sub_int_str, sub_int_int, sub_int_bool, sub_int_tuple, sub_int_list, sub_int_dict, sub_str_str, sub_str_int, sub_str_bool, sub_str_tuple, sub_str_list, sub_str_dict, sub_tuple_str, sub_tuple_int, sub_tuple_bool, sub_tuple_tuple, sub_tuple_list, sub_tuple_dict, sub_list_str, sub_list_int, sub_list_bool, sub_list_tuple, sub_list_list, sub_list_dict, sub_dict_str, sub_dict_int, sub_dict_bool, sub_dict_tuple, sub_dict_list, sub_dict_dict, tru_non, tru_bl, tru_int, tru_str, tru_tup, tru_lst, eq_R, ne_R, isD_non, isD_bl, isD_int, isD_str, isD_tup, isD_lst, isDs_nil, isDs_cons, dep_non, dep_bl, dep_int, dep_str, dep_tup, dep_lst, deps_nil, deps_cons, ueq_ii, ueq_ss, ueq_bb, ueq_tt, ueq_ll, ueqs_nn, ueqs_cc, ueqs_cn, ueqs_nc, ix_s, ix_r, set_r, app_r, pop_r, ins_r, join_r, all_1, any_1, repr_1, newL_f, newL_t, sl_s, sl_t, sl_l, sl_r, in_t, in_l, in_r, tyMt_rl, tyMt_rd, tyMt_s, any_t, anyI_t, anyI_s, anyI_r, uVar_0, uVar_1, uVar_2, uVar_3, uVar_4, uVar_5, uVar_6, uVar_7, uVar_8, uVar_9, uVar_10, uVar_11, uVar_12, uVar_13, uVar_14, uVar_15, len_str, len_tup, len_lst, isi_non_str, isi_non_int, isi_non_bool, isi_non_tuple, isi_non_list, isi_non_dict, isi_non_tuple_list, isi_bl_str, isi_bl_int, isi_bl_bool, isi_bl_tuple, isi_bl_list, isi_bl_dict, isi_bl_tuple_list, isi_int_str, isi_int_int, isi_int_bool, isi_int_tuple, isi_int_list, isi_int_dict, isi_int_tuple_list, isi_str_str, isi_str_int, isi_str_bool, isi_str_tuple, isi_str_list, isi_str_dict, isi_str_tuple_list, isi_tup_str, isi_tup_int, isi_tup_bool, isi_tup_tuple, isi_tup_list, isi_tup_dict, isi_tup_tuple_list, isi_lst_str, isi_lst_int, isi_lst_bool, isi_lst_tuple, isi_lst_list, isi_lst_dict, isi_lst_tuple_list, uTru_K, uB_K, uPart_K, uRng_K, uOrV_K, uAndV_K, uNotV_K, uChain_K, uAug_K, truK_non, truK_bl, truK_int, truK_str, truK_tup, truK_lst, blK_bl, partK_int, rngK_int, tuple_t, tuple_l, len_ref, mul_rk, mul_rd, tuple_r, list_r, list_t, list_l, ix_tup_0, ix_lst_0, ix_tup_1, ix_lst_1, ix_tup_2, ix_lst_2, ix_tup_3, ix_lst_3, ix_tup_4, ix_lst_4, ixt_g, ixl_g, add_ll2, in_ss2, anyI_l2, isn_n, gTup_t, gCons_c, gNil_n, cle, clt, cge, cgt, ceq, cne, exists_eq_left', exists_eq_left, Option.some.injEq, U.int.injEq, U.bl.injEq, U.str.injEq, U.ref.injEq, U.tup.injEq, U.lst.injEq, U.ty.injEq, List.cons.injEq, and_true, true_and, and_self, List.map_cons, List.map_nil, List.length_cons, List.length_nil, List.cons_append, List.nil_append, List.append_nil, List.getElem?_cons_zero, List.getElem?_cons_succ, List.set_cons_zero, List.set_cons_succ, List.replicate, ↓reduceIte, Bool.false_eq_true, Bool.not_true, Bool.not_false, reduceCtorEq, Nat.reduceAdd, Nat.reduceSub, Nat.reduceLeDiff, Nat.reduceEqDiff, decide_true, decide_false, at0, at1, at2, at3, at4, ix0, ix1, ix2, ix3, ix4, updM_same, beq_self_eq_true, Option.bind, Option.map, wipeU, NT.put, puts, MO.lst.injEq, exists_and_left, decide_eq_true_eq, Bool.and_eq_true, Bool.or_eq_true, exists_eq', Nat.zero_le, true_or, or_true, h1, h3, Bool.false_and] at q ⊢
        exact q
    | ref a => simp [isD] at hx
    | ty n => simp [isD] at hx
    | _ =>
      simp only [uIfS, uOr, uAnd, uNot, uCB, uCons, uNil, uC, uRet, uNext, uOp, uUn, uTup, uLst, uIf, uAsg, uName, uDrop, uCall, uBM, uBM0, uSl, uNoPart, uSub, ustart, uSeq, uRng2, List.append_nil, uYes, add_ii, add_ss, add_tt, add_lr_, add_rl_, sub_ii, mul_ii, mod_ii, div_ii, pow_ii, lt_ii, lt_ss, le_ii, gt_ii, ge_ii, neg_i, int_i, aug_ii, isNon_non, isNon_bl, isNon_int, isNon_str, isNon_tup, isNon_lst, isNon_ref, val_non, val_bl, val_int, val_str, val_tup, val_lst, refV_lst, val_ref, refL_lst, listU_lst, listU_ref, seqU_lst, seqU_tup, seqU_ref, lenU_str, lenU_tup, lenU_lst, lenU_ref, tyM_non, tyM_bl, tyM_int, tyM_str, tyM_tup, tyM_lst, refT_lst, tyM_ref, okN_str, okN_int, okN_bool, okN_tuple, okN_list, okN_dict, sub_NoneType_str, sub_NoneType_int, sub_NoneType_bool, sub_NoneType_tuple, sub_NoneType_list, sub_NoneType_dict, sub_bool_str, sub_bool_int, sub_bool_bool, sub_bool_tuple, sub_bool_list, sub_bool_dict, sub_int_str, sub_int_int, sub_int_bool, sub_int_tuple, sub_int_list, sub_int_dict, sub_str_str, sub_str_int, sub_str_bool, sub_str_tuple, sub_str_list, sub_str_dict, sub_tuple_str, sub_tuple_int, sub_tuple_bool, sub_tuple_tuple, sub_tuple_list, sub_tuple_dict, sub_list_str, sub_list_int, sub_list_bool, sub_list_tuple, sub_list_list, sub_list_dict, sub_dict_str, sub_dict_int, sub_dict_bool, sub_dict_tuple, sub_dict_list, sub_dict_dict, tru_non, tru_bl, tru_int, tru_str, tru_tup, tru_lst, eq_R, ne_R, isD_non, isD_bl, isD_int, isD_str, isD_tup, isD_lst, isDs_nil, isDs_cons, dep_non, dep_bl, dep_int, dep_str, dep_tup, dep_lst, deps_nil, deps_cons, ueq_ii, ueq_ss, ueq_bb, ueq_tt, ueq_ll, ueqs_nn, ueqs_cc, ueqs_cn, ueqs_nc, ix_s, ix_r, set_r, app_r, pop_r, ins_r, join_r, all_1, any_1, repr_1, newL_f, newL_t, sl_s, sl_t, sl_l, sl_r, in_t, in_l, in_r, tyMt_rl, tyMt_rd, tyMt_s, any_t, anyI_t, anyI_s, anyI_r, uVar_0, uVar_1, uVar_2, uVar_3, uVar_4, uVar_5, uVar_6, uVar_7, uVar_8, uVar_9, uVar_10, uVar_11, uVar_12, uVar_13, uVar_14, uVar_15, len_str, len_tup, len_lst, isi_non_str, isi_non_int, isi_non_bool, isi_non_tuple, isi_non_list, isi_non_dict, isi_non_tuple_list, isi_bl_str, isi_bl_int, isi_bl_bool, isi_bl_tuple, isi_bl_list, isi_bl_dict, isi_bl_tuple_list, isi_int_str, isi_int_int, isi_int_bool, isi_int_tuple, isi_int_list, isi_int_dict, isi_int_tuple_list, isi_str_str, isi_str_int, isi_str_bool, isi_str_tuple, isi_str_list, isi_str_dict, isi_str_tuple_list, isi_tup_str, isi_tup_int, isi_tup_bool, isi_tup_tuple, isi_tup_list, isi_tup_dict, isi_tup_tuple_list, isi_lst_str, isi_lst_int, isi_lst_bool, isi_lst_tuple, isi_lst_list, isi_lst_dict, isi_lst_tuple_list, uTru_K, uB_K, uPart_K, uRng_K, uOrV_K, uAndV_K, uNotV_K, uChain_K, uAug_K, truK_non, truK_bl, truK_int, truK_str, truK_tup, truK_lst, blK_bl, partK_int, rngK_int, tuple_t, tuple_l, len_ref, mul_rk, mul_rd, tuple_r, list_r, list_t, list_l, ix_tup_0, ix_lst_0, ix_tup_1, ix_lst_1, ix_tup_2, ix_lst_2, ix_tup_3, ix_lst_3, ix_tup_4, ix_lst_4, ixt_g, ixl_g, add_ll2, in_ss2, anyI_l2, isn_n, gTup_t, gCons_c, gNil_n, cle, clt, cge, cgt, ceq, cne, exists_eq_left', exists_eq_left, Option.some.injEq, U.int.injEq, U.bl.injEq, U.str.injEq, U.ref.injEq, U.tup.injEq, U.lst.injEq, U.ty.injEq, List.cons.injEq, and_true, true_and, and_self, List.map_cons, List.map_nil, List.length_cons, List.length_nil, List.cons_append, List.nil_append, List.append_nil, List.getElem?_cons_zero, List.getElem?_cons_succ, List.set_cons_zero, List.set_cons_succ, List.replicate, ↓reduceIte, Bool.false_eq_true, Bool.not_true, Bool.not_false, reduceCtorEq, Nat.reduceAdd, Nat.reduceSub, Nat.reduceLeDiff, Nat.reduceEqDiff, decide_true, decide_false, at0, at1, at2, at3, at4, ix0, ix1, ix2, ix3, ix4, updM_same, beq_self_eq_true, Option.bind, Option.map, wipeU, NT.put, puts, MO.lst.injEq, exists_and_left, decide_eq_true_eq, Bool.and_eq_true, Bool.or_eq_true, exists_eq', Nat.zero_le, true_or, or_true, isPathU] at q ⊢
      exact q

/-! ### _law_is_value -/
theorem ueq_link {a : U} : ueq a (.str "link") = true ↔ a = .str "link" := by
  cases a <;> simp [ueq]
theorem rep_link {a : U} (ok : okR a) : (rep a == rep (.str "link")) = ueq a (.str "link") := by
  have e : (rep (.str "link")).cps.toList = 39 :: ([108, 105, 110, 107] ++ [39]) := by decide +kernel
  cases h : ueq a (.str "link") with
  | true => rw [ueq_link.mp h]; exact beq_self_eq_true _
  | false =>
    refine beq_eq_false_iff_ne.mpr fun z => ?_
    have := rep_word ok (w := [108, 105, 110, 107]) (by decide) (by rw [z]; exact e)
    have e2 : (⟨[108, 105, 110, 107].toArray⟩ : Str) = "link" := by decide +kernel
    rw [e2] at this
    rw [ueq_link.mpr this] at h
    cases h
theorem okR.fst {a b : U} (ok : okR (.tup [a, b])) : okR a := by
  obtain ⟨h1, h2, h3, h4⟩ := ok
  simp only [isD, isDs, shw, shws, dep, deps, sz, szs, Bool.and_eq_true] at h1 h2 h3 h4
  exact ⟨h1.1, h2.1, by omega, by omega⟩
theorem okR_link : okR (.str "link") := (Dt.of (k := 0) (n := 100) (by decide +kernel)).okR (by decide) (by decide)
def sp__law_is_value : USp := fun us M Q _ => ∃ x, us = [x] ∧ okR x ∧ Q (.bl (isValueU x)) M
theorem ok__law_is_value (L : Lw K mg) : UFn P w K mg base CX0 3 L.f__law_is_value L.fd__law_is_value ["_law_thing_here"] (sp__law_is_value) := by
  refine ufn_ok L.D__law_is_value.F sc__law_is_value (fun us M Q E h => ?_) (fun cdv A outer s H E hr hG =>
      (uss_cons (us_if (ut_val (ue_callB uc_isi (by rfl) L.n_isinstance bt_isi (ua_cons (uv 0) (ua_cons (ue_bltn (by rfl) L.n_tuple bt_tuple) ua_nil)))) (uss_one (us_ret (ue_and (ue_cmp (uo_eq (hu6 hr)) (ue_callB uc_len (by rfl) L.n_len bt_len (ua_cons (uv 0) ua_nil)) ue_int (nomark _)) (ue_and (ue_call (ok__law_same L) (hr.mono (by decide)) hG rfl L.D__law_same.g L.D__law_same.F.kp L.D__law_same.b .nil (fun _ => RelUs.nil) (ua_cons (ue_ix (uv 0) ue_int) (ua_cons ue_str ua_nil))) (ue_one (ue_call (ok__law_is_path L) (hr.mono (by decide)) hG rfl L.D__law_is_path.g L.D__law_is_path.F.kp L.D__law_is_path.b .nil (fun _ => RelUs.nil) (ua_cons (ue_ix (uv 0) ue_int) ua_nil))))))) uss_nil)
      (uss_one (us_ret (ue_or (ue_call (ok__law_is_name L) (hr.mono (by decide)) hG rfl L.D__law_is_name.g L.D__law_is_name.F.kp L.D__law_is_name.b .nil (fun _ => RelUs.nil) (ua_cons (uv 0) ua_nil)) (ue_one (ue_and (ue_callB uc_isi (by rfl) L.n_isinstance bt_isi (ua_cons (uv 0) (ua_cons (ue_bltn (by rfl) L.n_int bt_int) ua_nil))) (ue_one (ue_not (ue_callB uc_isi (by rfl) L.n_isinstance bt_isi (ua_cons (uv 0) (ua_cons (ue_bltn (by rfl) L.n_bool bt_bool) ua_nil)))))))))))) (fun us M Q E h => ?_)
  · obtain ⟨x, rfl, _⟩ := h
    rfl
  · obtain ⟨x, rfl, ox, q⟩ := h
    have hx := ox.1
    have q : ZQ Q (.bl (isValueU x)) M := .inl q
    unfold isValueU at q
    cases x with
    | tup xs =>
      have hxs := isDs_iff.mp (by simpa [isD] using hx)
      by_cases h2 : xs.length = 2
      · match xs, h2 with
        | [a, b], _ =>
          have oa : okR a := ox.fst
          have hb : isD b = true := hxs b (by simp)
          simp only [uIfS, uOr, uAnd, uNot, uCB, uCons, uNil, uC, uRet, uNext, uOp, uUn, uTup, uLst, uIf, uAsg, uName, uDrop, uCall, uBM, uBM0, uSl, uNoPart, uSub, ustart, uSeq, uRng2, List.append_nil, uYes, add_ii, add_ss, add_tt, add_lr_, add_rl_, sub_ii, mul_ii, mod_ii, div_ii, pow_ii, lt_ii, lt_ss, le_ii, gt_ii, ge_ii, neg_i, int_i, aug_ii, isNon_non, isNon_bl, isNon_int, isNon_str, isNon_tup, isNon_lst, isNon_ref, val_non, val_bl, val_int, val_str, val_tup, val_lst, refV_lst, val_ref, refL_lst, listU_lst, listU_ref, seqU_lst, seqU_tup, seqU_ref, lenU_str, lenU_tup, lenU_lst, lenU_ref, tyM_non, tyM_bl, tyM_int, tyM_str, tyM_tup, tyM_lst, refT_lst, tyM_ref, okN_str, okN_int, okN_bool, okN_tuple, okN_list, okN_dict, sub_NoneType_str, sub_NoneType_int, sub_NoneType_bool, sub_NoneType_tuple, sub_NoneType_list, sub_NoneType_dict, sub_bool_str, sub_bool_int, sub_bool_bool, sub_bool_tuple, sub_bool_list, sub_bool_dict, sub_int_str, sub_int_int, sub_int_bool, sub_int_tuple, sub_int_list, sub_int_dict, sub_str_str, sub_str_int, sub_str_bool, sub_str_tuple, sub_str_list, sub_str_dict, sub_tuple_str, sub_tuple_int, sub_tuple_bool, sub_tuple_tuple, sub_tuple_list, sub_tuple_dict, sub_list_str, sub_list_int, sub_list_bool, sub_list_tuple, sub_list_list, sub_list_dict, sub_dict_str, sub_dict_int, sub_dict_bool, sub_dict_tuple, sub_dict_list, sub_dict_dict, tru_non, tru_bl, tru_int, tru_str, tru_tup, tru_lst, eq_R, ne_R, isD_non, isD_bl, isD_int, isD_str, isD_tup, isD_lst, isDs_nil, isDs_cons, dep_non, dep_bl, dep_int, dep_str, dep_tup, dep_lst, deps_nil, deps_cons, ueq_ii, ueq_ss, ueq_bb, ueq_tt, ueq_ll, ueqs_nn, ueqs_cc, ueqs_cn, ueqs_nc, ix_s, ix_r, set_r, app_r, pop_r, ins_r, join_r, all_1, any_1, repr_1, newL_f, newL_t, sl_s, sl_t, sl_l, sl_r, in_t, in_l, in_r, tyMt_rl, tyMt_rd, tyMt_s, any_t, anyI_t, anyI_s, anyI_r, uVar_0, uVar_1, uVar_2, uVar_3, uVar_4, uVar_5, uVar_6, uVar_7, uVar_8, uVar_9, uVar_10, uVar_11, uVar_12, uVar_13, uVar_14, uVar_15, len_str, len_tup, len_lst, isi_non_str, isi_non_int, isi_non_bool, isi_non_tuple, isi_non_list, isi_non_dict, isi_non_tuple_list, isi_bl_str, isi_bl_int, isi_bl_bool, isi_bl_tuple, isi_bl_list, isi_bl_dict, isi_bl_tuple_list, isi_int_str, isi_int_int, isi_int_bool, isi_int_tuple, isi_int_list, isi_int_dict, isi_int_tuple_list, isi_str_str, isi_str_int, isi_str_bool, isi_str_tuple, isi_str_list, isi_str_dict, isi_str_tuple_list, isi_tup_str, isi_tup_int, isi_tup_bool, isi_tup_tuple, isi_tup_list, isi_tup_dict, isi_tup_tuple_list, isi_lst_str, isi_lst_int, isi_lst_bool, isi_lst_tuple, isi_lst_list, isi_lst_dict, isi_lst_tuple_list, uTru_K, uB_K, uPart_K, uRng_K, uOrV_K, uAndV_K, uNotV_K, uChain_K, uAug_K, truK_non, truK_bl, truK_int, truK_str, truK_tup, truK_lst, blK_bl, partK_int, rngK_int, tuple_t, tuple_l, len_ref, mul_rk, mul_rd, tuple_r, list_r, list_t, list_l, ix_tup_0, ix_lst_0, ix_tup_1, ix_lst_1, ix_tup_2, ix_lst_2, ix_tup_3, ix_lst_3, ix_tup_4, ix_lst_4, ixt_g, ixl_g, add_ll2, in_ss2, anyI_l2, isn_n, gTup_t, gCons_c, gNil_n, cle, clt, cge, cgt, ceq, cne, exists_eq_left', exists_eq_left, Option.some.injEq, U.int.injEq, U.bl.injEq, U.str.injEq, U.ref.injEq, U.tup.injEq, U.lst.injEq, U.ty.injEq, List.cons.injEq, and_true, true_and, and_self, List.map_cons, List.map_nil, List.length_cons, List.length_nil, List.cons_append, List.nil_append, List.append_nil, List.getElem?_cons_zero, List.getElem?_cons_succ, List.set_cons_zero, List.set_cons_succ, List.replicate, ↓reduceIte, Bool.false_eq_true, Bool.not_true, Bool.not_false, reduceCtorEq, Nat.reduceAdd, Nat.reduceSub, Nat.reduceLeDiff, Nat.reduceEqDiff, decide_true, decide_false, at0, at1, at2, at3, at4, ix0, ix1, ix2, ix3, ix4, updM_same, beq_self_eq_true, Option.bind, Option.map, wipeU, NT.put, puts, MO.lst.injEq, exists_and_left, decide_eq_true_eq, Bool.and_eq_true, Bool.or_eq_true, exists_eq', Nat.zero_le, true_or, or_true, isIntU, isNameU, isLinkU, sp__law_same, Bool.false_or] at q ⊢
          refine ⟨a, .str "link", ⟨rfl, rfl⟩, oa, okR_link, ?_⟩
          rw [rep_link oa]
          cases hu : ueq a (.str "link") with
          | true =>
            simp only [uIfS, uOr, uAnd, uNot, uCB, uCons, uNil, uC, uRet, uNext, uOp, uUn, uTup, uLst, uIf, uAsg, uName, uDrop, uCall, uBM, uBM0, uSl, uNoPart, uSub, ustart, uSeq, uRng2, List.append_nil, uYes, add_ii, add_ss, add_tt, add_lr_, add_rl_, sub_ii, mul_ii, mod_ii, div_ii, pow_ii, lt_ii, lt_ss, le_ii, gt_ii, ge_ii, neg_i, int_i, aug_ii, isNon_non, isNon_bl, isNon_int, isNon_str, isNon_tup, isNon_lst, isNon_ref, val_non, val_bl, val_int, val_str, val_tup, val_lst, refV_lst, val_ref, refL_lst, listU_lst, listU_ref, seqU_lst, seqU_tup, seqU_ref, lenU_str, lenU_tup, lenU_lst, lenU_ref, tyM_non, tyM_bl, tyM_int, tyM_str, tyM_tup, tyM_lst, refT_lst, tyM_ref, okN_str, okN_int, okN_bool, okN_tuple, okN_list, okN_dict, sub_NoneType_str, sub_NoneType_int, sub_NoneType_bool, sub_NoneType_tuple, sub_NoneType_list, sub_NoneType_dict, sub_bool_str, sub_bool_int, sub_bool_bool, sub_bool_tuple, sub_bool_list, sub_bool_dict, sub_int_str, sub_int_int, sub_int_bool, sub_int_tuple, sub_int_list, sub_int_dict, sub_str_str, sub_str_int, sub_str_bool, sub_str_tuple, sub_str_list, sub_str_dict, sub_tuple_str, sub_tuple_int, sub_tuple_bool, sub_tuple_tuple, sub_tuple_list, sub_tuple_dict, sub_list_str, sub_list_int, sub_list_bool, sub_list_tuple, sub_list_list, sub_list_dict, sub_dict_str, sub_dict_int, sub_dict_bool, sub_dict_tuple, sub_dict_list, sub_dict_dict, tru_non, tru_bl, tru_int, tru_str, tru_tup, tru_lst, eq_R, ne_R, isD_non, isD_bl, isD_int, isD_str, isD_tup, isD_lst, isDs_nil, isDs_cons, dep_non, dep_bl, dep_int, dep_str, dep_tup, dep_lst, deps_nil, deps_cons, ueq_ii, ueq_ss, ueq_bb, ueq_tt, ueq_ll, ueqs_nn, ueqs_cc, ueqs_cn, ueqs_nc, ix_s, ix_r, set_r, app_r, pop_r, ins_r, join_r, all_1, any_1, repr_1, newL_f, newL_t, sl_s, sl_t, sl_l, sl_r, in_t, in_l, in_r, tyMt_rl, tyMt_rd, tyMt_s, any_t, anyI_t, anyI_s, anyI_r, uVar_0, uVar_1, uVar_2, uVar_3, uVar_4, uVar_5, uVar_6, uVar_7, uVar_8, uVar_9, uVar_10, uVar_11, uVar_12, uVar_13, uVar_14, uVar_15, len_str, len_tup, len_lst, isi_non_str, isi_non_int, isi_non_bool, isi_non_tuple, isi_non_list, isi_non_dict, isi_non_tuple_list, isi_bl_str, isi_bl_int, isi_bl_bool, isi_bl_tuple, isi_bl_list, isi_bl_dict, isi_bl_tuple_list, isi_int_str, isi_int_int, isi_int_bool, isi_int_tuple, isi_int_list, isi_int_dict, isi_int_tuple_list, isi_str_str, isi_str_int, isi_str_bool, isi_str_tuple, isi_str_list, isi_str_dict, isi_str_tuple_list, isi_tup_str, isi_tup_int, isi_tup_bool, isi_tup_tuple, isi_tup_list, isi_tup_dict, isi_tup_tuple_list, isi_lst_str, isi_lst_int, isi_lst_bool, isi_lst_tuple, isi_lst_list, isi_lst_dict, isi_lst_tuple_list, uTru_K, uB_K, uPart_K, uRng_K, uOrV_K, uAndV_K, uNotV_K, uChain_K, uAug_K, truK_non, truK_bl, truK_int, truK_str, truK_tup, truK_lst, blK_bl, partK_int, rngK_int, tuple_t, tuple_l, len_ref, mul_rk, mul_rd, tuple_r, list_r, list_t, list_l, ix_tup_0, ix_lst_0, ix_tup_1, ix_lst_1, ix_tup_2, ix_lst_2, ix_tup_3, ix_lst_3, ix_tup_4, ix_lst_4, ixt_g, ixl_g, add_ll2, in_ss2, anyI_l2, isn_n, gTup_t, gCons_c, gNil_n, cle, clt, cge, cgt, ceq, cne, exists_eq_left', exists_eq_left, Option.some.injEq, U.int.injEq, U.bl.injEq, U.str.injEq, U.ref.injEq, U.tup.injEq, U.lst.injEq, U.ty.injEq, List.cons.injEq, and_true, true_and, and_self, List.map_cons, List.map_nil, List.length_cons, List.length_nil, List.cons_append, List.nil_append, List.append_nil, List.getElem?_cons_zero, List.getElem?_cons_succ, List.set_cons_zero, List.set_cons_succ, List.replicate, ↓reduceIte, Bool.false_eq_true, Bool.not_true, Bool.not_false, reduceCtorEq, Nat.reduceAdd, Nat.reduceSub, Nat.reduceLeDiff, Nat.reduceEqDiff, decide_true, decide_false, at0, at1, at2, at3, at4, ix0, ix1, ix2, ix3, ix4, updM_same, beq_self_eq_true, Option.bind, Option.map, wipeU, NT.put, puts, MO.lst.injEq, exists_and_left, decide_eq_true_eq, Bool.and_eq_true, Bool.or_eq_true, exists_eq', Nat.zero_le, true_or, or_true, hu, sp__law_is_path, Bool.true_and] at q ⊢
            exact ⟨hb, q⟩
          | false =>
            simp only [uIfS, uOr, uAnd, uNot, uCB, uCons, uNil, uC, uRet, uNext, uOp, uUn, uTup, uLst, uIf, uAsg, uName, uDrop, uCall, uBM, uBM0, uSl, uNoPart, uSub, ustart, uSeq, uRng2, List.append_nil, uYes, add_ii, add_ss, add_tt, add_lr_, add_rl_, sub_ii, mul_ii, mod_ii, div_ii, pow_ii, lt_ii, lt_ss, le_ii, gt_ii, ge_ii, neg_i, int_i, aug_ii, isNon_non, isNon_bl, isNon_int, isNon_str, isNon_tup, isNon_lst, isNon_ref, val_non, val_bl, val_int, val_str, val_tup, val_lst, refV_lst, val_ref, refL_lst, listU_lst, listU_ref, seqU_lst, seqU_tup, seqU_ref, lenU_str, lenU_tup, lenU_lst, lenU_ref, tyM_non, tyM_bl, tyM_int, tyM_str, tyM_tup, tyM_lst, refT_lst, tyM_ref, okN_str, okN_int, okN_bool, okN_tuple, okN_list, okN_dict, sub_NoneType_str, sub_NoneType_int, sub_NoneType_bool, sub_NoneType_tuple, sub_NoneType_list, sub_NoneType_dict, sub_bool_str, sub_bool_int, sub_bool_bool, sub_bool_tuple, sub_bool_list, sub_bool_dict, sub_int_str, sub_int_int, sub_int_bool, sub_int_tuple, sub_int_list, sub_int_dict, sub_str_str, sub_str_int, sub_str_bool, sub_str_tuple, sub_str_list, sub_str_dict, sub_tuple_str, sub_tuple_int, sub_tuple_bool, sub_tuple_tuple, sub_tuple_list, sub_tuple_dict, sub_list_str, sub_list_int, sub_list_bool, sub_list_tuple, sub_list_list, sub_list_dict, sub_dict_str, sub_dict_int, sub_dict_bool, sub_dict_tuple, sub_dict_list, sub_dict_dict, tru_non, tru_bl, tru_int, tru_str, tru_tup, tru_lst, eq_R, ne_R, isD_non, isD_bl, isD_int, isD_str, isD_tup, isD_lst, isDs_nil, isDs_cons, dep_non, dep_bl, dep_int, dep_str, dep_tup, dep_lst, deps_nil, deps_cons, ueq_ii, ueq_ss, ueq_bb, ueq_tt, ueq_ll, ueqs_nn, ueqs_cc, ueqs_cn, ueqs_nc, ix_s, ix_r, set_r, app_r, pop_r, ins_r, join_r, all_1, any_1, repr_1, newL_f, newL_t, sl_s, sl_t, sl_l, sl_r, in_t, in_l, in_r, tyMt_rl, tyMt_rd, tyMt_s, any_t, anyI_t, anyI_s, anyI_r, uVar_0, uVar_1, uVar_2, uVar_3, uVar_4, uVar_5, uVar_6, uVar_7, uVar_8, uVar_9, uVar_10, uVar_11, uVar_12, uVar_13, uVar_14, uVar_15, len_str, len_tup, len_lst, isi_non_str, isi_non_int, isi_non_bool, isi_non_tuple, isi_non_list, isi_non_dict, isi_non_tuple_list, isi_bl_str, isi_bl_int, isi_bl_bool, isi_bl_tuple, isi_bl_list, isi_bl_dict, isi_bl_tuple_list, isi_int_str, isi_int_int, isi_int_bool, isi_int_tuple, isi_int_list, isi_int_dict, isi_int_tuple_list, isi_str_str, isi_str_int, isi_str_bool, isi_str_tuple, isi_str_list, isi_str_dict, isi_str_tuple_list, isi_tup_str, isi_tup_int, isi_tup_bool, isi_tup_tuple, isi_tup_list, isi_tup_dict, isi_tup_tuple_list, isi_lst_str, isi_lst_int, isi_lst_bool, isi_lst_tuple, isi_lst_list, isi_lst_dict, isi_lst_tuple_list, uTru_K, uB_K, uPart_K, uRng_K, uOrV_K, uAndV_K, uNotV_K, uChain_K, uAug_K, truK_non, truK_bl, truK_int, truK_str, truK_tup, truK_lst, blK_bl, partK_int, rngK_int, tuple_t, tuple_l, len_ref, mul_rk, mul_rd, tuple_r, list_r, list_t, list_l, ix_tup_0, ix_lst_0, ix_tup_1, ix_lst_1, ix_tup_2, ix_lst_2, ix_tup_3, ix_lst_3, ix_tup_4, ix_lst_4, ixt_g, ixl_g, add_ll2, in_ss2, anyI_l2, isn_n, gTup_t, gCons_c, gNil_n, cle, clt, cge, cgt, ceq, cne, exists_eq_left', exists_eq_left, Option.some.injEq, U.int.injEq, U.bl.injEq, U.str.injEq, U.ref.injEq, U.tup.injEq, U.lst.injEq, U.ty.injEq, List.cons.injEq, and_true, true_and, and_self, List.map_cons, List.map_nil, List.length_cons, List.length_nil, List.cons_append, List.nil_append, List.append_nil, List.getElem?_cons_zero, List.getElem?_cons_succ, List.set_cons_zero, List.set_cons_succ, List.replicate, ↓reduceIte, Bool.false_eq_true, Bool.not_true, Bool.not_false, reduceCtorEq, Nat.reduceAdd, Nat.reduceSub, Nat.reduceLeDiff, Nat.reduceEqDiff, decide_true, decide_false, at0, at1, at2, at3, at4, ix0, ix1, ix2, ix3, ix4, updM_same, beq_self_eq_true, Option.bind, Option.map, wipeU, NT.put, puts, MO.lst.injEq, exists_and_left, decide_eq_true_eq, Bool.and_eq_true, Bool.or_eq_true, exists_eq', Nat.zero_le, true_or, or_true, hu, Bool.false_and] at q ⊢
            exact q
      · have h3 : ((xs.length : Int) == 2) = false := beq_eq_false_iff_ne.mpr (by omega)
        simp only [uIfS, uOr, uAnd, uNot, uCB, uCons, uNil, uC, uRet, uNext, uOp, uUn, uTup, uLst, uIf, uAsg, uName, uDrop, uCall, uBM, uBM0, uSl, uNoPart, uSub, ustart, uSeq, uRng2, List.append_nil, uYes, add_ii, add_ss, add_tt, add_lr_, add_rl_, sub_ii, mul_ii, mod_ii, div_ii, pow_ii, lt_ii, lt_ss, le_ii, gt_ii, ge_ii, neg_i, int_i, aug_ii, isNon_non, isNon_bl, isNon_int, isNon_str, isNon_tup, isNon_lst, isNon_ref, val_non, val_bl, val_int, val_str, val_tup, val_lst, refV_lst, val_ref, refL_lst, listU_lst, listU_ref, seqU_lst, seqU_tup, seqU_ref, lenU_str, lenU_tup, lenU_lst, lenU_ref, tyM_non, tyM_bl, tyM_int, tyM_str, tyM_tup, tyM_lst, refT_lst, tyM_ref, okN_str, okN_int, okN_bool, okN_tuple, okN_list, okN_dict, sub_NoneType_str, sub_NoneType_int, sub_NoneType_bool, sub_NoneType_tuple, sub_NoneType_list, sub_NoneType_dict, sub_bool_str, sub_bool_int, sub_bool_bool, sub_bool_tuple, sub_bool_list, sub_bool_dict, sub_int_str, sub_int_int, sub_int_bool, sub_int_tuple, sub_int_list, sub_int_dict, sub_str_str, sub_str_int, sub_str_bool, sub_str_tuple, sub_str_list, sub_str_dict, sub_tuple_str, sub_tuple_int, sub_tuple_bool, sub_tuple_tuple, sub_tuple_list, sub_tuple_dict, sub_list_str, sub_list_int, sub_list_bool, sub_list_tuple, sub_list_list, sub_list_dict, sub_dict_str, sub_dict_int, sub_dict_bool, sub_dict_tuple, sub_dict_list, sub_dict_dict, tru_non, tru_bl, tru_int, tru_str, tru_tup, tru_lst, eq_R, ne_R, isD_non, isD_bl, isD_int, isD_str, isD_tup, isD_lst, isDs_nil, isDs_cons, dep_non, dep_bl, dep_int, dep_str, dep_tup, dep_lst, deps_nil, deps_cons, ueq_ii, ueq_ss, ueq_bb, ueq_tt, ueq_ll, ueqs_nn, ueqs_cc, ueqs_cn, ueqs_nc, ix_s, ix_r, set_r, app_r, pop_r, ins_r, join_r, all_1, any_1, repr_1, newL_f, newL_t, sl_s, sl_t, sl_l, sl_r, in_t, in_l, in_r, tyMt_rl, tyMt_rd, tyMt_s, any_t, anyI_t, anyI_s, anyI_r, uVar_0, uVar_1, uVar_2, uVar_3, uVar_4, uVar_5, uVar_6, uVar_7, uVar_8, uVar_9, uVar_10, uVar_11, uVar_12, uVar_13, uVar_14, uVar_15, len_str, len_tup, len_lst, isi_non_str, isi_non_int, isi_non_bool, isi_non_tuple, isi_non_list, isi_non_dict, isi_non_tuple_list, isi_bl_str, isi_bl_int, isi_bl_bool, isi_bl_tuple, isi_bl_list, isi_bl_dict, isi_bl_tuple_list, isi_int_str, isi_int_int, isi_int_bool, isi_int_tuple, isi_int_list, isi_int_dict, isi_int_tuple_list, isi_str_str, isi_str_int, isi_str_bool, isi_str_tuple, isi_str_list, isi_str_dict, isi_str_tuple_list, isi_tup_str, isi_tup_int, isi_tup_bool, isi_tup_tuple, isi_tup_list, isi_tup_dict, isi_tup_tuple_list, isi_lst_str, isi_lst_int, isi_lst_bool, isi_lst_tuple, isi_lst_list, isi_lst_dict, isi_lst_tuple_list, uTru_K, uB_K, uPart_K, uRng_K, uOrV_K, uAndV_K, uNotV_K, uChain_K, uAug_K, truK_non, truK_bl, truK_int, truK_str, truK_tup, truK_lst, blK_bl, partK_int, rngK_int, tuple_t, tuple_l, len_ref, mul_rk, mul_rd, tuple_r, list_r, list_t, list_l, ix_tup_0, ix_lst_0, ix_tup_1, ix_lst_1, ix_tup_2, ix_lst_2, ix_tup_3, ix_lst_3, ix_tup_4, ix_lst_4, ixt_g, ixl_g, add_ll2, in_ss2, anyI_l2, isn_n, gTup_t, gCons_c, gNil_n, cle, clt, cge, cgt, ceq, cne, exists_eq_left', exists_eq_left, Option.some.injEq, U.int.injEq, U.bl.injEq, U.str.injEq, U.ref.injEq, U.tup.injEq, U.lst.injEq, U.ty.injEq, List.cons.injEq, and_true, true_and, and_self, List.map_cons, List.map_nil, List.length_cons, List.length_nil, List.cons_append, List.nil_append, List.append_nil, List.getElem?_cons_zero, List.getElem?_cons_succ, List.set_cons_zero, List.set_cons_succ, List.replicate, ↓reduceIte, Bool.false_eq_true, Bool.not_true, Bool.not_false, reduceCtorEq, Nat.reduceAdd, Nat.reduceSub, Nat.reduceLeDiff, Nat.reduceEqDiff, decide_true, decide_false, at0, at1, at2, at3, at4, ix0, ix1, ix2, ix3, ix4, updM_same, beq_self_eq_true, Option.bind, Option.map, wipeU, NT.put, puts, MO.lst.injEq, exists_and_left, decide_eq_true_eq, Bool.and_eq_true, Bool.or_eq_true, exists_eq', Nat.zero_le, true_or, or_true, isLinkU_len h2, h3, isIntU, isNameU, Bool.false_or] at q ⊢
        exact q
    | ref a => simp [isD] at hx
    | ty n => simp [isD] at hx
    | str z =>
      simp only [uIfS, uOr, uAnd, uNot, uCB, uCons, uNil, uC, uRet, uNext, uOp, uUn, uTup, uLst, uIf, uAsg, uName, uDrop, uCall, uBM, uBM0, uSl, uNoPart, uSub, ustart, uSeq, uRng2, List.append_nil, uYes, add_ii, add_ss, add_tt, add_lr_, add_rl_, sub_ii, mul_ii, mod_ii, div_ii, pow_ii, lt_ii, lt_ss, le_ii, gt_ii, ge_ii, neg_i, int_i, aug_ii, isNon_non, isNon_bl, isNon_int, isNon_str, isNon_tup, isNon_lst, isNon_ref, val_non, val_bl, val_int, val_str, val_tup, val_lst, refV_lst, val_ref, refL_lst, listU_lst, listU_ref, seqU_lst, seqU_tup, seqU_ref, lenU_str, lenU_tup, lenU_lst, lenU_ref, tyM_non, tyM_bl, tyM_int, tyM_str, tyM_tup, tyM_lst, refT_lst, tyM_ref, okN_str, okN_int, okN_bool, okN_tuple, okN_list, okN_dict, sub_NoneType_str, sub_NoneType_int, sub_NoneType_bool, sub_NoneType_tuple, sub_NoneType_list, sub_NoneType_dict, sub_bool_str, sub_bool_int, sub_bool_bool, sub_bool_tuple, sub_bool_list, sub_bool_dict, sub_int_str, sub_int_int, sub_int_bool, sub_int_tuple, sub_int_list, sub_int_dict, sub_str_str, sub_str_int, sub_str_bool, sub_str_tuple, sub_str_list, sub_str_dict, sub_tuple_str, sub_tuple_int, sub_tuple_bool, sub_tuple_tuple, sub_tuple_list, sub_tuple_dict, sub_list_str, sub_list_int, sub_list_bool, sub_list_tuple, sub_list_list, sub_list_dict, sub_dict_str, sub_dict_int, sub_dict_bool, sub_dict_tuple, sub_dict_list, sub_dict_dict, tru_non, tru_bl, tru_int, tru_str, tru_tup, tru_lst, eq_R, ne_R, isD_non, isD_bl, isD_int, isD_str, isD_tup, isD_lst, isDs_nil, isDs_cons, dep_non, dep_bl, dep_int, dep_str, dep_tup, dep_lst, deps_nil, deps_cons, ueq_ii, ueq_ss, ueq_bb, ueq_tt, ueq_ll, ueqs_nn, ueqs_cc, ueqs_cn, ueqs_nc, ix_s, ix_r, set_r, app_r, pop_r, ins_r, join_r, all_1, any_1, repr_1, newL_f, newL_t, sl_s, sl_t, sl_l, sl_r, in_t, in_l, in_r, tyMt_rl, tyMt_rd, tyMt_s, any_t, anyI_t, anyI_s, anyI_r, uVar_0, uVar_1, uVar_2, uVar_3, uVar_4, uVar_5, uVar_6, uVar_7, uVar_8, uVar_9, uVar_10, uVar_11, uVar_12, uVar_13, uVar_14, uVar_15, len_str, len_tup, len_lst, isi_non_str, isi_non_int, isi_non_bool, isi_non_tuple, isi_non_list, isi_non_dict, isi_non_tuple_list, isi_bl_str, isi_bl_int, isi_bl_bool, isi_bl_tuple, isi_bl_list, isi_bl_dict, isi_bl_tuple_list, isi_int_str, isi_int_int, isi_int_bool, isi_int_tuple, isi_int_list, isi_int_dict, isi_int_tuple_list, isi_str_str, isi_str_int, isi_str_bool, isi_str_tuple, isi_str_list, isi_str_dict, isi_str_tuple_list, isi_tup_str, isi_tup_int, isi_tup_bool, isi_tup_tuple, isi_tup_list, isi_tup_dict, isi_tup_tuple_list, isi_lst_str, isi_lst_int, isi_lst_bool, isi_lst_tuple, isi_lst_list, isi_lst_dict, isi_lst_tuple_list, uTru_K, uB_K, uPart_K, uRng_K, uOrV_K, uAndV_K, uNotV_K, uChain_K, uAug_K, truK_non, truK_bl, truK_int, truK_str, truK_tup, truK_lst, blK_bl, partK_int, rngK_int, tuple_t, tuple_l, len_ref, mul_rk, mul_rd, tuple_r, list_r, list_t, list_l, ix_tup_0, ix_lst_0, ix_tup_1, ix_lst_1, ix_tup_2, ix_lst_2, ix_tup_3, ix_lst_3, ix_tup_4, ix_lst_4, ixt_g, ixl_g, add_ll2, in_ss2, anyI_l2, isn_n, gTup_t, gCons_c, gNil_n, cle, clt, cge, cgt, ceq, cne, exists_eq_left', exists_eq_left, Option.some.injEq, U.int.injEq, U.bl.injEq, U.str.injEq, U.ref.injEq, U.tup.injEq, U.lst.injEq, U.ty.injEq, List.cons.injEq, and_true, true_and, and_self, List.map_cons, List.map_nil, List.length_cons, List.length_nil, List.cons_append, List.nil_append, List.append_nil, List.getElem?_cons_zero, List.getElem?_cons_succ, List.set_cons_zero, List.set_cons_succ, List.replicate, ↓reduceIte, Bool.false_eq_true, Bool.not_true, Bool.not_false, reduceCtorEq, Nat.reduceAdd, Nat.reduceSub, Nat.reduceLeDiff, Nat.reduceEqDiff, decide_true, decide_false, at0, at1, at2, at3, at4, ix0, ix1, ix2, ix3, ix4, updM_same, beq_self_eq_true, Option.bind, Option.map, wipeU, NT.put, puts, MO.lst.injEq, exists_and_left, decide_eq_true_eq, Bool.and_eq_true, Bool.or_eq_true, exists_eq', Nat.zero_le, true_or, or_true, sp__law_is_name, isIntU, isLinkU, Bool.false_or, Bool.or_false] at q ⊢
      refine ⟨hx, ?_⟩
      cases h2 : isNameU (.str z) with
      | true =>
        simp only [uIfS, uOr, uAnd, uNot, uCB, uCons, uNil, uC, uRet, uNext, uOp, uUn, uTup, uLst, uIf, uAsg, uName, uDrop, uCall, uBM, uBM0, uSl, uNoPart, uSub, ustart, uSeq, uRng2, List.append_nil, uYes, add_ii, add_ss, add_tt, add_lr_, add_rl_, sub_ii, mul_ii, mod_ii, div_ii, pow_ii, lt_ii, lt_ss, le_ii, gt_ii, ge_ii, neg_i, int_i, aug_ii, isNon_non, isNon_bl, isNon_int, isNon_str, isNon_tup, isNon_lst, isNon_ref, val_non, val_bl, val_int, val_str, val_tup, val_lst, refV_lst, val_ref, refL_lst, listU_lst, listU_ref, seqU_lst, seqU_tup, seqU_ref, lenU_str, lenU_tup, lenU_lst, lenU_ref, tyM_non, tyM_bl, tyM_int, tyM_str, tyM_tup, tyM_lst, refT_lst, tyM_ref, okN_str, okN_int, okN_bool, okN_tuple, okN_list, okN_dict, sub_NoneType_str, sub_NoneType_int, sub_NoneType_bool, sub_NoneType_tuple, sub_NoneType_list, sub_NoneType_dict, sub_bool_str, sub_bool_int, sub_bool_bool, sub_bool_tuple, sub_bool_list, sub_bool_dict, sub_int_str, sub_int_int, sub_int_bool, sub_int_tuple, sub_int_list, sub_int_dict, sub_str_str, sub_str_int, sub_str_bool, sub_str_tuple, sub_str_list, sub_str_dict, sub_tuple_str, sub_tuple_int, sub_tuple_bool, sub_tuple_tuple, sub_tuple_list, sub_tuple_dict, sub_list_str, sub_list_int, sub_list_bool, sub_list_tuple, sub_list_list, sub_list_dict, sub_dict_str, sub_dict_int, sub_dict_bool, sub_dict_tuple, sub_dict_list, sub_dict_dict, tru_non, tru_bl, tru_int, tru_str, tru_tup, tru_lst, eq_R, ne_R, isD_non, isD_bl, isD_int, isD_str, isD_tup, isD_lst, isDs_nil, isDs_cons, dep_non, dep_bl, dep_int, dep_str, dep_tup, dep_lst, deps_nil, deps_cons, ueq_ii, ueq_ss, ueq_bb, ueq_tt, ueq_ll, ueqs_nn, ueqs_cc, ueqs_cn, ueqs_nc, ix_s, ix_r, set_r, app_r, pop_r, ins_r, join_r, all_1, any_1, repr_1, newL_f, newL_t, sl_s, sl_t, sl_l, sl_r, in_t, in_l, in_r, tyMt_rl, tyMt_rd, tyMt_s, any_t, anyI_t, anyI_s, anyI_r, uVar_0, uVar_1, uVar_2, uVar_3, uVar_4, uVar_5, uVar_6, uVar_7, uVar_8, uVar_9, uVar_10, uVar_11, uVar_12, uVar_13, uVar_14, uVar_15, len_str, len_tup, len_lst, isi_non_str, isi_non_int, isi_non_bool, isi_non_tuple, isi_non_list, isi_non_dict, isi_non_tuple_list, isi_bl_str, isi_bl_int, isi_bl_bool, isi_bl_tuple, isi_bl_list, isi_bl_dict, isi_bl_tuple_list, isi_int_str, isi_int_int, isi_int_bool, isi_int_tuple, isi_int_list, isi_int_dict, isi_int_tuple_list, isi_str_str, isi_str_int, isi_str_bool, isi_str_tuple, isi_str_list, isi_str_dict, isi_str_tuple_list, isi_tup_str, isi_tup_int, isi_tup_bool, isi_tup_tuple, isi_tup_list, isi_tup_dict, isi_tup_tuple_list, isi_lst_str, isi_lst_int, isi_lst_bool, isi_lst_tuple, isi_lst_list, isi_lst_dict, isi_lst_tuple_list, uTru_K, uB_K, uPart_K, uRng_K, uOrV_K, uAndV_K, uNotV_K, uChain_K, uAug_K, truK_non, truK_bl, truK_int, truK_str, truK_tup, truK_lst, blK_bl, partK_int, rngK_int, tuple_t, tuple_l, len_ref, mul_rk, mul_rd, tuple_r, list_r, list_t, list_l, ix_tup_0, ix_lst_0, ix_tup_1, ix_lst_1, ix_tup_2, ix_lst_2, ix_tup_3, ix_lst_3, ix_tup_4, ix_lst_4, ixt_g, ixl_g, add_ll2, in_ss2, anyI_l2, isn_n, gTup_t, gCons_c, gNil_n, cle, clt, cge, cgt, ceq, cne, exists_eq_left', exists_eq_left, Option.some.injEq, U.int.injEq, U.bl.injEq, U.str.injEq, U.ref.injEq, U.tup.injEq, U.lst.injEq, U.ty.injEq, List.cons.injEq, and_true, true_and, and_self, List.map_cons, List.map_nil, List.length_cons, List.length_nil, List.cons_append, List.nil_append, List.append_nil, List.getElem?_cons_zero, List.getElem?_cons_succ, List.set_cons_zero, List.set_cons_succ, List.replicate, ↓reduceIte, Bool.false_eq_true, Bool.not_true, Bool.not_false, reduceCtorEq, Nat.reduceAdd, Nat.reduceSub, Nat.reduceLeDiff, Nat.reduceEqDiff, decide_true, decide_false, at0, at1, at2, at3, at4, ix0, ix1, ix2, ix3, ix4, updM_same, beq_self_eq_true, Option.bind, Option.map, wipeU, NT.put, puts, MO.lst.injEq, exists_and_left, decide_eq_true_eq, Bool.and_eq_true, Bool.or_eq_true, exists_eq', Nat.zero_le, true_or, or_true, h2] at q ⊢
        exact q
      | false =>
        simp only [uIfS, uOr, uAnd, uNot, uCB, uCons, uNil, uC, uRet, uNext, uOp, uUn, uTup, uLst, uIf, uAsg, uName, uDrop, uCall, uBM, uBM0, uSl, uNoPart, uSub, ustart, uSeq, uRng2, List.append_nil, uYes, add_ii, add_ss, add_tt, add_lr_, add_rl_, sub_ii, mul_ii, mod_ii, div_ii, pow_ii, lt_ii, lt_ss, le_ii, gt_ii, ge_ii, neg_i, int_i, aug_ii, isNon_non, isNon_bl, isNon_int, isNon_str, isNon_tup, isNon_lst, isNon_ref, val_non, val_bl, val_int, val_str, val_tup, val_lst, refV_lst, val_ref, refL_lst, listU_lst, listU_ref, seqU_lst, seqU_tup, seqU_ref, lenU_str, lenU_tup, lenU_lst, lenU_ref, tyM_non, tyM_bl, tyM_int, tyM_str, tyM_tup, tyM_lst, refT_lst, tyM_ref, okN_str, okN_int, okN_bool, okN_tuple, okN_list, okN_dict, sub_NoneType_str, sub_NoneType_int, sub_NoneType_bool, sub_NoneType_tuple, sub_NoneType_list, sub_NoneType_dict, sub_bool_str, sub_bool_int, sub_bool_bool, sub_bool_tuple, sub_bool_list, sub_bool_dict, sub_int_str, sub_int_int, sub_int_bool, sub_int_tuple, sub_int_list, sub_int_dict, sub_str_str, sub_str_int, sub_str_bool, sub_str_tuple, sub_str_list, sub_str_dict, sub_tuple_str, sub_tuple_int, sub_tuple_bool, sub_tuple_tuple, sub_tuple_list, sub_tuple_dict, sub_list_str, sub_list_int, sub_list_bool, sub_list_tuple, sub_list_list, sub_list_dict, sub_dict_str, sub_dict_int, sub_dict_bool, sub_dict_tuple, sub_dict_list, sub_dict_dict, tru_non, tru_bl, tru_int, tru_str, tru_tup, tru_lst, eq_R, ne_R, isD_non, isD_bl, isD_int, isD_str, isD_tup, isD_lst, isDs_nil, isDs_cons, dep_non, dep_bl, dep_int, dep_str, dep_tup, dep_lst, deps_nil, deps_cons, ueq_ii, ueq_ss, ueq_bb, ueq_tt, ueq_ll, ueqs_nn, ueqs_cc, ueqs_cn, ueqs_nc, ix_s, ix_r, set_r, app_r, pop_r, ins_r, join_r, all_1, any_1, repr_1, newL_f, newL_t, sl_s, sl_t, sl_l, sl_r, in_t, in_l, in_r, tyMt_rl, tyMt_rd, tyMt_s, any_t, anyI_t, anyI_s, anyI_r, uVar_0, uVar_1, uVar_2, uVar_3, uVar_4, uVar_5, uVar_6, uVar_7, uVar_8, uVar_9, uVar_10, uVar_11, uVar_12, uVar_13, uVar_14, uVar_15, len_str, len_tup, len_lst, isi_non_str, isi_non_int, isi_non_bool, isi_non_tuple, isi_non_list, isi_non_dict, isi_non_tuple_list, isi_bl_str, isi_bl_int, isi_bl_bool, isi_bl_tuple, isi_bl_list, isi_bl_dict, isi_bl_tuple_list, isi_int_str, isi_int_int, isi_int_bool, isi_int_tuple, isi_int_list, isi_int_dict, isi_int_tuple_list, isi_str_str, isi_str_int, isi_str_bool, isi_str_tuple, isi_str_list, isi_str_dict, isi_str_tuple_list, isi_tup_str, isi_tup_int, isi_tup_bool, isi_tup_tuple, isi_tup_list, isi_tup_dict, isi_tup_tuple_list, isi_lst_str, isi_lst_int, isi_lst_bool, isi_lst_tuple, isi_lst_list, isi_lst_dict, isi_lst_tuple_list, uTru_K, uB_K, uPart_K, uRng_K, uOrV_K, uAndV_K, uNotV_K, uChain_K, uAug_K, truK_non, truK_bl, truK_int, truK_str, truK_tup, truK_lst, blK_bl, partK_int, rngK_int, tuple_t, tuple_l, len_ref, mul_rk, mul_rd, tuple_r, list_r, list_t, list_l, ix_tup_0, ix_lst_0, ix_tup_1, ix_lst_1, ix_tup_2, ix_lst_2, ix_tup_3, ix_lst_3, ix_tup_4, ix_lst_4, ixt_g, ixl_g, add_ll2, in_ss2, anyI_l2, isn_n, gTup_t, gCons_c, gNil_n, cle, clt, cge, cgt, ceq, cne, exists_eq_left', exists_eq_left, Option.some.injEq, U.int.injEq, U.bl.injEq, U.str.injEq, U.ref.injEq, U.tup.injEq, U.lst.injEq, U.ty.injEq, List.cons.injEq, and_true, true_and, and_self, List.map_cons, List.map_nil, List.length_cons, List.length_nil, List.cons_append, List.nil_append, List.append_nil, List.getElem?_cons_zero, List.getElem?_cons_succ, List.set_cons_zero, List.set_cons_succ, List.replicate, ↓reduceIte, Bool.false_eq_true, Bool.not_true, Bool.not_false, reduceCtorEq, Nat.reduceAdd, Nat.reduceSub, Nat.reduceLeDiff, Nat.reduceEqDiff, decide_true, decide_false, at0, at1, at2, at3, at4, ix0, ix1, ix2, ix3, ix4, updM_same, beq_self_eq_true, Option.bind, Option.map, wipeU, NT.put, puts, MO.lst.injEq, exists_and_left, decide_eq_true_eq, Bool.and_eq_true, Bool.or_eq_true, exists_eq', Nat.zero_le, true_or, or_true, h2] at q ⊢
        exact q
    | int i =>
      simp only [uIfS, uOr, uAnd, uNot, uCB, uCons, uNil, uC, uRet, uNext, uOp, uUn, uTup, uLst, uIf, uAsg, uName, uDrop, uCall, uBM, uBM0, uSl, uNoPart, uSub, ustart, uSeq, uRng2, List.append_nil, uYes, add_ii, add_ss, add_tt, add_lr_, add_rl_, sub_ii, mul_ii, mod_ii, div_ii, pow_ii, lt_ii, lt_ss, le_ii, gt_ii, ge_ii, neg_i, int_i, aug_ii, isNon_non, isNon_bl, isNon_int, isNon_str, isNon_tup, isNon_lst, isNon_ref, val_non, val_bl, val_int, val_str, val_tup, val_lst, refV_lst, val_ref, refL_lst, listU_lst, listU_ref, seqU_lst, seqU_tup, seqU_ref, lenU_str, lenU_tup, lenU_lst, lenU_ref, tyM_non, tyM_bl, tyM_int, tyM_str, tyM_tup, tyM_lst, refT_lst, tyM_ref, okN_str, okN_int, okN_bool, okN_tuple, okN_list, okN_dict, sub_NoneType_str, sub_NoneType_int, sub_NoneType_bool, sub_NoneType_tuple, sub_NoneType_list, sub_NoneType_dict, sub_bool_str, sub_bool_int, sub_bool_bool, sub_bool_tuple, sub_bool_list, sub_bool_dict, sub_int_str, sub_int_int, sub_int_bool, sub_int_tuple, sub_int_list, sub_int_dict, sub_str_str, sub_str_int, sub_str_bool, sub_str_tuple, sub_str_list, sub_str_dict, sub_tuple_str, sub_tuple_int, sub_tuple_bool, sub_tuple_tuple, sub_tuple_list, sub_tuple_dict, sub_list_str, sub_list_int, sub_list_bool, sub_list_tuple, sub_list_list, sub_list_dict, sub_dict_str, sub_dict_int, sub_dict_bool, sub_dict_tuple, sub_dict_list, sub_dict_dict, tru_non, tru_bl, tru_int, tru_str, tru_tup, tru_lst, eq_R, ne_R, isD_non, isD_bl, isD_int, isD_str, isD_tup, isD_lst, isDs_nil, isDs_cons, dep_non, dep_bl, dep_int, dep_str, dep_tup, dep_lst, deps_nil, deps_cons, ueq_ii, ueq_ss, ueq_bb, ueq_tt, ueq_ll, ueqs_nn, ueqs_cc, ueqs_cn, ueqs_nc, ix_s, ix_r, set_r, app_r, pop_r, ins_r, join_r, all_1, any_1, repr_1, newL_f, newL_t, sl_s, sl_t, sl_l, sl_r, in_t, in_l, in_r, tyMt_rl, tyMt_rd, tyMt_s, any_t, anyI_t, anyI_s, anyI_r, uVar_0, uVar_1, uVar_2, uVar_3, uVar_4, uVar_5, uVar_6, uVar_7, uVar_8, uVar_9, uVar_10, uVar_11, uVar_12, uVar_13, uVar_14, uVar_15, len_str, len_tup, len_lst, isi_non_str, isi_non_int, isi_non_bool, isi_non_tuple, isi_non_list, isi_non_dict, isi_non_tuple_list, isi_bl_str, isi_bl_int, isi_bl_bool, isi_bl_tuple, isi_bl_list, isi_bl_dict, isi_bl_tuple_list, isi_int_str, isi_int_int, isi_int_bool, isi_int_tuple, isi_int_list, isi_int_dict, isi_int_tuple_list, isi_str_str, isi_str_int, isi_str_bool, isi_str_tuple, isi_str_list, isi_str_dict, isi_str_tuple_list, isi_tup_str, isi_tup_int, isi_tup_bool, isi_tup_tuple, isi_tup_list, isi_tup_dict, isi_tup_tuple_list, isi_lst_str, isi_lst_int, isi_lst_bool, isi_lst_tuple, isi_lst_list, isi_lst_dict, isi_lst_tuple_list, uTru_K, uB_K, uPart_K, uRng_K, uOrV_K, uAndV_K, uNotV_K, uChain_K, uAug_K, truK_non, truK_bl, truK_int, truK_str, truK_tup, truK_lst, blK_bl, partK_int, rngK_int, tuple_t, tuple_l, len_ref, mul_rk, mul_rd, tuple_r, list_r, list_t, list_l, ix_tup_0, ix_lst_0, ix_tup_1, ix_lst_1, ix_tup_2, ix_lst_2, ix_tup_3, ix_lst_3, ix_tup_4, ix_lst_4, ixt_g, ixl_g, add_ll2, in_ss2, anyI_l2, isn_n, gTup_t, gCons_c, gNil_n, cle, clt, cge, cgt, ceq, cne, exists_eq_left', exists_eq_left, Option.some.injEq, U.int.injEq, U.bl.injEq, U.str.injEq, U.ref.injEq, U.tup.injEq, U.lst.injEq, U.ty.injEq, List.cons.injEq, and_true, true_and, and_self, List.map_cons, List.map_nil, List.length_cons, List.length_nil, List.cons_append, List.nil_append, List.append_nil, List.getElem?_cons_zero, List.getElem?_cons_succ, List.set_cons_zero, List.set_cons_succ, List.replicate, ↓reduceIte, Bool.false_eq_true, Bool.not_true, Bool.not_false, reduceCtorEq, Nat.reduceAdd, Nat.reduceSub, Nat.reduceLeDiff, Nat.reduceEqDiff, decide_true, decide_false, at0, at1, at2, at3, at4, ix0, ix1, ix2, ix3, ix4, updM_same, beq_self_eq_true, Option.bind, Option.map, wipeU, NT.put, puts, MO.lst.injEq, exists_and_left, decide_eq_true_eq, Bool.and_eq_true, Bool.or_eq_true, exists_eq', Nat.zero_le, true_or, or_true, sp__law_is_name, isIntU, isLinkU, isNameU, Bool.false_or, Bool.or_false] at q ⊢
      exact q
    | _ =>
      simp only [uIfS, uOr, uAnd, uNot, uCB, uCons, uNil, uC, uRet, uNext, uOp, uUn, uTup, uLst, uIf, uAsg, uName, uDrop, uCall, uBM, uBM0, uSl, uNoPart, uSub, ustart, uSeq, uRng2, List.append_nil, uYes, add_ii, add_ss, add_tt, add_lr_, add_rl_, sub_ii, mul_ii, mod_ii, div_ii, pow_ii, lt_ii, lt_ss, le_ii, gt_ii, ge_ii, neg_i, int_i, aug_ii, isNon_non, isNon_bl, isNon_int, isNon_str, isNon_tup, isNon_lst, isNon_ref, val_non, val_bl, val_int, val_str, val_tup, val_lst, refV_lst, val_ref, refL_lst, listU_lst, listU_ref, seqU_lst, seqU_tup, seqU_ref, lenU_str, lenU_tup, lenU_lst, lenU_ref, tyM_non, tyM_bl, tyM_int, tyM_str, tyM_tup, tyM_lst, refT_lst, tyM_ref, okN_str, okN_int, okN_bool, okN_tuple, okN_list, okN_dict, sub_NoneType_str, sub_NoneType_int, sub_NoneType_bool, sub_NoneType_tuple, sub_NoneType_list, sub_NoneType_dict, sub_bool_str, sub_bool_int, sub_bool_bool, sub_bool_tuple, sub_bool_list, sub_bool_dict, sub_int_str, sub_int_int, sub_int_bool, sub_int_tuple, sub_int_list, sub_int_dict, sub_str_str, sub_str_int, sub_str_bool, sub_str_tuple, sub_str_list, sub_str_dict, sub_tuple_str, sub_tuple_int, sub_tuple_bool, sub_tuple_tuple, sub_tuple_list, sub_tuple_dict, sub_list_str, sub_list_int, sub_list_bool, sub_list_tuple, sub_list_list, sub_list_dict, sub_dict_str, sub_dict_int, sub_dict_bool, sub_dict_tuple, sub_dict_list, sub_dict_dict, tru_non, tru_bl, tru_int, tru_str, tru_tup, tru_lst, eq_R, ne_R, isD_non, isD_bl, isD_int, isD_str, isD_tup, isD_lst, isDs_nil, isDs_cons, dep_non, dep_bl, dep_int, dep_str, dep_tup, dep_lst, deps_nil, deps_cons, ueq_ii, ueq_ss, ueq_bb, ueq_tt, ueq_ll, ueqs_nn, ueqs_cc, ueqs_cn, ueqs_nc, ix_s, ix_r, set_r, app_r, pop_r, ins_r, join_r, all_1, any_1, repr_1, newL_f, newL_t, sl_s, sl_t, sl_l, sl_r, in_t, in_l, in_r, tyMt_rl, tyMt_rd, tyMt_s, any_t, anyI_t, anyI_s, anyI_r, uVar_0, uVar_1, uVar_2, uVar_3, uVar_4, uVar_5, uVar_6, uVar_7, uVar_8, uVar_9, uVar_10, uVar_11, uVar_12, uVar_13, uVar_14, uVar_15, len_str, len_tup, len_lst, isi_non_str, isi_non_int, isi_non_bool, isi_non_tuple, isi_non_list, isi_non_dict, isi_non_tuple_list, isi_bl_str, isi_bl_int, isi_bl_bool, isi_bl_tuple, isi_bl_list, isi_bl_dict, isi_bl_tuple_list, isi_int_str, isi_int_int, isi_int_bool, isi_int_tuple, isi_int_list, isi_int_dict, isi_int_tuple_list, isi_str_str, isi_str_int, isi_str_bool, isi_str_tuple, isi_str_list, isi_str_dict, isi_str_tuple_list, isi_tup_str, isi_tup_int, isi_tup_bool, isi_tup_tuple, isi_tup_list, isi_tup_dict, isi_tup_tuple_list, isi_lst_str, isi_lst_int, isi_lst_bool, isi_lst_tuple, isi_lst_list, isi_lst_dict, isi_lst_tuple_list, uTru_K, uB_K, uPart_K, uRng_K, uOrV_K, uAndV_K, uNotV_K, uChain_K, uAug_K, truK_non, truK_bl, truK_int, truK_str, truK_tup, truK_lst, blK_bl, partK_int, rngK_int, tuple_t, tuple_l, len_ref, mul_rk, mul_rd, tuple_r, list_r, list_t, list_l, ix_tup_0, ix_lst_0, ix_tup_1, ix_lst_1, ix_tup_2, ix_lst_2, ix_tup_3, ix_lst_3, ix_tup_4, ix_lst_4, ixt_g, ixl_g, add_ll2, in_ss2, anyI_l2, isn_n, gTup_t, gCons_c, gNil_n, cle, clt, cge, cgt, ceq, cne, exists_eq_left', exists_eq_left, Option.some.injEq, U.int.injEq, U.bl.injEq, U.str.injEq, U.ref.injEq, U.tup.injEq, U.lst.injEq, U.ty.injEq, List.cons.injEq, and_true, true_and, and_self, List.map_cons, List.map_nil, List.length_cons, List.length_nil, List.cons_append, List.nil_append, List.append_nil, List.getElem?_cons_zero, List.getElem?_cons_succ, List.set_cons_zero, List.set_cons_succ, List.replicate, ↓reduceIte, Bool.false_eq_true, Bool.not_true, Bool.not_false, reduceCtorEq, Nat.reduceAdd, Nat.reduceSub, Nat.reduceLeDiff, Nat.reduceEqDiff, decide_true, decide_false, at0, at1, at2, at3, at4, ix0, ix1, ix2, ix3, ix4, updM_same, beq_self_eq_true, Option.bind, Option.map, wipeU, NT.put, puts, MO.lst.injEq, exists_and_left, decide_eq_true_eq, Bool.and_eq_true, Bool.or_eq_true, exists_eq', Nat.zero_le, true_or, or_true, sp__law_is_name, isIntU, isLinkU, isNameU, Bool.false_or, Bool.or_false] at q ⊢
      first | exact q | exact ⟨hx, q⟩

/-! ### _law_letters -/
def sp__law_letters : USp := fun us M Q _ => ∃ (s c : Addr) (n many : Nat), us = [.ref s, .int many] ∧ many ≤ 1000 ∧ Strm M s c (n + many) ∧
  ∀ z M', z.length = many → (∀ d ∈ z.cps.toList, 97 ≤ d ∧ d ≤ 122) → Strm M' s c n → But s c M M' → Q (.str z) M'
theorem letters_in : ∀ c ∈ ("abcdefghijklmnopqrstuvwxyz" : Str).cps.toList, 97 ≤ c ∧ c ≤ 122 := by decide +kernel
theorem letters_len : (("abcdefghijklmnopqrstuvwxyz" : Str).cps.toList.length : Int) = 26 := by decide +kernel
theorem at_draw' {xs : List Nat} {i : Int} (h0 : 0 ≤ i) (h1 : i < xs.length) : ∃ v, atI xs i = some v ∧ v ∈ xs := by
  have hj : i.toNat < xs.length := by omega
  refine ⟨xs[i.toNat], ?_, List.getElem_mem hj⟩
  unfold atI ixN
  rw [if_pos h0, if_pos h1]
  show xs[i.toNat]? = _
  exact List.getElem?_eq_getElem hj
theorem ok__law_letters (L : Lw K mg) : UFn P w K mg base CX0 2 L.f__law_letters L.fd__law_letters ["_law_stream", "_law_many"] (sp__law_letters) := by
  refine ufn_ok L.D__law_letters.F sc__law_letters (fun us M Q E h => ?_) (fun cdv A outer s H E hr hG =>
      (uss_cons (us_set (i := 2) sc__law_letters.nd rfl (.inr rfl) ue_str)
      (uss_one (us_ret (ue_bm PySem.F.plainAttrs_str PySem.F.slot_str_join PySem.F.type_str_join um_join ue_str (ua_cons (ue_lc (own := [("_law_k", 3)]) (n := (.one 3)) false rfl sc__law_letters.nd (ui_range1 (by rfl) L.n_range (ua_cons (uv 1) ua_nil)) (blkOk_by (own := [("_law_k", 3)]) (N := ["_law_stream", "_law_many", "_law_letters_here", "_law_k"]) (sc := defScope s__law_letters) (by decide +kernel)) (by decide) (fun _ _ _ _ _ => (pg_nt sc__law_letters.nd rfl (.inl rfl))) (fun _ _ _ _ _ => uts_nil) (fun _ _ _ _ _ => (ue_ix (uv 2) (ue_call (ok__law_draw L) (hr.mono (by decide)) hG rfl L.D__law_draw.g L.D__law_draw.F.kp L.D__law_draw.b .nil (fun _ => RelUs.nil) (ua_cons (uv 0) (ua_cons ue_int ua_nil)))))) ua_nil)))))) (fun us M Q E h => ?_)
  · obtain ⟨s, c, n, many, rfl, _⟩ := h
    rfl
  · obtain ⟨s, c, n, many, rfl, hm, hS, q⟩ := h
    have q : ∀ z M', z.length = many → (∀ d ∈ z.cps.toList, 97 ≤ d ∧ d ≤ 122) → Strm M' s c n → But s c M M' → ZQ Q (.str z) M' := fun z M' h1 h2 h3 h4 => .inl (q z M' h1 h2 h3 h4)
    simp only [uLc, uIfS, uOr, uAnd, uNot, uCB, uCons, uNil, uC, uRet, uNext, uOp, uUn, uTup, uLst, uIf, uAsg, uName, uDrop, uCall, uBM, uBM0, uSl, uNoPart, uSub, ustart, uSeq, uRng2, List.append_nil, uYes, add_ii, add_ss, add_tt, add_lr_, add_rl_, sub_ii, mul_ii, mod_ii, div_ii, pow_ii, lt_ii, lt_ss, le_ii, gt_ii, ge_ii, neg_i, int_i, aug_ii, isNon_non, isNon_bl, isNon_int, isNon_str, isNon_tup, isNon_lst, isNon_ref, val_non, val_bl, val_int, val_str, val_tup, val_lst, refV_lst, val_ref, refL_lst, listU_lst, listU_ref, seqU_lst, seqU_tup, seqU_ref, lenU_str, lenU_tup, lenU_lst, lenU_ref, tyM_non, tyM_bl, tyM_int, tyM_str, tyM_tup, tyM_lst, refT_lst, tyM_ref, okN_str, okN_int, okN_bool, okN_tuple, okN_list, okN_dict, sub_NoneType_str, sub_NoneType_int, sub_NoneType_bool, sub_NoneType_tuple, sub_NoneType_list, sub_NoneType_dict, sub_bool_str, sub_bool_int, sub_bool_bool, sub_bool_tuple, sub_bool_list, sub_bool_dict, sub_int_str, sub_int_int, sub_int_bool, sub_int_tuple, sub_int_list, sub_int_dict, sub_str_str, sub_str_int, sub_str_bool, sub_str_tuple, sub_str_list, sub_str_dict, sub_tuple_str, sub_tuple_int, sub_tuple_bool, sub_tuple_tuple, sub_tuple_list, sub_tuple_dict, sub_list_str, sub_list_int, sub_list_bool, sub_list_tuple, sub_list_list, sub_list_dict, sub_dict_str, sub_dict_int, sub_dict_bool, sub_dict_tuple, sub_dict_list, sub_dict_dict, tru_non, tru_bl, tru_int, tru_str, tru_tup, tru_lst, eq_R, ne_R, isD_non, isD_bl, isD_int, isD_str, isD_tup, isD_lst, isDs_nil, isDs_cons, dep_non, dep_bl, dep_int, dep_str, dep_tup, dep_lst, deps_nil, deps_cons, ueq_ii, ueq_ss, ueq_bb, ueq_tt, ueq_ll, ueqs_nn, ueqs_cc, ueqs_cn, ueqs_nc, ix_s, ix_r, set_r, app_r, pop_r, ins_r, join_r, all_1, any_1, repr_1, newL_f, newL_t, sl_s, sl_t, sl_l, sl_r, in_t, in_l, in_r, tyMt_rl, tyMt_rd, tyMt_s, any_t, anyI_t, anyI_s, anyI_r, uVar_0, uVar_1, uVar_2, uVar_3, uVar_4, uVar_5, uVar_6, uVar_7, uVar_8, uVar_9, uVar_10, uVar_11, uVar_12, uVar_13, uVar_14, uVar_15, len_str, len_tup, len_lst, isi_non_str, isi_non_int, isi_non_bool, isi_non_tuple, isi_non_list, isi_non_dict, isi_non_tuple_list, isi_bl_str, isi_bl_int, isi_bl_bool, isi_bl_tuple, isi_bl_list, isi_bl_dict, isi_bl_tuple_list, isi_int_str, isi_int_int, isi_int_bool, isi_int_tuple, isi_int_list, isi_int_dict, isi_int_tuple_list, isi_str_str, isi_str_int, isi_str_bool, isi_str_tuple, isi_str_list, isi_str_dict, isi_str_tuple_list, isi_tup_str, isi_tup_int, isi_tup_bool, isi_tup_tuple, isi_tup_list, isi_tup_dict, isi_tup_tuple_list, isi_lst_str, isi_lst_int, isi_lst_bool, isi_lst_tuple, isi_lst_list, isi_lst_dict, isi_lst_tuple_list, uTru_K, uB_K, uPart_K, uRng_K, uOrV_K, uAndV_K, uNotV_K, uChain_K, uAug_K, truK_non, truK_bl, truK_int, truK_str, truK_tup, truK_lst, blK_bl, partK_int, rngK_int, tuple_t, tuple_l, len_ref, mul_rk, mul_rd, tuple_r, list_r, list_t, list_l, ix_tup_0, ix_lst_0, ix_tup_1, ix_lst_1, ix_tup_2, ix_lst_2, ix_tup_3, ix_lst_3, ix_tup_4, ix_lst_4, ixt_g, ixl_g, add_ll2, in_ss2, anyI_l2, isn_n, gTup_t, gCons_c, gNil_n, cle, clt, cge, cgt, ceq, cne, exists_eq_left', exists_eq_left, Option.some.injEq, U.int.injEq, U.bl.injEq, U.str.injEq, U.ref.injEq, U.tup.injEq, U.lst.injEq, U.ty.injEq, List.cons.injEq, and_true, true_and, and_self, List.map_cons, List.map_nil, List.length_cons, List.length_nil, List.cons_append, List.nil_append, List.append_nil, List.getElem?_cons_zero, List.getElem?_cons_succ, List.set_cons_zero, List.set_cons_succ, List.replicate, ↓reduceIte, Bool.false_eq_true, Bool.not_true, Bool.not_false, reduceCtorEq, Nat.reduceAdd, Nat.reduceSub, Nat.reduceLeDiff, Nat.reduceEqDiff, decide_true, decide_false, at0, at1, at2, at3, at4, ix0, ix1, ix2, ix3, ix4, updM_same, beq_self_eq_true, Option.bind, Option.map, wipeU, NT.put, puts, MO.lst.injEq, exists_and_left, decide_eq_true_eq, Bool.and_eq_true, Bool.or_eq_true, exists_eq', Nat.zero_le, true_or, or_true]
    refine ⟨by omega, by omega, line_le (by omega), ?_⟩
    refine lc_strmF (k := 1) (N := n) (fun x => ∃ c, x = .str (one c) ∧ 97 ≤ c ∧ c ≤ 122) (hS.le (by rw [range_len]; omega)) (fun x hx => ⟨_, rfl, fun M N' hS2 Q q => ?_⟩) fun ys M' hl hP hS3 hB3 => ?_
    · simp only [uIfS, uOr, uAnd, uNot, uCB, uCons, uNil, uC, uRet, uNext, uOp, uUn, uTup, uLst, uIf, uAsg, uName, uDrop, uCall, uBM, uBM0, uSl, uNoPart, uSub, ustart, uSeq, uRng2, List.append_nil, uYes, add_ii, add_ss, add_tt, add_lr_, add_rl_, sub_ii, mul_ii, mod_ii, div_ii, pow_ii, lt_ii, lt_ss, le_ii, gt_ii, ge_ii, neg_i, int_i, aug_ii, isNon_non, isNon_bl, isNon_int, isNon_str, isNon_tup, isNon_lst, isNon_ref, val_non, val_bl, val_int, val_str, val_tup, val_lst, refV_lst, val_ref, refL_lst, listU_lst, listU_ref, seqU_lst, seqU_tup, seqU_ref, lenU_str, lenU_tup, lenU_lst, lenU_ref, tyM_non, tyM_bl, tyM_int, tyM_str, tyM_tup, tyM_lst, refT_lst, tyM_ref, okN_str, okN_int, okN_bool, okN_tuple, okN_list, okN_dict, sub_NoneType_str, sub_NoneType_int, sub_NoneType_bool, sub_NoneType_tuple, sub_NoneType_list, sub_NoneType_dict, sub_bool_str, sub_bool_int, sub_bool_bool, sub_bool_tuple, sub_bool_list, sub_bool_dict, sub_int_str, sub_int_int, sub_int_bool, sub_int_tuple, sub_int_list, sub_int_dict, sub_str_str, sub_str_int, sub_str_bool, sub_str_tuple, sub_str_list, sub_str_dict, sub_tuple_str, sub_tuple_int, sub_tuple_bool, sub_tuple_tuple, sub_tuple_list, sub_tuple_dict, sub_list_str, sub_list_int, sub_list_bool, sub_list_tuple, sub_list_list, sub_list_dict, sub_dict_str, sub_dict_int, sub_dict_bool, sub_dict_tuple, sub_dict_list, sub_dict_dict, tru_non, tru_bl, tru_int, tru_str, tru_tup, tru_lst, eq_R, ne_R, isD_non, isD_bl, isD_int, isD_str, isD_tup, isD_lst, isDs_nil, isDs_cons, dep_non, dep_bl, dep_int, dep_str, dep_tup, dep_lst, deps_nil, deps_cons, ueq_ii, ueq_ss, ueq_bb, ueq_tt, ueq_ll, ueqs_nn, ueqs_cc, ueqs_cn, ueqs_nc, ix_s, ix_r, set_r, app_r, pop_r, ins_r, join_r, all_1, any_1, repr_1, newL_f, newL_t, sl_s, sl_t, sl_l, sl_r, in_t, in_l, in_r, tyMt_rl, tyMt_rd, tyMt_s, any_t, anyI_t, anyI_s, anyI_r, uVar_0, uVar_1, uVar_2, uVar_3, uVar_4, uVar_5, uVar_6, uVar_7, uVar_8, uVar_9, uVar_10, uVar_11, uVar_12, uVar_13, uVar_14, uVar_15, len_str, len_tup, len_lst, isi_non_str, isi_non_int, isi_non_bool, isi_non_tuple, isi_non_list, isi_non_dict, isi_non_tuple_list, isi_bl_str, isi_bl_int, isi_bl_bool, isi_bl_tuple, isi_bl_list, isi_bl_dict, isi_bl_tuple_list, isi_int_str, isi_int_int, isi_int_bool, isi_int_tuple, isi_int_list, isi_int_dict, isi_int_tuple_list, isi_str_str, isi_str_int, isi_str_bool, isi_str_tuple, isi_str_list, isi_str_dict, isi_str_tuple_list, isi_tup_str, isi_tup_int, isi_tup_bool, isi_tup_tuple, isi_tup_list, isi_tup_dict, isi_tup_tuple_list, isi_lst_str, isi_lst_int, isi_lst_bool, isi_lst_tuple, isi_lst_list, isi_lst_dict, isi_lst_tuple_list, uTru_K, uB_K, uPart_K, uRng_K, uOrV_K, uAndV_K, uNotV_K, uChain_K, uAug_K, truK_non, truK_bl, truK_int, truK_str, truK_tup, truK_lst, blK_bl, partK_int, rngK_int, tuple_t, tuple_l, len_ref, mul_rk, mul_rd, tuple_r, list_r, list_t, list_l, ix_tup_0, ix_lst_0, ix_tup_1, ix_lst_1, ix_tup_2, ix_lst_2, ix_tup_3, ix_lst_3, ix_tup_4, ix_lst_4, ixt_g, ixl_g, add_ll2, in_ss2, anyI_l2, isn_n, gTup_t, gCons_c, gNil_n, cle, clt, cge, cgt, ceq, cne, exists_eq_left', exists_eq_left, Option.some.injEq, U.int.injEq, U.bl.injEq, U.str.injEq, U.ref.injEq, U.tup.injEq, U.lst.injEq, U.ty.injEq, List.cons.injEq, and_true, true_and, and_self, List.map_cons, List.map_nil, List.length_cons, List.length_nil, List.cons_append, List.nil_append, List.append_nil, List.getElem?_cons_zero, List.getElem?_cons_succ, List.set_cons_zero, List.set_cons_succ, List.replicate, ↓reduceIte, Bool.false_eq_true, Bool.not_true, Bool.not_false, reduceCtorEq, Nat.reduceAdd, Nat.reduceSub, Nat.reduceLeDiff, Nat.reduceEqDiff, decide_true, decide_false, at0, at1, at2, at3, at4, ix0, ix1, ix2, ix3, ix4, updM_same, beq_self_eq_true, Option.bind, Option.map, wipeU, NT.put, puts, MO.lst.injEq, exists_and_left, decide_eq_true_eq, Bool.and_eq_true, Bool.or_eq_true, exists_eq', Nat.zero_le, true_or, or_true]
      refine draw_use hS2 (by decide) (by decide) fun r M1 h0 h1 hS1 hB1 => ?_
      simp only [uIfS, uOr, uAnd, uNot, uCB, uCons, uNil, uC, uRet, uNext, uOp, uUn, uTup, uLst, uIf, uAsg, uName, uDrop, uCall, uBM, uBM0, uSl, uNoPart, uSub, ustart, uSeq, uRng2, List.append_nil, uYes, add_ii, add_ss, add_tt, add_lr_, add_rl_, sub_ii, mul_ii, mod_ii, div_ii, pow_ii, lt_ii, lt_ss, le_ii, gt_ii, ge_ii, neg_i, int_i, aug_ii, isNon_non, isNon_bl, isNon_int, isNon_str, isNon_tup, isNon_lst, isNon_ref, val_non, val_bl, val_int, val_str, val_tup, val_lst, refV_lst, val_ref, refL_lst, listU_lst, listU_ref, seqU_lst, seqU_tup, seqU_ref, lenU_str, lenU_tup, lenU_lst, lenU_ref, tyM_non, tyM_bl, tyM_int, tyM_str, tyM_tup, tyM_lst, refT_lst, tyM_ref, okN_str, okN_int, okN_bool, okN_tuple, okN_list, okN_dict, sub_NoneType_str, sub_NoneType_int, sub_NoneType_bool, sub_NoneType_tuple, sub_NoneType_list, sub_NoneType_dict, sub_bool_str, sub_bool_int, sub_bool_bool, sub_bool_tuple, sub_bool_list, sub_bool_dict, sub_int_str, sub_int_int, sub_int_bool, sub_int_tuple, sub_int_list, sub_int_dict, sub_str_str, sub_str_int, sub_str_bool, sub_str_tuple, sub_str_list, sub_str_dict, sub_tuple_str, sub_tuple_int, sub_tuple_bool, sub_tuple_tuple, sub_tuple_list, sub_tuple_dict, sub_list_str, sub_list_int, sub_list_bool, sub_list_tuple, sub_list_list, sub_list_dict, sub_dict_str, sub_dict_int, sub_dict_bool, sub_dict_tuple, sub_dict_list, sub_dict_dict, tru_non, tru_bl, tru_int, tru_str, tru_tup, tru_lst, eq_R, ne_R, isD_non, isD_bl, isD_int, isD_str, isD_tup, isD_lst, isDs_nil, isDs_cons, dep_non, dep_bl, dep_int, dep_str, dep_tup, dep_lst, deps_nil, deps_cons, ueq_ii, ueq_ss, ueq_bb, ueq_tt, ueq_ll, ueqs_nn, ueqs_cc, ueqs_cn, ueqs_nc, ix_s, ix_r, set_r, app_r, pop_r, ins_r, join_r, all_1, any_1, repr_1, newL_f, newL_t, sl_s, sl_t, sl_l, sl_r, in_t, in_l, in_r, tyMt_rl, tyMt_rd, tyMt_s, any_t, anyI_t, anyI_s, anyI_r, uVar_0, uVar_1, uVar_2, uVar_3, uVar_4, uVar_5, uVar_6, uVar_7, uVar_8, uVar_9, uVar_10, uVar_11, uVar_12, uVar_13, uVar_14, uVar_15, len_str, len_tup, len_lst, isi_non_str, isi_non_int, isi_non_bool, isi_non_tuple, isi_non_list, isi_non_dict, isi_non_tuple_list, isi_bl_str, isi_bl_int, isi_bl_bool, isi_bl_tuple, isi_bl_list, isi_bl_dict, isi_bl_tuple_list, isi_int_str, isi_int_int, isi_int_bool, isi_int_tuple, isi_int_list, isi_int_dict, isi_int_tuple_list, isi_str_str, isi_str_int, isi_str_bool, isi_str_tuple, isi_str_list, isi_str_dict, isi_str_tuple_list, isi_tup_str, isi_tup_int, isi_tup_bool, isi_tup_tuple, isi_tup_list, isi_tup_dict, isi_tup_tuple_list, isi_lst_str, isi_lst_int, isi_lst_bool, isi_lst_tuple, isi_lst_list, isi_lst_dict, isi_lst_tuple_list, uTru_K, uB_K, uPart_K, uRng_K, uOrV_K, uAndV_K, uNotV_K, uChain_K, uAug_K, truK_non, truK_bl, truK_int, truK_str, truK_tup, truK_lst, blK_bl, partK_int, rngK_int, tuple_t, tuple_l, len_ref, mul_rk, mul_rd, tuple_r, list_r, list_t, list_l, ix_tup_0, ix_lst_0, ix_tup_1, ix_lst_1, ix_tup_2, ix_lst_2, ix_tup_3, ix_lst_3, ix_tup_4, ix_lst_4, ixt_g, ixl_g, add_ll2, in_ss2, anyI_l2, isn_n, gTup_t, gCons_c, gNil_n, cle, clt, cge, cgt, ceq, cne, exists_eq_left', exists_eq_left, Option.some.injEq, U.int.injEq, U.bl.injEq, U.str.injEq, U.ref.injEq, U.tup.injEq, U.lst.injEq, U.ty.injEq, List.cons.injEq, and_true, true_and, and_self, List.map_cons, List.map_nil, List.length_cons, List.length_nil, List.cons_append, List.nil_append, List.append_nil, List.getElem?_cons_zero, List.getElem?_cons_succ, List.set_cons_zero, List.set_cons_succ, List.replicate, ↓reduceIte, Bool.false_eq_true, Bool.not_true, Bool.not_false, reduceCtorEq, Nat.reduceAdd, Nat.reduceSub, Nat.reduceLeDiff, Nat.reduceEqDiff, decide_true, decide_false, at0, at1, at2, at3, at4, ix0, ix1, ix2, ix3, ix4, updM_same, beq_self_eq_true, Option.bind, Option.map, wipeU, NT.put, puts, MO.lst.injEq, exists_and_left, decide_eq_true_eq, Bool.and_eq_true, Bool.or_eq_true, exists_eq', Nat.zero_le, true_or, or_true]
      obtain ⟨v, e, hv⟩ := at_draw' (xs := ("abcdefghijklmnopqrstuvwxyz" : Str).cps.toList) h0 (by rw [letters_len]; exact h1)
      exact ⟨v, e, q _ M1 ⟨v, rfl, letters_in v hv⟩ hS1 hB1⟩
    · obtain ⟨cs, rfl, hcs⟩ := ones_of hP
      have hlen : cs.length = many := by simpa [range_len] using hl
      have he : ("" : Str).length = 0 := by decide
      have hsum : ((cs.map one).map (·.length)).sum = cs.length := by
        rw [List.map_map]
        clear hl hlen hP hcs
        induction cs with
        | nil => rfl
        | cons a cs ih => simp only [List.map_cons, List.sum_cons, List.length_cons, Function.comp] at ih ⊢; rw [ih]; show 1 + _ = _; omega
      have hj : (Txt.join "" (cs.map one)).cps.toList = cs := by rw [TL.join_eq]; exact join_ones cs
      have hz : (Txt.join "" (cs.map one)).length = many := by rw [str_len, hj, hlen]
      simp only [uIfS, uOr, uAnd, uNot, uCB, uCons, uNil, uC, uRet, uNext, uOp, uUn, uTup, uLst, uIf, uAsg, uName, uDrop, uCall, uBM, uBM0, uSl, uNoPart, uSub, ustart, uSeq, uRng2, List.append_nil, uYes, add_ii, add_ss, add_tt, add_lr_, add_rl_, sub_ii, mul_ii, mod_ii, div_ii, pow_ii, lt_ii, lt_ss, le_ii, gt_ii, ge_ii, neg_i, int_i, aug_ii, isNon_non, isNon_bl, isNon_int, isNon_str, isNon_tup, isNon_lst, isNon_ref, val_non, val_bl, val_int, val_str, val_tup, val_lst, refV_lst, val_ref, refL_lst, listU_lst, listU_ref, seqU_lst, seqU_tup, seqU_ref, lenU_str, lenU_tup, lenU_lst, lenU_ref, tyM_non, tyM_bl, tyM_int, tyM_str, tyM_tup, tyM_lst, refT_lst, tyM_ref, okN_str, okN_int, okN_bool, okN_tuple, okN_list, okN_dict, sub_NoneType_str, sub_NoneType_int, sub_NoneType_bool, sub_NoneType_tuple, sub_NoneType_list, sub_NoneType_dict, sub_bool_str, sub_bool_int, sub_bool_bool, sub_bool_tuple, sub_bool_list, sub_bool_dict, sub_int_str, sub_int_int, sub_int_bool, sub_int_tuple, sub_int_list, sub_int_dict, sub_str_str, sub_str_int, sub_str_bool, sub_str_tuple, sub_str_list, sub_str_dict, sub_tuple_str, sub_tuple_int, sub_tuple_bool, sub_tuple_tuple, sub_tuple_list, sub_tuple_dict, sub_list_str, sub_list_int, sub_list_bool, sub_list_tuple, sub_list_list, sub_list_dict, sub_dict_str, sub_dict_int, sub_dict_bool, sub_dict_tuple, sub_dict_list, sub_dict_dict, tru_non, tru_bl, tru_int, tru_str, tru_tup, tru_lst, eq_R, ne_R, isD_non, isD_bl, isD_int, isD_str, isD_tup, isD_lst, isDs_nil, isDs_cons, dep_non, dep_bl, dep_int, dep_str, dep_tup, dep_lst, deps_nil, deps_cons, ueq_ii, ueq_ss, ueq_bb, ueq_tt, ueq_ll, ueqs_nn, ueqs_cc, ueqs_cn, ueqs_nc, ix_s, ix_r, set_r, app_r, pop_r, ins_r, join_r, all_1, any_1, repr_1, newL_f, newL_t, sl_s, sl_t, sl_l, sl_r, in_t, in_l, in_r, tyMt_rl, tyMt_rd, tyMt_s, any_t, anyI_t, anyI_s, anyI_r, uVar_0, uVar_1, uVar_2, uVar_3, uVar_4, uVar_5, uVar_6, uVar_7, uVar_8, uVar_9, uVar_10, uVar_11, uVar_12, uVar_13, uVar_14, uVar_15, len_str, len_tup, len_lst, isi_non_str, isi_non_int, isi_non_bool, isi_non_tuple, isi_non_list, isi_non_dict, isi_non_tuple_list, isi_bl_str, isi_bl_int, isi_bl_bool, isi_bl_tuple, isi_bl_list, isi_bl_dict, isi_bl_tuple_list, isi_int_str, isi_int_int, isi_int_bool, isi_int_tuple, isi_int_list, isi_int_dict, isi_int_tuple_list, isi_str_str, isi_str_int, isi_str_bool, isi_str_tuple, isi_str_list, isi_str_dict, isi_str_tuple_list, isi_tup_str, isi_tup_int, isi_tup_bool, isi_tup_tuple, isi_tup_list, isi_tup_dict, isi_tup_tuple_list, isi_lst_str, isi_lst_int, isi_lst_bool, isi_lst_tuple, isi_lst_list, isi_lst_dict, isi_lst_tuple_list, uTru_K, uB_K, uPart_K, uRng_K, uOrV_K, uAndV_K, uNotV_K, uChain_K, uAug_K, truK_non, truK_bl, truK_int, truK_str, truK_tup, truK_lst, blK_bl, partK_int, rngK_int, tuple_t, tuple_l, len_ref, mul_rk, mul_rd, tuple_r, list_r, list_t, list_l, ix_tup_0, ix_lst_0, ix_tup_1, ix_lst_1, ix_tup_2, ix_lst_2, ix_tup_3, ix_lst_3, ix_tup_4, ix_lst_4, ixt_g, ixl_g, add_ll2, in_ss2, anyI_l2, isn_n, gTup_t, gCons_c, gNil_n, cle, clt, cge, cgt, ceq, cne, exists_eq_left', exists_eq_left, Option.some.injEq, U.int.injEq, U.bl.injEq, U.str.injEq, U.ref.injEq, U.tup.injEq, U.lst.injEq, U.ty.injEq, List.cons.injEq, and_true, true_and, and_self, List.map_cons, List.map_nil, List.length_cons, List.length_nil, List.cons_append, List.nil_append, List.append_nil, List.getElem?_cons_zero, List.getElem?_cons_succ, List.set_cons_zero, List.set_cons_succ, List.replicate, ↓reduceIte, Bool.false_eq_true, Bool.not_true, Bool.not_false, reduceCtorEq, Nat.reduceAdd, Nat.reduceSub, Nat.reduceLeDiff, Nat.reduceEqDiff, decide_true, decide_false, at0, at1, at2, at3, at4, ix0, ix1, ix2, ix3, ix4, updM_same, beq_self_eq_true, Option.bind, Option.map, wipeU, NT.put, puts, MO.lst.injEq, exists_and_left, decide_eq_true_eq, Bool.and_eq_true, Bool.or_eq_true, exists_eq', Nat.zero_le, true_or, or_true]
      refine ⟨_, strs_ones _, ?_, fun _ _ => okS_iff.mpr ⟨by rw [hz]; exact line_le (by omega), by rw [hj]; exact fun c hc => by have := hcs c hc; omega⟩, ?_⟩
      · rw [hsum, he, List.length_map]; omega
      · exact q _ M' hz (by rw [hj]; exact hcs) hS3 hB3

/-! ### _law_near_name -/
def sp__law_near_name : USp := fun us M Q _ => ∃ (s c : Addr) (n : Nat), us = [.ref s] ∧ Strm M s c (n + 21) ∧ ∀ z M', z.length ≤ 17 → okS z = true → Strm M' s c n → But s c M M' → Q (.str z) M'
theorem near_name_use {M : UHp} {Q : UK} {E : UXK} {s c : Addr} {n : Nat} (hS : Strm M s c (n + 21)) (h : ∀ z M', z.length ≤ 17 → okS z = true → Strm M' s c n → But s c M M' → Q (.str z) M') : sp__law_near_name [.ref s] M Q E := ⟨s, c, n, rfl, hS, h⟩
theorem ok__law_near_name (L : Lw K mg) : UFn P w K mg base CX0 3 L.f__law_near_name L.fd__law_near_name ["_law_stream"] (sp__law_near_name) := by
  refine ufn_ok L.D__law_near_name.F sc__law_near_name (fun us M Q E h => ?_) (fun cdv A outer s H E hr hG =>
      (uss_cons (us_set (i := 1) sc__law_near_name.nd rfl (.inl rfl) (ue_call (ok__law_letters L) (hr.mono (by decide)) hG rfl L.D__law_letters.g L.D__law_letters.F.kp L.D__law_letters.b .nil (fun _ => RelUs.nil) (ua_cons (uv 0) (ua_cons (ue_ix (ue_lst false (ua_cons ue_int (ua_cons ue_int (ua_cons ue_int (ua_cons ue_int (ua_cons ue_int (ua_cons ue_int (ua_cons ue_int (ua_cons ue_int (ua_cons ue_int ua_nil)))))))))) (ue_call (ok__law_draw L) (hr.mono (by decide)) hG rfl L.D__law_draw.g L.D__law_draw.F.kp L.D__law_draw.b .nil (fun _ => RelUs.nil) (ua_cons (uv 0) (ua_cons ue_int ua_nil)))) ua_nil))))
      (uss_cons (us_if (ut_cmp (uo_eq (hu6 hr)) (ue_call (ok__law_draw L) (hr.mono (by decide)) hG rfl L.D__law_draw.g L.D__law_draw.F.kp L.D__law_draw.b .nil (fun _ => RelUs.nil) (ua_cons (uv 0) (ua_cons ue_int ua_nil))) ue_int (nomark _)) (uss_cons (us_set (i := 2) sc__law_near_name.nd rfl (.inl rfl) (ue_call (ok__law_draw L) (hr.mono (by decide)) hG rfl L.D__law_draw.g L.D__law_draw.F.kp L.D__law_draw.b .nil (fun _ => RelUs.nil) (ua_cons (uv 0) (ua_cons (ue_op (uo_add false) (ue_callB uc_len (by rfl) L.n_len bt_len (ua_cons (uv 1) ua_nil)) ue_int) ua_nil))))
      (uss_cons (us_set (i := 3) sc__law_near_name.nd rfl (.inl rfl) (ue_ix (ue_lst false (ua_cons ue_str (ua_cons ue_str (ua_cons ue_str (ua_cons ue_str (ua_cons ue_str (ua_cons ue_str (ua_cons ue_str (ua_cons ue_str (ua_cons ue_str (ua_cons ue_str (ua_cons ue_str (ua_cons ue_str (ua_cons ue_str ua_nil)))))))))))))) (ue_call (ok__law_draw L) (hr.mono (by decide)) hG rfl L.D__law_draw.g L.D__law_draw.F.kp L.D__law_draw.b .nil (fun _ => RelUs.nil) (ua_cons (uv 0) (ua_cons ue_int ua_nil)))))
      (uss_one (us_set (i := 1) sc__law_near_name.nd rfl (.inl rfl) (ue_op (uo_add false) (ue_op (uo_add false) (ue_slice false (uv 1) uo_none (uo_some (uv 2))) (uv 3)) (ue_slice false (uv 1) (uo_some (ue_op (uo_add false) (uv 2) (ue_call (ok__law_draw L) (hr.mono (by decide)) hG rfl L.D__law_draw.g L.D__law_draw.F.kp L.D__law_draw.b .nil (fun _ => RelUs.nil) (ua_cons (uv 0) (ua_cons ue_int ua_nil))))) uo_none)))))) uss_nil)
      (uss_one (us_ret (uv 1)))))) (fun us M Q E h => ?_)
  · obtain ⟨s, c, n, rfl, _⟩ := h
    rfl
  · obtain ⟨s, c, n, rfl, hS, q⟩ := h
    have q : ∀ z M', z.length ≤ 17 → okS z = true → Strm M' s c n → But s c M M' → ZQ Q (.str z) M' := fun y M' h1 h2 h3 h4 => .inl (q y M' h1 h2 h3 h4)
    simp only [uIfS, uOr, uAnd, uNot, uCB, uCons, uNil, uC, uRet, uNext, uOp, uUn, uTup, uLst, uIf, uAsg, uName, uDrop, uCall, uBM, uBM0, uSl, uNoPart, uSub, ustart, uSeq, uRng2, List.append_nil, uYes, add_ii, add_ss, add_tt, add_lr_, add_rl_, sub_ii, mul_ii, mod_ii, div_ii, pow_ii, lt_ii, lt_ss, le_ii, gt_ii, ge_ii, neg_i, int_i, aug_ii, isNon_non, isNon_bl, isNon_int, isNon_str, isNon_tup, isNon_lst, isNon_ref, val_non, val_bl, val_int, val_str, val_tup, val_lst, refV_lst, val_ref, refL_lst, listU_lst, listU_ref, seqU_lst, seqU_tup, seqU_ref, lenU_str, lenU_tup, lenU_lst, lenU_ref, tyM_non, tyM_bl, tyM_int, tyM_str, tyM_tup, tyM_lst, refT_lst, tyM_ref, okN_str, okN_int, okN_bool, okN_tuple, okN_list, okN_dict, sub_NoneType_str, sub_NoneType_int, sub_NoneType_bool, sub_NoneType_tuple, sub_NoneType_list, sub_NoneType_dict, sub_bool_str, sub_bool_int, sub_bool_bool, sub_bool_tuple, sub_bool_list, sub_bool_dict, sub_int_str, sub_int_int, sub_int_bool, sub_int_tuple, sub_int_list, sub_int_dict, sub_str_str, sub_str_int, sub_str_bool, sub_str_tuple, sub_str_list, sub_str_dict, sub_tuple_str, sub_tuple_int, sub_tuple_bool, sub_tuple_tuple, sub_tuple_list, sub_tuple_dict, sub_list_str, sub_list_int, sub_list_bool, sub_list_tuple, sub_list_list, sub_list_dict, sub_dict_str, sub_dict_int, sub_dict_bool, sub_dict_tuple, sub_dict_list, sub_dict_dict, tru_non, tru_bl, tru_int, tru_str, tru_tup, tru_lst, eq_R, ne_R, isD_non, isD_bl, isD_int, isD_str, isD_tup, isD_lst, isDs_nil, isDs_cons, dep_non, dep_bl, dep_int, dep_str, dep_tup, dep_lst, deps_nil, deps_cons, ueq_ii, ueq_ss, ueq_bb, ueq_tt, ueq_ll, ueqs_nn, ueqs_cc, ueqs_cn, ueqs_nc, ix_s, ix_r, set_r, app_r, pop_r, ins_r, join_r, all_1, any_1, repr_1, newL_f, newL_t, sl_s, sl_t, sl_l, sl_r, in_t, in_l, in_r, tyMt_rl, tyMt_rd, tyMt_s, any_t, anyI_t, anyI_s, anyI_r, uVar_0, uVar_1, uVar_2, uVar_3, uVar_4, uVar_5, uVar_6, uVar_7, uVar_8, uVar_9, uVar_10, uVar_11, uVar_12, uVar_13, uVar_14, uVar_15, len_str, len_tup, len_lst, isi_non_str, isi_non_int, isi_non_bool, isi_non_tuple, isi_non_list, isi_non_dict, isi_non_tuple_list, isi_bl_str, isi_bl_int, isi_bl_bool, isi_bl_tuple, isi_bl_list, isi_bl_dict, isi_bl_tuple_list, isi_int_str, isi_int_int, isi_int_bool, isi_int_tuple, isi_int_list, isi_int_dict, isi_int_tuple_list, isi_str_str, isi_str_int, isi_str_bool, isi_str_tuple, isi_str_list, isi_str_dict, isi_str_tuple_list, isi_tup_str, isi_tup_int, isi_tup_bool, isi_tup_tuple, isi_tup_list, isi_tup_dict, isi_tup_tuple_list, isi_lst_str, isi_lst_int, isi_lst_bool, isi_lst_tuple, isi_lst_list, isi_lst_dict, isi_lst_tuple_list, uTru_K, uB_K, uPart_K, uRng_K, uOrV_K, uAndV_K, uNotV_K, uChain_K, uAug_K, truK_non, truK_bl, truK_int, truK_str, truK_tup, truK_lst, blK_bl, partK_int, rngK_int, tuple_t, tuple_l, len_ref, mul_rk, mul_rd, tuple_r, list_r, list_t, list_l, ix_tup_0, ix_lst_0, ix_tup_1, ix_lst_1, ix_tup_2, ix_lst_2, ix_tup_3, ix_lst_3, ix_tup_4, ix_lst_4, ixt_g, ixl_g, add_ll2, in_ss2, anyI_l2, isn_n, gTup_t, gCons_c, gNil_n, cle, clt, cge, cgt, ceq, cne, exists_eq_left', exists_eq_left, Option.some.injEq, U.int.injEq, U.bl.injEq, U.str.injEq, U.ref.injEq, U.tup.injEq, U.lst.injEq, U.ty.injEq, List.cons.injEq, and_true, true_and, and_self, List.map_cons, List.map_nil, List.length_cons, List.length_nil, List.cons_append, List.nil_append, List.append_nil, List.getElem?_cons_zero, List.getElem?_cons_succ, List.set_cons_zero, List.set_cons_succ, List.replicate, ↓reduceIte, Bool.false_eq_true, Bool.not_true, Bool.not_false, reduceCtorEq, Nat.reduceAdd, Nat.reduceSub, Nat.reduceLeDiff, Nat.reduceEqDiff, decide_true, decide_false, at0, at1, at2, at3, at4, ix0, ix1, ix2, ix3, ix4, updM_same, beq_self_eq_true, Option.bind, Option.map, wipeU, NT.put, puts, MO.lst.injEq, exists_and_left, decide_eq_true_eq, Bool.and_eq_true, Bool.or_eq_true, exists_eq', Nat.zero_le, true_or, or_true]
    refine ⟨line_le, draw_use (n := n + 20) hS (by decide) (by decide) fun r M1 h0 h1 hS1 hB1 => ?_⟩
    simp only [uIfS, uOr, uAnd, uNot, uCB, uCons, uNil, uC, uRet, uNext, uOp, uUn, uTup, uLst, uIf, uAsg, uName, uDrop, uCall, uBM, uBM0, uSl, uNoPart, uSub, ustart, uSeq, uRng2, List.append_nil, uYes, add_ii, add_ss, add_tt, add_lr_, add_rl_, sub_ii, mul_ii, mod_ii, div_ii, pow_ii, lt_ii, lt_ss, le_ii, gt_ii, ge_ii, neg_i, int_i, aug_ii, isNon_non, isNon_bl, isNon_int, isNon_str, isNon_tup, isNon_lst, isNon_ref, val_non, val_bl, val_int, val_str, val_tup, val_lst, refV_lst, val_ref, refL_lst, listU_lst, listU_ref, seqU_lst, seqU_tup, seqU_ref, lenU_str, lenU_tup, lenU_lst, lenU_ref, tyM_non, tyM_bl, tyM_int, tyM_str, tyM_tup, tyM_lst, refT_lst, tyM_ref, okN_str, okN_int, okN_bool, okN_tuple, okN_list, okN_dict, sub_NoneType_str, sub_NoneType_int, sub_NoneType_bool, sub_NoneType_tuple, sub_NoneType_list, sub_NoneType_dict, sub_bool_str, sub_bool_int, sub_bool_bool, sub_bool_tuple, sub_bool_list, sub_bool_dict, sub_int_str, sub_int_int, sub_int_bool, sub_int_tuple, sub_int_list, sub_int_dict, sub_str_str, sub_str_int, sub_str_bool, sub_str_tuple, sub_str_list, sub_str_dict, sub_tuple_str, sub_tuple_int, sub_tuple_bool, sub_tuple_tuple, sub_tuple_list, sub_tuple_dict, sub_list_str, sub_list_int, sub_list_bool, sub_list_tuple, sub_list_list, sub_list_dict, sub_dict_str, sub_dict_int, sub_dict_bool, sub_dict_tuple, sub_dict_list, sub_dict_dict, tru_non, tru_bl, tru_int, tru_str, tru_tup, tru_lst, eq_R, ne_R, isD_non, isD_bl, isD_int, isD_str, isD_tup, isD_lst, isDs_nil, isDs_cons, dep_non, dep_bl, dep_int, dep_str, dep_tup, dep_lst, deps_nil, deps_cons, ueq_ii, ueq_ss, ueq_bb, ueq_tt, ueq_ll, ueqs_nn, ueqs_cc, ueqs_cn, ueqs_nc, ix_s, ix_r, set_r, app_r, pop_r, ins_r, join_r, all_1, any_1, repr_1, newL_f, newL_t, sl_s, sl_t, sl_l, sl_r, in_t, in_l, in_r, tyMt_rl, tyMt_rd, tyMt_s, any_t, anyI_t, anyI_s, anyI_r, uVar_0, uVar_1, uVar_2, uVar_3, uVar_4, uVar_5, uVar_6, uVar_7, uVar_8, uVar_9, uVar_10, uVar_11, uVar_12, uVar_13, uVar_14, uVar_15, len_str, len_tup, len_lst, isi_non_str, isi_non_int, isi_non_bool, isi_non_tuple, isi_non_list, isi_non_dict, isi_non_tuple_list, isi_bl_str, isi_bl_int, isi_bl_bool, isi_bl_tuple, isi_bl_list, isi_bl_dict, isi_bl_tuple_list, isi_int_str, isi_int_int, isi_int_bool, isi_int_tuple, isi_int_list, isi_int_dict, isi_int_tuple_list, isi_str_str, isi_str_int, isi_str_bool, isi_str_tuple, isi_str_list, isi_str_dict, isi_str_tuple_list, isi_tup_str, isi_tup_int, isi_tup_bool, isi_tup_tuple, isi_tup_list, isi_tup_dict, isi_tup_tuple_list, isi_lst_str, isi_lst_int, isi_lst_bool, isi_lst_tuple, isi_lst_list, isi_lst_dict, isi_lst_tuple_list, uTru_K, uB_K, uPart_K, uRng_K, uOrV_K, uAndV_K, uNotV_K, uChain_K, uAug_K, truK_non, truK_bl, truK_int, truK_str, truK_tup, truK_lst, blK_bl, partK_int, rngK_int, tuple_t, tuple_l, len_ref, mul_rk, mul_rd, tuple_r, list_r, list_t, list_l, ix_tup_0, ix_lst_0, ix_tup_1, ix_lst_1, ix_tup_2, ix_lst_2, ix_tup_3, ix_lst_3, ix_tup_4, ix_lst_4, ixt_g, ixl_g, add_ll2, in_ss2, anyI_l2, isn_n, gTup_t, gCons_c, gNil_n, cle, clt, cge, cgt, ceq, cne, exists_eq_left', exists_eq_left, Option.some.injEq, U.int.injEq, U.bl.injEq, U.str.injEq, U.ref.injEq, U.tup.injEq, U.lst.injEq, U.ty.injEq, List.cons.injEq, and_true, true_and, and_self, List.map_cons, List.map_nil, List.length_cons, List.length_nil, List.cons_append, List.nil_append, List.append_nil, List.getElem?_cons_zero, List.getElem?_cons_succ, List.set_cons_zero, List.set_cons_succ, List.replicate, ↓reduceIte, Bool.false_eq_true, Bool.not_true, Bool.not_false, reduceCtorEq, Nat.reduceAdd, Nat.reduceSub, Nat.reduceLeDiff, Nat.reduceEqDiff, decide_true, decide_false, at0, at1, at2, at3, at4, ix0, ix1, ix2, ix3, ix4, updM_same, beq_self_eq_true, Option.bind, Option.map, wipeU, NT.put, puts, MO.lst.injEq, exists_and_left, decide_eq_true_eq, Bool.and_eq_true, Bool.or_eq_true, exists_eq', Nat.zero_le, true_or, or_true]
    obtain ⟨v, e, hv⟩ := at_draw (xs := [.int 0, .int 1, .int 1, .int 2, .int 3, .int 7, .int 8, .int 9, .int 16]) h0 h1
    obtain ⟨m, rfl, hm⟩ : ∃ m : Nat, v = .int m ∧ m ≤ 16 := by
      simp only [List.mem_cons, List.not_mem_nil, or_false] at hv
      rcases hv with rfl | rfl | rfl | rfl | rfl | rfl | rfl | rfl | rfl
      · exact ⟨0, rfl, by decide⟩
      · exact ⟨1, rfl, by decide⟩
      · exact ⟨1, rfl, by decide⟩
      · exact ⟨2, rfl, by decide⟩
      · exact ⟨3, rfl, by decide⟩
      · exact ⟨7, rfl, by decide⟩
      · exact ⟨8, rfl, by decide⟩
      · exact ⟨9, rfl, by decide⟩
      · exact ⟨16, rfl, by decide⟩
    refine ⟨_, e, ?_⟩
    refine ⟨s, c, n + 4, m, rfl, by omega, hS1.le (by omega), fun z M2 hl hz hS2 hB2 => ?_⟩
    have okz : okS z = true := okS_iff.mpr ⟨line_le (by omega), fun d hd => by have := hz d hd; omega⟩
    simp only [uIfS, uOr, uAnd, uNot, uCB, uCons, uNil, uC, uRet, uNext, uOp, uUn, uTup, uLst, uIf, uAsg, uName, uDrop, uCall, uBM, uBM0, uSl, uNoPart, uSub, ustart, uSeq, uRng2, List.append_nil, uYes, add_ii, add_ss, add_tt, add_lr_, add_rl_, sub_ii, mul_ii, mod_ii, div_ii, pow_ii, lt_ii, lt_ss, le_ii, gt_ii, ge_ii, neg_i, int_i, aug_ii, isNon_non, isNon_bl, isNon_int, isNon_str, isNon_tup, isNon_lst, isNon_ref, val_non, val_bl, val_int, val_str, val_tup, val_lst, refV_lst, val_ref, refL_lst, listU_lst, listU_ref, seqU_lst, seqU_tup, seqU_ref, lenU_str, lenU_tup, lenU_lst, lenU_ref, tyM_non, tyM_bl, tyM_int, tyM_str, tyM_tup, tyM_lst, refT_lst, tyM_ref, okN_str, okN_int, okN_bool, okN_tuple, okN_list, okN_dict, sub_NoneType_str, sub_NoneType_int, sub_NoneType_bool, sub_NoneType_tuple, sub_NoneType_list, sub_NoneType_dict, sub_bool_str, sub_bool_int, sub_bool_bool, sub_bool_tuple, sub_bool_list, sub_bool_dict, sub_int_str, sub_int_int, sub_int_bool, sub_int_tuple, sub_int_list, sub_int_dict, sub_str_str, sub_str_int, sub_str_bool, sub_str_tuple, sub_str_list, sub_str_dict, sub_tuple_str, sub_tuple_int, sub_tuple_bool, sub_tuple_tuple, sub_tuple_list, sub_tuple_dict, sub_list_str, sub_list_int, sub_list_bool, sub_list_tuple, sub_list_list, sub_list_dict, sub_dict_str, sub_dict_int, sub_dict_bool, sub_dict_tuple, sub_dict_list, sub_dict_dict, tru_non, tru_bl, tru_int, tru_str, tru_tup, tru_lst, eq_R, ne_R, isD_non, isD_bl, isD_int, isD_str, isD_tup, isD_lst, isDs_nil, isDs_cons, dep_non, dep_bl, dep_int, dep_str, dep_tup, dep_lst, deps_nil, deps_cons, ueq_ii, ueq_ss, ueq_bb, ueq_tt, ueq_ll, ueqs_nn, ueqs_cc, ueqs_cn, ueqs_nc, ix_s, ix_r, set_r, app_r, pop_r, ins_r, join_r, all_1, any_1, repr_1, newL_f, newL_t, sl_s, sl_t, sl_l, sl_r, in_t, in_l, in_r, tyMt_rl, tyMt_rd, tyMt_s, any_t, anyI_t, anyI_s, anyI_r, uVar_0, uVar_1, uVar_2, uVar_3, uVar_4, uVar_5, uVar_6, uVar_7, uVar_8, uVar_9, uVar_10, uVar_11, uVar_12, uVar_13, uVar_14, uVar_15, len_str, len_tup, len_lst, isi_non_str, isi_non_int, isi_non_bool, isi_non_tuple, isi_non_list, isi_non_dict, isi_non_tuple_list, isi_bl_str, isi_bl_int, isi_bl_bool, isi_bl_tuple, isi_bl_list, isi_bl_dict, isi_bl_tuple_list, isi_int_str, isi_int_int, isi_int_bool, isi_int_tuple, isi_int_list, isi_int_dict, isi_int_tuple_list, isi_str_str, isi_str_int, isi_str_bool, isi_str_tuple, isi_str_list, isi_str_dict, isi_str_tuple_list, isi_tup_str, isi_tup_int, isi_tup_bool, isi_tup_tuple, isi_tup_list, isi_tup_dict, isi_tup_tuple_list, isi_lst_str, isi_lst_int, isi_lst_bool, isi_lst_tuple, isi_lst_list, isi_lst_dict, isi_lst_tuple_list, uTru_K, uB_K, uPart_K, uRng_K, uOrV_K, uAndV_K, uNotV_K, uChain_K, uAug_K, truK_non, truK_bl, truK_int, truK_str, truK_tup, truK_lst, blK_bl, partK_int, rngK_int, tuple_t, tuple_l, len_ref, mul_rk, mul_rd, tuple_r, list_r, list_t, list_l, ix_tup_0, ix_lst_0, ix_tup_1, ix_lst_1, ix_tup_2, ix_lst_2, ix_tup_3, ix_lst_3, ix_tup_4, ix_lst_4, ixt_g, ixl_g, add_ll2, in_ss2, anyI_l2, isn_n, gTup_t, gCons_c, gNil_n, cle, clt, cge, cgt, ceq, cne, exists_eq_left', exists_eq_left, Option.some.injEq, U.int.injEq, U.bl.injEq, U.str.injEq, U.ref.injEq, U.tup.injEq, U.lst.injEq, U.ty.injEq, List.cons.injEq, and_true, true_and, and_self, List.map_cons, List.map_nil, List.length_cons, List.length_nil, List.cons_append, List.nil_append, List.append_nil, List.getElem?_cons_zero, List.getElem?_cons_succ, List.set_cons_zero, List.set_cons_succ, List.replicate, ↓reduceIte, Bool.false_eq_true, Bool.not_true, Bool.not_false, reduceCtorEq, Nat.reduceAdd, Nat.reduceSub, Nat.reduceLeDiff, Nat.reduceEqDiff, decide_true, decide_false, at0, at1, at2, at3, at4, ix0, ix1, ix2, ix3, ix4, updM_same, beq_self_eq_true, Option.bind, Option.map, wipeU, NT.put, puts, MO.lst.injEq, exists_and_left, decide_eq_true_eq, Bool.and_eq_true, Bool.or_eq_true, exists_eq', Nat.zero_le, true_or, or_true]
    refine draw_use (n := n + 3) hS2 (by decide) (by decide) fun r2 M3 h2 h3 hS3 hB3 => ?_
    have hB := (hB1.trans hB2).trans hB3
    simp only [uIfS, uOr, uAnd, uNot, uCB, uCons, uNil, uC, uRet, uNext, uOp, uUn, uTup, uLst, uIf, uAsg, uName, uDrop, uCall, uBM, uBM0, uSl, uNoPart, uSub, ustart, uSeq, uRng2, List.append_nil, uYes, add_ii, add_ss, add_tt, add_lr_, add_rl_, sub_ii, mul_ii, mod_ii, div_ii, pow_ii, lt_ii, lt_ss, le_ii, gt_ii, ge_ii, neg_i, int_i, aug_ii, isNon_non, isNon_bl, isNon_int, isNon_str, isNon_tup, isNon_lst, isNon_ref, val_non, val_bl, val_int, val_str, val_tup, val_lst, refV_lst, val_ref, refL_lst, listU_lst, listU_ref, seqU_lst, seqU_tup, seqU_ref, lenU_str, lenU_tup, lenU_lst, lenU_ref, tyM_non, tyM_bl, tyM_int, tyM_str, tyM_tup, tyM_lst, refT_lst, tyM_ref, okN_str, okN_int, okN_bool, okN_tuple, okN_list, okN_dict, sub_NoneType_str, sub_NoneType_int, sub_NoneType_bool, sub_NoneType_tuple, sub_NoneType_list, sub_NoneType_dict, sub_bool_str, sub_bool_int, sub_bool_bool, sub_bool_tuple, sub_bool_list, sub_bool_dict, sub_int_str, sub_int_int, sub_int_bool, sub_int_tuple, sub_int_list, sub_int_dict, sub_str_str, sub_str_int, sub_str_bool, sub_str_tuple, sub_str_list, sub_str_dict, sub_tuple_str, sub_tuple_int, sub_tuple_bool, sub_tuple_tuple, sub_tuple_list, sub_tuple_dict, sub_list_str, sub_list_int, sub_list_bool, sub_list_tuple, sub_list_list, sub_list_dict, sub_dict_str, sub_dict_int, sub_dict_bool, sub_dict_tuple, sub_dict_list, sub_dict_dict, tru_non, tru_bl, tru_int, tru_str, tru_tup, tru_lst, eq_R, ne_R, isD_non, isD_bl, isD_int, isD_str, isD_tup, isD_lst, isDs_nil, isDs_cons, dep_non, dep_bl, dep_int, dep_str, dep_tup, dep_lst, deps_nil, deps_cons, ueq_ii, ueq_ss, ueq_bb, ueq_tt, ueq_ll, ueqs_nn, ueqs_cc, ueqs_cn, ueqs_nc, ix_s, ix_r, set_r, app_r, pop_r, ins_r, join_r, all_1, any_1, repr_1, newL_f, newL_t, sl_s, sl_t, sl_l, sl_r, in_t, in_l, in_r, tyMt_rl, tyMt_rd, tyMt_s, any_t, anyI_t, anyI_s, anyI_r, uVar_0, uVar_1, uVar_2, uVar_3, uVar_4, uVar_5, uVar_6, uVar_7, uVar_8, uVar_9, uVar_10, uVar_11, uVar_12, uVar_13, uVar_14, uVar_15, len_str, len_tup, len_lst, isi_non_str, isi_non_int, isi_non_bool, isi_non_tuple, isi_non_list, isi_non_dict, isi_non_tuple_list, isi_bl_str, isi_bl_int, isi_bl_bool, isi_bl_tuple, isi_bl_list, isi_bl_dict, isi_bl_tuple_list, isi_int_str, isi_int_int, isi_int_bool, isi_int_tuple, isi_int_list, isi_int_dict, isi_int_tuple_list, isi_str_str, isi_str_int, isi_str_bool, isi_str_tuple, isi_str_list, isi_str_dict, isi_str_tuple_list, isi_tup_str, isi_tup_int, isi_tup_bool, isi_tup_tuple, isi_tup_list, isi_tup_dict, isi_tup_tuple_list, isi_lst_str, isi_lst_int, isi_lst_bool, isi_lst_tuple, isi_lst_list, isi_lst_dict, isi_lst_tuple_list, uTru_K, uB_K, uPart_K, uRng_K, uOrV_K, uAndV_K, uNotV_K, uChain_K, uAug_K, truK_non, truK_bl, truK_int, truK_str, truK_tup, truK_lst, blK_bl, partK_int, rngK_int, tuple_t, tuple_l, len_ref, mul_rk, mul_rd, tuple_r, list_r, list_t, list_l, ix_tup_0, ix_lst_0, ix_tup_1, ix_lst_1, ix_tup_2, ix_lst_2, ix_tup_3, ix_lst_3, ix_tup_4, ix_lst_4, ixt_g, ixl_g, add_ll2, in_ss2, anyI_l2, isn_n, gTup_t, gCons_c, gNil_n, cle, clt, cge, cgt, ceq, cne, exists_eq_left', exists_eq_left, Option.some.injEq, U.int.injEq, U.bl.injEq, U.str.injEq, U.ref.injEq, U.tup.injEq, U.lst.injEq, U.ty.injEq, List.cons.injEq, and_true, true_and, and_self, List.map_cons, List.map_nil, List.length_cons, List.length_nil, List.cons_append, List.nil_append, List.append_nil, List.getElem?_cons_zero, List.getElem?_cons_succ, List.set_cons_zero, List.set_cons_succ, List.replicate, ↓reduceIte, Bool.false_eq_true, Bool.not_true, Bool.not_false, reduceCtorEq, Nat.reduceAdd, Nat.reduceSub, Nat.reduceLeDiff, Nat.reduceEqDiff, decide_true, decide_false, at0, at1, at2, at3, at4, ix0, ix1, ix2, ix3, ix4, updM_same, beq_self_eq_true, Option.bind, Option.map, wipeU, NT.put, puts, MO.lst.injEq, exists_and_left, decide_eq_true_eq, Bool.and_eq_true, Bool.or_eq_true, exists_eq', Nat.zero_le, true_or, or_true]
    refine iteI (fun e0 => ?_) (fun e0 => ?_)
    · refine draw_use (n := n + 2) hS3 (by omega) (by omega) fun r3 M4 h4 h5 hS4 hB4 => ?_
      simp only [uIfS, uOr, uAnd, uNot, uCB, uCons, uNil, uC, uRet, uNext, uOp, uUn, uTup, uLst, uIf, uAsg, uName, uDrop, uCall, uBM, uBM0, uSl, uNoPart, uSub, ustart, uSeq, uRng2, List.append_nil, uYes, add_ii, add_ss, add_tt, add_lr_, add_rl_, sub_ii, mul_ii, mod_ii, div_ii, pow_ii, lt_ii, lt_ss, le_ii, gt_ii, ge_ii, neg_i, int_i, aug_ii, isNon_non, isNon_bl, isNon_int, isNon_str, isNon_tup, isNon_lst, isNon_ref, val_non, val_bl, val_int, val_str, val_tup, val_lst, refV_lst, val_ref, refL_lst, listU_lst, listU_ref, seqU_lst, seqU_tup, seqU_ref, lenU_str, lenU_tup, lenU_lst, lenU_ref, tyM_non, tyM_bl, tyM_int, tyM_str, tyM_tup, tyM_lst, refT_lst, tyM_ref, okN_str, okN_int, okN_bool, okN_tuple, okN_list, okN_dict, sub_NoneType_str, sub_NoneType_int, sub_NoneType_bool, sub_NoneType_tuple, sub_NoneType_list, sub_NoneType_dict, sub_bool_str, sub_bool_int, sub_bool_bool, sub_bool_tuple, sub_bool_list, sub_bool_dict, sub_int_str, sub_int_int, sub_int_bool, sub_int_tuple, sub_int_list, sub_int_dict, sub_str_str, sub_str_int, sub_str_bool, sub_str_tuple, sub_str_list, sub_str_dict, sub_tuple_str, sub_tuple_int, sub_tuple_bool, sub_tuple_tuple, sub_tuple_list, sub_tuple_dict, sub_list_str, sub_list_int, sub_list_bool, sub_list_tuple, sub_list_list, sub_list_dict, sub_dict_str, sub_dict_int, sub_dict_bool, sub_dict_tuple, sub_dict_list, sub_dict_dict, tru_non, tru_bl, tru_int, tru_str, tru_tup, tru_lst, eq_R, ne_R, isD_non, isD_bl, isD_int, isD_str, isD_tup, isD_lst, isDs_nil, isDs_cons, dep_non, dep_bl, dep_int, dep_str, dep_tup, dep_lst, deps_nil, deps_cons, ueq_ii, ueq_ss, ueq_bb, ueq_tt, ueq_ll, ueqs_nn, ueqs_cc, ueqs_cn, ueqs_nc, ix_s, ix_r, set_r, app_r, pop_r, ins_r, join_r, all_1, any_1, repr_1, newL_f, newL_t, sl_s, sl_t, sl_l, sl_r, in_t, in_l, in_r, tyMt_rl, tyMt_rd, tyMt_s, any_t, anyI_t, anyI_s, anyI_r, uVar_0, uVar_1, uVar_2, uVar_3, uVar_4, uVar_5, uVar_6, uVar_7, uVar_8, uVar_9, uVar_10, uVar_11, uVar_12, uVar_13, uVar_14, uVar_15, len_str, len_tup, len_lst, isi_non_str, isi_non_int, isi_non_bool, isi_non_tuple, isi_non_list, isi_non_dict, isi_non_tuple_list, isi_bl_str, isi_bl_int, isi_bl_bool, isi_bl_tuple, isi_bl_list, isi_bl_dict, isi_bl_tuple_list, isi_int_str, isi_int_int, isi_int_bool, isi_int_tuple, isi_int_list, isi_int_dict, isi_int_tuple_list, isi_str_str, isi_str_int, isi_str_bool, isi_str_tuple, isi_str_list, isi_str_dict, isi_str_tuple_list, isi_tup_str, isi_tup_int, isi_tup_bool, isi_tup_tuple, isi_tup_list, isi_tup_dict, isi_tup_tuple_list, isi_lst_str, isi_lst_int, isi_lst_bool, isi_lst_tuple, isi_lst_list, isi_lst_dict, isi_lst_tuple_list, uTru_K, uB_K, uPart_K, uRng_K, uOrV_K, uAndV_K, uNotV_K, uChain_K, uAug_K, truK_non, truK_bl, truK_int, truK_str, truK_tup, truK_lst, blK_bl, partK_int, rngK_int, tuple_t, tuple_l, len_ref, mul_rk, mul_rd, tuple_r, list_r, list_t, list_l, ix_tup_0, ix_lst_0, ix_tup_1, ix_lst_1, ix_tup_2, ix_lst_2, ix_tup_3, ix_lst_3, ix_tup_4, ix_lst_4, ixt_g, ixl_g, add_ll2, in_ss2, anyI_l2, isn_n, gTup_t, gCons_c, gNil_n, cle, clt, cge, cgt, ceq, cne, exists_eq_left', exists_eq_left, Option.some.injEq, U.int.injEq, U.bl.injEq, U.str.injEq, U.ref.injEq, U.tup.injEq, U.lst.injEq, U.ty.injEq, List.cons.injEq, and_true, true_and, and_self, List.map_cons, List.map_nil, List.length_cons, List.length_nil, List.cons_append, List.nil_append, List.append_nil, List.getElem?_cons_zero, List.getElem?_cons_succ, List.set_cons_zero, List.set_cons_succ, List.replicate, ↓reduceIte, Bool.false_eq_true, Bool.not_true, Bool.not_false, reduceCtorEq, Nat.reduceAdd, Nat.reduceSub, Nat.reduceLeDiff, Nat.reduceEqDiff, decide_true, decide_false, at0, at1, at2, at3, at4, ix0, ix1, ix2, ix3, ix4, updM_same, beq_self_eq_true, Option.bind, Option.map, wipeU, NT.put, puts, MO.lst.injEq, exists_and_left, decide_eq_true_eq, Bool.and_eq_true, Bool.or_eq_true, exists_eq', Nat.zero_le, true_or, or_true]
      refine ⟨line_le, draw_use (n := n + 1) hS4 (by omega) (by omega) fun r4 M5 h6 h7 hS5 hB5 => ?_⟩
      simp only [uIfS, uOr, uAnd, uNot, uCB, uCons, uNil, uC, uRet, uNext, uOp, uUn, uTup, uLst, uIf, uAsg, uName, uDrop, uCall, uBM, uBM0, uSl, uNoPart, uSub, ustart, uSeq, uRng2, List.append_nil, uYes, add_ii, add_ss, add_tt, add_lr_, add_rl_, sub_ii, mul_ii, mod_ii, div_ii, pow_ii, lt_ii, lt_ss, le_ii, gt_ii, ge_ii, neg_i, int_i, aug_ii, isNon_non, isNon_bl, isNon_int, isNon_str, isNon_tup, isNon_lst, isNon_ref, val_non, val_bl, val_int, val_str, val_tup, val_lst, refV_lst, val_ref, refL_lst, listU_lst, listU_ref, seqU_lst, seqU_tup, seqU_ref, lenU_str, lenU_tup, lenU_lst, lenU_ref, tyM_non, tyM_bl, tyM_int, tyM_str, tyM_tup, tyM_lst, refT_lst, tyM_ref, okN_str, okN_int, okN_bool, okN_tuple, okN_list, okN_dict, sub_NoneType_str, sub_NoneType_int, sub_NoneType_bool, sub_NoneType_tuple, sub_NoneType_list, sub_NoneType_dict, sub_bool_str, sub_bool_int, sub_bool_bool, sub_bool_tuple, sub_bool_list, sub_bool_dict, sub_int_str, sub_int_int, sub_int_bool, sub_int_tuple, sub_int_list, sub_int_dict, sub_str_str, sub_str_int, sub_str_bool, sub_str_tuple, sub_str_list, sub_str_dict, sub_tuple_str, sub_tuple_int, sub_tuple_bool, sub_tuple_tuple, sub_tuple_list, sub_tuple_dict, sub_list_str, sub_list_int, sub_list_bool, sub_list_tuple, sub_list_list, sub_list_dict, sub_dict_str, sub_dict_int, sub_dict_bool, sub_dict_tuple, sub_dict_list, sub_dict_dict, tru_non, tru_bl, tru_int, tru_str, tru_tup, tru_lst, eq_R, ne_R, isD_non, isD_bl, isD_int, isD_str, isD_tup, isD_lst, isDs_nil, isDs_cons, dep_non, dep_bl, dep_int, dep_str, dep_tup, dep_lst, deps_nil, deps_cons, ueq_ii, ueq_ss, ueq_bb, ueq_tt, ueq_ll, ueqs_nn, ueqs_cc, ueqs_cn, ueqs_nc, ix_s, ix_r, set_r, app_r, pop_r, ins_r, join_r, all_1, any_1, repr_1, newL_f, newL_t, sl_s, sl_t, sl_l, sl_r, in_t, in_l, in_r, tyMt_rl, tyMt_rd, tyMt_s, any_t, anyI_t, anyI_s, anyI_r, uVar_0, uVar_1, uVar_2, uVar_3, uVar_4, uVar_5, uVar_6, uVar_7, uVar_8, uVar_9, uVar_10, uVar_11, uVar_12, uVar_13, uVar_14, uVar_15, len_str, len_tup, len_lst, isi_non_str, isi_non_int, isi_non_bool, isi_non_tuple, isi_non_list, isi_non_dict, isi_non_tuple_list, isi_bl_str, isi_bl_int, isi_bl_bool, isi_bl_tuple, isi_bl_list, isi_bl_dict, isi_bl_tuple_list, isi_int_str, isi_int_int, isi_int_bool, isi_int_tuple, isi_int_list, isi_int_dict, isi_int_tuple_list, isi_str_str, isi_str_int, isi_str_bool, isi_str_tuple, isi_str_list, isi_str_dict, isi_str_tuple_list, isi_tup_str, isi_tup_int, isi_tup_bool, isi_tup_tuple, isi_tup_list, isi_tup_dict, isi_tup_tuple_list, isi_lst_str, isi_lst_int, isi_lst_bool, isi_lst_tuple, isi_lst_list, isi_lst_dict, isi_lst_tuple_list, uTru_K, uB_K, uPart_K, uRng_K, uOrV_K, uAndV_K, uNotV_K, uChain_K, uAug_K, truK_non, truK_bl, truK_int, truK_str, truK_tup, truK_lst, blK_bl, partK_int, rngK_int, tuple_t, tuple_l, len_ref, mul_rk, mul_rd, tuple_r, list_r, list_t, list_l, ix_tup_0, ix_lst_0, ix_tup_1, ix_lst_1, ix_tup_2, ix_lst_2, ix_tup_3, ix_lst_3, ix_tup_4, ix_lst_4, ixt_g, ixl_g, add_ll2, in_ss2, anyI_l2, isn_n, gTup_t, gCons_c, gNil_n, cle, clt, cge, cgt, ceq, cne, exists_eq_left', exists_eq_left, Option.some.injEq, U.int.injEq, U.bl.injEq, U.str.injEq, U.ref.injEq, U.tup.injEq, U.lst.injEq, U.ty.injEq, List.cons.injEq, and_true, true_and, and_self, List.map_cons, List.map_nil, List.length_cons, List.length_nil, List.cons_append, List.nil_append, List.append_nil, List.getElem?_cons_zero, List.getElem?_cons_succ, List.set_cons_zero, List.set_cons_succ, List.replicate, ↓reduceIte, Bool.false_eq_true, Bool.not_true, Bool.not_false, reduceCtorEq, Nat.reduceAdd, Nat.reduceSub, Nat.reduceLeDiff, Nat.reduceEqDiff, decide_true, decide_false, at0, at1, at2, at3, at4, ix0, ix1, ix2, ix3, ix4, updM_same, beq_self_eq_true, Option.bind, Option.map, wipeU, NT.put, puts, MO.lst.injEq, exists_and_left, decide_eq_true_eq, Bool.and_eq_true, Bool.or_eq_true, exists_eq', Nat.zero_le, true_or, or_true]
      obtain ⟨g, e2, hg⟩ := at_draw (xs := [.str "A", .str "Z", .str " ", .str "_", .str "0", .str "9", .str "-", .str ".", .str "/", .str "@", .str "{", .str "`", .str "\n"]) h6 h7
      obtain ⟨y, rfl, hy1, hy2⟩ : ∃ y, g = .str y ∧ y.length = 1 ∧ okS y = true := by
        simp only [List.mem_cons, List.not_mem_nil, or_false] at hg
        rcases hg with rfl | rfl | rfl | rfl | rfl | rfl | rfl | rfl | rfl | rfl | rfl | rfl | rfl <;> exact ⟨_, rfl, by decide +kernel, by decide +kernel⟩
      refine ⟨_, e2, ?_⟩
      simp only [uIfS, uOr, uAnd, uNot, uCB, uCons, uNil, uC, uRet, uNext, uOp, uUn, uTup, uLst, uIf, uAsg, uName, uDrop, uCall, uBM, uBM0, uSl, uNoPart, uSub, ustart, uSeq, uRng2, List.append_nil, uYes, add_ii, add_ss, add_tt, add_lr_, add_rl_, sub_ii, mul_ii, mod_ii, div_ii, pow_ii, lt_ii, lt_ss, le_ii, gt_ii, ge_ii, neg_i, int_i, aug_ii, isNon_non, isNon_bl, isNon_int, isNon_str, isNon_tup, isNon_lst, isNon_ref, val_non, val_bl, val_int, val_str, val_tup, val_lst, refV_lst, val_ref, refL_lst, listU_lst, listU_ref, seqU_lst, seqU_tup, seqU_ref, lenU_str, lenU_tup, lenU_lst, lenU_ref, tyM_non, tyM_bl, tyM_int, tyM_str, tyM_tup, tyM_lst, refT_lst, tyM_ref, okN_str, okN_int, okN_bool, okN_tuple, okN_list, okN_dict, sub_NoneType_str, sub_NoneType_int, sub_NoneType_bool, sub_NoneType_tuple, sub_NoneType_list, sub_NoneType_dict, sub_bool_str, sub_bool_int, sub_bool_bool, sub_bool_tuple, sub_bool_list, sub_bool_dict, sub_int_str, sub_int_int, sub_int_bool, sub_int_tuple, sub_int_list, sub_int_dict, sub_str_str, sub_str_int, sub_str_bool, sub_str_tuple, sub_str_list, sub_str_dict, sub_tuple_str, sub_tuple_int, sub_tuple_bool, sub_tuple_tuple, sub_tuple_list, sub_tuple_dict, sub_list_str, sub_list_int, sub_list_bool, sub_list_tuple, sub_list_list, sub_list_dict, sub_dict_str, sub_dict_int, sub_dict_bool, sub_dict_tuple, sub_dict_list, sub_dict_dict, tru_non, tru_bl, tru_int, tru_str, tru_tup, tru_lst, eq_R, ne_R, isD_non, isD_bl, isD_int, isD_str, isD_tup, isD_lst, isDs_nil, isDs_cons, dep_non, dep_bl, dep_int, dep_str, dep_tup, dep_lst, deps_nil, deps_cons, ueq_ii, ueq_ss, ueq_bb, ueq_tt, ueq_ll, ueqs_nn, ueqs_cc, ueqs_cn, ueqs_nc, ix_s, ix_r, set_r, app_r, pop_r, ins_r, join_r, all_1, any_1, repr_1, newL_f, newL_t, sl_s, sl_t, sl_l, sl_r, in_t, in_l, in_r, tyMt_rl, tyMt_rd, tyMt_s, any_t, anyI_t, anyI_s, anyI_r, uVar_0, uVar_1, uVar_2, uVar_3, uVar_4, uVar_5, uVar_6, uVar_7, uVar_8, uVar_9, uVar_10, uVar_11, uVar_12, uVar_13, uVar_14, uVar_15, len_str, len_tup, len_lst, isi_non_str, isi_non_int, isi_non_bool, isi_non_tuple, isi_non_list, isi_non_dict, isi_non_tuple_list, isi_bl_str, isi_bl_int, isi_bl_bool, isi_bl_tuple, isi_bl_list, isi_bl_dict, isi_bl_tuple_list, isi_int_str, isi_int_int, isi_int_bool, isi_int_tuple, isi_int_list, isi_int_dict, isi_int_tuple_list, isi_str_str, isi_str_int, isi_str_bool, isi_str_tuple, isi_str_list, isi_str_dict, isi_str_tuple_list, isi_tup_str, isi_tup_int, isi_tup_bool, isi_tup_tuple, isi_tup_list, isi_tup_dict, isi_tup_tuple_list, isi_lst_str, isi_lst_int, isi_lst_bool, isi_lst_tuple, isi_lst_list, isi_lst_dict, isi_lst_tuple_list, uTru_K, uB_K, uPart_K, uRng_K, uOrV_K, uAndV_K, uNotV_K, uChain_K, uAug_K, truK_non, truK_bl, truK_int, truK_str, truK_tup, truK_lst, blK_bl, partK_int, rngK_int, tuple_t, tuple_l, len_ref, mul_rk, mul_rd, tuple_r, list_r, list_t, list_l, ix_tup_0, ix_lst_0, ix_tup_1, ix_lst_1, ix_tup_2, ix_lst_2, ix_tup_3, ix_lst_3, ix_tup_4, ix_lst_4, ixt_g, ixl_g, add_ll2, in_ss2, anyI_l2, isn_n, gTup_t, gCons_c, gNil_n, cle, clt, cge, cgt, ceq, cne, exists_eq_left', exists_eq_left, Option.some.injEq, U.int.injEq, U.bl.injEq, U.str.injEq, U.ref.injEq, U.tup.injEq, U.lst.injEq, U.ty.injEq, List.cons.injEq, and_true, true_and, and_self, List.map_cons, List.map_nil, List.length_cons, List.length_nil, List.cons_append, List.nil_append, List.append_nil, List.getElem?_cons_zero, List.getElem?_cons_succ, List.set_cons_zero, List.set_cons_succ, List.replicate, ↓reduceIte, Bool.false_eq_true, Bool.not_true, Bool.not_false, reduceCtorEq, Nat.reduceAdd, Nat.reduceSub, Nat.reduceLeDiff, Nat.reduceEqDiff, decide_true, decide_false, at0, at1, at2, at3, at4, ix0, ix1, ix2, ix3, ix4, updM_same, beq_self_eq_true, Option.bind, Option.map, wipeU, NT.put, puts, MO.lst.injEq, exists_and_left, decide_eq_true_eq, Bool.and_eq_true, Bool.or_eq_true, exists_eq', Nat.zero_le, true_or, or_true]
      have k1 := cut_len z none (some r3)
      refine ⟨line_le (by omega), draw_use (n := n) hS5 (by omega) (by omega) fun r5 M6 h8 h9 hS6 hB6 => ?_⟩
      have k2 := cut_len z (some (r3 + r5)) none
      have hsum : (cutS z none (some r3) ++ y).length + (cutS z (some (r3 + r5)) none).length ≤ 17 := by
        rw [str_len_append, hy1]
        have e1 : (cutS z none (some r3)).length ≤ r3.toNat := by
          show ((z.cps.toList.drop _).take _).toArray.size ≤ _
          rw [List.size_toArray, List.length_take]
          have : HT.sIx z.length z.length (some r3) ≤ r3.toNat := by
            show (if r3 < 0 then _ else min r3.toNat z.length) ≤ _
            rw [if_neg (by omega)]
            exact Nat.min_le_left _ _
          omega
        have e3 : (cutS z (some (r3 + r5)) none).length ≤ z.length - r3.toNat := by
          show ((z.cps.toList.drop _).take _).toArray.size ≤ _
          rw [List.size_toArray, List.length_take, List.length_drop, ← str_len]
          have : min (r3 + r5).toNat z.length ≤ HT.sIx z.length 0 (some (r3 + r5)) := by
            show _ ≤ (if r3 + r5 < 0 then _ else min (r3 + r5).toNat z.length)
            rw [if_neg (by omega)]
            exact Nat.le_refl _
          omega
        omega
      simp only [uIfS, uOr, uAnd, uNot, uCB, uCons, uNil, uC, uRet, uNext, uOp, uUn, uTup, uLst, uIf, uAsg, uName, uDrop, uCall, uBM, uBM0, uSl, uNoPart, uSub, ustart, uSeq, uRng2, List.append_nil, uYes, add_ii, add_ss, add_tt, add_lr_, add_rl_, sub_ii, mul_ii, mod_ii, div_ii, pow_ii, lt_ii, lt_ss, le_ii, gt_ii, ge_ii, neg_i, int_i, aug_ii, isNon_non, isNon_bl, isNon_int, isNon_str, isNon_tup, isNon_lst, isNon_ref, val_non, val_bl, val_int, val_str, val_tup, val_lst, refV_lst, val_ref, refL_lst, listU_lst, listU_ref, seqU_lst, seqU_tup, seqU_ref, lenU_str, lenU_tup, lenU_lst, lenU_ref, tyM_non, tyM_bl, tyM_int, tyM_str, tyM_tup, tyM_lst, refT_lst, tyM_ref, okN_str, okN_int, okN_bool, okN_tuple, okN_list, okN_dict, sub_NoneType_str, sub_NoneType_int, sub_NoneType_bool, sub_NoneType_tuple, sub_NoneType_list, sub_NoneType_dict, sub_bool_str, sub_bool_int, sub_bool_bool, sub_bool_tuple, sub_bool_list, sub_bool_dict, sub_int_str, sub_int_int, sub_int_bool, sub_int_tuple, sub_int_list, sub_int_dict, sub_str_str, sub_str_int, sub_str_bool, sub_str_tuple, sub_str_list, sub_str_dict, sub_tuple_str, sub_tuple_int, sub_tuple_bool, sub_tuple_tuple, sub_tuple_list, sub_tuple_dict, sub_list_str, sub_list_int, sub_list_bool, sub_list_tuple, sub_list_list, sub_list_dict, sub_dict_str, sub_dict_int, sub_dict_bool, sub_dict_tuple, sub_dict_list, sub_dict_dict, tru_non, tru_bl, tru_int, tru_str, tru_tup, tru_lst, eq_R, ne_R, isD_non, isD_bl, isD_int, isD_str, isD_tup, isD_lst, isDs_nil, isDs_cons, dep_non, dep_bl, dep_int, dep_str, dep_tup, dep_lst, deps_nil, deps_cons, ueq_ii, ueq_ss, ueq_bb, ueq_tt, ueq_ll, ueqs_nn, ueqs_cc, ueqs_cn, ueqs_nc, ix_s, ix_r, set_r, app_r, pop_r, ins_r, join_r, all_1, any_1, repr_1, newL_f, newL_t, sl_s, sl_t, sl_l, sl_r, in_t, in_l, in_r, tyMt_rl, tyMt_rd, tyMt_s, any_t, anyI_t, anyI_s, anyI_r, uVar_0, uVar_1, uVar_2, uVar_3, uVar_4, uVar_5, uVar_6, uVar_7, uVar_8, uVar_9, uVar_10, uVar_11, uVar_12, uVar_13, uVar_14, uVar_15, len_str, len_tup, len_lst, isi_non_str, isi_non_int, isi_non_bool, isi_non_tuple, isi_non_list, isi_non_dict, isi_non_tuple_list, isi_bl_str, isi_bl_int, isi_bl_bool, isi_bl_tuple, isi_bl_list, isi_bl_dict, isi_bl_tuple_list, isi_int_str, isi_int_int, isi_int_bool, isi_int_tuple, isi_int_list, isi_int_dict, isi_int_tuple_list, isi_str_str, isi_str_int, isi_str_bool, isi_str_tuple, isi_str_list, isi_str_dict, isi_str_tuple_list, isi_tup_str, isi_tup_int, isi_tup_bool, isi_tup_tuple, isi_tup_list, isi_tup_dict, isi_tup_tuple_list, isi_lst_str, isi_lst_int, isi_lst_bool, isi_lst_tuple, isi_lst_list, isi_lst_dict, isi_lst_tuple_list, uTru_K, uB_K, uPart_K, uRng_K, uOrV_K, uAndV_K, uNotV_K, uChain_K, uAug_K, truK_non, truK_bl, truK_int, truK_str, truK_tup, truK_lst, blK_bl, partK_int, rngK_int, tuple_t, tuple_l, len_ref, mul_rk, mul_rd, tuple_r, list_r, list_t, list_l, ix_tup_0, ix_lst_0, ix_tup_1, ix_lst_1, ix_tup_2, ix_lst_2, ix_tup_3, ix_lst_3, ix_tup_4, ix_lst_4, ixt_g, ixl_g, add_ll2, in_ss2, anyI_l2, isn_n, gTup_t, gCons_c, gNil_n, cle, clt, cge, cgt, ceq, cne, exists_eq_left', exists_eq_left, Option.some.injEq, U.int.injEq, U.bl.injEq, U.str.injEq, U.ref.injEq, U.tup.injEq, U.lst.injEq, U.ty.injEq, List.cons.injEq, and_true, true_and, and_self, List.map_cons, List.map_nil, List.length_cons, List.length_nil, List.cons_append, List.nil_append, List.append_nil, List.getElem?_cons_zero, List.getElem?_cons_succ, List.set_cons_zero, List.set_cons_succ, List.replicate, ↓reduceIte, Bool.false_eq_true, Bool.not_true, Bool.not_false, reduceCtorEq, Nat.reduceAdd, Nat.reduceSub, Nat.reduceLeDiff, Nat.reduceEqDiff, decide_true, decide_false, at0, at1, at2, at3, at4, ix0, ix1, ix2, ix3, ix4, updM_same, beq_self_eq_true, Option.bind, Option.map, wipeU, NT.put, puts, MO.lst.injEq, exists_and_left, decide_eq_true_eq, Bool.and_eq_true, Bool.or_eq_true, exists_eq', Nat.zero_le, true_or, or_true]
      refine ⟨line_le (by omega), q _ _ (by rw [str_len_append]; exact hsum) ?_ hS6 ((((hB.trans hB4).trans hB5)).trans hB6)⟩
      refine okS.app (okS.app (okS_cut okz _ _) hy2 (line_le (by omega))) (okS_cut okz _ _) (line_le (by omega))
    · exact q z M3 (by omega) okz (hS3.le (by omega)) hB

/-! ### _law_thing -/
def tC : Nat → Nat
  | 0 => 1
  | d + 1 => 3 + 3 * tC d
def tZ : Nat → Nat
  | 0 => 110
  | d + 1 => 3 * (tZ d + 2) + 4
theorem tZ_ge : ∀ d, 110 ≤ tZ d
  | 0 => Nat.le_refl _
  | d + 1 => by have := tZ_ge d; simp only [tZ]; omega
theorem tC_ge : ∀ d, 1 ≤ tC d
  | 0 => Nat.le_refl _
  | d + 1 => by simp only [tC]; omega
def sp__law_thing (d : Nat) : USp := fun us M Q _ => ∃ (s c : Addr) (n : Nat), us = [.ref s, .int d] ∧ Strm M s c (n + tC d) ∧ ∀ y M', Dt (d + 1) (tZ d) y → Strm M' s c n → But s c M M' → Q y M'
theorem thing_use {M : UHp} {Q : UK} {E : UXK} {s c : Addr} {n d : Nat} (hS : Strm M s c (n + tC d)) (h : ∀ y M', Dt (d + 1) (tZ d) y → Strm M' s c n → But s c M M' → Q y M') : sp__law_thing d [.ref s, .int d] M Q E := ⟨s, c, n, rfl, hS, h⟩
theorem step__law_thing (L : Lw K mg) {k : Nat} {sp' : USp} (d : Nat) (G : UFn P w K mg base CX0 (5 + k) L.f__law_thing L.fd__law_thing ["_law_stream", "_law_deep"] sp') (hsp : ∀ d', d = d' + 1 → sp' = sp__law_thing d') : UFn P w K mg base CX0 (5 + k + 1) L.f__law_thing L.fd__law_thing ["_law_stream", "_law_deep"] (sp__law_thing d) := by
  refine ufn_ok L.D__law_thing.F sc__law_thing (fun us M Q E h => ?_) (fun cdv A outer s H E hr hG =>
      (uss_cons (us_set (i := 2) sc__law_thing.nd rfl (.inl rfl) (ue_lst false (ua_cons ue_non (ua_cons ue_bl (ua_cons ue_bl (ua_cons ue_int (ua_cons ue_int (ua_cons (ue_un uu_neg ue_int) (ua_cons (ue_op uo_sub (ue_op uo_pow ue_int ue_int) ue_int) (ua_cons ue_str (ua_cons ue_str (ua_cons ue_str (ua_cons ue_str (ua_cons (ue_tup ua_nil) (ua_cons (ue_lst false ua_nil) (ua_cons (ue_tup (ua_cons ue_str ua_nil)) (ua_cons (ue_lst false (ua_cons ue_str ua_nil)) (ua_cons ue_str (ua_cons ue_str ua_nil)))))))))))))))))))
      (uss_cons (us_if (PW.pt (uw_or (ut_cmp (uo_eq (hu6 hr)) (uv 1) ue_int (nomark _)) (uw_or1 (ut_cmp uo_gt (ue_call (ok__law_draw L) (hr.mono (by omega)) hG rfl L.D__law_draw.g L.D__law_draw.F.kp L.D__law_draw.b .nil (fun _ => RelUs.nil) (ua_cons (uv 0) (ua_cons ue_int ua_nil))) ue_int (nomark _))))) (uss_one (us_ret (ue_ix (uv 2) (ue_call (ok__law_draw L) (hr.mono (by omega)) hG rfl L.D__law_draw.g L.D__law_draw.F.kp L.D__law_draw.b .nil (fun _ => RelUs.nil) (ua_cons (uv 0) (ua_cons ue_int ua_nil)))))) uss_nil)
      (uss_cons (us_setLc (i := 3) (own := [("_law_k", 4)]) (n := (.one 4)) false rfl sc__law_thing.nd rfl rfl (sw_true rfl rfl rfl (by decide +kernel)) (ui_range1 (by rfl) L.n_range (ua_cons (ue_call (ok__law_draw L) (hr.mono (by omega)) hG rfl L.D__law_draw.g L.D__law_draw.F.kp L.D__law_draw.b .nil (fun _ => RelUs.nil) (ua_cons (uv 0) (ua_cons ue_int ua_nil))) ua_nil)) (blkOk_by (own := [("_law_k", 4)]) (N := ["_law_stream", "_law_deep", "_law_some", "_law_parts", "_law_k"]) (sc := defScope s__law_thing) (by decide +kernel)) (by decide) (fun _ _ _ _ _ => (pg_nt sc__law_thing.nd rfl (.inl rfl))) (fun _ _ _ _ _ => uts_nil) (fun _ _ _ _ _ => (ue_call G (hr.mono (by omega)) hG rfl L.D__law_thing.g L.D__law_thing.F.kp L.D__law_thing.b .nil (fun _ => RelUs.nil) (ua_cons (uv 0) (ua_cons (ue_op uo_sub (uv 1) ue_int) ua_nil)))))
      (uss_one (us_ret (ue_ix (ue_lst false (ua_cons (uv 3) (ua_cons (ue_callTy uc_tuple (by rfl) L.n_tuple bt_tuple (ua_cons (uv 3) ua_nil)) ua_nil))) (ue_call (ok__law_draw L) (hr.mono (by omega)) hG rfl L.D__law_draw.g L.D__law_draw.F.kp L.D__law_draw.b .nil (fun _ => RelUs.nil) (ua_cons (uv 0) (ua_cons ue_int ua_nil)))))))))) (fun us M Q E h => ?_)
  · obtain ⟨s, c, n, rfl, _⟩ := h
    rfl
  · obtain ⟨s, c, n, rfl, hS, q⟩ := h
    have q : ∀ y M', Dt (d + 1) (tZ d) y → Strm M' s c n → But s c M M' → ZQ Q y M' := fun y M' h1 h2 h3 => .inl (q y M' h1 h2 h3)
    have base : ∀ y ∈ [U.non, .bl true, .bl false, .int 0, .int 1, .int (-7), .int (10 ^ Int.toNat 30 - 1), .str "", .str "link", .str "a", .str "on", .tup [], .lst [], .tup [.str "a"], .lst [.str "a"], .str "A", .str "b c"], Dt (d + 1) (tZ d) y :=
      fun y hy => (Dt.ofs (k := 1) (n := 110) (by decide +kernel) y hy).mono (by omega) (tZ_ge d)
    cases d with
    | zero =>
      simp only [tC] at hS
      have h0 : ((((0:Nat)):Int) == 0) = true := rfl
      simp only [uIfS, uOr, uAnd, uNot, uCB, uCons, uNil, uC, uRet, uNext, uOp, uUn, uTup, uLst, uIf, uAsg, uName, uDrop, uCall, uBM, uBM0, uSl, uNoPart, uSub, ustart, uSeq, uRng2, List.append_nil, uYes, add_ii, add_ss, add_tt, add_lr_, add_rl_, sub_ii, mul_ii, mod_ii, div_ii, pow_ii, lt_ii, lt_ss, le_ii, gt_ii, ge_ii, neg_i, int_i, aug_ii, isNon_non, isNon_bl, isNon_int, isNon_str, isNon_tup, isNon_lst, isNon_ref, val_non, val_bl, val_int, val_str, val_tup, val_lst, refV_lst, val_ref, refL_lst, listU_lst, listU_ref, seqU_lst, seqU_tup, seqU_ref, lenU_str, lenU_tup, lenU_lst, lenU_ref, tyM_non, tyM_bl, tyM_int, tyM_str, tyM_tup, tyM_lst, refT_lst, tyM_ref, okN_str, okN_int, okN_bool, okN_tuple, okN_list, okN_dict, sub_NoneType_str, sub_NoneType_int, sub_NoneType_bool, sub_NoneType_tuple, sub_NoneType_list, sub_NoneType_dict, sub_bool_str, sub_bool_int, sub_bool_bool, sub_bool_tuple, sub_bool_list, sub_bool_dict, sub_int_str, sub_int_int, sub_int_bool, sub_int_tuple, sub_int_list, sub_int_dict, sub_str_str, sub_str_int, sub_str_bool, sub_str_tuple, sub_str_list, sub_str_dict, sub_tuple_str, sub_tuple_int, sub_tuple_bool, sub_tuple_tuple, sub_tuple_list, sub_tuple_dict, sub_list_str, sub_list_int, sub_list_bool, sub_list_tuple, sub_list_list, sub_list_dict, sub_dict_str, sub_dict_int, sub_dict_bool, sub_dict_tuple, sub_dict_list, sub_dict_dict, tru_non, tru_bl, tru_int, tru_str, tru_tup, tru_lst, eq_R, ne_R, isD_non, isD_bl, isD_int, isD_str, isD_tup, isD_lst, isDs_nil, isDs_cons, dep_non, dep_bl, dep_int, dep_str, dep_tup, dep_lst, deps_nil, deps_cons, ueq_ii, ueq_ss, ueq_bb, ueq_tt, ueq_ll, ueqs_nn, ueqs_cc, ueqs_cn, ueqs_nc, ix_s, ix_r, set_r, app_r, pop_r, ins_r, join_r, all_1, any_1, repr_1, newL_f, newL_t, sl_s, sl_t, sl_l, sl_r, in_t, in_l, in_r, tyMt_rl, tyMt_rd, tyMt_s, any_t, anyI_t, anyI_s, anyI_r, uVar_0, uVar_1, uVar_2, uVar_3, uVar_4, uVar_5, uVar_6, uVar_7, uVar_8, uVar_9, uVar_10, uVar_11, uVar_12, uVar_13, uVar_14, uVar_15, len_str, len_tup, len_lst, isi_non_str, isi_non_int, isi_non_bool, isi_non_tuple, isi_non_list, isi_non_dict, isi_non_tuple_list, isi_bl_str, isi_bl_int, isi_bl_bool, isi_bl_tuple, isi_bl_list, isi_bl_dict, isi_bl_tuple_list, isi_int_str, isi_int_int, isi_int_bool, isi_int_tuple, isi_int_list, isi_int_dict, isi_int_tuple_list, isi_str_str, isi_str_int, isi_str_bool, isi_str_tuple, isi_str_list, isi_str_dict, isi_str_tuple_list, isi_tup_str, isi_tup_int, isi_tup_bool, isi_tup_tuple, isi_tup_list, isi_tup_dict, isi_tup_tuple_list, isi_lst_str, isi_lst_int, isi_lst_bool, isi_lst_tuple, isi_lst_list, isi_lst_dict, isi_lst_tuple_list, uTru_K, uB_K, uPart_K, uRng_K, uOrV_K, uAndV_K, uNotV_K, uChain_K, uAug_K, truK_non, truK_bl, truK_int, truK_str, truK_tup, truK_lst, blK_bl, partK_int, rngK_int, tuple_t, tuple_l, len_ref, mul_rk, mul_rd, tuple_r, list_r, list_t, list_l, ix_tup_0, ix_lst_0, ix_tup_1, ix_lst_1, ix_tup_2, ix_lst_2, ix_tup_3, ix_lst_3, ix_tup_4, ix_lst_4, ixt_g, ixl_g, add_ll2, in_ss2, anyI_l2, isn_n, gTup_t, gCons_c, gNil_n, cle, clt, cge, cgt, ceq, cne, exists_eq_left', exists_eq_left, Option.some.injEq, U.int.injEq, U.bl.injEq, U.str.injEq, U.ref.injEq, U.tup.injEq, U.lst.injEq, U.ty.injEq, List.cons.injEq, and_true, true_and, and_self, List.map_cons, List.map_nil, List.length_cons, List.length_nil, List.cons_append, List.nil_append, List.append_nil, List.getElem?_cons_zero, List.getElem?_cons_succ, List.set_cons_zero, List.set_cons_succ, List.replicate, ↓reduceIte, Bool.false_eq_true, Bool.not_true, Bool.not_false, reduceCtorEq, Nat.reduceAdd, Nat.reduceSub, Nat.reduceLeDiff, Nat.reduceEqDiff, decide_true, decide_false, at0, at1, at2, at3, at4, ix0, ix1, ix2, ix3, ix4, updM_same, beq_self_eq_true, Option.bind, Option.map, wipeU, NT.put, puts, MO.lst.injEq, exists_and_left, decide_eq_true_eq, Bool.and_eq_true, Bool.or_eq_true, exists_eq', Nat.zero_le, true_or, or_true, h0]
      refine ⟨⟨by decide, by decide, by decide⟩, line_le, line_le, line_le, ?_⟩
      refine draw_use hS (by decide) (by decide) fun r M1 h0 h1 hS1 hB1 => ?_
      simp only [uIfS, uOr, uAnd, uNot, uCB, uCons, uNil, uC, uRet, uNext, uOp, uUn, uTup, uLst, uIf, uAsg, uName, uDrop, uCall, uBM, uBM0, uSl, uNoPart, uSub, ustart, uSeq, uRng2, List.append_nil, uYes, add_ii, add_ss, add_tt, add_lr_, add_rl_, sub_ii, mul_ii, mod_ii, div_ii, pow_ii, lt_ii, lt_ss, le_ii, gt_ii, ge_ii, neg_i, int_i, aug_ii, isNon_non, isNon_bl, isNon_int, isNon_str, isNon_tup, isNon_lst, isNon_ref, val_non, val_bl, val_int, val_str, val_tup, val_lst, refV_lst, val_ref, refL_lst, listU_lst, listU_ref, seqU_lst, seqU_tup, seqU_ref, lenU_str, lenU_tup, lenU_lst, lenU_ref, tyM_non, tyM_bl, tyM_int, tyM_str, tyM_tup, tyM_lst, refT_lst, tyM_ref, okN_str, okN_int, okN_bool, okN_tuple, okN_list, okN_dict, sub_NoneType_str, sub_NoneType_int, sub_NoneType_bool, sub_NoneType_tuple, sub_NoneType_list, sub_NoneType_dict, sub_bool_str, sub_bool_int, sub_bool_bool, sub_bool_tuple, sub_bool_list, sub_bool_dict, sub_int_str, sub_int_int, sub_int_bool, sub_int_tuple, sub_int_list, sub_int_dict, sub_str_str, sub_str_int, sub_str_bool, sub_str_tuple, sub_str_list, sub_str_dict, sub_tuple_str, sub_tuple_int, sub_tuple_bool, sub_tuple_tuple, sub_tuple_list, sub_tuple_dict, sub_list_str, sub_list_int, sub_list_bool, sub_list_tuple, sub_list_list, sub_list_dict, sub_dict_str, sub_dict_int, sub_dict_bool, sub_dict_tuple, sub_dict_list, sub_dict_dict, tru_non, tru_bl, tru_int, tru_str, tru_tup, tru_lst, eq_R, ne_R, isD_non, isD_bl, isD_int, isD_str, isD_tup, isD_lst, isDs_nil, isDs_cons, dep_non, dep_bl, dep_int, dep_str, dep_tup, dep_lst, deps_nil, deps_cons, ueq_ii, ueq_ss, ueq_bb, ueq_tt, ueq_ll, ueqs_nn, ueqs_cc, ueqs_cn, ueqs_nc, ix_s, ix_r, set_r, app_r, pop_r, ins_r, join_r, all_1, any_1, repr_1, newL_f, newL_t, sl_s, sl_t, sl_l, sl_r, in_t, in_l, in_r, tyMt_rl, tyMt_rd, tyMt_s, any_t, anyI_t, anyI_s, anyI_r, uVar_0, uVar_1, uVar_2, uVar_3, uVar_4, uVar_5, uVar_6, uVar_7, uVar_8, uVar_9, uVar_10, uVar_11, uVar_12, uVar_13, uVar_14, uVar_15, len_str, len_tup, len_lst, isi_non_str, isi_non_int, isi_non_bool, isi_non_tuple, isi_non_list, isi_non_dict, isi_non_tuple_list, isi_bl_str, isi_bl_int, isi_bl_bool, isi_bl_tuple, isi_bl_list, isi_bl_dict, isi_bl_tuple_list, isi_int_str, isi_int_int, isi_int_bool, isi_int_tuple, isi_int_list, isi_int_dict, isi_int_tuple_list, isi_str_str, isi_str_int, isi_str_bool, isi_str_tuple, isi_str_list, isi_str_dict, isi_str_tuple_list, isi_tup_str, isi_tup_int, isi_tup_bool, isi_tup_tuple, isi_tup_list, isi_tup_dict, isi_tup_tuple_list, isi_lst_str, isi_lst_int, isi_lst_bool, isi_lst_tuple, isi_lst_list, isi_lst_dict, isi_lst_tuple_list, uTru_K, uB_K, uPart_K, uRng_K, uOrV_K, uAndV_K, uNotV_K, uChain_K, uAug_K, truK_non, truK_bl, truK_int, truK_str, truK_tup, truK_lst, blK_bl, partK_int, rngK_int, tuple_t, tuple_l, len_ref, mul_rk, mul_rd, tuple_r, list_r, list_t, list_l, ix_tup_0, ix_lst_0, ix_tup_1, ix_lst_1, ix_tup_2, ix_lst_2, ix_tup_3, ix_lst_3, ix_tup_4, ix_lst_4, ixt_g, ixl_g, add_ll2, in_ss2, anyI_l2, isn_n, gTup_t, gCons_c, gNil_n, cle, clt, cge, cgt, ceq, cne, exists_eq_left', exists_eq_left, Option.some.injEq, U.int.injEq, U.bl.injEq, U.str.injEq, U.ref.injEq, U.tup.injEq, U.lst.injEq, U.ty.injEq, List.cons.injEq, and_true, true_and, and_self, List.map_cons, List.map_nil, List.length_cons, List.length_nil, List.cons_append, List.nil_append, List.append_nil, List.getElem?_cons_zero, List.getElem?_cons_succ, List.set_cons_zero, List.set_cons_succ, List.replicate, ↓reduceIte, Bool.false_eq_true, Bool.not_true, Bool.not_false, reduceCtorEq, Nat.reduceAdd, Nat.reduceSub, Nat.reduceLeDiff, Nat.reduceEqDiff, decide_true, decide_false, at0, at1, at2, at3, at4, ix0, ix1, ix2, ix3, ix4, updM_same, beq_self_eq_true, Option.bind, Option.map, wipeU, NT.put, puts, MO.lst.injEq, exists_and_left, decide_eq_true_eq, Bool.and_eq_true, Bool.or_eq_true, exists_eq', Nat.zero_le, true_or, or_true]
      obtain ⟨v, e, hv⟩ := at_draw (xs := [U.non, .bl true, .bl false, .int 0, .int 1, .int (-7), .int (10 ^ Int.toNat 30 - 1), .str "", .str "link", .str "a", .str "on", .tup [], .lst [], .tup [.str "a"], .lst [.str "a"], .str "A", .str "b c"]) h0 h1
      exact ⟨v, e, q v M1 (base v hv) hS1 hB1⟩
    | succ d =>
      obtain rfl := hsp d rfl
      have hd : ((((d + 1 : Nat) : Int)) == 0) = false := beq_eq_false_iff_ne.mpr (by omega)
      simp only [tC] at hS
      simp only [uIfS, uOr, uAnd, uNot, uCB, uCons, uNil, uC, uRet, uNext, uOp, uUn, uTup, uLst, uIf, uAsg, uName, uDrop, uCall, uBM, uBM0, uSl, uNoPart, uSub, ustart, uSeq, uRng2, List.append_nil, uYes, add_ii, add_ss, add_tt, add_lr_, add_rl_, sub_ii, mul_ii, mod_ii, div_ii, pow_ii, lt_ii, lt_ss, le_ii, gt_ii, ge_ii, neg_i, int_i, aug_ii, isNon_non, isNon_bl, isNon_int, isNon_str, isNon_tup, isNon_lst, isNon_ref, val_non, val_bl, val_int, val_str, val_tup, val_lst, refV_lst, val_ref, refL_lst, listU_lst, listU_ref, seqU_lst, seqU_tup, seqU_ref, lenU_str, lenU_tup, lenU_lst, lenU_ref, tyM_non, tyM_bl, tyM_int, tyM_str, tyM_tup, tyM_lst, refT_lst, tyM_ref, okN_str, okN_int, okN_bool, okN_tuple, okN_list, okN_dict, sub_NoneType_str, sub_NoneType_int, sub_NoneType_bool, sub_NoneType_tuple, sub_NoneType_list, sub_NoneType_dict, sub_bool_str, sub_bool_int, sub_bool_bool, sub_bool_tuple, sub_bool_list, sub_bool_dict, sub_int_str, sub_int_int, sub_int_bool, sub_int_tuple, sub_int_list, sub_int_dict, sub_str_str, sub_str_int, sub_str_bool, sub_str_tuple, sub_str_list, sub_str_dict, sub_tuple_str, sub_tuple_int, sub_tuple_bool, sub_tuple_tuple, sub_tuple_list, sub_tuple_dict, sub_list_str, sub_list_int, sub_list_bool, sub_list_tuple, sub_list_list, sub_list_dict, sub_dict_str, sub_dict_int, sub_dict_bool, sub_dict_tuple, sub_dict_list, sub_dict_dict, tru_non, tru_bl, tru_int, tru_str, tru_tup, tru_lst, eq_R, ne_R, isD_non, isD_bl, isD_int, isD_str, isD_tup, isD_lst, isDs_nil, isDs_cons, dep_non, dep_bl, dep_int, dep_str, dep_tup, dep_lst, deps_nil, deps_cons, ueq_ii, ueq_ss, ueq_bb, ueq_tt, ueq_ll, ueqs_nn, ueqs_cc, ueqs_cn, ueqs_nc, ix_s, ix_r, set_r, app_r, pop_r, ins_r, join_r, all_1, any_1, repr_1, newL_f, newL_t, sl_s, sl_t, sl_l, sl_r, in_t, in_l, in_r, tyMt_rl, tyMt_rd, tyMt_s, any_t, anyI_t, anyI_s, anyI_r, uVar_0, uVar_1, uVar_2, uVar_3, uVar_4, uVar_5, uVar_6, uVar_7, uVar_8, uVar_9, uVar_10, uVar_11, uVar_12, uVar_13, uVar_14, uVar_15, len_str, len_tup, len_lst, isi_non_str, isi_non_int, isi_non_bool, isi_non_tuple, isi_non_list, isi_non_dict, isi_non_tuple_list, isi_bl_str, isi_bl_int, isi_bl_bool, isi_bl_tuple, isi_bl_list, isi_bl_dict, isi_bl_tuple_list, isi_int_str, isi_int_int, isi_int_bool, isi_int_tuple, isi_int_list, isi_int_dict, isi_int_tuple_list, isi_str_str, isi_str_int, isi_str_bool, isi_str_tuple, isi_str_list, isi_str_dict, isi_str_tuple_list, isi_tup_str, isi_tup_int, isi_tup_bool, isi_tup_tuple, isi_tup_list, isi_tup_dict, isi_tup_tuple_list, isi_lst_str, isi_lst_int, isi_lst_bool, isi_lst_tuple, isi_lst_list, isi_lst_dict, isi_lst_tuple_list, uTru_K, uB_K, uPart_K, uRng_K, uOrV_K, uAndV_K, uNotV_K, uChain_K, uAug_K, truK_non, truK_bl, truK_int, truK_str, truK_tup, truK_lst, blK_bl, partK_int, rngK_int, tuple_t, tuple_l, len_ref, mul_rk, mul_rd, tuple_r, list_r, list_t, list_l, ix_tup_0, ix_lst_0, ix_tup_1, ix_lst_1, ix_tup_2, ix_lst_2, ix_tup_3, ix_lst_3, ix_tup_4, ix_lst_4, ixt_g, ixl_g, add_ll2, in_ss2, anyI_l2, isn_n, gTup_t, gCons_c, gNil_n, cle, clt, cge, cgt, ceq, cne, exists_eq_left', exists_eq_left, Option.some.injEq, U.int.injEq, U.bl.injEq, U.str.injEq, U.ref.injEq, U.tup.injEq, U.lst.injEq, U.ty.injEq, List.cons.injEq, and_true, true_and, and_self, List.map_cons, List.map_nil, List.length_cons, List.length_nil, List.cons_append, List.nil_append, List.append_nil, List.getElem?_cons_zero, List.getElem?_cons_succ, List.set_cons_zero, List.set_cons_succ, List.replicate, ↓reduceIte, Bool.false_eq_true, Bool.not_true, Bool.not_false, reduceCtorEq, Nat.reduceAdd, Nat.reduceSub, Nat.reduceLeDiff, Nat.reduceEqDiff, decide_true, decide_false, at0, at1, at2, at3, at4, ix0, ix1, ix2, ix3, ix4, updM_same, beq_self_eq_true, Option.bind, Option.map, wipeU, NT.put, puts, MO.lst.injEq, exists_and_left, decide_eq_true_eq, Bool.and_eq_true, Bool.or_eq_true, exists_eq', Nat.zero_le, true_or, or_true, hd]
      refine ⟨⟨by decide, by decide, by decide⟩, line_le, line_le, line_le, ?_⟩
      refine draw_use (n := n + 2 + 3 * tC d) (hS.le (by omega)) (by decide) (by decide) fun r M1 h0 h1 hS1 hB1 => ?_
      simp only [uIfS, uOr, uAnd, uNot, uCB, uCons, uNil, uC, uRet, uNext, uOp, uUn, uTup, uLst, uIf, uAsg, uName, uDrop, uCall, uBM, uBM0, uSl, uNoPart, uSub, ustart, uSeq, uRng2, List.append_nil, uYes, add_ii, add_ss, add_tt, add_lr_, add_rl_, sub_ii, mul_ii, mod_ii, div_ii, pow_ii, lt_ii, lt_ss, le_ii, gt_ii, ge_ii, neg_i, int_i, aug_ii, isNon_non, isNon_bl, isNon_int, isNon_str, isNon_tup, isNon_lst, isNon_ref, val_non, val_bl, val_int, val_str, val_tup, val_lst, refV_lst, val_ref, refL_lst, listU_lst, listU_ref, seqU_lst, seqU_tup, seqU_ref, lenU_str, lenU_tup, lenU_lst, lenU_ref, tyM_non, tyM_bl, tyM_int, tyM_str, tyM_tup, tyM_lst, refT_lst, tyM_ref, okN_str, okN_int, okN_bool, okN_tuple, okN_list, okN_dict, sub_NoneType_str, sub_NoneType_int, sub_NoneType_bool, sub_NoneType_tuple, sub_NoneType_list, sub_NoneType_dict, sub_bool_str, sub_bool_int, sub_bool_bool, sub_bool_tuple, sub_bool_list, sub_bool_dict, sub_int_str, sub_int_int, sub_int_bool, sub_int_tuple, sub_int_list, sub_int_dict, sub_str_str, sub_str_int, sub_str_bool, sub_str_tuple, sub_str_list, sub_str_dict, sub_tuple_str, sub_tuple_int, sub_tuple_bool, sub_tuple_tuple, sub_tuple_list, sub_tuple_dict, sub_list_str, sub_list_int, sub_list_bool, sub_list_tuple, sub_list_list, sub_list_dict, sub_dict_str, sub_dict_int, sub_dict_bool, sub_dict_tuple, sub_dict_list, sub_dict_dict, tru_non, tru_bl, tru_int, tru_str, tru_tup, tru_lst, eq_R, ne_R, isD_non, isD_bl, isD_int, isD_str, isD_tup, isD_lst, isDs_nil, isDs_cons, dep_non, dep_bl, dep_int, dep_str, dep_tup, dep_lst, deps_nil, deps_cons, ueq_ii, ueq_ss, ueq_bb, ueq_tt, ueq_ll, ueqs_nn, ueqs_cc, ueqs_cn, ueqs_nc, ix_s, ix_r, set_r, app_r, pop_r, ins_r, join_r, all_1, any_1, repr_1, newL_f, newL_t, sl_s, sl_t, sl_l, sl_r, in_t, in_l, in_r, tyMt_rl, tyMt_rd, tyMt_s, any_t, anyI_t, anyI_s, anyI_r, uVar_0, uVar_1, uVar_2, uVar_3, uVar_4, uVar_5, uVar_6, uVar_7, uVar_8, uVar_9, uVar_10, uVar_11, uVar_12, uVar_13, uVar_14, uVar_15, len_str, len_tup, len_lst, isi_non_str, isi_non_int, isi_non_bool, isi_non_tuple, isi_non_list, isi_non_dict, isi_non_tuple_list, isi_bl_str, isi_bl_int, isi_bl_bool, isi_bl_tuple, isi_bl_list, isi_bl_dict, isi_bl_tuple_list, isi_int_str, isi_int_int, isi_int_bool, isi_int_tuple, isi_int_list, isi_int_dict, isi_int_tuple_list, isi_str_str, isi_str_int, isi_str_bool, isi_str_tuple, isi_str_list, isi_str_dict, isi_str_tuple_list, isi_tup_str, isi_tup_int, isi_tup_bool, isi_tup_tuple, isi_tup_list, isi_tup_dict, isi_tup_tuple_list, isi_lst_str, isi_lst_int, isi_lst_bool, isi_lst_tuple, isi_lst_list, isi_lst_dict, isi_lst_tuple_list, uTru_K, uB_K, uPart_K, uRng_K, uOrV_K, uAndV_K, uNotV_K, uChain_K, uAug_K, truK_non, truK_bl, truK_int, truK_str, truK_tup, truK_lst, blK_bl, partK_int, rngK_int, tuple_t, tuple_l, len_ref, mul_rk, mul_rd, tuple_r, list_r, list_t, list_l, ix_tup_0, ix_lst_0, ix_tup_1, ix_lst_1, ix_tup_2, ix_lst_2, ix_tup_3, ix_lst_3, ix_tup_4, ix_lst_4, ixt_g, ixl_g, add_ll2, in_ss2, anyI_l2, isn_n, gTup_t, gCons_c, gNil_n, cle, clt, cge, cgt, ceq, cne, exists_eq_left', exists_eq_left, Option.some.injEq, U.int.injEq, U.bl.injEq, U.str.injEq, U.ref.injEq, U.tup.injEq, U.lst.injEq, U.ty.injEq, List.cons.injEq, and_true, true_and, and_self, List.map_cons, List.map_nil, List.length_cons, List.length_nil, List.cons_append, List.nil_append, List.append_nil, List.getElem?_cons_zero, List.getElem?_cons_succ, List.set_cons_zero, List.set_cons_succ, List.replicate, ↓reduceIte, Bool.false_eq_true, Bool.not_true, Bool.not_false, reduceCtorEq, Nat.reduceAdd, Nat.reduceSub, Nat.reduceLeDiff, Nat.reduceEqDiff, decide_true, decide_false, at0, at1, at2, at3, at4, ix0, ix1, ix2, ix3, ix4, updM_same, beq_self_eq_true, Option.bind, Option.map, wipeU, NT.put, puts, MO.lst.injEq, exists_and_left, decide_eq_true_eq, Bool.and_eq_true, Bool.or_eq_true, exists_eq', Nat.zero_le, true_or, or_true]
      refine iteI (fun e0 => ?_) (fun e0 => ?_)
      · refine draw_use (n := n) (hS1.le (by omega)) (by decide) (by decide) fun r2 M2 h2 h3 hS2 hB2 => ?_
        simp only [uIfS, uOr, uAnd, uNot, uCB, uCons, uNil, uC, uRet, uNext, uOp, uUn, uTup, uLst, uIf, uAsg, uName, uDrop, uCall, uBM, uBM0, uSl, uNoPart, uSub, ustart, uSeq, uRng2, List.append_nil, uYes, add_ii, add_ss, add_tt, add_lr_, add_rl_, sub_ii, mul_ii, mod_ii, div_ii, pow_ii, lt_ii, lt_ss, le_ii, gt_ii, ge_ii, neg_i, int_i, aug_ii, isNon_non, isNon_bl, isNon_int, isNon_str, isNon_tup, isNon_lst, isNon_ref, val_non, val_bl, val_int, val_str, val_tup, val_lst, refV_lst, val_ref, refL_lst, listU_lst, listU_ref, seqU_lst, seqU_tup, seqU_ref, lenU_str, lenU_tup, lenU_lst, lenU_ref, tyM_non, tyM_bl, tyM_int, tyM_str, tyM_tup, tyM_lst, refT_lst, tyM_ref, okN_str, okN_int, okN_bool, okN_tuple, okN_list, okN_dict, sub_NoneType_str, sub_NoneType_int, sub_NoneType_bool, sub_NoneType_tuple, sub_NoneType_list, sub_NoneType_dict, sub_bool_str, sub_bool_int, sub_bool_bool, sub_bool_tuple, sub_bool_list, sub_bool_dict, sub_int_str, sub_int_int, sub_int_bool, sub_int_tuple, sub_int_list, sub_int_dict, sub_str_str, sub_str_int, sub_str_bool, sub_str_tuple, sub_str_list, sub_str_dict, sub_tuple_str, sub_tuple_int, sub_tuple_bool, sub_tuple_tuple, sub_tuple_list, sub_tuple_dict, sub_list_str, sub_list_int, sub_list_bool, sub_list_tuple, sub_list_list, sub_list_dict, sub_dict_str, sub_dict_int, sub_dict_bool, sub_dict_tuple, sub_dict_list, sub_dict_dict, tru_non, tru_bl, tru_int, tru_str, tru_tup, tru_lst, eq_R, ne_R, isD_non, isD_bl, isD_int, isD_str, isD_tup, isD_lst, isDs_nil, isDs_cons, dep_non, dep_bl, dep_int, dep_str, dep_tup, dep_lst, deps_nil, deps_cons, ueq_ii, ueq_ss, ueq_bb, ueq_tt, ueq_ll, ueqs_nn, ueqs_cc, ueqs_cn, ueqs_nc, ix_s, ix_r, set_r, app_r, pop_r, ins_r, join_r, all_1, any_1, repr_1, newL_f, newL_t, sl_s, sl_t, sl_l, sl_r, in_t, in_l, in_r, tyMt_rl, tyMt_rd, tyMt_s, any_t, anyI_t, anyI_s, anyI_r, uVar_0, uVar_1, uVar_2, uVar_3, uVar_4, uVar_5, uVar_6, uVar_7, uVar_8, uVar_9, uVar_10, uVar_11, uVar_12, uVar_13, uVar_14, uVar_15, len_str, len_tup, len_lst, isi_non_str, isi_non_int, isi_non_bool, isi_non_tuple, isi_non_list, isi_non_dict, isi_non_tuple_list, isi_bl_str, isi_bl_int, isi_bl_bool, isi_bl_tuple, isi_bl_list, isi_bl_dict, isi_bl_tuple_list, isi_int_str, isi_int_int, isi_int_bool, isi_int_tuple, isi_int_list, isi_int_dict, isi_int_tuple_list, isi_str_str, isi_str_int, isi_str_bool, isi_str_tuple, isi_str_list, isi_str_dict, isi_str_tuple_list, isi_tup_str, isi_tup_int, isi_tup_bool, isi_tup_tuple, isi_tup_list, isi_tup_dict, isi_tup_tuple_list, isi_lst_str, isi_lst_int, isi_lst_bool, isi_lst_tuple, isi_lst_list, isi_lst_dict, isi_lst_tuple_list, uTru_K, uB_K, uPart_K, uRng_K, uOrV_K, uAndV_K, uNotV_K, uChain_K, uAug_K, truK_non, truK_bl, truK_int, truK_str, truK_tup, truK_lst, blK_bl, partK_int, rngK_int, tuple_t, tuple_l, len_ref, mul_rk, mul_rd, tuple_r, list_r, list_t, list_l, ix_tup_0, ix_lst_0, ix_tup_1, ix_lst_1, ix_tup_2, ix_lst_2, ix_tup_3, ix_lst_3, ix_tup_4, ix_lst_4, ixt_g, ixl_g, add_ll2, in_ss2, anyI_l2, isn_n, gTup_t, gCons_c, gNil_n, cle, clt, cge, cgt, ceq, cne, exists_eq_left', exists_eq_left, Option.some.injEq, U.int.injEq, U.bl.injEq, U.str.injEq, U.ref.injEq, U.tup.injEq, U.lst.injEq, U.ty.injEq, List.cons.injEq, and_true, true_and, and_self, List.map_cons, List.map_nil, List.length_cons, List.length_nil, List.cons_append, List.nil_append, List.append_nil, List.getElem?_cons_zero, List.getElem?_cons_succ, List.set_cons_zero, List.set_cons_succ, List.replicate, ↓reduceIte, Bool.false_eq_true, Bool.not_true, Bool.not_false, reduceCtorEq, Nat.reduceAdd, Nat.reduceSub, Nat.reduceLeDiff, Nat.reduceEqDiff, decide_true, decide_false, at0, at1, at2, at3, at4, ix0, ix1, ix2, ix3, ix4, updM_same, beq_self_eq_true, Option.bind, Option.map, wipeU, NT.put, puts, MO.lst.injEq, exists_and_left, decide_eq_true_eq, Bool.and_eq_true, Bool.or_eq_true, exists_eq', Nat.zero_le, true_or, or_true]
        obtain ⟨v, e, hv⟩ := at_draw (xs := [U.non, .bl true, .bl false, .int 0, .int 1, .int (-7), .int (10 ^ Int.toNat 30 - 1), .str "", .str "link", .str "a", .str "on", .tup [], .lst [], .tup [.str "a"], .lst [.str "a"], .str "A", .str "b c"]) h2 h3
        exact ⟨v, e, q v M2 (base v hv) hS2 (hB1.trans hB2)⟩
      · simp only [uLc, uIfS, uOr, uAnd, uNot, uCB, uCons, uNil, uC, uRet, uNext, uOp, uUn, uTup, uLst, uIf, uAsg, uName, uDrop, uCall, uBM, uBM0, uSl, uNoPart, uSub, ustart, uSeq, uRng2, List.append_nil, uYes, add_ii, add_ss, add_tt, add_lr_, add_rl_, sub_ii, mul_ii, mod_ii, div_ii, pow_ii, lt_ii, lt_ss, le_ii, gt_ii, ge_ii, neg_i, int_i, aug_ii, isNon_non, isNon_bl, isNon_int, isNon_str, isNon_tup, isNon_lst, isNon_ref, val_non, val_bl, val_int, val_str, val_tup, val_lst, refV_lst, val_ref, refL_lst, listU_lst, listU_ref, seqU_lst, seqU_tup, seqU_ref, lenU_str, lenU_tup, lenU_lst, lenU_ref, tyM_non, tyM_bl, tyM_int, tyM_str, tyM_tup, tyM_lst, refT_lst, tyM_ref, okN_str, okN_int, okN_bool, okN_tuple, okN_list, okN_dict, sub_NoneType_str, sub_NoneType_int, sub_NoneType_bool, sub_NoneType_tuple, sub_NoneType_list, sub_NoneType_dict, sub_bool_str, sub_bool_int, sub_bool_bool, sub_bool_tuple, sub_bool_list, sub_bool_dict, sub_int_str, sub_int_int, sub_int_bool, sub_int_tuple, sub_int_list, sub_int_dict, sub_str_str, sub_str_int, sub_str_bool, sub_str_tuple, sub_str_list, sub_str_dict, sub_tuple_str, sub_tuple_int, sub_tuple_bool, sub_tuple_tuple, sub_tuple_list, sub_tuple_dict, sub_list_str, sub_list_int, sub_list_bool, sub_list_tuple, sub_list_list, sub_list_dict, sub_dict_str, sub_dict_int, sub_dict_bool, sub_dict_tuple, sub_dict_list, sub_dict_dict, tru_non, tru_bl, tru_int, tru_str, tru_tup, tru_lst, eq_R, ne_R, isD_non, isD_bl, isD_int, isD_str, isD_tup, isD_lst, isDs_nil, isDs_cons, dep_non, dep_bl, dep_int, dep_str, dep_tup, dep_lst, deps_nil, deps_cons, ueq_ii, ueq_ss, ueq_bb, ueq_tt, ueq_ll, ueqs_nn, ueqs_cc, ueqs_cn, ueqs_nc, ix_s, ix_r, set_r, app_r, pop_r, ins_r, join_r, all_1, any_1, repr_1, newL_f, newL_t, sl_s, sl_t, sl_l, sl_r, in_t, in_l, in_r, tyMt_rl, tyMt_rd, tyMt_s, any_t, anyI_t, anyI_s, anyI_r, uVar_0, uVar_1, uVar_2, uVar_3, uVar_4, uVar_5, uVar_6, uVar_7, uVar_8, uVar_9, uVar_10, uVar_11, uVar_12, uVar_13, uVar_14, uVar_15, len_str, len_tup, len_lst, isi_non_str, isi_non_int, isi_non_bool, isi_non_tuple, isi_non_list, isi_non_dict, isi_non_tuple_list, isi_bl_str, isi_bl_int, isi_bl_bool, isi_bl_tuple, isi_bl_list, isi_bl_dict, isi_bl_tuple_list, isi_int_str, isi_int_int, isi_int_bool, isi_int_tuple, isi_int_list, isi_int_dict, isi_int_tuple_list, isi_str_str, isi_str_int, isi_str_bool, isi_str_tuple, isi_str_list, isi_str_dict, isi_str_tuple_list, isi_tup_str, isi_tup_int, isi_tup_bool, isi_tup_tuple, isi_tup_list, isi_tup_dict, isi_tup_tuple_list, isi_lst_str, isi_lst_int, isi_lst_bool, isi_lst_tuple, isi_lst_list, isi_lst_dict, isi_lst_tuple_list, uTru_K, uB_K, uPart_K, uRng_K, uOrV_K, uAndV_K, uNotV_K, uChain_K, uAug_K, truK_non, truK_bl, truK_int, truK_str, truK_tup, truK_lst, blK_bl, partK_int, rngK_int, tuple_t, tuple_l, len_ref, mul_rk, mul_rd, tuple_r, list_r, list_t, list_l, ix_tup_0, ix_lst_0, ix_tup_1, ix_lst_1, ix_tup_2, ix_lst_2, ix_tup_3, ix_lst_3, ix_tup_4, ix_lst_4, ixt_g, ixl_g, add_ll2, in_ss2, anyI_l2, isn_n, gTup_t, gCons_c, gNil_n, cle, clt, cge, cgt, ceq, cne, exists_eq_left', exists_eq_left, Option.some.injEq, U.int.injEq, U.bl.injEq, U.str.injEq, U.ref.injEq, U.tup.injEq, U.lst.injEq, U.ty.injEq, List.cons.injEq, and_true, true_and, and_self, List.map_cons, List.map_nil, List.length_cons, List.length_nil, List.cons_append, List.nil_append, List.append_nil, List.getElem?_cons_zero, List.getElem?_cons_succ, List.set_cons_zero, List.set_cons_succ, List.replicate, ↓reduceIte, Bool.false_eq_true, Bool.not_true, Bool.not_false, reduceCtorEq, Nat.reduceAdd, Nat.reduceSub, Nat.reduceLeDiff, Nat.reduceEqDiff, decide_true, decide_false, at0, at1, at2, at3, at4, ix0, ix1, ix2, ix3, ix4, updM_same, beq_self_eq_true, Option.bind, Option.map, wipeU, NT.put, puts, MO.lst.injEq, exists_and_left, decide_eq_true_eq, Bool.and_eq_true, Bool.or_eq_true, exists_eq', Nat.zero_le, true_or, or_true]
        refine draw_use (n := n + 1 + 3 * tC d) (hS1.le (by omega)) (by decide) (by decide) fun r2 M2 h2 h3 hS2 hB2 => ?_
        simp only [uIfS, uOr, uAnd, uNot, uCB, uCons, uNil, uC, uRet, uNext, uOp, uUn, uTup, uLst, uIf, uAsg, uName, uDrop, uCall, uBM, uBM0, uSl, uNoPart, uSub, ustart, uSeq, uRng2, List.append_nil, uYes, add_ii, add_ss, add_tt, add_lr_, add_rl_, sub_ii, mul_ii, mod_ii, div_ii, pow_ii, lt_ii, lt_ss, le_ii, gt_ii, ge_ii, neg_i, int_i, aug_ii, isNon_non, isNon_bl, isNon_int, isNon_str, isNon_tup, isNon_lst, isNon_ref, val_non, val_bl, val_int, val_str, val_tup, val_lst, refV_lst, val_ref, refL_lst, listU_lst, listU_ref, seqU_lst, seqU_tup, seqU_ref, lenU_str, lenU_tup, lenU_lst, lenU_ref, tyM_non, tyM_bl, tyM_int, tyM_str, tyM_tup, tyM_lst, refT_lst, tyM_ref, okN_str, okN_int, okN_bool, okN_tuple, okN_list, okN_dict, sub_NoneType_str, sub_NoneType_int, sub_NoneType_bool, sub_NoneType_tuple, sub_NoneType_list, sub_NoneType_dict, sub_bool_str, sub_bool_int, sub_bool_bool, sub_bool_tuple, sub_bool_list, sub_bool_dict, sub_int_str, sub_int_int, sub_int_bool, sub_int_tuple, sub_int_list, sub_int_dict, sub_str_str, sub_str_int, sub_str_bool, sub_str_tuple, sub_str_list, sub_str_dict, sub_tuple_str, sub_tuple_int, sub_tuple_bool, sub_tuple_tuple, sub_tuple_list, sub_tuple_dict, sub_list_str, sub_list_int, sub_list_bool, sub_list_tuple, sub_list_list, sub_list_dict, sub_dict_str, sub_dict_int, sub_dict_bool, sub_dict_tuple, sub_dict_list, sub_dict_dict, tru_non, tru_bl, tru_int, tru_str, tru_tup, tru_lst, eq_R, ne_R, isD_non, isD_bl, isD_int, isD_str, isD_tup, isD_lst, isDs_nil, isDs_cons, dep_non, dep_bl, dep_int, dep_str, dep_tup, dep_lst, deps_nil, deps_cons, ueq_ii, ueq_ss, ueq_bb, ueq_tt, ueq_ll, ueqs_nn, ueqs_cc, ueqs_cn, ueqs_nc, ix_s, ix_r, set_r, app_r, pop_r, ins_r, join_r, all_1, any_1, repr_1, newL_f, newL_t, sl_s, sl_t, sl_l, sl_r, in_t, in_l, in_r, tyMt_rl, tyMt_rd, tyMt_s, any_t, anyI_t, anyI_s, anyI_r, uVar_0, uVar_1, uVar_2, uVar_3, uVar_4, uVar_5, uVar_6, uVar_7, uVar_8, uVar_9, uVar_10, uVar_11, uVar_12, uVar_13, uVar_14, uVar_15, len_str, len_tup, len_lst, isi_non_str, isi_non_int, isi_non_bool, isi_non_tuple, isi_non_list, isi_non_dict, isi_non_tuple_list, isi_bl_str, isi_bl_int, isi_bl_bool, isi_bl_tuple, isi_bl_list, isi_bl_dict, isi_bl_tuple_list, isi_int_str, isi_int_int, isi_int_bool, isi_int_tuple, isi_int_list, isi_int_dict, isi_int_tuple_list, isi_str_str, isi_str_int, isi_str_bool, isi_str_tuple, isi_str_list, isi_str_dict, isi_str_tuple_list, isi_tup_str, isi_tup_int, isi_tup_bool, isi_tup_tuple, isi_tup_list, isi_tup_dict, isi_tup_tuple_list, isi_lst_str, isi_lst_int, isi_lst_bool, isi_lst_tuple, isi_lst_list, isi_lst_dict, isi_lst_tuple_list, uTru_K, uB_K, uPart_K, uRng_K, uOrV_K, uAndV_K, uNotV_K, uChain_K, uAug_K, truK_non, truK_bl, truK_int, truK_str, truK_tup, truK_lst, blK_bl, partK_int, rngK_int, tuple_t, tuple_l, len_ref, mul_rk, mul_rd, tuple_r, list_r, list_t, list_l, ix_tup_0, ix_lst_0, ix_tup_1, ix_lst_1, ix_tup_2, ix_lst_2, ix_tup_3, ix_lst_3, ix_tup_4, ix_lst_4, ixt_g, ixl_g, add_ll2, in_ss2, anyI_l2, isn_n, gTup_t, gCons_c, gNil_n, cle, clt, cge, cgt, ceq, cne, exists_eq_left', exists_eq_left, Option.some.injEq, U.int.injEq, U.bl.injEq, U.str.injEq, U.ref.injEq, U.tup.injEq, U.lst.injEq, U.ty.injEq, List.cons.injEq, and_true, true_and, and_self, List.map_cons, List.map_nil, List.length_cons, List.length_nil, List.cons_append, List.nil_append, List.append_nil, List.getElem?_cons_zero, List.getElem?_cons_succ, List.set_cons_zero, List.set_cons_succ, List.replicate, ↓reduceIte, Bool.false_eq_true, Bool.not_true, Bool.not_false, reduceCtorEq, Nat.reduceAdd, Nat.reduceSub, Nat.reduceLeDiff, Nat.reduceEqDiff, decide_true, decide_false, at0, at1, at2, at3, at4, ix0, ix1, ix2, ix3, ix4, updM_same, beq_self_eq_true, Option.bind, Option.map, wipeU, NT.put, puts, MO.lst.injEq, exists_and_left, decide_eq_true_eq, Bool.and_eq_true, Bool.or_eq_true, exists_eq', Nat.zero_le, true_or, or_true]
        refine ⟨by omega, by omega, line_le (by omega), ?_⟩
        refine lc_strmF (k := tC d) (N := n + 1) (Dt (d + 1) (tZ d)) (hS2.le ?_) (fun x hx => ⟨_, rfl, fun M N' hS3 Q q => ?_⟩) fun ys M' hl hP hS3 hB3 => ?_
        · rw [range_len]
          have : r2.toNat * tC d ≤ 3 * tC d := Nat.mul_le_mul_right _ (by omega)
          omega
        · simp only [uIfS, uOr, uAnd, uNot, uCB, uCons, uNil, uC, uRet, uNext, uOp, uUn, uTup, uLst, uIf, uAsg, uName, uDrop, uCall, uBM, uBM0, uSl, uNoPart, uSub, ustart, uSeq, uRng2, List.append_nil, uYes, add_ii, add_ss, add_tt, add_lr_, add_rl_, sub_ii, mul_ii, mod_ii, div_ii, pow_ii, lt_ii, lt_ss, le_ii, gt_ii, ge_ii, neg_i, int_i, aug_ii, isNon_non, isNon_bl, isNon_int, isNon_str, isNon_tup, isNon_lst, isNon_ref, val_non, val_bl, val_int, val_str, val_tup, val_lst, refV_lst, val_ref, refL_lst, listU_lst, listU_ref, seqU_lst, seqU_tup, seqU_ref, lenU_str, lenU_tup, lenU_lst, lenU_ref, tyM_non, tyM_bl, tyM_int, tyM_str, tyM_tup, tyM_lst, refT_lst, tyM_ref, okN_str, okN_int, okN_bool, okN_tuple, okN_list, okN_dict, sub_NoneType_str, sub_NoneType_int, sub_NoneType_bool, sub_NoneType_tuple, sub_NoneType_list, sub_NoneType_dict, sub_bool_str, sub_bool_int, sub_bool_bool, sub_bool_tuple, sub_bool_list, sub_bool_dict, sub_int_str, sub_int_int, sub_int_bool, sub_int_tuple, sub_int_list, sub_int_dict, sub_str_str, sub_str_int, sub_str_bool, sub_str_tuple, sub_str_list, sub_str_dict, sub_tuple_str, sub_tuple_int, sub_tuple_bool, sub_tuple_tuple, sub_tuple_list, sub_tuple_dict, sub_list_str, sub_list_int, sub_list_bool, sub_list_tuple, sub_list_list, sub_list_dict, sub_dict_str, sub_dict_int, sub_dict_bool, sub_dict_tuple, sub_dict_list, sub_dict_dict, tru_non, tru_bl, tru_int, tru_str, tru_tup, tru_lst, eq_R, ne_R, isD_non, isD_bl, isD_int, isD_str, isD_tup, isD_lst, isDs_nil, isDs_cons, dep_non, dep_bl, dep_int, dep_str, dep_tup, dep_lst, deps_nil, deps_cons, ueq_ii, ueq_ss, ueq_bb, ueq_tt, ueq_ll, ueqs_nn, ueqs_cc, ueqs_cn, ueqs_nc, ix_s, ix_r, set_r, app_r, pop_r, ins_r, join_r, all_1, any_1, repr_1, newL_f, newL_t, sl_s, sl_t, sl_l, sl_r, in_t, in_l, in_r, tyMt_rl, tyMt_rd, tyMt_s, any_t, anyI_t, anyI_s, anyI_r, uVar_0, uVar_1, uVar_2, uVar_3, uVar_4, uVar_5, uVar_6, uVar_7, uVar_8, uVar_9, uVar_10, uVar_11, uVar_12, uVar_13, uVar_14, uVar_15, len_str, len_tup, len_lst, isi_non_str, isi_non_int, isi_non_bool, isi_non_tuple, isi_non_list, isi_non_dict, isi_non_tuple_list, isi_bl_str, isi_bl_int, isi_bl_bool, isi_bl_tuple, isi_bl_list, isi_bl_dict, isi_bl_tuple_list, isi_int_str, isi_int_int, isi_int_bool, isi_int_tuple, isi_int_list, isi_int_dict, isi_int_tuple_list, isi_str_str, isi_str_int, isi_str_bool, isi_str_tuple, isi_str_list, isi_str_dict, isi_str_tuple_list, isi_tup_str, isi_tup_int, isi_tup_bool, isi_tup_tuple, isi_tup_list, isi_tup_dict, isi_tup_tuple_list, isi_lst_str, isi_lst_int, isi_lst_bool, isi_lst_tuple, isi_lst_list, isi_lst_dict, isi_lst_tuple_list, uTru_K, uB_K, uPart_K, uRng_K, uOrV_K, uAndV_K, uNotV_K, uChain_K, uAug_K, truK_non, truK_bl, truK_int, truK_str, truK_tup, truK_lst, blK_bl, partK_int, rngK_int, tuple_t, tuple_l, len_ref, mul_rk, mul_rd, tuple_r, list_r, list_t, list_l, ix_tup_0, ix_lst_0, ix_tup_1, ix_lst_1, ix_tup_2, ix_lst_2, ix_tup_3, ix_lst_3, ix_tup_4, ix_lst_4, ixt_g, ixl_g, add_ll2, in_ss2, anyI_l2, isn_n, gTup_t, gCons_c, gNil_n, cle, clt, cge, cgt, ceq, cne, exists_eq_left', exists_eq_left, Option.some.injEq, U.int.injEq, U.bl.injEq, U.str.injEq, U.ref.injEq, U.tup.injEq, U.lst.injEq, U.ty.injEq, List.cons.injEq, and_true, true_and, and_self, List.map_cons, List.map_nil, List.length_cons, List.length_nil, List.cons_append, List.nil_append, List.append_nil, List.getElem?_cons_zero, List.getElem?_cons_succ, List.set_cons_zero, List.set_cons_succ, List.replicate, ↓reduceIte, Bool.false_eq_true, Bool.not_true, Bool.not_false, reduceCtorEq, Nat.reduceAdd, Nat.reduceSub, Nat.reduceLeDiff, Nat.reduceEqDiff, decide_true, decide_false, at0, at1, at2, at3, at4, ix0, ix1, ix2, ix3, ix4, updM_same, beq_self_eq_true, Option.bind, Option.map, wipeU, NT.put, puts, MO.lst.injEq, exists_and_left, decide_eq_true_eq, Bool.and_eq_true, Bool.or_eq_true, exists_eq', Nat.zero_le, true_or, or_true]
          have e : (((d + 1 : Nat) : Int) - 1) = (d : Int) := by omega
          rw [e]
          exact thing_use hS3 fun y M' hy hS4 hB4 => q y M' hy hS4 hB4
        · have hy : ys.length ≤ 3 := by rw [hl, range_len]; omega
          have hlen : ys.length * (tZ d + 2) + 4 ≤ tZ (d + 1) := by
            have : ys.length * (tZ d + 2) ≤ 3 * (tZ d + 2) := Nat.mul_le_mul_right _ hy
            simp only [tZ]; omega
          simp only [uIfS, uOr, uAnd, uNot, uCB, uCons, uNil, uC, uRet, uNext, uOp, uUn, uTup, uLst, uIf, uAsg, uName, uDrop, uCall, uBM, uBM0, uSl, uNoPart, uSub, ustart, uSeq, uRng2, List.append_nil, uYes, add_ii, add_ss, add_tt, add_lr_, add_rl_, sub_ii, mul_ii, mod_ii, div_ii, pow_ii, lt_ii, lt_ss, le_ii, gt_ii, ge_ii, neg_i, int_i, aug_ii, isNon_non, isNon_bl, isNon_int, isNon_str, isNon_tup, isNon_lst, isNon_ref, val_non, val_bl, val_int, val_str, val_tup, val_lst, refV_lst, val_ref, refL_lst, listU_lst, listU_ref, seqU_lst, seqU_tup, seqU_ref, lenU_str, lenU_tup, lenU_lst, lenU_ref, tyM_non, tyM_bl, tyM_int, tyM_str, tyM_tup, tyM_lst, refT_lst, tyM_ref, okN_str, okN_int, okN_bool, okN_tuple, okN_list, okN_dict, sub_NoneType_str, sub_NoneType_int, sub_NoneType_bool, sub_NoneType_tuple, sub_NoneType_list, sub_NoneType_dict, sub_bool_str, sub_bool_int, sub_bool_bool, sub_bool_tuple, sub_bool_list, sub_bool_dict, sub_int_str, sub_int_int, sub_int_bool, sub_int_tuple, sub_int_list, sub_int_dict, sub_str_str, sub_str_int, sub_str_bool, sub_str_tuple, sub_str_list, sub_str_dict, sub_tuple_str, sub_tuple_int, sub_tuple_bool, sub_tuple_tuple, sub_tuple_list, sub_tuple_dict, sub_list_str, sub_list_int, sub_list_bool, sub_list_tuple, sub_list_list, sub_list_dict, sub_dict_str, sub_dict_int, sub_dict_bool, sub_dict_tuple, sub_dict_list, sub_dict_dict, tru_non, tru_bl, tru_int, tru_str, tru_tup, tru_lst, eq_R, ne_R, isD_non, isD_bl, isD_int, isD_str, isD_tup, isD_lst, isDs_nil, isDs_cons, dep_non, dep_bl, dep_int, dep_str, dep_tup, dep_lst, deps_nil, deps_cons, ueq_ii, ueq_ss, ueq_bb, ueq_tt, ueq_ll, ueqs_nn, ueqs_cc, ueqs_cn, ueqs_nc, ix_s, ix_r, set_r, app_r, pop_r, ins_r, join_r, all_1, any_1, repr_1, newL_f, newL_t, sl_s, sl_t, sl_l, sl_r, in_t, in_l, in_r, tyMt_rl, tyMt_rd, tyMt_s, any_t, anyI_t, anyI_s, anyI_r, uVar_0, uVar_1, uVar_2, uVar_3, uVar_4, uVar_5, uVar_6, uVar_7, uVar_8, uVar_9, uVar_10, uVar_11, uVar_12, uVar_13, uVar_14, uVar_15, len_str, len_tup, len_lst, isi_non_str, isi_non_int, isi_non_bool, isi_non_tuple, isi_non_list, isi_non_dict, isi_non_tuple_list, isi_bl_str, isi_bl_int, isi_bl_bool, isi_bl_tuple, isi_bl_list, isi_bl_dict, isi_bl_tuple_list, isi_int_str, isi_int_int, isi_int_bool, isi_int_tuple, isi_int_list, isi_int_dict, isi_int_tuple_list, isi_str_str, isi_str_int, isi_str_bool, isi_str_tuple, isi_str_list, isi_str_dict, isi_str_tuple_list, isi_tup_str, isi_tup_int, isi_tup_bool, isi_tup_tuple, isi_tup_list, isi_tup_dict, isi_tup_tuple_list, isi_lst_str, isi_lst_int, isi_lst_bool, isi_lst_tuple, isi_lst_list, isi_lst_dict, isi_lst_tuple_list, uTru_K, uB_K, uPart_K, uRng_K, uOrV_K, uAndV_K, uNotV_K, uChain_K, uAug_K, truK_non, truK_bl, truK_int, truK_str, truK_tup, truK_lst, blK_bl, partK_int, rngK_int, tuple_t, tuple_l, len_ref, mul_rk, mul_rd, tuple_r, list_r, list_t, list_l, ix_tup_0, ix_lst_0, ix_tup_1, ix_lst_1, ix_tup_2, ix_lst_2, ix_tup_3, ix_lst_3, ix_tup_4, ix_lst_4, ixt_g, ixl_g, add_ll2, in_ss2, anyI_l2, isn_n, gTup_t, gCons_c, gNil_n, cle, clt, cge, cgt, ceq, cne, exists_eq_left', exists_eq_left, Option.some.injEq, U.int.injEq, U.bl.injEq, U.str.injEq, U.ref.injEq, U.tup.injEq, U.lst.injEq, U.ty.injEq, List.cons.injEq, and_true, true_and, and_self, List.map_cons, List.map_nil, List.length_cons, List.length_nil, List.cons_append, List.nil_append, List.append_nil, List.getElem?_cons_zero, List.getElem?_cons_succ, List.set_cons_zero, List.set_cons_succ, List.replicate, ↓reduceIte, Bool.false_eq_true, Bool.not_true, Bool.not_false, reduceCtorEq, Nat.reduceAdd, Nat.reduceSub, Nat.reduceLeDiff, Nat.reduceEqDiff, decide_true, decide_false, at0, at1, at2, at3, at4, ix0, ix1, ix2, ix3, ix4, updM_same, beq_self_eq_true, Option.bind, Option.map, wipeU, NT.put, puts, MO.lst.injEq, exists_and_left, decide_eq_true_eq, Bool.and_eq_true, Bool.or_eq_true, exists_eq', Nat.zero_le, true_or, or_true]
          refine ⟨line_le, draw_use hS3 (by decide) (by decide) fun r3 M4 h4 h5 hS4 hB4 => ?_⟩
          simp only [uIfS, uOr, uAnd, uNot, uCB, uCons, uNil, uC, uRet, uNext, uOp, uUn, uTup, uLst, uIf, uAsg, uName, uDrop, uCall, uBM, uBM0, uSl, uNoPart, uSub, ustart, uSeq, uRng2, List.append_nil, uYes, add_ii, add_ss, add_tt, add_lr_, add_rl_, sub_ii, mul_ii, mod_ii, div_ii, pow_ii, lt_ii, lt_ss, le_ii, gt_ii, ge_ii, neg_i, int_i, aug_ii, isNon_non, isNon_bl, isNon_int, isNon_str, isNon_tup, isNon_lst, isNon_ref, val_non, val_bl, val_int, val_str, val_tup, val_lst, refV_lst, val_ref, refL_lst, listU_lst, listU_ref, seqU_lst, seqU_tup, seqU_ref, lenU_str, lenU_tup, lenU_lst, lenU_ref, tyM_non, tyM_bl, tyM_int, tyM_str, tyM_tup, tyM_lst, refT_lst, tyM_ref, okN_str, okN_int, okN_bool, okN_tuple, okN_list, okN_dict, sub_NoneType_str, sub_NoneType_int, sub_NoneType_bool, sub_NoneType_tuple, sub_NoneType_list, sub_NoneType_dict, sub_bool_str, sub_bool_int, sub_bool_bool, sub_bool_tuple, sub_bool_list, sub_bool_dict, sub_int_str, sub_int_int, sub_int_bool, sub_int_tuple, sub_int_list, sub_int_dict, sub_str_str, sub_str_int, sub_str_bool, sub_str_tuple, sub_str_list, sub_str_dict, sub_tuple_str, sub_tuple_int, sub_tuple_bool, sub_tuple_tuple, sub_tuple_list, sub_tuple_dict, sub_list_str, sub_list_int, sub_list_bool, sub_list_tuple, sub_list_list, sub_list_dict, sub_dict_str, sub_dict_int, sub_dict_bool, sub_dict_tuple, sub_dict_list, sub_dict_dict, tru_non, tru_bl, tru_int, tru_str, tru_tup, tru_lst, eq_R, ne_R, isD_non, isD_bl, isD_int, isD_str, isD_tup, isD_lst, isDs_nil, isDs_cons, dep_non, dep_bl, dep_int, dep_str, dep_tup, dep_lst, deps_nil, deps_cons, ueq_ii, ueq_ss, ueq_bb, ueq_tt, ueq_ll, ueqs_nn, ueqs_cc, ueqs_cn, ueqs_nc, ix_s, ix_r, set_r, app_r, pop_r, ins_r, join_r, all_1, any_1, repr_1, newL_f, newL_t, sl_s, sl_t, sl_l, sl_r, in_t, in_l, in_r, tyMt_rl, tyMt_rd, tyMt_s, any_t, anyI_t, anyI_s, anyI_r, uVar_0, uVar_1, uVar_2, uVar_3, uVar_4, uVar_5, uVar_6, uVar_7, uVar_8, uVar_9, uVar_10, uVar_11, uVar_12, uVar_13, uVar_14, uVar_15, len_str, len_tup, len_lst, isi_non_str, isi_non_int, isi_non_bool, isi_non_tuple, isi_non_list, isi_non_dict, isi_non_tuple_list, isi_bl_str, isi_bl_int, isi_bl_bool, isi_bl_tuple, isi_bl_list, isi_bl_dict, isi_bl_tuple_list, isi_int_str, isi_int_int, isi_int_bool, isi_int_tuple, isi_int_list, isi_int_dict, isi_int_tuple_list, isi_str_str, isi_str_int, isi_str_bool, isi_str_tuple, isi_str_list, isi_str_dict, isi_str_tuple_list, isi_tup_str, isi_tup_int, isi_tup_bool, isi_tup_tuple, isi_tup_list, isi_tup_dict, isi_tup_tuple_list, isi_lst_str, isi_lst_int, isi_lst_bool, isi_lst_tuple, isi_lst_list, isi_lst_dict, isi_lst_tuple_list, uTru_K, uB_K, uPart_K, uRng_K, uOrV_K, uAndV_K, uNotV_K, uChain_K, uAug_K, truK_non, truK_bl, truK_int, truK_str, truK_tup, truK_lst, blK_bl, partK_int, rngK_int, tuple_t, tuple_l, len_ref, mul_rk, mul_rd, tuple_r, list_r, list_t, list_l, ix_tup_0, ix_lst_0, ix_tup_1, ix_lst_1, ix_tup_2, ix_lst_2, ix_tup_3, ix_lst_3, ix_tup_4, ix_lst_4, ixt_g, ixl_g, add_ll2, in_ss2, anyI_l2, isn_n, gTup_t, gCons_c, gNil_n, cle, clt, cge, cgt, ceq, cne, exists_eq_left', exists_eq_left, Option.some.injEq, U.int.injEq, U.bl.injEq, U.str.injEq, U.ref.injEq, U.tup.injEq, U.lst.injEq, U.ty.injEq, List.cons.injEq, and_true, true_and, and_self, List.map_cons, List.map_nil, List.length_cons, List.length_nil, List.cons_append, List.nil_append, List.append_nil, List.getElem?_cons_zero, List.getElem?_cons_succ, List.set_cons_zero, List.set_cons_succ, List.replicate, ↓reduceIte, Bool.false_eq_true, Bool.not_true, Bool.not_false, reduceCtorEq, Nat.reduceAdd, Nat.reduceSub, Nat.reduceLeDiff, Nat.reduceEqDiff, decide_true, decide_false, at0, at1, at2, at3, at4, ix0, ix1, ix2, ix3, ix4, updM_same, beq_self_eq_true, Option.bind, Option.map, wipeU, NT.put, puts, MO.lst.injEq, exists_and_left, decide_eq_true_eq, Bool.and_eq_true, Bool.or_eq_true, exists_eq', Nat.zero_le, true_or, or_true]
          obtain ⟨v, e, hv⟩ := at_draw (xs := [.lst ys, .tup ys]) h4 h5
          refine ⟨v, e, q v M4 ?_ hS4 (((hB1.trans hB2).trans hB3).trans hB4)⟩
          simp only [List.mem_cons, List.not_mem_nil, or_false] at hv
          rcases hv with rfl | rfl
          · exact Dt.lst hP hlen
          · exact Dt.tup hP hlen

theorem ok__law_thing (L : Lw K mg) : ∀ d : Nat, UFn P w K mg base CX0 (5 + d + 1) L.f__law_thing L.fd__law_thing ["_law_stream", "_law_deep"] (sp__law_thing d)
  | 0 => step__law_thing L (k := 0) (sp' := fun _ _ _ _ => False) 0 ufn_none (fun d' h => by cases h)
  | d + 1 => step__law_thing L (k := d + 1) (sp' := sp__law_thing d) (d + 1) (ok__law_thing L d) (fun d' h => by cases h; rfl)
/-! ### _law_near_path -/
def sp__law_near_path : USp := fun us M Q _ => ∃ (s c : Addr) (n : Nat), us = [.ref s] ∧ Strm M s c (n + 250) ∧ ∀ y M', Dt 3 7200 y → Strm M' s c n → But s c M M' → Q y M'
theorem near_path_use {M : UHp} {Q : UK} {E : UXK} {s c : Addr} {n : Nat} (hS : Strm M s c (n + 250)) (h : ∀ y M', Dt 3 7200 y → Strm M' s c n → But s c M M' → Q y M') : sp__law_near_path [.ref s] M Q E := ⟨s, c, n, rfl, hS, h⟩
theorem word_dt {z : Str} {m : Nat} (h1 : z.length = m) (hm : m ≤ 8) (h2 : ∀ d ∈ z.cps.toList, 97 ≤ d ∧ d ≤ 122) : Dt 0 120 (.str z) :=
  Dt.str (okS_iff.mpr ⟨line_le (by omega), fun d hd => by have := h2 d hd; omega⟩) (by omega)
theorem ok__law_near_path (L : Lw K mg) : UFn P w K mg base CX0 8 L.f__law_near_path L.fd__law_near_path ["_law_stream"] (sp__law_near_path) := by
  refine ufn_ok L.D__law_near_path.F sc__law_near_path (fun us M Q E h => ?_) (fun cdv A outer s H E hr hG =>
      (uss_cons (us_set (i := 1) sc__law_near_path.nd rfl (.inl rfl) (ue_ix (ue_lst false (ua_cons ue_int (ua_cons ue_int (ua_cons ue_int (ua_cons ue_int (ua_cons ue_int (ua_cons ue_int (ua_cons ue_int (ua_cons ue_int ua_nil))))))))) (ue_call (ok__law_draw L) (hr.mono (by decide)) hG rfl L.D__law_draw.g L.D__law_draw.F.kp L.D__law_draw.b .nil (fun _ => RelUs.nil) (ua_cons (uv 0) (ua_cons ue_int ua_nil)))))
      (uss_cons (us_setLc (i := 2) (own := [("_law_k", 4)]) (n := (.one 4)) true rfl sc__law_near_path.nd rfl rfl (sw_true rfl rfl rfl (by decide +kernel)) (ui_range1 (by rfl) L.n_range (ua_cons (uv 1) ua_nil)) (blkOk_by (own := [("_law_k", 4)]) (N := ["_law_stream", "_law_many", "_law_parts", "_law_odd", "_law_k"]) (sc := defScope s__law_near_path) (by decide +kernel)) (by decide) (fun _ _ _ _ _ => (pg_nt sc__law_near_path.nd rfl (.inl rfl))) (fun _ _ _ _ _ => uts_nil) (fun _ _ _ _ _ => (ue_call (ok__law_letters L) (hr.mono (by decide)) hG rfl L.D__law_letters.g L.D__law_letters.F.kp L.D__law_letters.b .nil (fun _ => RelUs.nil) (ua_cons (uv 0) (ua_cons (ue_op (uo_add false) ue_int (ue_call (ok__law_draw L) (hr.mono (by decide)) hG rfl L.D__law_draw.g L.D__law_draw.F.kp L.D__law_draw.b .nil (fun _ => RelUs.nil) (ua_cons (uv 0) (ua_cons ue_int ua_nil)))) ua_nil)))))
      (uss_cons (us_if (ut_cmp (uo_eq (hu6 hr)) (ue_call (ok__law_draw L) (hr.mono (by decide)) hG rfl L.D__law_draw.g L.D__law_draw.F.kp L.D__law_draw.b .nil (fun _ => RelUs.nil) (ua_cons (uv 0) (ua_cons ue_int ua_nil))) ue_int (nomark _)) (uss_cons (us_set (i := 3) sc__law_near_path.nd rfl (.inl rfl) (ue_ix (ue_lst false (ua_cons (ue_call (ok__law_near_name L) (hr.mono (by decide)) hG rfl L.D__law_near_name.g L.D__law_near_name.F.kp L.D__law_near_name.b .nil (fun _ => RelUs.nil) (ua_cons (uv 0) ua_nil)) (ua_cons (ue_call (ok__law_thing L 1) (hr.mono (by decide)) hG rfl L.D__law_thing.g L.D__law_thing.F.kp L.D__law_thing.b .nil (fun _ => RelUs.nil) (ua_cons (uv 0) (ua_cons ue_int ua_nil))) ua_nil))) (ue_call (ok__law_draw L) (hr.mono (by decide)) hG rfl L.D__law_draw.g L.D__law_draw.F.kp L.D__law_draw.b .nil (fun _ => RelUs.nil) (ua_cons (uv 0) (ua_cons ue_int ua_nil)))))
      (uss_one (us_expr (ue_bm PySem.F.plainAttrs_list PySem.F.slot_list_insert PySem.F.type_list_insert um_insert (uv 2) (ua_cons (ue_call (ok__law_draw L) (hr.mono (by decide)) hG rfl L.D__law_draw.g L.D__law_draw.F.kp L.D__law_draw.b .nil (fun _ => RelUs.nil) (ua_cons (uv 0) (ua_cons (ue_op (uo_add false) (ue_callB uc_len (by rfl) L.n_len bt_len (ua_cons (uv 2) ua_nil)) ue_int) ua_nil))) (ua_cons (uv 3) ua_nil)))))) uss_nil)
      (uss_one (us_ret (ue_if (ut_cmp (uo_eq (hu6 hr)) (ue_call (ok__law_draw L) (hr.mono (by decide)) hG rfl L.D__law_draw.g L.D__law_draw.F.kp L.D__law_draw.b .nil (fun _ => RelUs.nil) (ua_cons (uv 0) (ua_cons ue_int ua_nil))) ue_int (nomark _)) (uv 2) (ue_callTy uc_tuple (by rfl) L.n_tuple bt_tuple (ua_cons (uv 2) ua_nil))))))))) (fun us M Q E h => ?_)
  · obtain ⟨s, c, n, rfl, _⟩ := h
    rfl
  · obtain ⟨s, c, n, rfl, hS, q⟩ := h
    simp only [uIfS, uOr, uAnd, uNot, uCB, uCons, uNil, uC, uRet, uNext, uOp, uUn, uTup, uLst, uIf, uAsg, uName, uDrop, uCall, uBM, uBM0, uSl, uNoPart, uSub, ustart, uSeq, uRng2, List.append_nil, uYes, add_ii, add_ss, add_tt, add_lr_, add_rl_, sub_ii, mul_ii, mod_ii, div_ii, pow_ii, lt_ii, lt_ss, le_ii, gt_ii, ge_ii, neg_i, int_i, aug_ii, isNon_non, isNon_bl, isNon_int, isNon_str, isNon_tup, isNon_lst, isNon_ref, val_non, val_bl, val_int, val_str, val_tup, val_lst, refV_lst, val_ref, refL_lst, listU_lst, listU_ref, seqU_lst, seqU_tup, seqU_ref, lenU_str, lenU_tup, lenU_lst, lenU_ref, tyM_non, tyM_bl, tyM_int, tyM_str, tyM_tup, tyM_lst, refT_lst, tyM_ref, okN_str, okN_int, okN_bool, okN_tuple, okN_list, okN_dict, sub_NoneType_str, sub_NoneType_int, sub_NoneType_bool, sub_NoneType_tuple, sub_NoneType_list, sub_NoneType_dict, sub_bool_str, sub_bool_int, sub_bool_bool, sub_bool_tuple, sub_bool_list, sub_bool_dict, sub_int_str, sub_int_int, sub_int_bool, sub_int_tuple, sub_int_list, sub_int_dict, sub_str_str, sub_str_int, sub_str_bool, sub_str_tuple, sub_str_list, sub_str_dict, sub_tuple_str, sub_tuple_int, sub_tuple_bool, sub_tuple_tuple, sub_tuple_list, sub_tuple_dict, sub_list_str, sub_list_int, sub_list_bool, sub_list_tuple, sub_list_list, sub_list_dict, sub_dict_str, sub_dict_int, sub_dict_bool, sub_dict_tuple, sub_dict_list, sub_dict_dict, tru_non, tru_bl, tru_int, tru_str, tru_tup, tru_lst, eq_R, ne_R, isD_non, isD_bl, isD_int, isD_str, isD_tup, isD_lst, isDs_nil, isDs_cons, dep_non, dep_bl, dep_int, dep_str, dep_tup, dep_lst, deps_nil, deps_cons, ueq_ii, ueq_ss, ueq_bb, ueq_tt, ueq_ll, ueqs_nn, ueqs_cc, ueqs_cn, ueqs_nc, ix_s, ix_r, set_r, app_r, pop_r, ins_r, join_r, all_1, any_1, repr_1, newL_f, newL_t, sl_s, sl_t, sl_l, sl_r, in_t, in_l, in_r, tyMt_rl, tyMt_rd, tyMt_s, any_t, anyI_t, anyI_s, anyI_r, uVar_0, uVar_1, uVar_2, uVar_3, uVar_4, uVar_5, uVar_6, uVar_7, uVar_8, uVar_9, uVar_10, uVar_11, uVar_12, uVar_13, uVar_14, uVar_15, len_str, len_tup, len_lst, isi_non_str, isi_non_int, isi_non_bool, isi_non_tuple, isi_non_list, isi_non_dict, isi_non_tuple_list, isi_bl_str, isi_bl_int, isi_bl_bool, isi_bl_tuple, isi_bl_list, isi_bl_dict, isi_bl_tuple_list, isi_int_str, isi_int_int, isi_int_bool, isi_int_tuple, isi_int_list, isi_int_dict, isi_int_tuple_list, isi_str_str, isi_str_int, isi_str_bool, isi_str_tuple, isi_str_list, isi_str_dict, isi_str_tuple_list, isi_tup_str, isi_tup_int, isi_tup_bool, isi_tup_tuple, isi_tup_list, isi_tup_dict, isi_tup_tuple_list, isi_lst_str, isi_lst_int, isi_lst_bool, isi_lst_tuple, isi_lst_list, isi_lst_dict, isi_lst_tuple_list, uTru_K, uB_K, uPart_K, uRng_K, uOrV_K, uAndV_K, uNotV_K, uChain_K, uAug_K, truK_non, truK_bl, truK_int, truK_str, truK_tup, truK_lst, blK_bl, partK_int, rngK_int, tuple_t, tuple_l, len_ref, mul_rk, mul_rd, tuple_r, list_r, list_t, list_l, ix_tup_0, ix_lst_0, ix_tup_1, ix_lst_1, ix_tup_2, ix_lst_2, ix_tup_3, ix_lst_3, ix_tup_4, ix_lst_4, ixt_g, ixl_g, add_ll2, in_ss2, anyI_l2, isn_n, gTup_t, gCons_c, gNil_n, cle, clt, cge, cgt, ceq, cne, exists_eq_left', exists_eq_left, Option.some.injEq, U.int.injEq, U.bl.injEq, U.str.injEq, U.ref.injEq, U.tup.injEq, U.lst.injEq, U.ty.injEq, List.cons.injEq, and_true, true_and, and_self, List.map_cons, List.map_nil, List.length_cons, List.length_nil, List.cons_append, List.nil_append, List.append_nil, List.getElem?_cons_zero, List.getElem?_cons_succ, List.set_cons_zero, List.set_cons_succ, List.replicate, ↓reduceIte, Bool.false_eq_true, Bool.not_true, Bool.not_false, reduceCtorEq, Nat.reduceAdd, Nat.reduceSub, Nat.reduceLeDiff, Nat.reduceEqDiff, decide_true, decide_false, at0, at1, at2, at3, at4, ix0, ix1, ix2, ix3, ix4, updM_same, beq_self_eq_true, Option.bind, Option.map, wipeU, NT.put, puts, MO.lst.injEq, exists_and_left, decide_eq_true_eq, Bool.and_eq_true, Bool.or_eq_true, exists_eq', Nat.zero_le, true_or, or_true]
    refine ⟨line_le, draw_use (n := n + 249) hS (by decide) (by decide) fun r M1 h0 h1 hS1 hB1 => ?_⟩
    simp only [uIfS, uOr, uAnd, uNot, uCB, uCons, uNil, uC, uRet, uNext, uOp, uUn, uTup, uLst, uIf, uAsg, uName, uDrop, uCall, uBM, uBM0, uSl, uNoPart, uSub, ustart, uSeq, uRng2, List.append_nil, uYes, add_ii, add_ss, add_tt, add_lr_, add_rl_, sub_ii, mul_ii, mod_ii, div_ii, pow_ii, lt_ii, lt_ss, le_ii, gt_ii, ge_ii, neg_i, int_i, aug_ii, isNon_non, isNon_bl, isNon_int, isNon_str, isNon_tup, isNon_lst, isNon_ref, val_non, val_bl, val_int, val_str, val_tup, val_lst, refV_lst, val_ref, refL_lst, listU_lst, listU_ref, seqU_lst, seqU_tup, seqU_ref, lenU_str, lenU_tup, lenU_lst, lenU_ref, tyM_non, tyM_bl, tyM_int, tyM_str, tyM_tup, tyM_lst, refT_lst, tyM_ref, okN_str, okN_int, okN_bool, okN_tuple, okN_list, okN_dict, sub_NoneType_str, sub_NoneType_int, sub_NoneType_bool, sub_NoneType_tuple, sub_NoneType_list, sub_NoneType_dict, sub_bool_str, sub_bool_int, sub_bool_bool, sub_bool_tuple, sub_bool_list, sub_bool_dict, sub_int_str, sub_int_int, sub_int_bool, sub_int_tuple, sub_int_list, sub_int_dict, sub_str_str, sub_str_int, sub_str_bool, sub_str_tuple, sub_str_list, sub_str_dict, sub_tuple_str, sub_tuple_int, sub_tuple_bool, sub_tuple_tuple, sub_tuple_list, sub_tuple_dict, sub_list_str, sub_list_int, sub_list_bool, sub_list_tuple, sub_list_list, sub_list_dict, sub_dict_str, sub_dict_int, sub_dict_bool, sub_dict_tuple, sub_dict_list, sub_dict_dict, tru_non, tru_bl, tru_int, tru_str, tru_tup, tru_lst, eq_R, ne_R, isD_non, isD_bl, isD_int, isD_str, isD_tup, isD_lst, isDs_nil, isDs_cons, dep_non, dep_bl, dep_int, dep_str, dep_tup, dep_lst, deps_nil, deps_cons, ueq_ii, ueq_ss, ueq_bb, ueq_tt, ueq_ll, ueqs_nn, ueqs_cc, ueqs_cn, ueqs_nc, ix_s, ix_r, set_r, app_r, pop_r, ins_r, join_r, all_1, any_1, repr_1, newL_f, newL_t, sl_s, sl_t, sl_l, sl_r, in_t, in_l, in_r, tyMt_rl, tyMt_rd, tyMt_s, any_t, anyI_t, anyI_s, anyI_r, uVar_0, uVar_1, uVar_2, uVar_3, uVar_4, uVar_5, uVar_6, uVar_7, uVar_8, uVar_9, uVar_10, uVar_11, uVar_12, uVar_13, uVar_14, uVar_15, len_str, len_tup, len_lst, isi_non_str, isi_non_int, isi_non_bool, isi_non_tuple, isi_non_list, isi_non_dict, isi_non_tuple_list, isi_bl_str, isi_bl_int, isi_bl_bool, isi_bl_tuple, isi_bl_list, isi_bl_dict, isi_bl_tuple_list, isi_int_str, isi_int_int, isi_int_bool, isi_int_tuple, isi_int_list, isi_int_dict, isi_int_tuple_list, isi_str_str, isi_str_int, isi_str_bool, isi_str_tuple, isi_str_list, isi_str_dict, isi_str_tuple_list, isi_tup_str, isi_tup_int, isi_tup_bool, isi_tup_tuple, isi_tup_list, isi_tup_dict, isi_tup_tuple_list, isi_lst_str, isi_lst_int, isi_lst_bool, isi_lst_tuple, isi_lst_list, isi_lst_dict, isi_lst_tuple_list, uTru_K, uB_K, uPart_K, uRng_K, uOrV_K, uAndV_K, uNotV_K, uChain_K, uAug_K, truK_non, truK_bl, truK_int, truK_str, truK_tup, truK_lst, blK_bl, partK_int, rngK_int, tuple_t, tuple_l, len_ref, mul_rk, mul_rd, tuple_r, list_r, list_t, list_l, ix_tup_0, ix_lst_0, ix_tup_1, ix_lst_1, ix_tup_2, ix_lst_2, ix_tup_3, ix_lst_3, ix_tup_4, ix_lst_4, ixt_g, ixl_g, add_ll2, in_ss2, anyI_l2, isn_n, gTup_t, gCons_c, gNil_n, cle, clt, cge, cgt, ceq, cne, exists_eq_left', exists_eq_left, Option.some.injEq, U.int.injEq, U.bl.injEq, U.str.injEq, U.ref.injEq, U.tup.injEq, U.lst.injEq, U.ty.injEq, List.cons.injEq, and_true, true_and, and_self, List.map_cons, List.map_nil, List.length_cons, List.length_nil, List.cons_append, List.nil_append, List.append_nil, List.getElem?_cons_zero, List.getElem?_cons_succ, List.set_cons_zero, List.set_cons_succ, List.replicate, ↓reduceIte, Bool.false_eq_true, Bool.not_true, Bool.not_false, reduceCtorEq, Nat.reduceAdd, Nat.reduceSub, Nat.reduceLeDiff, Nat.reduceEqDiff, decide_true, decide_false, at0, at1, at2, at3, at4, ix0, ix1, ix2, ix3, ix4, updM_same, beq_self_eq_true, Option.bind, Option.map, wipeU, NT.put, puts, MO.lst.injEq, exists_and_left, decide_eq_true_eq, Bool.and_eq_true, Bool.or_eq_true, exists_eq', Nat.zero_le, true_or, or_true]
    obtain ⟨v, e, hv⟩ := at_draw (xs := [.int 0, .int 1, .int 2, .int 3, .int 7, .int 8, .int 9, .int 20]) h0 h1
    obtain ⟨m, rfl, hm⟩ : ∃ m : Nat, v = .int m ∧ m ≤ 20 := by
      simp only [List.mem_cons, List.not_mem_nil, or_false] at hv
      rcases hv with rfl | rfl | rfl | rfl | rfl | rfl | rfl | rfl
      · exact ⟨0, rfl, by decide⟩
      · exact ⟨1, rfl, by decide⟩
      · exact ⟨2, rfl, by decide⟩
      · exact ⟨3, rfl, by decide⟩
      · exact ⟨7, rfl, by decide⟩
      · exact ⟨8, rfl, by decide⟩
      · exact ⟨9, rfl, by decide⟩
      · exact ⟨20, rfl, by decide⟩
    refine ⟨_, e, ?_⟩
    simp only [uLc, uIfS, uOr, uAnd, uNot, uCB, uCons, uNil, uC, uRet, uNext, uOp, uUn, uTup, uLst, uIf, uAsg, uName, uDrop, uCall, uBM, uBM0, uSl, uNoPart, uSub, ustart, uSeq, uRng2, List.append_nil, uYes, add_ii, add_ss, add_tt, add_lr_, add_rl_, sub_ii, mul_ii, mod_ii, div_ii, pow_ii, lt_ii, lt_ss, le_ii, gt_ii, ge_ii, neg_i, int_i, aug_ii, isNon_non, isNon_bl, isNon_int, isNon_str, isNon_tup, isNon_lst, isNon_ref, val_non, val_bl, val_int, val_str, val_tup, val_lst, refV_lst, val_ref, refL_lst, listU_lst, listU_ref, seqU_lst, seqU_tup, seqU_ref, lenU_str, lenU_tup, lenU_lst, lenU_ref, tyM_non, tyM_bl, tyM_int, tyM_str, tyM_tup, tyM_lst, refT_lst, tyM_ref, okN_str, okN_int, okN_bool, okN_tuple, okN_list, okN_dict, sub_NoneType_str, sub_NoneType_int, sub_NoneType_bool, sub_NoneType_tuple, sub_NoneType_list, sub_NoneType_dict, sub_bool_str, sub_bool_int, sub_bool_bool, sub_bool_tuple, sub_bool_list, sub_bool_dict, sub_int_str, sub_int_int, sub_int_bool, sub_int_tuple, sub_int_list, sub_int_dict, sub_str_str, sub_str_int, sub_str_bool, sub_str_tuple, sub_str_list, sub_str_dict, sub_tuple_str, sub_tuple_int, sub_tuple_bool, sub_tuple_tuple, sub_tuple_list, sub_tuple_dict, sub_list_str, sub_list_int, sub_list_bool, sub_list_tuple, sub_list_list, sub_list_dict, sub_dict_str, sub_dict_int, sub_dict_bool, sub_dict_tuple, sub_dict_list, sub_dict_dict, tru_non, tru_bl, tru_int, tru_str, tru_tup, tru_lst, eq_R, ne_R, isD_non, isD_bl, isD_int, isD_str, isD_tup, isD_lst, isDs_nil, isDs_cons, dep_non, dep_bl, dep_int, dep_str, dep_tup, dep_lst, deps_nil, deps_cons, ueq_ii, ueq_ss, ueq_bb, ueq_tt, ueq_ll, ueqs_nn, ueqs_cc, ueqs_cn, ueqs_nc, ix_s, ix_r, set_r, app_r, pop_r, ins_r, join_r, all_1, any_1, repr_1, newL_f, newL_t, sl_s, sl_t, sl_l, sl_r, in_t, in_l, in_r, tyMt_rl, tyMt_rd, tyMt_s, any_t, anyI_t, anyI_s, anyI_r, uVar_0, uVar_1, uVar_2, uVar_3, uVar_4, uVar_5, uVar_6, uVar_7, uVar_8, uVar_9, uVar_10, uVar_11, uVar_12, uVar_13, uVar_14, uVar_15, len_str, len_tup, len_lst, isi_non_str, isi_non_int, isi_non_bool, isi_non_tuple, isi_non_list, isi_non_dict, isi_non_tuple_list, isi_bl_str, isi_bl_int, isi_bl_bool, isi_bl_tuple, isi_bl_list, isi_bl_dict, isi_bl_tuple_list, isi_int_str, isi_int_int, isi_int_bool, isi_int_tuple, isi_int_list, isi_int_dict, isi_int_tuple_list, isi_str_str, isi_str_int, isi_str_bool, isi_str_tuple, isi_str_list, isi_str_dict, isi_str_tuple_list, isi_tup_str, isi_tup_int, isi_tup_bool, isi_tup_tuple, isi_tup_list, isi_tup_dict, isi_tup_tuple_list, isi_lst_str, isi_lst_int, isi_lst_bool, isi_lst_tuple, isi_lst_list, isi_lst_dict, isi_lst_tuple_list, uTru_K, uB_K, uPart_K, uRng_K, uOrV_K, uAndV_K, uNotV_K, uChain_K, uAug_K, truK_non, truK_bl, truK_int, truK_str, truK_tup, truK_lst, blK_bl, partK_int, rngK_int, tuple_t, tuple_l, len_ref, mul_rk, mul_rd, tuple_r, list_r, list_t, list_l, ix_tup_0, ix_lst_0, ix_tup_1, ix_lst_1, ix_tup_2, ix_lst_2, ix_tup_3, ix_lst_3, ix_tup_4, ix_lst_4, ixt_g, ixl_g, add_ll2, in_ss2, anyI_l2, isn_n, gTup_t, gCons_c, gNil_n, cle, clt, cge, cgt, ceq, cne, exists_eq_left', exists_eq_left, Option.some.injEq, U.int.injEq, U.bl.injEq, U.str.injEq, U.ref.injEq, U.tup.injEq, U.lst.injEq, U.ty.injEq, List.cons.injEq, and_true, true_and, and_self, List.map_cons, List.map_nil, List.length_cons, List.length_nil, List.cons_append, List.nil_append, List.append_nil, List.getElem?_cons_zero, List.getElem?_cons_succ, List.set_cons_zero, List.set_cons_succ, List.replicate, ↓reduceIte, Bool.false_eq_true, Bool.not_true, Bool.not_false, reduceCtorEq, Nat.reduceAdd, Nat.reduceSub, Nat.reduceLeDiff, Nat.reduceEqDiff, decide_true, decide_false, at0, at1, at2, at3, at4, ix0, ix1, ix2, ix3, ix4, updM_same, beq_self_eq_true, Option.bind, Option.map, wipeU, NT.put, puts, MO.lst.injEq, exists_and_left, decide_eq_true_eq, Bool.and_eq_true, Bool.or_eq_true, exists_eq', Nat.zero_le, true_or, or_true]
    refine ⟨by omega, by omega, line_le (by omega), ?_⟩
    refine lc_strmT (k := 9) (N := n + 69) (Dt 0 120) (hS1.le (by rw [range_len]; omega)) (fun x hx => ⟨_, rfl, fun M N' hS2 Q q => ?_⟩) fun D ys M2 hD hl hP hS2 hB2 hD2 hs hc => ?_
    · simp only [uIfS, uOr, uAnd, uNot, uCB, uCons, uNil, uC, uRet, uNext, uOp, uUn, uTup, uLst, uIf, uAsg, uName, uDrop, uCall, uBM, uBM0, uSl, uNoPart, uSub, ustart, uSeq, uRng2, List.append_nil, uYes, add_ii, add_ss, add_tt, add_lr_, add_rl_, sub_ii, mul_ii, mod_ii, div_ii, pow_ii, lt_ii, lt_ss, le_ii, gt_ii, ge_ii, neg_i, int_i, aug_ii, isNon_non, isNon_bl, isNon_int, isNon_str, isNon_tup, isNon_lst, isNon_ref, val_non, val_bl, val_int, val_str, val_tup, val_lst, refV_lst, val_ref, refL_lst, listU_lst, listU_ref, seqU_lst, seqU_tup, seqU_ref, lenU_str, lenU_tup, lenU_lst, lenU_ref, tyM_non, tyM_bl, tyM_int, tyM_str, tyM_tup, tyM_lst, refT_lst, tyM_ref, okN_str, okN_int, okN_bool, okN_tuple, okN_list, okN_dict, sub_NoneType_str, sub_NoneType_int, sub_NoneType_bool, sub_NoneType_tuple, sub_NoneType_list, sub_NoneType_dict, sub_bool_str, sub_bool_int, sub_bool_bool, sub_bool_tuple, sub_bool_list, sub_bool_dict, sub_int_str, sub_int_int, sub_int_bool, sub_int_tuple, sub_int_list, sub_int_dict, sub_str_str, sub_str_int, sub_str_bool, sub_str_tuple, sub_str_list, sub_str_dict, sub_tuple_str, sub_tuple_int, sub_tuple_bool, sub_tuple_tuple, sub_tuple_list, sub_tuple_dict, sub_list_str, sub_list_int, sub_list_bool, sub_list_tuple, sub_list_list, sub_list_dict, sub_dict_str, sub_dict_int, sub_dict_bool, sub_dict_tuple, sub_dict_list, sub_dict_dict, tru_non, tru_bl, tru_int, tru_str, tru_tup, tru_lst, eq_R, ne_R, isD_non, isD_bl, isD_int, isD_str, isD_tup, isD_lst, isDs_nil, isDs_cons, dep_non, dep_bl, dep_int, dep_str, dep_tup, dep_lst, deps_nil, deps_cons, ueq_ii, ueq_ss, ueq_bb, ueq_tt, ueq_ll, ueqs_nn, ueqs_cc, ueqs_cn, ueqs_nc, ix_s, ix_r, set_r, app_r, pop_r, ins_r, join_r, all_1, any_1, repr_1, newL_f, newL_t, sl_s, sl_t, sl_l, sl_r, in_t, in_l, in_r, tyMt_rl, tyMt_rd, tyMt_s, any_t, anyI_t, anyI_s, anyI_r, uVar_0, uVar_1, uVar_2, uVar_3, uVar_4, uVar_5, uVar_6, uVar_7, uVar_8, uVar_9, uVar_10, uVar_11, uVar_12, uVar_13, uVar_14, uVar_15, len_str, len_tup, len_lst, isi_non_str, isi_non_int, isi_non_bool, isi_non_tuple, isi_non_list, isi_non_dict, isi_non_tuple_list, isi_bl_str, isi_bl_int, isi_bl_bool, isi_bl_tuple, isi_bl_list, isi_bl_dict, isi_bl_tuple_list, isi_int_str, isi_int_int, isi_int_bool, isi_int_tuple, isi_int_list, isi_int_dict, isi_int_tuple_list, isi_str_str, isi_str_int, isi_str_bool, isi_str_tuple, isi_str_list, isi_str_dict, isi_str_tuple_list, isi_tup_str, isi_tup_int, isi_tup_bool, isi_tup_tuple, isi_tup_list, isi_tup_dict, isi_tup_tuple_list, isi_lst_str, isi_lst_int, isi_lst_bool, isi_lst_tuple, isi_lst_list, isi_lst_dict, isi_lst_tuple_list, uTru_K, uB_K, uPart_K, uRng_K, uOrV_K, uAndV_K, uNotV_K, uChain_K, uAug_K, truK_non, truK_bl, truK_int, truK_str, truK_tup, truK_lst, blK_bl, partK_int, rngK_int, tuple_t, tuple_l, len_ref, mul_rk, mul_rd, tuple_r, list_r, list_t, list_l, ix_tup_0, ix_lst_0, ix_tup_1, ix_lst_1, ix_tup_2, ix_lst_2, ix_tup_3, ix_lst_3, ix_tup_4, ix_lst_4, ixt_g, ixl_g, add_ll2, in_ss2, anyI_l2, isn_n, gTup_t, gCons_c, gNil_n, cle, clt, cge, cgt, ceq, cne, exists_eq_left', exists_eq_left, Option.some.injEq, U.int.injEq, U.bl.injEq, U.str.injEq, U.ref.injEq, U.tup.injEq, U.lst.injEq, U.ty.injEq, List.cons.injEq, and_true, true_and, and_self, List.map_cons, List.map_nil, List.length_cons, List.length_nil, List.cons_append, List.nil_append, List.append_nil, List.getElem?_cons_zero, List.getElem?_cons_succ, List.set_cons_zero, List.set_cons_succ, List.replicate, ↓reduceIte, Bool.false_eq_true, Bool.not_true, Bool.not_false, reduceCtorEq, Nat.reduceAdd, Nat.reduceSub, Nat.reduceLeDiff, Nat.reduceEqDiff, decide_true, decide_false, at0, at1, at2, at3, at4, ix0, ix1, ix2, ix3, ix4, updM_same, beq_self_eq_true, Option.bind, Option.map, wipeU, NT.put, puts, MO.lst.injEq, exists_and_left, decide_eq_true_eq, Bool.and_eq_true, Bool.or_eq_true, exists_eq', Nat.zero_le, true_or, or_true]
      refine draw_use (n := N' + 8) hS2 (by decide) (by decide) fun r2 M3 h2 h3 hS3 hB3 => ?_
      simp only [uIfS, uOr, uAnd, uNot, uCB, uCons, uNil, uC, uRet, uNext, uOp, uUn, uTup, uLst, uIf, uAsg, uName, uDrop, uCall, uBM, uBM0, uSl, uNoPart, uSub, ustart, uSeq, uRng2, List.append_nil, uYes, add_ii, add_ss, add_tt, add_lr_, add_rl_, sub_ii, mul_ii, mod_ii, div_ii, pow_ii, lt_ii, lt_ss, le_ii, gt_ii, ge_ii, neg_i, int_i, aug_ii, isNon_non, isNon_bl, isNon_int, isNon_str, isNon_tup, isNon_lst, isNon_ref, val_non, val_bl, val_int, val_str, val_tup, val_lst, refV_lst, val_ref, refL_lst, listU_lst, listU_ref, seqU_lst, seqU_tup, seqU_ref, lenU_str, lenU_tup, lenU_lst, lenU_ref, tyM_non, tyM_bl, tyM_int, tyM_str, tyM_tup, tyM_lst, refT_lst, tyM_ref, okN_str, okN_int, okN_bool, okN_tuple, okN_list, okN_dict, sub_NoneType_str, sub_NoneType_int, sub_NoneType_bool, sub_NoneType_tuple, sub_NoneType_list, sub_NoneType_dict, sub_bool_str, sub_bool_int, sub_bool_bool, sub_bool_tuple, sub_bool_list, sub_bool_dict, sub_int_str, sub_int_int, sub_int_bool, sub_int_tuple, sub_int_list, sub_int_dict, sub_str_str, sub_str_int, sub_str_bool, sub_str_tuple, sub_str_list, sub_str_dict, sub_tuple_str, sub_tuple_int, sub_tuple_bool, sub_tuple_tuple, sub_tuple_list, sub_tuple_dict, sub_list_str, sub_list_int, sub_list_bool, sub_list_tuple, sub_list_list, sub_list_dict, sub_dict_str, sub_dict_int, sub_dict_bool, sub_dict_tuple, sub_dict_list, sub_dict_dict, tru_non, tru_bl, tru_int, tru_str, tru_tup, tru_lst, eq_R, ne_R, isD_non, isD_bl, isD_int, isD_str, isD_tup, isD_lst, isDs_nil, isDs_cons, dep_non, dep_bl, dep_int, dep_str, dep_tup, dep_lst, deps_nil, deps_cons, ueq_ii, ueq_ss, ueq_bb, ueq_tt, ueq_ll, ueqs_nn, ueqs_cc, ueqs_cn, ueqs_nc, ix_s, ix_r, set_r, app_r, pop_r, ins_r, join_r, all_1, any_1, repr_1, newL_f, newL_t, sl_s, sl_t, sl_l, sl_r, in_t, in_l, in_r, tyMt_rl, tyMt_rd, tyMt_s, any_t, anyI_t, anyI_s, anyI_r, uVar_0, uVar_1, uVar_2, uVar_3, uVar_4, uVar_5, uVar_6, uVar_7, uVar_8, uVar_9, uVar_10, uVar_11, uVar_12, uVar_13, uVar_14, uVar_15, len_str, len_tup, len_lst, isi_non_str, isi_non_int, isi_non_bool, isi_non_tuple, isi_non_list, isi_non_dict, isi_non_tuple_list, isi_bl_str, isi_bl_int, isi_bl_bool, isi_bl_tuple, isi_bl_list, isi_bl_dict, isi_bl_tuple_list, isi_int_str, isi_int_int, isi_int_bool, isi_int_tuple, isi_int_list, isi_int_dict, isi_int_tuple_list, isi_str_str, isi_str_int, isi_str_bool, isi_str_tuple, isi_str_list, isi_str_dict, isi_str_tuple_list, isi_tup_str, isi_tup_int, isi_tup_bool, isi_tup_tuple, isi_tup_list, isi_tup_dict, isi_tup_tuple_list, isi_lst_str, isi_lst_int, isi_lst_bool, isi_lst_tuple, isi_lst_list, isi_lst_dict, isi_lst_tuple_list, uTru_K, uB_K, uPart_K, uRng_K, uOrV_K, uAndV_K, uNotV_K, uChain_K, uAug_K, truK_non, truK_bl, truK_int, truK_str, truK_tup, truK_lst, blK_bl, partK_int, rngK_int, tuple_t, tuple_l, len_ref, mul_rk, mul_rd, tuple_r, list_r, list_t, list_l, ix_tup_0, ix_lst_0, ix_tup_1, ix_lst_1, ix_tup_2, ix_lst_2, ix_tup_3, ix_lst_3, ix_tup_4, ix_lst_4, ixt_g, ixl_g, add_ll2, in_ss2, anyI_l2, isn_n, gTup_t, gCons_c, gNil_n, cle, clt, cge, cgt, ceq, cne, exists_eq_left', exists_eq_left, Option.some.injEq, U.int.injEq, U.bl.injEq, U.str.injEq, U.ref.injEq, U.tup.injEq, U.lst.injEq, U.ty.injEq, List.cons.injEq, and_true, true_and, and_self, List.map_cons, List.map_nil, List.length_cons, List.length_nil, List.cons_append, List.nil_append, List.append_nil, List.getElem?_cons_zero, List.getElem?_cons_succ, List.set_cons_zero, List.set_cons_succ, List.replicate, ↓reduceIte, Bool.false_eq_true, Bool.not_true, Bool.not_false, reduceCtorEq, Nat.reduceAdd, Nat.reduceSub, Nat.reduceLeDiff, Nat.reduceEqDiff, decide_true, decide_false, at0, at1, at2, at3, at4, ix0, ix1, ix2, ix3, ix4, updM_same, beq_self_eq_true, Option.bind, Option.map, wipeU, NT.put, puts, MO.lst.injEq, exists_and_left, decide_eq_true_eq, Bool.and_eq_true, Bool.or_eq_true, exists_eq', Nat.zero_le, true_or, or_true]
      refine ⟨s, c, N', (1 + r2).toNat, by rw [Int.toNat_of_nonneg (by omega)], by omega, hS3.le (by omega), fun z M4 hl hz hS4 hB4 => q _ _ (word_dt hl (by omega) hz) hS4 (hB3.trans hB4)⟩
    · have hyl : ys.length ≤ 20 := by rw [hl, range_len]; omega
      have hds : D ≠ s := Ne.symm hs
      have hdc : D ≠ c := Ne.symm hc
      have hM1 : M D = none := by
        cases z : M D with
        | none => rfl
        | some o => rw [hB1 D hds hdc o z] at hD; cases hD
      have fin : ∀ (zs : List U) (M' : UHp), zs.length ≤ 21 → (∀ z ∈ zs, Dt 2 340 z) → M' D = some (.lst zs) → Strm M' s c n → But s c M M' → ∀ r3 : Int, @ite Prop (ueq (val M' (.int r3)) (.int 0) = true) (instDecidableEqBool (ueq (val M' (.int r3)) (.int 0)) true) (ZQ Q (.ref D) M') (ZQ Q (.tup zs) M') := by
        intro zs M' hz hd hDM hS' hB r3
        have hsz : zs.length * (340 + 2) + 4 ≤ 7200 := by omega
        refine iteI (fun e0 => ?_) (fun e0 => ?_)
        · exact zq_f hDM (q _ _ (Dt.lst hd hsz) (hS'.del hs hc) (hB.del hM1))
        · exact .inl (q _ _ (Dt.tup hd hsz) hS' hB)
      simp only [uIfS, uOr, uAnd, uNot, uCB, uCons, uNil, uC, uRet, uNext, uOp, uUn, uTup, uLst, uIf, uAsg, uName, uDrop, uCall, uBM, uBM0, uSl, uNoPart, uSub, ustart, uSeq, uRng2, List.append_nil, uYes, add_ii, add_ss, add_tt, add_lr_, add_rl_, sub_ii, mul_ii, mod_ii, div_ii, pow_ii, lt_ii, lt_ss, le_ii, gt_ii, ge_ii, neg_i, int_i, aug_ii, isNon_non, isNon_bl, isNon_int, isNon_str, isNon_tup, isNon_lst, isNon_ref, val_non, val_bl, val_int, val_str, val_tup, val_lst, refV_lst, val_ref, refL_lst, listU_lst, listU_ref, seqU_lst, seqU_tup, seqU_ref, lenU_str, lenU_tup, lenU_lst, lenU_ref, tyM_non, tyM_bl, tyM_int, tyM_str, tyM_tup, tyM_lst, refT_lst, tyM_ref, okN_str, okN_int, okN_bool, okN_tuple, okN_list, okN_dict, sub_NoneType_str, sub_NoneType_int, sub_NoneType_bool, sub_NoneType_tuple, sub_NoneType_list, sub_NoneType_dict, sub_bool_str, sub_bool_int, sub_bool_bool, sub_bool_tuple, sub_bool_list, sub_bool_dict, sub_int_str, sub_int_int, sub_int_bool, sub_int_tuple, sub_int_list, sub_int_dict, sub_str_str, sub_str_int, sub_str_bool, sub_str_tuple, sub_str_list, sub_str_dict, sub_tuple_str, sub_tuple_int, sub_tuple_bool, sub_tuple_tuple, sub_tuple_list, sub_tuple_dict, sub_list_str, sub_list_int, sub_list_bool, sub_list_tuple, sub_list_list, sub_list_dict, sub_dict_str, sub_dict_int, sub_dict_bool, sub_dict_tuple, sub_dict_list, sub_dict_dict, tru_non, tru_bl, tru_int, tru_str, tru_tup, tru_lst, eq_R, ne_R, isD_non, isD_bl, isD_int, isD_str, isD_tup, isD_lst, isDs_nil, isDs_cons, dep_non, dep_bl, dep_int, dep_str, dep_tup, dep_lst, deps_nil, deps_cons, ueq_ii, ueq_ss, ueq_bb, ueq_tt, ueq_ll, ueqs_nn, ueqs_cc, ueqs_cn, ueqs_nc, ix_s, ix_r, set_r, app_r, pop_r, ins_r, join_r, all_1, any_1, repr_1, newL_f, newL_t, sl_s, sl_t, sl_l, sl_r, in_t, in_l, in_r, tyMt_rl, tyMt_rd, tyMt_s, any_t, anyI_t, anyI_s, anyI_r, uVar_0, uVar_1, uVar_2, uVar_3, uVar_4, uVar_5, uVar_6, uVar_7, uVar_8, uVar_9, uVar_10, uVar_11, uVar_12, uVar_13, uVar_14, uVar_15, len_str, len_tup, len_lst, isi_non_str, isi_non_int, isi_non_bool, isi_non_tuple, isi_non_list, isi_non_dict, isi_non_tuple_list, isi_bl_str, isi_bl_int, isi_bl_bool, isi_bl_tuple, isi_bl_list, isi_bl_dict, isi_bl_tuple_list, isi_int_str, isi_int_int, isi_int_bool, isi_int_tuple, isi_int_list, isi_int_dict, isi_int_tuple_list, isi_str_str, isi_str_int, isi_str_bool, isi_str_tuple, isi_str_list, isi_str_dict, isi_str_tuple_list, isi_tup_str, isi_tup_int, isi_tup_bool, isi_tup_tuple, isi_tup_list, isi_tup_dict, isi_tup_tuple_list, isi_lst_str, isi_lst_int, isi_lst_bool, isi_lst_tuple, isi_lst_list, isi_lst_dict, isi_lst_tuple_list, uTru_K, uB_K, uPart_K, uRng_K, uOrV_K, uAndV_K, uNotV_K, uChain_K, uAug_K, truK_non, truK_bl, truK_int, truK_str, truK_tup, truK_lst, blK_bl, partK_int, rngK_int, tuple_t, tuple_l, len_ref, mul_rk, mul_rd, tuple_r, list_r, list_t, list_l, ix_tup_0, ix_lst_0, ix_tup_1, ix_lst_1, ix_tup_2, ix_lst_2, ix_tup_3, ix_lst_3, ix_tup_4, ix_lst_4, ixt_g, ixl_g, add_ll2, in_ss2, anyI_l2, isn_n, gTup_t, gCons_c, gNil_n, cle, clt, cge, cgt, ceq, cne, exists_eq_left', exists_eq_left, Option.some.injEq, U.int.injEq, U.bl.injEq, U.str.injEq, U.ref.injEq, U.tup.injEq, U.lst.injEq, U.ty.injEq, List.cons.injEq, and_true, true_and, and_self, List.map_cons, List.map_nil, List.length_cons, List.length_nil, List.cons_append, List.nil_append, List.append_nil, List.getElem?_cons_zero, List.getElem?_cons_succ, List.set_cons_zero, List.set_cons_succ, List.replicate, ↓reduceIte, Bool.false_eq_true, Bool.not_true, Bool.not_false, reduceCtorEq, Nat.reduceAdd, Nat.reduceSub, Nat.reduceLeDiff, Nat.reduceEqDiff, decide_true, decide_false, at0, at1, at2, at3, at4, ix0, ix1, ix2, ix3, ix4, updM_same, beq_self_eq_true, Option.bind, Option.map, wipeU, NT.put, puts, MO.lst.injEq, exists_and_left, decide_eq_true_eq, Bool.and_eq_true, Bool.or_eq_true, exists_eq', Nat.zero_le, true_or, or_true]
      refine draw_use (n := n + 68) hS2 (by decide) (by decide) fun r2 M3 h2 h3 hS3 hB3 => ?_
      have hB13 := (hB1.trans hB2).trans hB3
      have hD3 := hB3 D hds hdc _ hD2
      simp only [uIfS, uOr, uAnd, uNot, uCB, uCons, uNil, uC, uRet, uNext, uOp, uUn, uTup, uLst, uIf, uAsg, uName, uDrop, uCall, uBM, uBM0, uSl, uNoPart, uSub, ustart, uSeq, uRng2, List.append_nil, uYes, add_ii, add_ss, add_tt, add_lr_, add_rl_, sub_ii, mul_ii, mod_ii, div_ii, pow_ii, lt_ii, lt_ss, le_ii, gt_ii, ge_ii, neg_i, int_i, aug_ii, isNon_non, isNon_bl, isNon_int, isNon_str, isNon_tup, isNon_lst, isNon_ref, val_non, val_bl, val_int, val_str, val_tup, val_lst, refV_lst, val_ref, refL_lst, listU_lst, listU_ref, seqU_lst, seqU_tup, seqU_ref, lenU_str, lenU_tup, lenU_lst, lenU_ref, tyM_non, tyM_bl, tyM_int, tyM_str, tyM_tup, tyM_lst, refT_lst, tyM_ref, okN_str, okN_int, okN_bool, okN_tuple, okN_list, okN_dict, sub_NoneType_str, sub_NoneType_int, sub_NoneType_bool, sub_NoneType_tuple, sub_NoneType_list, sub_NoneType_dict, sub_bool_str, sub_bool_int, sub_bool_bool, sub_bool_tuple, sub_bool_list, sub_bool_dict, sub_int_str, sub_int_int, sub_int_bool, sub_int_tuple, sub_int_list, sub_int_dict, sub_str_str, sub_str_int, sub_str_bool, sub_str_tuple, sub_str_list, sub_str_dict, sub_tuple_str, sub_tuple_int, sub_tuple_bool, sub_tuple_tuple, sub_tuple_list, sub_tuple_dict, sub_list_str, sub_list_int, sub_list_bool, sub_list_tuple, sub_list_list, sub_list_dict, sub_dict_str, sub_dict_int, sub_dict_bool, sub_dict_tuple, sub_dict_list, sub_dict_dict, tru_non, tru_bl, tru_int, tru_str, tru_tup, tru_lst, eq_R, ne_R, isD_non, isD_bl, isD_int, isD_str, isD_tup, isD_lst, isDs_nil, isDs_cons, dep_non, dep_bl, dep_int, dep_str, dep_tup, dep_lst, deps_nil, deps_cons, ueq_ii, ueq_ss, ueq_bb, ueq_tt, ueq_ll, ueqs_nn, ueqs_cc, ueqs_cn, ueqs_nc, ix_s, ix_r, set_r, app_r, pop_r, ins_r, join_r, all_1, any_1, repr_1, newL_f, newL_t, sl_s, sl_t, sl_l, sl_r, in_t, in_l, in_r, tyMt_rl, tyMt_rd, tyMt_s, any_t, anyI_t, anyI_s, anyI_r, uVar_0, uVar_1, uVar_2, uVar_3, uVar_4, uVar_5, uVar_6, uVar_7, uVar_8, uVar_9, uVar_10, uVar_11, uVar_12, uVar_13, uVar_14, uVar_15, len_str, len_tup, len_lst, isi_non_str, isi_non_int, isi_non_bool, isi_non_tuple, isi_non_list, isi_non_dict, isi_non_tuple_list, isi_bl_str, isi_bl_int, isi_bl_bool, isi_bl_tuple, isi_bl_list, isi_bl_dict, isi_bl_tuple_list, isi_int_str, isi_int_int, isi_int_bool, isi_int_tuple, isi_int_list, isi_int_dict, isi_int_tuple_list, isi_str_str, isi_str_int, isi_str_bool, isi_str_tuple, isi_str_list, isi_str_dict, isi_str_tuple_list, isi_tup_str, isi_tup_int, isi_tup_bool, isi_tup_tuple, isi_tup_list, isi_tup_dict, isi_tup_tuple_list, isi_lst_str, isi_lst_int, isi_lst_bool, isi_lst_tuple, isi_lst_list, isi_lst_dict, isi_lst_tuple_list, uTru_K, uB_K, uPart_K, uRng_K, uOrV_K, uAndV_K, uNotV_K, uChain_K, uAug_K, truK_non, truK_bl, truK_int, truK_str, truK_tup, truK_lst, blK_bl, partK_int, rngK_int, tuple_t, tuple_l, len_ref, mul_rk, mul_rd, tuple_r, list_r, list_t, list_l, ix_tup_0, ix_lst_0, ix_tup_1, ix_lst_1, ix_tup_2, ix_lst_2, ix_tup_3, ix_lst_3, ix_tup_4, ix_lst_4, ixt_g, ixl_g, add_ll2, in_ss2, anyI_l2, isn_n, gTup_t, gCons_c, gNil_n, cle, clt, cge, cgt, ceq, cne, exists_eq_left', exists_eq_left, Option.some.injEq, U.int.injEq, U.bl.injEq, U.str.injEq, U.ref.injEq, U.tup.injEq, U.lst.injEq, U.ty.injEq, List.cons.injEq, and_true, true_and, and_self, List.map_cons, List.map_nil, List.length_cons, List.length_nil, List.cons_append, List.nil_append, List.append_nil, List.getElem?_cons_zero, List.getElem?_cons_succ, List.set_cons_zero, List.set_cons_succ, List.replicate, ↓reduceIte, Bool.false_eq_true, Bool.not_true, Bool.not_false, reduceCtorEq, Nat.reduceAdd, Nat.reduceSub, Nat.reduceLeDiff, Nat.reduceEqDiff, decide_true, decide_false, at0, at1, at2, at3, at4, ix0, ix1, ix2, ix3, ix4, updM_same, beq_self_eq_true, Option.bind, Option.map, wipeU, NT.put, puts, MO.lst.injEq, exists_and_left, decide_eq_true_eq, Bool.and_eq_true, Bool.or_eq_true, exists_eq', Nat.zero_le, true_or, or_true]
      refine iteI (fun e0 => ?_) (fun e0 => ?_)
      · refine near_name_use (n := n + 47) (hS3.le (by omega)) fun z M4 hz hzo hS4 hB4 => ?_
        refine thing_use (d := 1) (n := n + 3) (hS4.le (by simp only [tC]; omega)) fun y M5 hy hS5 hB5 => ?_
        refine ⟨line_le, draw_use (n := n + 2) hS5 (by decide) (by decide) fun r4 M6 h4 h5 hS6 hB6 => ?_⟩
        simp only [uIfS, uOr, uAnd, uNot, uCB, uCons, uNil, uC, uRet, uNext, uOp, uUn, uTup, uLst, uIf, uAsg, uName, uDrop, uCall, uBM, uBM0, uSl, uNoPart, uSub, ustart, uSeq, uRng2, List.append_nil, uYes, add_ii, add_ss, add_tt, add_lr_, add_rl_, sub_ii, mul_ii, mod_ii, div_ii, pow_ii, lt_ii, lt_ss, le_ii, gt_ii, ge_ii, neg_i, int_i, aug_ii, isNon_non, isNon_bl, isNon_int, isNon_str, isNon_tup, isNon_lst, isNon_ref, val_non, val_bl, val_int, val_str, val_tup, val_lst, refV_lst, val_ref, refL_lst, listU_lst, listU_ref, seqU_lst, seqU_tup, seqU_ref, lenU_str, lenU_tup, lenU_lst, lenU_ref, tyM_non, tyM_bl, tyM_int, tyM_str, tyM_tup, tyM_lst, refT_lst, tyM_ref, okN_str, okN_int, okN_bool, okN_tuple, okN_list, okN_dict, sub_NoneType_str, sub_NoneType_int, sub_NoneType_bool, sub_NoneType_tuple, sub_NoneType_list, sub_NoneType_dict, sub_bool_str, sub_bool_int, sub_bool_bool, sub_bool_tuple, sub_bool_list, sub_bool_dict, sub_int_str, sub_int_int, sub_int_bool, sub_int_tuple, sub_int_list, sub_int_dict, sub_str_str, sub_str_int, sub_str_bool, sub_str_tuple, sub_str_list, sub_str_dict, sub_tuple_str, sub_tuple_int, sub_tuple_bool, sub_tuple_tuple, sub_tuple_list, sub_tuple_dict, sub_list_str, sub_list_int, sub_list_bool, sub_list_tuple, sub_list_list, sub_list_dict, sub_dict_str, sub_dict_int, sub_dict_bool, sub_dict_tuple, sub_dict_list, sub_dict_dict, tru_non, tru_bl, tru_int, tru_str, tru_tup, tru_lst, eq_R, ne_R, isD_non, isD_bl, isD_int, isD_str, isD_tup, isD_lst, isDs_nil, isDs_cons, dep_non, dep_bl, dep_int, dep_str, dep_tup, dep_lst, deps_nil, deps_cons, ueq_ii, ueq_ss, ueq_bb, ueq_tt, ueq_ll, ueqs_nn, ueqs_cc, ueqs_cn, ueqs_nc, ix_s, ix_r, set_r, app_r, pop_r, ins_r, join_r, all_1, any_1, repr_1, newL_f, newL_t, sl_s, sl_t, sl_l, sl_r, in_t, in_l, in_r, tyMt_rl, tyMt_rd, tyMt_s, any_t, anyI_t, anyI_s, anyI_r, uVar_0, uVar_1, uVar_2, uVar_3, uVar_4, uVar_5, uVar_6, uVar_7, uVar_8, uVar_9, uVar_10, uVar_11, uVar_12, uVar_13, uVar_14, uVar_15, len_str, len_tup, len_lst, isi_non_str, isi_non_int, isi_non_bool, isi_non_tuple, isi_non_list, isi_non_dict, isi_non_tuple_list, isi_bl_str, isi_bl_int, isi_bl_bool, isi_bl_tuple, isi_bl_list, isi_bl_dict, isi_bl_tuple_list, isi_int_str, isi_int_int, isi_int_bool, isi_int_tuple, isi_int_list, isi_int_dict, isi_int_tuple_list, isi_str_str, isi_str_int, isi_str_bool, isi_str_tuple, isi_str_list, isi_str_dict, isi_str_tuple_list, isi_tup_str, isi_tup_int, isi_tup_bool, isi_tup_tuple, isi_tup_list, isi_tup_dict, isi_tup_tuple_list, isi_lst_str, isi_lst_int, isi_lst_bool, isi_lst_tuple, isi_lst_list, isi_lst_dict, isi_lst_tuple_list, uTru_K, uB_K, uPart_K, uRng_K, uOrV_K, uAndV_K, uNotV_K, uChain_K, uAug_K, truK_non, truK_bl, truK_int, truK_str, truK_tup, truK_lst, blK_bl, partK_int, rngK_int, tuple_t, tuple_l, len_ref, mul_rk, mul_rd, tuple_r, list_r, list_t, list_l, ix_tup_0, ix_lst_0, ix_tup_1, ix_lst_1, ix_tup_2, ix_lst_2, ix_tup_3, ix_lst_3, ix_tup_4, ix_lst_4, ixt_g, ixl_g, add_ll2, in_ss2, anyI_l2, isn_n, gTup_t, gCons_c, gNil_n, cle, clt, cge, cgt, ceq, cne, exists_eq_left', exists_eq_left, Option.some.injEq, U.int.injEq, U.bl.injEq, U.str.injEq, U.ref.injEq, U.tup.injEq, U.lst.injEq, U.ty.injEq, List.cons.injEq, and_true, true_and, and_self, List.map_cons, List.map_nil, List.length_cons, List.length_nil, List.cons_append, List.nil_append, List.append_nil, List.getElem?_cons_zero, List.getElem?_cons_succ, List.set_cons_zero, List.set_cons_succ, List.replicate, ↓reduceIte, Bool.false_eq_true, Bool.not_true, Bool.not_false, reduceCtorEq, Nat.reduceAdd, Nat.reduceSub, Nat.reduceLeDiff, Nat.reduceEqDiff, decide_true, decide_false, at0, at1, at2, at3, at4, ix0, ix1, ix2, ix3, ix4, updM_same, beq_self_eq_true, Option.bind, Option.map, wipeU, NT.put, puts, MO.lst.injEq, exists_and_left, decide_eq_true_eq, Bool.and_eq_true, Bool.or_eq_true, exists_eq', Nat.zero_le, true_or, or_true]
        obtain ⟨v, e2, hv⟩ := at_draw (xs := [.str z, y]) h4 h5
        have hvd : Dt 2 340 v := by
          simp only [List.mem_cons, List.not_mem_nil, or_false] at hv
          rcases hv with rfl | rfl
          · exact (Dt.str (n := 172) hzo (by omega)).mono (by decide) (by decide)
          · exact hy
        have hD6 := hB6 D hds hdc _ (hB5 D hds hdc _ (hB4 D hds hdc _ hD3))
        simp only [uIfS, uOr, uAnd, uNot, uCB, uCons, uNil, uC, uRet, uNext, uOp, uUn, uTup, uLst, uIf, uAsg, uName, uDrop, uCall, uBM, uBM0, uSl, uNoPart, uSub, ustart, uSeq, uRng2, List.append_nil, uYes, add_ii, add_ss, add_tt, add_lr_, add_rl_, sub_ii, mul_ii, mod_ii, div_ii, pow_ii, lt_ii, lt_ss, le_ii, gt_ii, ge_ii, neg_i, int_i, aug_ii, isNon_non, isNon_bl, isNon_int, isNon_str, isNon_tup, isNon_lst, isNon_ref, val_non, val_bl, val_int, val_str, val_tup, val_lst, refV_lst, val_ref, refL_lst, listU_lst, listU_ref, seqU_lst, seqU_tup, seqU_ref, lenU_str, lenU_tup, lenU_lst, lenU_ref, tyM_non, tyM_bl, tyM_int, tyM_str, tyM_tup, tyM_lst, refT_lst, tyM_ref, okN_str, okN_int, okN_bool, okN_tuple, okN_list, okN_dict, sub_NoneType_str, sub_NoneType_int, sub_NoneType_bool, sub_NoneType_tuple, sub_NoneType_list, sub_NoneType_dict, sub_bool_str, sub_bool_int, sub_bool_bool, sub_bool_tuple, sub_bool_list, sub_bool_dict, sub_int_str, sub_int_int, sub_int_bool, sub_int_tuple, sub_int_list, sub_int_dict, sub_str_str, sub_str_int, sub_str_bool, sub_str_tuple, sub_str_list, sub_str_dict, sub_tuple_str, sub_tuple_int, sub_tuple_bool, sub_tuple_tuple, sub_tuple_list, sub_tuple_dict, sub_list_str, sub_list_int, sub_list_bool, sub_list_tuple, sub_list_list, sub_list_dict, sub_dict_str, sub_dict_int, sub_dict_bool, sub_dict_tuple, sub_dict_list, sub_dict_dict, tru_non, tru_bl, tru_int, tru_str, tru_tup, tru_lst, eq_R, ne_R, isD_non, isD_bl, isD_int, isD_str, isD_tup, isD_lst, isDs_nil, isDs_cons, dep_non, dep_bl, dep_int, dep_str, dep_tup, dep_lst, deps_nil, deps_cons, ueq_ii, ueq_ss, ueq_bb, ueq_tt, ueq_ll, ueqs_nn, ueqs_cc, ueqs_cn, ueqs_nc, ix_s, ix_r, set_r, app_r, pop_r, ins_r, join_r, all_1, any_1, repr_1, newL_f, newL_t, sl_s, sl_t, sl_l, sl_r, in_t, in_l, in_r, tyMt_rl, tyMt_rd, tyMt_s, any_t, anyI_t, anyI_s, anyI_r, uVar_0, uVar_1, uVar_2, uVar_3, uVar_4, uVar_5, uVar_6, uVar_7, uVar_8, uVar_9, uVar_10, uVar_11, uVar_12, uVar_13, uVar_14, uVar_15, len_str, len_tup, len_lst, isi_non_str, isi_non_int, isi_non_bool, isi_non_tuple, isi_non_list, isi_non_dict, isi_non_tuple_list, isi_bl_str, isi_bl_int, isi_bl_bool, isi_bl_tuple, isi_bl_list, isi_bl_dict, isi_bl_tuple_list, isi_int_str, isi_int_int, isi_int_bool, isi_int_tuple, isi_int_list, isi_int_dict, isi_int_tuple_list, isi_str_str, isi_str_int, isi_str_bool, isi_str_tuple, isi_str_list, isi_str_dict, isi_str_tuple_list, isi_tup_str, isi_tup_int, isi_tup_bool, isi_tup_tuple, isi_tup_list, isi_tup_dict, isi_tup_tuple_list, isi_lst_str, isi_lst_int, isi_lst_bool, isi_lst_tuple, isi_lst_list, isi_lst_dict, isi_lst_tuple_list, uTru_K, uB_K, uPart_K, uRng_K, uOrV_K, uAndV_K, uNotV_K, uChain_K, uAug_K, truK_non, truK_bl, truK_int, truK_str, truK_tup, truK_lst, blK_bl, partK_int, rngK_int, tuple_t, tuple_l, len_ref, mul_rk, mul_rd, tuple_r, list_r, list_t, list_l, ix_tup_0, ix_lst_0, ix_tup_1, ix_lst_1, ix_tup_2, ix_lst_2, ix_tup_3, ix_lst_3, ix_tup_4, ix_lst_4, ixt_g, ixl_g, add_ll2, in_ss2, anyI_l2, isn_n, gTup_t, gCons_c, gNil_n, cle, clt, cge, cgt, ceq, cne, exists_eq_left', exists_eq_left, Option.some.injEq, U.int.injEq, U.bl.injEq, U.str.injEq, U.ref.injEq, U.tup.injEq, U.lst.injEq, U.ty.injEq, List.cons.injEq, and_true, true_and, and_self, List.map_cons, List.map_nil, List.length_cons, List.length_nil, List.cons_append, List.nil_append, List.append_nil, List.getElem?_cons_zero, List.getElem?_cons_succ, List.set_cons_zero, List.set_cons_succ, List.replicate, ↓reduceIte, Bool.false_eq_true, Bool.not_true, Bool.not_false, reduceCtorEq, Nat.reduceAdd, Nat.reduceSub, Nat.reduceLeDiff, Nat.reduceEqDiff, decide_true, decide_false, at0, at1, at2, at3, at4, ix0, ix1, ix2, ix3, ix4, updM_same, beq_self_eq_true, Option.bind, Option.map, wipeU, NT.put, puts, MO.lst.injEq, exists_and_left, decide_eq_true_eq, Bool.and_eq_true, Bool.or_eq_true, exists_eq', Nat.zero_le, true_or, or_true, hD6]
        refine ⟨_, e2, ?_⟩
        refine draw_use (n := n + 1) hS6 (by omega) (by omega) fun r5 M7 h6 h7 hS7 hB7 => ?_
        have hD7 := hB7 D hds hdc _ hD6
        simp only [uIfS, uOr, uAnd, uNot, uCB, uCons, uNil, uC, uRet, uNext, uOp, uUn, uTup, uLst, uIf, uAsg, uName, uDrop, uCall, uBM, uBM0, uSl, uNoPart, uSub, ustart, uSeq, uRng2, List.append_nil, uYes, add_ii, add_ss, add_tt, add_lr_, add_rl_, sub_ii, mul_ii, mod_ii, div_ii, pow_ii, lt_ii, lt_ss, le_ii, gt_ii, ge_ii, neg_i, int_i, aug_ii, isNon_non, isNon_bl, isNon_int, isNon_str, isNon_tup, isNon_lst, isNon_ref, val_non, val_bl, val_int, val_str, val_tup, val_lst, refV_lst, val_ref, refL_lst, listU_lst, listU_ref, seqU_lst, seqU_tup, seqU_ref, lenU_str, lenU_tup, lenU_lst, lenU_ref, tyM_non, tyM_bl, tyM_int, tyM_str, tyM_tup, tyM_lst, refT_lst, tyM_ref, okN_str, okN_int, okN_bool, okN_tuple, okN_list, okN_dict, sub_NoneType_str, sub_NoneType_int, sub_NoneType_bool, sub_NoneType_tuple, sub_NoneType_list, sub_NoneType_dict, sub_bool_str, sub_bool_int, sub_bool_bool, sub_bool_tuple, sub_bool_list, sub_bool_dict, sub_int_str, sub_int_int, sub_int_bool, sub_int_tuple, sub_int_list, sub_int_dict, sub_str_str, sub_str_int, sub_str_bool, sub_str_tuple, sub_str_list, sub_str_dict, sub_tuple_str, sub_tuple_int, sub_tuple_bool, sub_tuple_tuple, sub_tuple_list, sub_tuple_dict, sub_list_str, sub_list_int, sub_list_bool, sub_list_tuple, sub_list_list, sub_list_dict, sub_dict_str, sub_dict_int, sub_dict_bool, sub_dict_tuple, sub_dict_list, sub_dict_dict, tru_non, tru_bl, tru_int, tru_str, tru_tup, tru_lst, eq_R, ne_R, isD_non, isD_bl, isD_int, isD_str, isD_tup, isD_lst, isDs_nil, isDs_cons, dep_non, dep_bl, dep_int, dep_str, dep_tup, dep_lst, deps_nil, deps_cons, ueq_ii, ueq_ss, ueq_bb, ueq_tt, ueq_ll, ueqs_nn, ueqs_cc, ueqs_cn, ueqs_nc, ix_s, ix_r, set_r, app_r, pop_r, ins_r, join_r, all_1, any_1, repr_1, newL_f, newL_t, sl_s, sl_t, sl_l, sl_r, in_t, in_l, in_r, tyMt_rl, tyMt_rd, tyMt_s, any_t, anyI_t, anyI_s, anyI_r, uVar_0, uVar_1, uVar_2, uVar_3, uVar_4, uVar_5, uVar_6, uVar_7, uVar_8, uVar_9, uVar_10, uVar_11, uVar_12, uVar_13, uVar_14, uVar_15, len_str, len_tup, len_lst, isi_non_str, isi_non_int, isi_non_bool, isi_non_tuple, isi_non_list, isi_non_dict, isi_non_tuple_list, isi_bl_str, isi_bl_int, isi_bl_bool, isi_bl_tuple, isi_bl_list, isi_bl_dict, isi_bl_tuple_list, isi_int_str, isi_int_int, isi_int_bool, isi_int_tuple, isi_int_list, isi_int_dict, isi_int_tuple_list, isi_str_str, isi_str_int, isi_str_bool, isi_str_tuple, isi_str_list, isi_str_dict, isi_str_tuple_list, isi_tup_str, isi_tup_int, isi_tup_bool, isi_tup_tuple, isi_tup_list, isi_tup_dict, isi_tup_tuple_list, isi_lst_str, isi_lst_int, isi_lst_bool, isi_lst_tuple, isi_lst_list, isi_lst_dict, isi_lst_tuple_list, uTru_K, uB_K, uPart_K, uRng_K, uOrV_K, uAndV_K, uNotV_K, uChain_K, uAug_K, truK_non, truK_bl, truK_int, truK_str, truK_tup, truK_lst, blK_bl, partK_int, rngK_int, tuple_t, tuple_l, len_ref, mul_rk, mul_rd, tuple_r, list_r, list_t, list_l, ix_tup_0, ix_lst_0, ix_tup_1, ix_lst_1, ix_tup_2, ix_lst_2, ix_tup_3, ix_lst_3, ix_tup_4, ix_lst_4, ixt_g, ixl_g, add_ll2, in_ss2, anyI_l2, isn_n, gTup_t, gCons_c, gNil_n, cle, clt, cge, cgt, ceq, cne, exists_eq_left', exists_eq_left, Option.some.injEq, U.int.injEq, U.bl.injEq, U.str.injEq, U.ref.injEq, U.tup.injEq, U.lst.injEq, U.ty.injEq, List.cons.injEq, and_true, true_and, and_self, List.map_cons, List.map_nil, List.length_cons, List.length_nil, List.cons_append, List.nil_append, List.append_nil, List.getElem?_cons_zero, List.getElem?_cons_succ, List.set_cons_zero, List.set_cons_succ, List.replicate, ↓reduceIte, Bool.false_eq_true, Bool.not_true, Bool.not_false, reduceCtorEq, Nat.reduceAdd, Nat.reduceSub, Nat.reduceLeDiff, Nat.reduceEqDiff, decide_true, decide_false, at0, at1, at2, at3, at4, ix0, ix1, ix2, ix3, ix4, updM_same, beq_self_eq_true, Option.bind, Option.map, wipeU, NT.put, puts, MO.lst.injEq, exists_and_left, decide_eq_true_eq, Bool.and_eq_true, Bool.or_eq_true, exists_eq', Nat.zero_le, true_or, or_true, hD7]
        refine ⟨line_lt (by omega), h6, by omega, ?_⟩
        refine draw_use (n := n) (hS7.upd hs hc) (by omega) (by omega) fun r6 M8 h8 h9 hS8 hB8 => ?_
        have hD8 := hB8 D hds hdc _ updM_same
        simp only [uIfS, uOr, uAnd, uNot, uCB, uCons, uNil, uC, uRet, uNext, uOp, uUn, uTup, uLst, uIf, uAsg, uName, uDrop, uCall, uBM, uBM0, uSl, uNoPart, uSub, ustart, uSeq, uRng2, List.append_nil, uYes, add_ii, add_ss, add_tt, add_lr_, add_rl_, sub_ii, mul_ii, mod_ii, div_ii, pow_ii, lt_ii, lt_ss, le_ii, gt_ii, ge_ii, neg_i, int_i, aug_ii, isNon_non, isNon_bl, isNon_int, isNon_str, isNon_tup, isNon_lst, isNon_ref, val_non, val_bl, val_int, val_str, val_tup, val_lst, refV_lst, val_ref, refL_lst, listU_lst, listU_ref, seqU_lst, seqU_tup, seqU_ref, lenU_str, lenU_tup, lenU_lst, lenU_ref, tyM_non, tyM_bl, tyM_int, tyM_str, tyM_tup, tyM_lst, refT_lst, tyM_ref, okN_str, okN_int, okN_bool, okN_tuple, okN_list, okN_dict, sub_NoneType_str, sub_NoneType_int, sub_NoneType_bool, sub_NoneType_tuple, sub_NoneType_list, sub_NoneType_dict, sub_bool_str, sub_bool_int, sub_bool_bool, sub_bool_tuple, sub_bool_list, sub_bool_dict, sub_int_str, sub_int_int, sub_int_bool, sub_int_tuple, sub_int_list, sub_int_dict, sub_str_str, sub_str_int, sub_str_bool, sub_str_tuple, sub_str_list, sub_str_dict, sub_tuple_str, sub_tuple_int, sub_tuple_bool, sub_tuple_tuple, sub_tuple_list, sub_tuple_dict, sub_list_str, sub_list_int, sub_list_bool, sub_list_tuple, sub_list_list, sub_list_dict, sub_dict_str, sub_dict_int, sub_dict_bool, sub_dict_tuple, sub_dict_list, sub_dict_dict, tru_non, tru_bl, tru_int, tru_str, tru_tup, tru_lst, eq_R, ne_R, isD_non, isD_bl, isD_int, isD_str, isD_tup, isD_lst, isDs_nil, isDs_cons, dep_non, dep_bl, dep_int, dep_str, dep_tup, dep_lst, deps_nil, deps_cons, ueq_ii, ueq_ss, ueq_bb, ueq_tt, ueq_ll, ueqs_nn, ueqs_cc, ueqs_cn, ueqs_nc, ix_s, ix_r, set_r, app_r, pop_r, ins_r, join_r, all_1, any_1, repr_1, newL_f, newL_t, sl_s, sl_t, sl_l, sl_r, in_t, in_l, in_r, tyMt_rl, tyMt_rd, tyMt_s, any_t, anyI_t, anyI_s, anyI_r, uVar_0, uVar_1, uVar_2, uVar_3, uVar_4, uVar_5, uVar_6, uVar_7, uVar_8, uVar_9, uVar_10, uVar_11, uVar_12, uVar_13, uVar_14, uVar_15, len_str, len_tup, len_lst, isi_non_str, isi_non_int, isi_non_bool, isi_non_tuple, isi_non_list, isi_non_dict, isi_non_tuple_list, isi_bl_str, isi_bl_int, isi_bl_bool, isi_bl_tuple, isi_bl_list, isi_bl_dict, isi_bl_tuple_list, isi_int_str, isi_int_int, isi_int_bool, isi_int_tuple, isi_int_list, isi_int_dict, isi_int_tuple_list, isi_str_str, isi_str_int, isi_str_bool, isi_str_tuple, isi_str_list, isi_str_dict, isi_str_tuple_list, isi_tup_str, isi_tup_int, isi_tup_bool, isi_tup_tuple, isi_tup_list, isi_tup_dict, isi_tup_tuple_list, isi_lst_str, isi_lst_int, isi_lst_bool, isi_lst_tuple, isi_lst_list, isi_lst_dict, isi_lst_tuple_list, uTru_K, uB_K, uPart_K, uRng_K, uOrV_K, uAndV_K, uNotV_K, uChain_K, uAug_K, truK_non, truK_bl, truK_int, truK_str, truK_tup, truK_lst, blK_bl, partK_int, rngK_int, tuple_t, tuple_l, len_ref, mul_rk, mul_rd, tuple_r, list_r, list_t, list_l, ix_tup_0, ix_lst_0, ix_tup_1, ix_lst_1, ix_tup_2, ix_lst_2, ix_tup_3, ix_lst_3, ix_tup_4, ix_lst_4, ixt_g, ixl_g, add_ll2, in_ss2, anyI_l2, isn_n, gTup_t, gCons_c, gNil_n, cle, clt, cge, cgt, ceq, cne, exists_eq_left', exists_eq_left, Option.some.injEq, U.int.injEq, U.bl.injEq, U.str.injEq, U.ref.injEq, U.tup.injEq, U.lst.injEq, U.ty.injEq, List.cons.injEq, and_true, true_and, and_self, List.map_cons, List.map_nil, List.length_cons, List.length_nil, List.cons_append, List.nil_append, List.append_nil, List.getElem?_cons_zero, List.getElem?_cons_succ, List.set_cons_zero, List.set_cons_succ, List.replicate, ↓reduceIte, Bool.false_eq_true, Bool.not_true, Bool.not_false, reduceCtorEq, Nat.reduceAdd, Nat.reduceSub, Nat.reduceLeDiff, Nat.reduceEqDiff, decide_true, decide_false, at0, at1, at2, at3, at4, ix0, ix1, ix2, ix3, ix4, updM_same, beq_self_eq_true, Option.bind, Option.map, wipeU, NT.put, puts, MO.lst.injEq, exists_and_left, decide_eq_true_eq, Bool.and_eq_true, Bool.or_eq_true, exists_eq', Nat.zero_le, true_or, or_true, hD8]
        refine fin _ M8 ?_ ?_ hD8 hS8 (((((hB13.trans hB4).trans hB5).trans hB6).trans hB7).upd hM1 |>.trans hB8) r6
        · simp only [List.length_append, List.length_cons, List.length_nil, List.length_take, List.length_drop]; omega
        · intro x hx
          rcases List.mem_append.mp hx with hx | hx
          · rcases List.mem_append.mp hx with hx | hx
            · exact (hP x (List.mem_of_mem_take hx)).mono (by decide) (by decide)
            · rw [List.mem_singleton.mp hx]; exact hvd
          · exact (hP x (List.mem_of_mem_drop hx)).mono (by decide) (by decide)
      · refine draw_use (n := n + 67) hS3 (by omega) (by omega) fun r6 M8 h8 h9 hS8 hB8 => ?_
        have hD8 := hB8 D hds hdc _ hD3
        simp only [uIfS, uOr, uAnd, uNot, uCB, uCons, uNil, uC, uRet, uNext, uOp, uUn, uTup, uLst, uIf, uAsg, uName, uDrop, uCall, uBM, uBM0, uSl, uNoPart, uSub, ustart, uSeq, uRng2, List.append_nil, uYes, add_ii, add_ss, add_tt, add_lr_, add_rl_, sub_ii, mul_ii, mod_ii, div_ii, pow_ii, lt_ii, lt_ss, le_ii, gt_ii, ge_ii, neg_i, int_i, aug_ii, isNon_non, isNon_bl, isNon_int, isNon_str, isNon_tup, isNon_lst, isNon_ref, val_non, val_bl, val_int, val_str, val_tup, val_lst, refV_lst, val_ref, refL_lst, listU_lst, listU_ref, seqU_lst, seqU_tup, seqU_ref, lenU_str, lenU_tup, lenU_lst, lenU_ref, tyM_non, tyM_bl, tyM_int, tyM_str, tyM_tup, tyM_lst, refT_lst, tyM_ref, okN_str, okN_int, okN_bool, okN_tuple, okN_list, okN_dict, sub_NoneType_str, sub_NoneType_int, sub_NoneType_bool, sub_NoneType_tuple, sub_NoneType_list, sub_NoneType_dict, sub_bool_str, sub_bool_int, sub_bool_bool, sub_bool_tuple, sub_bool_list, sub_bool_dict, sub_int_str, sub_int_int, sub_int_bool, sub_int_tuple, sub_int_list, sub_int_dict, sub_str_str, sub_str_int, sub_str_bool, sub_str_tuple, sub_str_list, sub_str_dict, sub_tuple_str, sub_tuple_int, sub_tuple_bool, sub_tuple_tuple, sub_tuple_list, sub_tuple_dict, sub_list_str, sub_list_int, sub_list_bool, sub_list_tuple, sub_list_list, sub_list_dict, sub_dict_str, sub_dict_int, sub_dict_bool, sub_dict_tuple, sub_dict_list, sub_dict_dict, tru_non, tru_bl, tru_int, tru_str, tru_tup, tru_lst, eq_R, ne_R, isD_non, isD_bl, isD_int, isD_str, isD_tup, isD_lst, isDs_nil, isDs_cons, dep_non, dep_bl, dep_int, dep_str, dep_tup, dep_lst, deps_nil, deps_cons, ueq_ii, ueq_ss, ueq_bb, ueq_tt, ueq_ll, ueqs_nn, ueqs_cc, ueqs_cn, ueqs_nc, ix_s, ix_r, set_r, app_r, pop_r, ins_r, join_r, all_1, any_1, repr_1, newL_f, newL_t, sl_s, sl_t, sl_l, sl_r, in_t, in_l, in_r, tyMt_rl, tyMt_rd, tyMt_s, any_t, anyI_t, anyI_s, anyI_r, uVar_0, uVar_1, uVar_2, uVar_3, uVar_4, uVar_5, uVar_6, uVar_7, uVar_8, uVar_9, uVar_10, uVar_11, uVar_12, uVar_13, uVar_14, uVar_15, len_str, len_tup, len_lst, isi_non_str, isi_non_int, isi_non_bool, isi_non_tuple, isi_non_list, isi_non_dict, isi_non_tuple_list, isi_bl_str, isi_bl_int, isi_bl_bool, isi_bl_tuple, isi_bl_list, isi_bl_dict, isi_bl_tuple_list, isi_int_str, isi_int_int, isi_int_bool, isi_int_tuple, isi_int_list, isi_int_dict, isi_int_tuple_list, isi_str_str, isi_str_int, isi_str_bool, isi_str_tuple, isi_str_list, isi_str_dict, isi_str_tuple_list, isi_tup_str, isi_tup_int, isi_tup_bool, isi_tup_tuple, isi_tup_list, isi_tup_dict, isi_tup_tuple_list, isi_lst_str, isi_lst_int, isi_lst_bool, isi_lst_tuple, isi_lst_list, isi_lst_dict, isi_lst_tuple_list, uTru_K, uB_K, uPart_K, uRng_K, uOrV_K, uAndV_K, uNotV_K, uChain_K, uAug_K, truK_non, truK_bl, truK_int, truK_str, truK_tup, truK_lst, blK_bl, partK_int, rngK_int, tuple_t, tuple_l, len_ref, mul_rk, mul_rd, tuple_r, list_r, list_t, list_l, ix_tup_0, ix_lst_0, ix_tup_1, ix_lst_1, ix_tup_2, ix_lst_2, ix_tup_3, ix_lst_3, ix_tup_4, ix_lst_4, ixt_g, ixl_g, add_ll2, in_ss2, anyI_l2, isn_n, gTup_t, gCons_c, gNil_n, cle, clt, cge, cgt, ceq, cne, exists_eq_left', exists_eq_left, Option.some.injEq, U.int.injEq, U.bl.injEq, U.str.injEq, U.ref.injEq, U.tup.injEq, U.lst.injEq, U.ty.injEq, List.cons.injEq, and_true, true_and, and_self, List.map_cons, List.map_nil, List.length_cons, List.length_nil, List.cons_append, List.nil_append, List.append_nil, List.getElem?_cons_zero, List.getElem?_cons_succ, List.set_cons_zero, List.set_cons_succ, List.replicate, ↓reduceIte, Bool.false_eq_true, Bool.not_true, Bool.not_false, reduceCtorEq, Nat.reduceAdd, Nat.reduceSub, Nat.reduceLeDiff, Nat.reduceEqDiff, decide_true, decide_false, at0, at1, at2, at3, at4, ix0, ix1, ix2, ix3, ix4, updM_same, beq_self_eq_true, Option.bind, Option.map, wipeU, NT.put, puts, MO.lst.injEq, exists_and_left, decide_eq_true_eq, Bool.and_eq_true, Bool.or_eq_true, exists_eq', Nat.zero_le, true_or, or_true, hD8]
        exact fin _ M8 (by omega) (fun x hx => (hP x hx).mono (by decide) (by decide)) hD8 (hS8.le (by omega)) (hB13.trans hB8) r6

/-! ### _law_near_value -/
def sp__law_near_value : USp := fun us M Q _ => ∃ (s c : Addr) (n : Nat), us = [.ref s] ∧ Strm M s c (n + 260) ∧ ∀ y M', Dt 4 22000 y → Strm M' s c n → But s c M M' → Q y M'
theorem near_value_use {M : UHp} {Q : UK} {E : UXK} {s c : Addr} {n : Nat} (hS : Strm M s c (n + 260)) (h : ∀ y M', Dt 4 22000 y → Strm M' s c n → But s c M M' → Q y M') : sp__law_near_value [.ref s] M Q E := ⟨s, c, n, rfl, hS, h⟩
theorem ok__law_near_value (L : Lw K mg) : UFn P w K mg base CX0 9 L.f__law_near_value L.fd__law_near_value ["_law_stream"] (sp__law_near_value) := by
  refine ufn_ok L.D__law_near_value.F sc__law_near_value (fun us M Q E h => ?_) (fun cdv A outer s H E hr hG =>
      (uss_cons (us_set (i := 1) sc__law_near_value.nd rfl (.inl rfl) (ue_call (ok__law_draw L) (hr.mono (by decide)) hG rfl L.D__law_draw.g L.D__law_draw.F.kp L.D__law_draw.b .nil (fun _ => RelUs.nil) (ua_cons (uv 0) (ua_cons ue_int ua_nil))))
      (uss_cons (us_if (ut_cmp (uo_eq (hu6 hr)) (uv 1) ue_int (nomark _)) (uss_one (us_ret (ue_call (ok__law_value L) (hr.mono (by decide)) hG rfl L.D__law_value.g L.D__law_value.F.kp L.D__law_value.b .nil (fun _ => RelUs.nil) (ua_cons (uv 0) ua_nil)))) uss_nil)
      (uss_cons (us_if (ut_cmp (uo_eq (hu6 hr)) (uv 1) ue_int (nomark _)) (uss_one (us_ret (ue_call (ok__law_near_name L) (hr.mono (by decide)) hG rfl L.D__law_near_name.g L.D__law_near_name.F.kp L.D__law_near_name.b .nil (fun _ => RelUs.nil) (ua_cons (uv 0) ua_nil)))) uss_nil)
      (uss_cons (us_if (ut_cmp (uo_eq (hu6 hr)) (uv 1) ue_int (nomark _)) (uss_one (us_ret (ue_call (ok__law_thing L 2) (hr.mono (by decide)) hG rfl L.D__law_thing.g L.D__law_thing.F.kp L.D__law_thing.b .nil (fun _ => RelUs.nil) (ua_cons (uv 0) (ua_cons ue_int ua_nil))))) uss_nil)
      (uss_cons (us_if (ut_cmp (uo_eq (hu6 hr)) (uv 1) ue_int (nomark _)) (uss_one (us_ret (ue_ix (ue_lst false (ua_cons ue_bl (ua_cons ue_bl (ua_cons (ue_op uo_sub (ue_op uo_pow ue_int ue_int) ue_int) (ua_cons (ue_op uo_sub ue_int (ue_op uo_pow ue_int ue_int)) (ua_cons ue_int (ua_cons (ue_un uu_neg ue_int) ua_nil))))))) (ue_call (ok__law_draw L) (hr.mono (by decide)) hG rfl L.D__law_draw.g L.D__law_draw.F.kp L.D__law_draw.b .nil (fun _ => RelUs.nil) (ua_cons (uv 0) (ua_cons ue_int ua_nil)))))) uss_nil)
      (uss_cons (us_set (i := 2) sc__law_near_value.nd rfl (.inl rfl) (ue_lst true (ua_cons ue_str (ua_cons (ue_call (ok__law_near_path L) (hr.mono (by decide)) hG rfl L.D__law_near_path.g L.D__law_near_path.F.kp L.D__law_near_path.b .nil (fun _ => RelUs.nil) (ua_cons (uv 0) ua_nil)) ua_nil))))
      (uss_cons (us_if (ut_cmp (uo_eq (hu6 hr)) (uv 1) ue_int (nomark _)) (uss_one (us_asg (ue_ix (ue_lst false (ua_cons ue_str (ua_cons ue_str (ua_cons ue_str (ua_cons ue_non (ua_cons (ue_tup (ua_cons ue_str ua_nil)) (ua_cons ue_int ua_nil))))))) (ue_call (ok__law_draw L) (hr.mono (by decide)) hG rfl L.D__law_draw.g L.D__law_draw.F.kp L.D__law_draw.b .nil (fun _ => RelUs.nil) (ua_cons (uv 0) (ua_cons ue_int ua_nil)))) (ug_sub ui_set (uv 2) ue_int))) uss_nil)
      (uss_cons (us_if (ut_cmp (uo_eq (hu6 hr)) (uv 1) ue_int (nomark _)) (uss_one (us_expr (ue_bm PySem.F.plainAttrs_list PySem.F.slot_list_append PySem.F.type_list_append um_append (uv 2) (ua_cons (ue_ix (ue_lst false (ua_cons ue_non (ua_cons (ue_tup ua_nil) (ua_cons ue_str ua_nil)))) (ue_call (ok__law_draw L) (hr.mono (by decide)) hG rfl L.D__law_draw.g L.D__law_draw.F.kp L.D__law_draw.b .nil (fun _ => RelUs.nil) (ua_cons (uv 0) (ua_cons ue_int ua_nil)))) ua_nil)))) uss_nil)
      (uss_cons (us_if (ut_cmp (uo_eq (hu6 hr)) (uv 1) ue_int (nomark _)) (uss_one (us_expr (ue_bm PySem.F.plainAttrs_list PySem.F.slot_list_pop PySem.F.type_list_pop um_popAt (uv 2) (ua_cons (ue_call (ok__law_draw L) (hr.mono (by decide)) hG rfl L.D__law_draw.g L.D__law_draw.F.kp L.D__law_draw.b .nil (fun _ => RelUs.nil) (ua_cons (uv 0) (ua_cons ue_int ua_nil))) ua_nil)))) uss_nil)
      (uss_one (us_ret (ue_if (ut_cmp (uo_eq (hu6 hr)) (uv 1) ue_int (nomark _)) (uv 2) (ue_callTy uc_tuple (by rfl) L.n_tuple bt_tuple (ua_cons (uv 2) ua_nil))))))))))))))) (fun us M Q E h => ?_)
  · obtain ⟨s, c, n, rfl, _⟩ := h
    rfl
  · obtain ⟨s, c, n, rfl, hS, q⟩ := h
    have q1 : ∀ y M', Dt 4 22000 y → Strm M' s c n → But s c M M' → ZQ Q y M' := fun y M' h1 h2 h3 => .inl (q y M' h1 h2 h3)
    simp only [uIfS, uOr, uAnd, uNot, uCB, uCons, uNil, uC, uRet, uNext, uOp, uUn, uTup, uLst, uIf, uAsg, uName, uDrop, uCall, uBM, uBM0, uSl, uNoPart, uSub, ustart, uSeq, uRng2, List.append_nil, uYes, add_ii, add_ss, add_tt, add_lr_, add_rl_, sub_ii, mul_ii, mod_ii, div_ii, pow_ii, lt_ii, lt_ss, le_ii, gt_ii, ge_ii, neg_i, int_i, aug_ii, isNon_non, isNon_bl, isNon_int, isNon_str, isNon_tup, isNon_lst, isNon_ref, val_non, val_bl, val_int, val_str, val_tup, val_lst, refV_lst, val_ref, refL_lst, listU_lst, listU_ref, seqU_lst, seqU_tup, seqU_ref, lenU_str, lenU_tup, lenU_lst, lenU_ref, tyM_non, tyM_bl, tyM_int, tyM_str, tyM_tup, tyM_lst, refT_lst, tyM_ref, okN_str, okN_int, okN_bool, okN_tuple, okN_list, okN_dict, sub_NoneType_str, sub_NoneType_int, sub_NoneType_bool, sub_NoneType_tuple, sub_NoneType_list, sub_NoneType_dict, sub_bool_str, sub_bool_int, sub_bool_bool, sub_bool_tuple, sub_bool_list, sub_bool_dict, sub_int_str, sub_int_int, sub_int_bool, sub_int_tuple, sub_int_list, sub_int_dict, sub_str_str, sub_str_int, sub_str_bool, sub_str_tuple, sub_str_list, sub_str_dict, sub_tuple_str, sub_tuple_int, sub_tuple_bool, sub_tuple_tuple, sub_tuple_list, sub_tuple_dict, sub_list_str, sub_list_int, sub_list_bool, sub_list_tuple, sub_list_list, sub_list_dict, sub_dict_str, sub_dict_int, sub_dict_bool, sub_dict_tuple, sub_dict_list, sub_dict_dict, tru_non, tru_bl, tru_int, tru_str, tru_tup, tru_lst, eq_R, ne_R, isD_non, isD_bl, isD_int, isD_str, isD_tup, isD_lst, isDs_nil, isDs_cons, dep_non, dep_bl, dep_int, dep_str, dep_tup, dep_lst, deps_nil, deps_cons, ueq_ii, ueq_ss, ueq_bb, ueq_tt, ueq_ll, ueqs_nn, ueqs_cc, ueqs_cn, ueqs_nc, ix_s, ix_r, set_r, app_r, pop_r, ins_r, join_r, all_1, any_1, repr_1, newL_f, newL_t, sl_s, sl_t, sl_l, sl_r, in_t, in_l, in_r, tyMt_rl, tyMt_rd, tyMt_s, any_t, anyI_t, anyI_s, anyI_r, uVar_0, uVar_1, uVar_2, uVar_3, uVar_4, uVar_5, uVar_6, uVar_7, uVar_8, uVar_9, uVar_10, uVar_11, uVar_12, uVar_13, uVar_14, uVar_15, len_str, len_tup, len_lst, isi_non_str, isi_non_int, isi_non_bool, isi_non_tuple, isi_non_list, isi_non_dict, isi_non_tuple_list, isi_bl_str, isi_bl_int, isi_bl_bool, isi_bl_tuple, isi_bl_list, isi_bl_dict, isi_bl_tuple_list, isi_int_str, isi_int_int, isi_int_bool, isi_int_tuple, isi_int_list, isi_int_dict, isi_int_tuple_list, isi_str_str, isi_str_int, isi_str_bool, isi_str_tuple, isi_str_list, isi_str_dict, isi_str_tuple_list, isi_tup_str, isi_tup_int, isi_tup_bool, isi_tup_tuple, isi_tup_list, isi_tup_dict, isi_tup_tuple_list, isi_lst_str, isi_lst_int, isi_lst_bool, isi_lst_tuple, isi_lst_list, isi_lst_dict, isi_lst_tuple_list, uTru_K, uB_K, uPart_K, uRng_K, uOrV_K, uAndV_K, uNotV_K, uChain_K, uAug_K, truK_non, truK_bl, truK_int, truK_str, truK_tup, truK_lst, blK_bl, partK_int, rngK_int, tuple_t, tuple_l, len_ref, mul_rk, mul_rd, tuple_r, list_r, list_t, list_l, ix_tup_0, ix_lst_0, ix_tup_1, ix_lst_1, ix_tup_2, ix_lst_2, ix_tup_3, ix_lst_3, ix_tup_4, ix_lst_4, ixt_g, ixl_g, add_ll2, in_ss2, anyI_l2, isn_n, gTup_t, gCons_c, gNil_n, cle, clt, cge, cgt, ceq, cne, exists_eq_left', exists_eq_left, Option.some.injEq, U.int.injEq, U.bl.injEq, U.str.injEq, U.ref.injEq, U.tup.injEq, U.lst.injEq, U.ty.injEq, List.cons.injEq, and_true, true_and, and_self, List.map_cons, List.map_nil, List.length_cons, List.length_nil, List.cons_append, List.nil_append, List.append_nil, List.getElem?_cons_zero, List.getElem?_cons_succ, List.set_cons_zero, List.set_cons_succ, List.replicate, ↓reduceIte, Bool.false_eq_true, Bool.not_true, Bool.not_false, reduceCtorEq, Nat.reduceAdd, Nat.reduceSub, Nat.reduceLeDiff, Nat.reduceEqDiff, decide_true, decide_false, at0, at1, at2, at3, at4, ix0, ix1, ix2, ix3, ix4, updM_same, beq_self_eq_true, Option.bind, Option.map, wipeU, NT.put, puts, MO.lst.injEq, exists_and_left, decide_eq_true_eq, Bool.and_eq_true, Bool.or_eq_true, exists_eq', Nat.zero_le, true_or, or_true]
    refine draw_use (n := n + 259) hS (by decide) (by decide) fun r M1 h0 h1 hS1 hB1 => ?_
    simp only [uIfS, uOr, uAnd, uNot, uCB, uCons, uNil, uC, uRet, uNext, uOp, uUn, uTup, uLst, uIf, uAsg, uName, uDrop, uCall, uBM, uBM0, uSl, uNoPart, uSub, ustart, uSeq, uRng2, List.append_nil, uYes, add_ii, add_ss, add_tt, add_lr_, add_rl_, sub_ii, mul_ii, mod_ii, div_ii, pow_ii, lt_ii, lt_ss, le_ii, gt_ii, ge_ii, neg_i, int_i, aug_ii, isNon_non, isNon_bl, isNon_int, isNon_str, isNon_tup, isNon_lst, isNon_ref, val_non, val_bl, val_int, val_str, val_tup, val_lst, refV_lst, val_ref, refL_lst, listU_lst, listU_ref, seqU_lst, seqU_tup, seqU_ref, lenU_str, lenU_tup, lenU_lst, lenU_ref, tyM_non, tyM_bl, tyM_int, tyM_str, tyM_tup, tyM_lst, refT_lst, tyM_ref, okN_str, okN_int, okN_bool, okN_tuple, okN_list, okN_dict, sub_NoneType_str, sub_NoneType_int, sub_NoneType_bool, sub_NoneType_tuple, sub_NoneType_list, sub_NoneType_dict, sub_bool_str, sub_bool_int, sub_bool_bool, sub_bool_tuple, sub_bool_list, sub_bool_dict, sub_int_str, sub_int_int, sub_int_bool, sub_int_tuple, sub_int_list, sub_int_dict, sub_str_str, sub_str_int, sub_str_bool, sub_str_tuple, sub_str_list, sub_str_dict, sub_tuple_str, sub_tuple_int, sub_tuple_bool, sub_tuple_tuple, sub_tuple_list, sub_tuple_dict, sub_list_str, sub_list_int, sub_list_bool, sub_list_tuple, sub_list_list, sub_list_dict, sub_dict_str, sub_dict_int, sub_dict_bool, sub_dict_tuple, sub_dict_list, sub_dict_dict, tru_non, tru_bl, tru_int, tru_str, tru_tup, tru_lst, eq_R, ne_R, isD_non, isD_bl, isD_int, isD_str, isD_tup, isD_lst, isDs_nil, isDs_cons, dep_non, dep_bl, dep_int, dep_str, dep_tup, dep_lst, deps_nil, deps_cons, ueq_ii, ueq_ss, ueq_bb, ueq_tt, ueq_ll, ueqs_nn, ueqs_cc, ueqs_cn, ueqs_nc, ix_s, ix_r, set_r, app_r, pop_r, ins_r, join_r, all_1, any_1, repr_1, newL_f, newL_t, sl_s, sl_t, sl_l, sl_r, in_t, in_l, in_r, tyMt_rl, tyMt_rd, tyMt_s, any_t, anyI_t, anyI_s, anyI_r, uVar_0, uVar_1, uVar_2, uVar_3, uVar_4, uVar_5, uVar_6, uVar_7, uVar_8, uVar_9, uVar_10, uVar_11, uVar_12, uVar_13, uVar_14, uVar_15, len_str, len_tup, len_lst, isi_non_str, isi_non_int, isi_non_bool, isi_non_tuple, isi_non_list, isi_non_dict, isi_non_tuple_list, isi_bl_str, isi_bl_int, isi_bl_bool, isi_bl_tuple, isi_bl_list, isi_bl_dict, isi_bl_tuple_list, isi_int_str, isi_int_int, isi_int_bool, isi_int_tuple, isi_int_list, isi_int_dict, isi_int_tuple_list, isi_str_str, isi_str_int, isi_str_bool, isi_str_tuple, isi_str_list, isi_str_dict, isi_str_tuple_list, isi_tup_str, isi_tup_int, isi_tup_bool, isi_tup_tuple, isi_tup_list, isi_tup_dict, isi_tup_tuple_list, isi_lst_str, isi_lst_int, isi_lst_bool, isi_lst_tuple, isi_lst_list, isi_lst_dict, isi_lst_tuple_list, uTru_K, uB_K, uPart_K, uRng_K, uOrV_K, uAndV_K, uNotV_K, uChain_K, uAug_K, truK_non, truK_bl, truK_int, truK_str, truK_tup, truK_lst, blK_bl, partK_int, rngK_int, tuple_t, tuple_l, len_ref, mul_rk, mul_rd, tuple_r, list_r, list_t, list_l, ix_tup_0, ix_lst_0, ix_tup_1, ix_lst_1, ix_tup_2, ix_lst_2, ix_tup_3, ix_lst_3, ix_tup_4, ix_lst_4, ixt_g, ixl_g, add_ll2, in_ss2, anyI_l2, isn_n, gTup_t, gCons_c, gNil_n, cle, clt, cge, cgt, ceq, cne, exists_eq_left', exists_eq_left, Option.some.injEq, U.int.injEq, U.bl.injEq, U.str.injEq, U.ref.injEq, U.tup.injEq, U.lst.injEq, U.ty.injEq, List.cons.injEq, and_true, true_and, and_self, List.map_cons, List.map_nil, List.length_cons, List.length_nil, List.cons_append, List.nil_append, List.append_nil, List.getElem?_cons_zero, List.getElem?_cons_succ, List.set_cons_zero, List.set_cons_succ, List.replicate, ↓reduceIte, Bool.false_eq_true, Bool.not_true, Bool.not_false, reduceCtorEq, Nat.reduceAdd, Nat.reduceSub, Nat.reduceLeDiff, Nat.reduceEqDiff, decide_true, decide_false, at0, at1, at2, at3, at4, ix0, ix1, ix2, ix3, ix4, updM_same, beq_self_eq_true, Option.bind, Option.map, wipeU, NT.put, puts, MO.lst.injEq, exists_and_left, decide_eq_true_eq, Bool.and_eq_true, Bool.or_eq_true, exists_eq', Nat.zero_le, true_or, or_true]
    refine iteI (fun e0 => ?_) (fun e0 => ?_)
    · exact value_use (n := n) (hS1.le (by omega)) fun y M2 hy hS2 hB2 => q1 y M2 (hy.dt.mono (by decide) (by decide)) hS2 (hB1.trans hB2)
    refine iteI (fun e1 => ?_) (fun e1 => ?_)
    · exact near_name_use (n := n) (hS1.le (by omega)) fun z M2 hz hzo hS2 hB2 => q1 _ M2 ((Dt.str (n := 172) hzo (by omega)).mono (by decide) (by decide)) hS2 (hB1.trans hB2)
    refine iteI (fun e2 => ?_) (fun e2 => ?_)
    · exact thing_use (d := 2) (n := n) (hS1.le (by simp only [tC]; omega)) fun y M2 hy hS2 hB2 => q1 y M2 (hy.mono (by decide) (by decide)) hS2 (hB1.trans hB2)
    refine iteI (fun e3 => ?_) (fun e3 => ?_)
    · refine ⟨⟨by decide, by decide, by decide⟩, ⟨by decide, by decide, by decide⟩, line_le, ?_⟩
      refine draw_use (n := n) (hS1.le (by omega)) (by decide) (by decide) fun r2 M2 h2 h3 hS2 hB2 => ?_
      simp only [uIfS, uOr, uAnd, uNot, uCB, uCons, uNil, uC, uRet, uNext, uOp, uUn, uTup, uLst, uIf, uAsg, uName, uDrop, uCall, uBM, uBM0, uSl, uNoPart, uSub, ustart, uSeq, uRng2, List.append_nil, uYes, add_ii, add_ss, add_tt, add_lr_, add_rl_, sub_ii, mul_ii, mod_ii, div_ii, pow_ii, lt_ii, lt_ss, le_ii, gt_ii, ge_ii, neg_i, int_i, aug_ii, isNon_non, isNon_bl, isNon_int, isNon_str, isNon_tup, isNon_lst, isNon_ref, val_non, val_bl, val_int, val_str, val_tup, val_lst, refV_lst, val_ref, refL_lst, listU_lst, listU_ref, seqU_lst, seqU_tup, seqU_ref, lenU_str, lenU_tup, lenU_lst, lenU_ref, tyM_non, tyM_bl, tyM_int, tyM_str, tyM_tup, tyM_lst, refT_lst, tyM_ref, okN_str, okN_int, okN_bool, okN_tuple, okN_list, okN_dict, sub_NoneType_str, sub_NoneType_int, sub_NoneType_bool, sub_NoneType_tuple, sub_NoneType_list, sub_NoneType_dict, sub_bool_str, sub_bool_int, sub_bool_bool, sub_bool_tuple, sub_bool_list, sub_bool_dict, sub_int_str, sub_int_int, sub_int_bool, sub_int_tuple, sub_int_list, sub_int_dict, sub_str_str, sub_str_int, sub_str_bool, sub_str_tuple, sub_str_list, sub_str_dict, sub_tuple_str, sub_tuple_int, sub_tuple_bool, sub_tuple_tuple, sub_tuple_list, sub_tuple_dict, sub_list_str, sub_list_int, sub_list_bool, sub_list_tuple, sub_list_list, sub_list_dict, sub_dict_str, sub_dict_int, sub_dict_bool, sub_dict_tuple, sub_dict_list, sub_dict_dict, tru_non, tru_bl, tru_int, tru_str, tru_tup, tru_lst, eq_R, ne_R, isD_non, isD_bl, isD_int, isD_str, isD_tup, isD_lst, isDs_nil, isDs_cons, dep_non, dep_bl, dep_int, dep_str, dep_tup, dep_lst, deps_nil, deps_cons, ueq_ii, ueq_ss, ueq_bb, ueq_tt, ueq_ll, ueqs_nn, ueqs_cc, ueqs_cn, ueqs_nc, ix_s, ix_r, set_r, app_r, pop_r, ins_r, join_r, all_1, any_1, repr_1, newL_f, newL_t, sl_s, sl_t, sl_l, sl_r, in_t, in_l, in_r, tyMt_rl, tyMt_rd, tyMt_s, any_t, anyI_t, anyI_s, anyI_r, uVar_0, uVar_1, uVar_2, uVar_3, uVar_4, uVar_5, uVar_6, uVar_7, uVar_8, uVar_9, uVar_10, uVar_11, uVar_12, uVar_13, uVar_14, uVar_15, len_str, len_tup, len_lst, isi_non_str, isi_non_int, isi_non_bool, isi_non_tuple, isi_non_list, isi_non_dict, isi_non_tuple_list, isi_bl_str, isi_bl_int, isi_bl_bool, isi_bl_tuple, isi_bl_list, isi_bl_dict, isi_bl_tuple_list, isi_int_str, isi_int_int, isi_int_bool, isi_int_tuple, isi_int_list, isi_int_dict, isi_int_tuple_list, isi_str_str, isi_str_int, isi_str_bool, isi_str_tuple, isi_str_list, isi_str_dict, isi_str_tuple_list, isi_tup_str, isi_tup_int, isi_tup_bool, isi_tup_tuple, isi_tup_list, isi_tup_dict, isi_tup_tuple_list, isi_lst_str, isi_lst_int, isi_lst_bool, isi_lst_tuple, isi_lst_list, isi_lst_dict, isi_lst_tuple_list, uTru_K, uB_K, uPart_K, uRng_K, uOrV_K, uAndV_K, uNotV_K, uChain_K, uAug_K, truK_non, truK_bl, truK_int, truK_str, truK_tup, truK_lst, blK_bl, partK_int, rngK_int, tuple_t, tuple_l, len_ref, mul_rk, mul_rd, tuple_r, list_r, list_t, list_l, ix_tup_0, ix_lst_0, ix_tup_1, ix_lst_1, ix_tup_2, ix_lst_2, ix_tup_3, ix_lst_3, ix_tup_4, ix_lst_4, ixt_g, ixl_g, add_ll2, in_ss2, anyI_l2, isn_n, gTup_t, gCons_c, gNil_n, cle, clt, cge, cgt, ceq, cne, exists_eq_left', exists_eq_left, Option.some.injEq, U.int.injEq, U.bl.injEq, U.str.injEq, U.ref.injEq, U.tup.injEq, U.lst.injEq, U.ty.injEq, List.cons.injEq, and_true, true_and, and_self, List.map_cons, List.map_nil, List.length_cons, List.length_nil, List.cons_append, List.nil_append, List.append_nil, List.getElem?_cons_zero, List.getElem?_cons_succ, List.set_cons_zero, List.set_cons_succ, List.replicate, ↓reduceIte, Bool.false_eq_true, Bool.not_true, Bool.not_false, reduceCtorEq, Nat.reduceAdd, Nat.reduceSub, Nat.reduceLeDiff, Nat.reduceEqDiff, decide_true, decide_false, at0, at1, at2, at3, at4, ix0, ix1, ix2, ix3, ix4, updM_same, beq_self_eq_true, Option.bind, Option.map, wipeU, NT.put, puts, MO.lst.injEq, exists_and_left, decide_eq_true_eq, Bool.and_eq_true, Bool.or_eq_true, exists_eq', Nat.zero_le, true_or, or_true]
      obtain ⟨v, e, hv⟩ := at_draw (xs := [.bl true, .bl false, .int (10 ^ Int.toNat 30 - 1), .int (1 - 10 ^ Int.toNat 30), .int 0, .int (-1)]) h2 h3
      exact ⟨v, e, q1 v M2 (Dt.ofs (by decide +kernel) v hv) hS2 (hB1.trans hB2)⟩
    refine near_path_use (n := n + 9) (hS1.le (by omega)) fun y M2 hy hS2 hB2 => ?_
    have hB02 := hB1.trans hB2
    refine ⟨line_le, fun D hD => ?_⟩
    obtain ⟨hs, hc⟩ := hS2.sp hD
    have hds : D ≠ s := Ne.symm hs
    have hdc : D ≠ c := Ne.symm hc
    have hM : M D = none := by
      cases z : M D with
      | none => rfl
      | some o => rw [hB02 D hds hdc o z] at hD; cases hD
    have hlk : Dt 3 7200 (.str "link") := Dt.of (by decide +kernel)
    have fin : ∀ (zs : List U) (M' : UHp), zs.length ≤ 3 → (∀ z ∈ zs, Dt 3 7200 z) → M' D = some (.lst zs) → Strm M' s c n → But s c M M' → ZQ Q (.ref D) M' ∧ ZQ Q (.tup zs) M' := by
      intro zs M' hz hd hDM hS' hB
      have hsz : zs.length * (7200 + 2) + 4 ≤ 22000 := by omega
      exact ⟨zq_f hDM (q _ _ (Dt.lst hd hsz) (hS'.del hs hc) (hB.del hM)), .inl (q _ _ (Dt.tup hd hsz) hS' hB)⟩
    have six : ∀ (zs : List U) (M' : UHp), 2 ≤ zs.length → zs.length ≤ 3 → (∀ z ∈ zs, Dt 3 7200 z) → M' D = some (.lst zs) → Strm M' s c (n + 1) → But s c M M' →
        sp__law_draw [.ref s, .int 2] M' (fun x M1 => popR (U.ref D) [x] M1 fun x M1 => if (r == 7) = true then ZQ Q (.ref D) M1 else ∃ ys, refL (M1 D) = some ys ∧ ZQ Q (.tup ys) M1) EU0 := by
      intro zs M' hz2 hz hd hDM hS' hB
      refine draw_use hS' (by decide) (by decide) fun r2 M3 h2 h3 hS3 hB3 => ?_
      have hD3 := hB3 D hds hdc _ hDM
      have hlt : r2.toNat < zs.length := by omega
      refine ⟨zs, r2.toNat, zs[r2.toNat], hD3, by omega, ?_, List.getElem?_eq_getElem hlt, ?_⟩
      · unfold ixN; rw [if_pos h2, if_pos (by omega)]
      have hd' : ∀ z ∈ zs.eraseIdx r2.toNat, Dt 3 7200 z := fun z hz => hd z (List.mem_of_mem_eraseIdx hz)
      have hl' : (zs.eraseIdx r2.toNat).length ≤ 3 := by rw [List.length_eraseIdx]; split <;> omega
      have f := fin _ (updM M3 D (.lst (zs.eraseIdx r2.toNat))) hl' hd' updM_same (hS3.upd hs hc) ((hB.trans hB3).upd hM)
      exact iteI (fun _ => f.1) (fun _ => ⟨_, by rw [updM_same]; rfl, f.2⟩)
    have two : ∀ z ∈ [U.str "link", y], Dt 3 7200 z := fun z hz => by
      simp only [List.mem_cons, List.not_mem_nil, or_false] at hz
      rcases hz with rfl | rfl
      · exact hlk
      · exact hy
    have hS2' := hS2.upd (o := .lst [.str "link", y]) hs hc
    have hB2' := hB02.upd (o := .lst [.str "link", y]) hM
    refine iteI (fun e4 => ?_) (fun e4 => ?_)
    · have r4 : r = 4 := by simpa using e4
      subst r4
      refine ⟨line_le, line_le, draw_use (n := n + 8) hS2' (by decide) (by decide) fun r2 M3 h2 h3 hS3 hB3 => ?_⟩
      simp only [uIfS, uOr, uAnd, uNot, uCB, uCons, uNil, uC, uRet, uNext, uOp, uUn, uTup, uLst, uIf, uAsg, uName, uDrop, uCall, uBM, uBM0, uSl, uNoPart, uSub, ustart, uSeq, uRng2, List.append_nil, uYes, add_ii, add_ss, add_tt, add_lr_, add_rl_, sub_ii, mul_ii, mod_ii, div_ii, pow_ii, lt_ii, lt_ss, le_ii, gt_ii, ge_ii, neg_i, int_i, aug_ii, isNon_non, isNon_bl, isNon_int, isNon_str, isNon_tup, isNon_lst, isNon_ref, val_non, val_bl, val_int, val_str, val_tup, val_lst, refV_lst, val_ref, refL_lst, listU_lst, listU_ref, seqU_lst, seqU_tup, seqU_ref, lenU_str, lenU_tup, lenU_lst, lenU_ref, tyM_non, tyM_bl, tyM_int, tyM_str, tyM_tup, tyM_lst, refT_lst, tyM_ref, okN_str, okN_int, okN_bool, okN_tuple, okN_list, okN_dict, sub_NoneType_str, sub_NoneType_int, sub_NoneType_bool, sub_NoneType_tuple, sub_NoneType_list, sub_NoneType_dict, sub_bool_str, sub_bool_int, sub_bool_bool, sub_bool_tuple, sub_bool_list, sub_bool_dict, sub_int_str, sub_int_int, sub_int_bool, sub_int_tuple, sub_int_list, sub_int_dict, sub_str_str, sub_str_int, sub_str_bool, sub_str_tuple, sub_str_list, sub_str_dict, sub_tuple_str, sub_tuple_int, sub_tuple_bool, sub_tuple_tuple, sub_tuple_list, sub_tuple_dict, sub_list_str, sub_list_int, sub_list_bool, sub_list_tuple, sub_list_list, sub_list_dict, sub_dict_str, sub_dict_int, sub_dict_bool, sub_dict_tuple, sub_dict_list, sub_dict_dict, tru_non, tru_bl, tru_int, tru_str, tru_tup, tru_lst, eq_R, ne_R, isD_non, isD_bl, isD_int, isD_str, isD_tup, isD_lst, isDs_nil, isDs_cons, dep_non, dep_bl, dep_int, dep_str, dep_tup, dep_lst, deps_nil, deps_cons, ueq_ii, ueq_ss, ueq_bb, ueq_tt, ueq_ll, ueqs_nn, ueqs_cc, ueqs_cn, ueqs_nc, ix_s, ix_r, set_r, app_r, pop_r, ins_r, join_r, all_1, any_1, repr_1, newL_f, newL_t, sl_s, sl_t, sl_l, sl_r, in_t, in_l, in_r, tyMt_rl, tyMt_rd, tyMt_s, any_t, anyI_t, anyI_s, anyI_r, uVar_0, uVar_1, uVar_2, uVar_3, uVar_4, uVar_5, uVar_6, uVar_7, uVar_8, uVar_9, uVar_10, uVar_11, uVar_12, uVar_13, uVar_14, uVar_15, len_str, len_tup, len_lst, isi_non_str, isi_non_int, isi_non_bool, isi_non_tuple, isi_non_list, isi_non_dict, isi_non_tuple_list, isi_bl_str, isi_bl_int, isi_bl_bool, isi_bl_tuple, isi_bl_list, isi_bl_dict, isi_bl_tuple_list, isi_int_str, isi_int_int, isi_int_bool, isi_int_tuple, isi_int_list, isi_int_dict, isi_int_tuple_list, isi_str_str, isi_str_int, isi_str_bool, isi_str_tuple, isi_str_list, isi_str_dict, isi_str_tuple_list, isi_tup_str, isi_tup_int, isi_tup_bool, isi_tup_tuple, isi_tup_list, isi_tup_dict, isi_tup_tuple_list, isi_lst_str, isi_lst_int, isi_lst_bool, isi_lst_tuple, isi_lst_list, isi_lst_dict, isi_lst_tuple_list, uTru_K, uB_K, uPart_K, uRng_K, uOrV_K, uAndV_K, uNotV_K, uChain_K, uAug_K, truK_non, truK_bl, truK_int, truK_str, truK_tup, truK_lst, blK_bl, partK_int, rngK_int, tuple_t, tuple_l, len_ref, mul_rk, mul_rd, tuple_r, list_r, list_t, list_l, ix_tup_0, ix_lst_0, ix_tup_1, ix_lst_1, ix_tup_2, ix_lst_2, ix_tup_3, ix_lst_3, ix_tup_4, ix_lst_4, ixt_g, ixl_g, add_ll2, in_ss2, anyI_l2, isn_n, gTup_t, gCons_c, gNil_n, cle, clt, cge, cgt, ceq, cne, exists_eq_left', exists_eq_left, Option.some.injEq, U.int.injEq, U.bl.injEq, U.str.injEq, U.ref.injEq, U.tup.injEq, U.lst.injEq, U.ty.injEq, List.cons.injEq, and_true, true_and, and_self, List.map_cons, List.map_nil, List.length_cons, List.length_nil, List.cons_append, List.nil_append, List.append_nil, List.getElem?_cons_zero, List.getElem?_cons_succ, List.set_cons_zero, List.set_cons_succ, List.replicate, ↓reduceIte, Bool.false_eq_true, Bool.not_true, Bool.not_false, reduceCtorEq, Nat.reduceAdd, Nat.reduceSub, Nat.reduceLeDiff, Nat.reduceEqDiff, decide_true, decide_false, at0, at1, at2, at3, at4, ix0, ix1, ix2, ix3, ix4, updM_same, beq_self_eq_true, Option.bind, Option.map, wipeU, NT.put, puts, MO.lst.injEq, exists_and_left, decide_eq_true_eq, Bool.and_eq_true, Bool.or_eq_true, exists_eq', Nat.zero_le, true_or, or_true]
      obtain ⟨v, e, hv⟩ := at_draw (xs := [.str "Link", .str "links", .str "", .non, .tup [.str "link"], .int 0]) h2 h3
      have hvd : Dt 3 7200 v := Dt.ofs (by decide +kernel) v hv
      have hD3 := hB3 D hds hdc _ updM_same
      refine ⟨_, e, [.str "link", y], hD3, 0, by simp [ixN], ?_⟩
      have t3 : ∀ z ∈ [v, y], Dt 3 7200 z := fun z hz => by
        simp only [List.mem_cons, List.not_mem_nil, or_false] at hz
        rcases hz with rfl | rfl
        · exact hvd
        · exact hy
      have f := fin [v, y] (updM M3 D (.lst [v, y])) (by simp) t3 updM_same ((hS3.le (by omega)).upd hs hc) ((hB2'.trans hB3).upd hM)
      exact iteF (by decide) (iteF (by decide) (iteF (by decide) f.2))
    refine iteI (fun e5 => ?_) (fun e5 => ?_)
    · have r5 : r = 5 := by simpa using e5
      subst r5
      refine ⟨line_le, draw_use (n := n + 8) hS2' (by decide) (by decide) fun r2 M3 h2 h3 hS3 hB3 => ?_⟩
      simp only [uIfS, uOr, uAnd, uNot, uCB, uCons, uNil, uC, uRet, uNext, uOp, uUn, uTup, uLst, uIf, uAsg, uName, uDrop, uCall, uBM, uBM0, uSl, uNoPart, uSub, ustart, uSeq, uRng2, List.append_nil, uYes, add_ii, add_ss, add_tt, add_lr_, add_rl_, sub_ii, mul_ii, mod_ii, div_ii, pow_ii, lt_ii, lt_ss, le_ii, gt_ii, ge_ii, neg_i, int_i, aug_ii, isNon_non, isNon_bl, isNon_int, isNon_str, isNon_tup, isNon_lst, isNon_ref, val_non, val_bl, val_int, val_str, val_tup, val_lst, refV_lst, val_ref, refL_lst, listU_lst, listU_ref, seqU_lst, seqU_tup, seqU_ref, lenU_str, lenU_tup, lenU_lst, lenU_ref, tyM_non, tyM_bl, tyM_int, tyM_str, tyM_tup, tyM_lst, refT_lst, tyM_ref, okN_str, okN_int, okN_bool, okN_tuple, okN_list, okN_dict, sub_NoneType_str, sub_NoneType_int, sub_NoneType_bool, sub_NoneType_tuple, sub_NoneType_list, sub_NoneType_dict, sub_bool_str, sub_bool_int, sub_bool_bool, sub_bool_tuple, sub_bool_list, sub_bool_dict, sub_int_str, sub_int_int, sub_int_bool, sub_int_tuple, sub_int_list, sub_int_dict, sub_str_str, sub_str_int, sub_str_bool, sub_str_tuple, sub_str_list, sub_str_dict, sub_tuple_str, sub_tuple_int, sub_tuple_bool, sub_tuple_tuple, sub_tuple_list, sub_tuple_dict, sub_list_str, sub_list_int, sub_list_bool, sub_list_tuple, sub_list_list, sub_list_dict, sub_dict_str, sub_dict_int, sub_dict_bool, sub_dict_tuple, sub_dict_list, sub_dict_dict, tru_non, tru_bl, tru_int, tru_str, tru_tup, tru_lst, eq_R, ne_R, isD_non, isD_bl, isD_int, isD_str, isD_tup, isD_lst, isDs_nil, isDs_cons, dep_non, dep_bl, dep_int, dep_str, dep_tup, dep_lst, deps_nil, deps_cons, ueq_ii, ueq_ss, ueq_bb, ueq_tt, ueq_ll, ueqs_nn, ueqs_cc, ueqs_cn, ueqs_nc, ix_s, ix_r, set_r, app_r, pop_r, ins_r, join_r, all_1, any_1, repr_1, newL_f, newL_t, sl_s, sl_t, sl_l, sl_r, in_t, in_l, in_r, tyMt_rl, tyMt_rd, tyMt_s, any_t, anyI_t, anyI_s, anyI_r, uVar_0, uVar_1, uVar_2, uVar_3, uVar_4, uVar_5, uVar_6, uVar_7, uVar_8, uVar_9, uVar_10, uVar_11, uVar_12, uVar_13, uVar_14, uVar_15, len_str, len_tup, len_lst, isi_non_str, isi_non_int, isi_non_bool, isi_non_tuple, isi_non_list, isi_non_dict, isi_non_tuple_list, isi_bl_str, isi_bl_int, isi_bl_bool, isi_bl_tuple, isi_bl_list, isi_bl_dict, isi_bl_tuple_list, isi_int_str, isi_int_int, isi_int_bool, isi_int_tuple, isi_int_list, isi_int_dict, isi_int_tuple_list, isi_str_str, isi_str_int, isi_str_bool, isi_str_tuple, isi_str_list, isi_str_dict, isi_str_tuple_list, isi_tup_str, isi_tup_int, isi_tup_bool, isi_tup_tuple, isi_tup_list, isi_tup_dict, isi_tup_tuple_list, isi_lst_str, isi_lst_int, isi_lst_bool, isi_lst_tuple, isi_lst_list, isi_lst_dict, isi_lst_tuple_list, uTru_K, uB_K, uPart_K, uRng_K, uOrV_K, uAndV_K, uNotV_K, uChain_K, uAug_K, truK_non, truK_bl, truK_int, truK_str, truK_tup, truK_lst, blK_bl, partK_int, rngK_int, tuple_t, tuple_l, len_ref, mul_rk, mul_rd, tuple_r, list_r, list_t, list_l, ix_tup_0, ix_lst_0, ix_tup_1, ix_lst_1, ix_tup_2, ix_lst_2, ix_tup_3, ix_lst_3, ix_tup_4, ix_lst_4, ixt_g, ixl_g, add_ll2, in_ss2, anyI_l2, isn_n, gTup_t, gCons_c, gNil_n, cle, clt, cge, cgt, ceq, cne, exists_eq_left', exists_eq_left, Option.some.injEq, U.int.injEq, U.bl.injEq, U.str.injEq, U.ref.injEq, U.tup.injEq, U.lst.injEq, U.ty.injEq, List.cons.injEq, and_true, true_and, and_self, List.map_cons, List.map_nil, List.length_cons, List.length_nil, List.cons_append, List.nil_append, List.append_nil, List.getElem?_cons_zero, List.getElem?_cons_succ, List.set_cons_zero, List.set_cons_succ, List.replicate, ↓reduceIte, Bool.false_eq_true, Bool.not_true, Bool.not_false, reduceCtorEq, Nat.reduceAdd, Nat.reduceSub, Nat.reduceLeDiff, Nat.reduceEqDiff, decide_true, decide_false, at0, at1, at2, at3, at4, ix0, ix1, ix2, ix3, ix4, updM_same, beq_self_eq_true, Option.bind, Option.map, wipeU, NT.put, puts, MO.lst.injEq, exists_and_left, decide_eq_true_eq, Bool.and_eq_true, Bool.or_eq_true, exists_eq', Nat.zero_le, true_or, or_true]
      obtain ⟨v, e, hv⟩ := at_draw (xs := [.non, .tup [], .str "a"]) h2 h3
      have hvd : Dt 3 7200 v := Dt.ofs (by decide +kernel) v hv
      have hD3 := hB3 D hds hdc _ updM_same
      refine ⟨_, e, [.str "link", y], hD3, line_lt (by simp), ?_⟩
      have t3 : ∀ z ∈ [.str "link", y] ++ [v], Dt 3 7200 z := fun z hz => by
        rcases List.mem_append.mp hz with hz | hz
        · exact two z hz
        · rw [List.mem_singleton.mp hz]; exact hvd
      have f := fin _ (updM M3 D (.lst ([.str "link", y] ++ [v]))) (by simp) t3 updM_same ((hS3.le (by omega)).upd hs hc) ((hB2'.trans hB3).upd hM)
      exact iteF (by decide) (iteF (by decide) f.2)
    have f := fin _ (updM M2 D (.lst [.str "link", y])) (by simp) two updM_same (hS2'.le (by omega)) hB2'
    exact iteI (fun e6 => six _ _ (by simp) (by simp) two updM_same (hS2'.le (by omega)) hB2') (fun e6 => iteI (fun _ => f.1) (fun _ => f.2))

/-! ### law -/
def sp_law : USp := fun us M Q _ => ∃ ns : List Int, us = [.lst (ns.map .int)] ∧ ns.length ≤ 63 ∧ ∀ M', Q (.bl true) M'
theorem okR2 (a b : Bool) : okR (.lst [.bl a, .bl b]) := by
  cases a <;> cases b <;> exact (Dt.of (k := 1) (n := 100) (by decide +kernel)).okR (by decide) (by decide)
theorem ok_law (L : Lw K mg) : UFn P w K mg base CX0 10 L.f_law L.fd_law ["_law_script"] (sp_law) := by
  refine ufn_ok L.D_law.F sc_law (fun us M Q E h => ?_) (fun cdv A outer s H E hr hG =>
      (uss_cons (us_set (i := 1) sc_law.nd rfl (.inl rfl) (ue_lst true (ua_cons (ue_callTy (uc_list true) (by rfl) L.n_list bt_list (ua_cons (uv 0) ua_nil)) (ua_cons ue_int (ua_cons ue_int (ua_cons ue_int ua_nil))))))
      (uss_cons (us_for PassesOwn.never rfl (ui_range1 (by rfl) L.n_range (ua_cons ue_int ua_nil)) (ug_name (i := 2) sc_law.nd rfl (.inl rfl)) (uss_cons (us_set (i := 4) sc_law.nd rfl (.inr rfl) (ue_call (ok__law_near_value L) (hr.mono (by decide)) hG rfl L.D__law_near_value.g L.D__law_near_value.F.kp L.D__law_near_value.b .nil (fun _ => RelUs.nil) (ua_cons (uv 1) ua_nil)))
      (uss_cons (us_set (i := 5) sc_law.nd rfl (.inl rfl) (ue_callB (uc_repr hG (hu2 hr)) (by rfl) L.n_repr bt_repr (ua_cons (uv 4) ua_nil)))
      (uss_cons (us_setLc (i := 6) (own := [("_law_again", 7)]) (n := (.one 7)) false rfl sc_law.nd rfl rfl (sw_true rfl rfl rfl (by decide +kernel)) (ui_range1 (by rfl) L.n_range (ua_cons ue_int ua_nil)) (blkOk_by (own := [("_law_again", 7)]) (N := ["_law_script", "_law_stream", "_law_turn", "_law_some", "_law_thing_here", "_law_kept", "_law_found", "_law_again"]) (sc := defScope s_law) (by decide +kernel)) (by decide) (fun _ _ _ _ _ => (pg_nt sc_law.nd rfl (.inl rfl))) (fun _ _ _ _ _ => uts_nil) (fun _ _ _ _ _ => (ue_call (ok_is_value L) (hr.mono (by decide)) hG rfl L.D_is_value.g L.D_is_value.F.kp L.D_is_value.b .nil (fun _ => RelUs.nil) (ua_cons (uv 4) ua_nil))))
      (uss_one (us_if (PW.pt (uw_or (ut_not (ut_val (ue_call (ok__law_same L) (hr.mono (by decide)) hG rfl L.D__law_same.g L.D__law_same.F.kp L.D__law_same.b .nil (fun _ => RelUs.nil) (ua_cons (uv 6) (ua_cons (ue_op (uo_mul false true) (ue_lst true (ua_cons (ue_call (ok__law_is_value L) (hr.mono (by decide)) hG rfl L.D__law_is_value.g L.D__law_is_value.F.kp L.D__law_is_value.b .nil (fun _ => RelUs.nil) (ua_cons (uv 4) ua_nil)) ua_nil)) ue_int) ua_nil))))) (uw_or1 (ut_cmp (uo_ne (hu6 hr)) (ue_callB (uc_repr hG (hu2 hr)) (by rfl) L.n_repr bt_repr (ua_cons (uv 4) ua_nil)) (uv 5) (nomark _))))) (uss_one (us_ret ue_bl)) uss_nil))))))
      (uss_cons (us_set (i := 3) sc_law.nd rfl (.inl rfl) (ue_lst false (ua_cons ue_int (ua_cons (ue_un uu_neg ue_int) (ua_cons ue_str (ua_cons (ue_tup (ua_cons ue_str (ua_cons (ue_tup ua_nil) ua_nil))) (ua_cons ue_bl (ua_cons ue_bl (ua_cons ue_str (ua_cons (ue_lst false (ua_cons ue_str (ua_cons (ue_tup ua_nil) ua_nil))) (ua_cons (ue_tup (ua_cons ue_str (ua_cons (ue_lst false ua_nil) ua_nil))) (ua_cons (ue_tup (ua_cons ue_str ua_nil)) (ua_cons (ue_tup (ua_cons ue_str (ua_cons ue_str ua_nil))) (ua_cons ue_non ua_nil))))))))))))))
      (uss_one (us_ret (ue_cmp (uo_eq (hu6 hr)) (ue_lc (own := [("_law_thing_here", 4)]) (n := (.one 4)) false rfl sc_law.nd (ui_any (uv 3)) (blkOk_by (own := [("_law_thing_here", 4)]) (N := ["_law_script", "_law_stream", "_law_turn", "_law_some", "_law_thing_here", "_law_kept", "_law_found", "_law_again"]) (sc := defScope s_law) (by decide +kernel)) (by decide) (fun _ _ _ _ _ => (pg_nt sc_law.nd rfl (.inl rfl))) (fun _ _ _ _ _ => uts_nil) (fun _ _ _ _ _ => (ue_call (ok_is_value L) (hr.mono (by decide)) hG rfl L.D_is_value.g L.D_is_value.F.kp L.D_is_value.b .nil (fun _ => RelUs.nil) (ua_cons (uv 4) ua_nil)))) (ue_op (uo_add false) (ue_op (uo_mul false true) (ue_lst true (ua_cons ue_bl ua_nil)) ue_int) (ue_op (uo_mul false true) (ue_lst true (ua_cons ue_bl ua_nil)) ue_int)) (nomark _)))))))) (fun us M Q E h => ?_)
  · obtain ⟨ns, rfl, _⟩ := h
    rfl
  · obtain ⟨ns, rfl, hn, q⟩ := h
    have q : ∀ M', ZQ Q (.bl true) M' := fun M' => .inl (q M')
    simp only [uIfS, uOr, uAnd, uNot, uCB, uCons, uNil, uC, uRet, uNext, uOp, uUn, uTup, uLst, uIf, uAsg, uName, uDrop, uCall, uBM, uBM0, uSl, uNoPart, uSub, ustart, uSeq, uRng2, List.append_nil, uYes, add_ii, add_ss, add_tt, add_lr_, add_rl_, sub_ii, mul_ii, mod_ii, div_ii, pow_ii, lt_ii, lt_ss, le_ii, gt_ii, ge_ii, neg_i, int_i, aug_ii, isNon_non, isNon_bl, isNon_int, isNon_str, isNon_tup, isNon_lst, isNon_ref, val_non, val_bl, val_int, val_str, val_tup, val_lst, refV_lst, val_ref, refL_lst, listU_lst, listU_ref, seqU_lst, seqU_tup, seqU_ref, lenU_str, lenU_tup, lenU_lst, lenU_ref, tyM_non, tyM_bl, tyM_int, tyM_str, tyM_tup, tyM_lst, refT_lst, tyM_ref, okN_str, okN_int, okN_bool, okN_tuple, okN_list, okN_dict, sub_NoneType_str, sub_NoneType_int, sub_NoneType_bool, sub_NoneType_tuple, sub_NoneType_list, sub_NoneType_dict, sub_bool_str, sub_bool_int, sub_bool_bool, sub_bool_tuple, sub_bool_list, sub_bool_dict, sub_int_str, sub_int_int, sub_int_bool, sub_int_tuple, sub_int_list, sub_int_dict, sub_str_str, sub_str_int, sub_str_bool, sub_str_tuple, sub_str_list, sub_str_dict, sub_tuple_str, sub_tuple_int, sub_tuple_bool, sub_tuple_tuple, sub_tuple_list, sub_tuple_dict, sub_list_str, sub_list_int, sub_list_bool, sub_list_tuple, sub_list_list, sub_list_dict, sub_dict_str, sub_dict_int, sub_dict_bool, sub_dict_tuple, sub_dict_list, sub_dict_dict, tru_non, tru_bl, tru_int, tru_str, tru_tup, tru_lst, eq_R, ne_R, isD_non, isD_bl, isD_int, isD_str, isD_tup, isD_lst, isDs_nil, isDs_cons, dep_non, dep_bl, dep_int, dep_str, dep_tup, dep_lst, deps_nil, deps_cons, ueq_ii, ueq_ss, ueq_bb, ueq_tt, ueq_ll, ueqs_nn, ueqs_cc, ueqs_cn, ueqs_nc, ix_s, ix_r, set_r, app_r, pop_r, ins_r, join_r, all_1, any_1, repr_1, newL_f, newL_t, sl_s, sl_t, sl_l, sl_r, in_t, in_l, in_r, tyMt_rl, tyMt_rd, tyMt_s, any_t, anyI_t, anyI_s, anyI_r, uVar_0, uVar_1, uVar_2, uVar_3, uVar_4, uVar_5, uVar_6, uVar_7, uVar_8, uVar_9, uVar_10, uVar_11, uVar_12, uVar_13, uVar_14, uVar_15, len_str, len_tup, len_lst, isi_non_str, isi_non_int, isi_non_bool, isi_non_tuple, isi_non_list, isi_non_dict, isi_non_tuple_list, isi_bl_str, isi_bl_int, isi_bl_bool, isi_bl_tuple, isi_bl_list, isi_bl_dict, isi_bl_tuple_list, isi_int_str, isi_int_int, isi_int_bool, isi_int_tuple, isi_int_list, isi_int_dict, isi_int_tuple_list, isi_str_str, isi_str_int, isi_str_bool, isi_str_tuple, isi_str_list, isi_str_dict, isi_str_tuple_list, isi_tup_str, isi_tup_int, isi_tup_bool, isi_tup_tuple, isi_tup_list, isi_tup_dict, isi_tup_tuple_list, isi_lst_str, isi_lst_int, isi_lst_bool, isi_lst_tuple, isi_lst_list, isi_lst_dict, isi_lst_tuple_list, uTru_K, uB_K, uPart_K, uRng_K, uOrV_K, uAndV_K, uNotV_K, uChain_K, uAug_K, truK_non, truK_bl, truK_int, truK_str, truK_tup, truK_lst, blK_bl, partK_int, rngK_int, tuple_t, tuple_l, len_ref, mul_rk, mul_rd, tuple_r, list_r, list_t, list_l, ix_tup_0, ix_lst_0, ix_tup_1, ix_lst_1, ix_tup_2, ix_lst_2, ix_tup_3, ix_lst_3, ix_tup_4, ix_lst_4, ixt_g, ixl_g, add_ll2, in_ss2, anyI_l2, isn_n, gTup_t, gCons_c, gNil_n, cle, clt, cge, cgt, ceq, cne, exists_eq_left', exists_eq_left, Option.some.injEq, U.int.injEq, U.bl.injEq, U.str.injEq, U.ref.injEq, U.tup.injEq, U.lst.injEq, U.ty.injEq, List.cons.injEq, and_true, true_and, and_self, List.map_cons, List.map_nil, List.length_cons, List.length_nil, List.cons_append, List.nil_append, List.append_nil, List.getElem?_cons_zero, List.getElem?_cons_succ, List.set_cons_zero, List.set_cons_succ, List.replicate, ↓reduceIte, Bool.false_eq_true, Bool.not_true, Bool.not_false, reduceCtorEq, Nat.reduceAdd, Nat.reduceSub, Nat.reduceLeDiff, Nat.reduceEqDiff, decide_true, decide_false, at0, at1, at2, at3, at4, ix0, ix1, ix2, ix3, ix4, updM_same, beq_self_eq_true, Option.bind, Option.map, wipeU, NT.put, puts, MO.lst.injEq, exists_and_left, decide_eq_true_eq, Bool.and_eq_true, Bool.or_eq_true, exists_eq', Nat.zero_le, true_or, or_true]
    refine fun c hc => ⟨line_le, fun s hs => ?_⟩
    have hsc : s ≠ c := fun e => by rw [e, updM_same] at hs; cases hs
    simp only [uFor, uRng1, uIfS, uOr, uAnd, uNot, uCB, uCons, uNil, uC, uRet, uNext, uOp, uUn, uTup, uLst, uIf, uAsg, uName, uDrop, uCall, uBM, uBM0, uSl, uNoPart, uSub, ustart, uSeq, uRng2, List.append_nil, uYes, add_ii, add_ss, add_tt, add_lr_, add_rl_, sub_ii, mul_ii, mod_ii, div_ii, pow_ii, lt_ii, lt_ss, le_ii, gt_ii, ge_ii, neg_i, int_i, aug_ii, isNon_non, isNon_bl, isNon_int, isNon_str, isNon_tup, isNon_lst, isNon_ref, val_non, val_bl, val_int, val_str, val_tup, val_lst, refV_lst, val_ref, refL_lst, listU_lst, listU_ref, seqU_lst, seqU_tup, seqU_ref, lenU_str, lenU_tup, lenU_lst, lenU_ref, tyM_non, tyM_bl, tyM_int, tyM_str, tyM_tup, tyM_lst, refT_lst, tyM_ref, okN_str, okN_int, okN_bool, okN_tuple, okN_list, okN_dict, sub_NoneType_str, sub_NoneType_int, sub_NoneType_bool, sub_NoneType_tuple, sub_NoneType_list, sub_NoneType_dict, sub_bool_str, sub_bool_int, sub_bool_bool, sub_bool_tuple, sub_bool_list, sub_bool_dict, sub_int_str, sub_int_int, sub_int_bool, sub_int_tuple, sub_int_list, sub_int_dict, sub_str_str, sub_str_int, sub_str_bool, sub_str_tuple, sub_str_list, sub_str_dict, sub_tuple_str, sub_tuple_int, sub_tuple_bool, sub_tuple_tuple, sub_tuple_list, sub_tuple_dict, sub_list_str, sub_list_int, sub_list_bool, sub_list_tuple, sub_list_list, sub_list_dict, sub_dict_str, sub_dict_int, sub_dict_bool, sub_dict_tuple, sub_dict_list, sub_dict_dict, tru_non, tru_bl, tru_int, tru_str, tru_tup, tru_lst, eq_R, ne_R, isD_non, isD_bl, isD_int, isD_str, isD_tup, isD_lst, isDs_nil, isDs_cons, dep_non, dep_bl, dep_int, dep_str, dep_tup, dep_lst, deps_nil, deps_cons, ueq_ii, ueq_ss, ueq_bb, ueq_tt, ueq_ll, ueqs_nn, ueqs_cc, ueqs_cn, ueqs_nc, ix_s, ix_r, set_r, app_r, pop_r, ins_r, join_r, all_1, any_1, repr_1, newL_f, newL_t, sl_s, sl_t, sl_l, sl_r, in_t, in_l, in_r, tyMt_rl, tyMt_rd, tyMt_s, any_t, anyI_t, anyI_s, anyI_r, uVar_0, uVar_1, uVar_2, uVar_3, uVar_4, uVar_5, uVar_6, uVar_7, uVar_8, uVar_9, uVar_10, uVar_11, uVar_12, uVar_13, uVar_14, uVar_15, len_str, len_tup, len_lst, isi_non_str, isi_non_int, isi_non_bool, isi_non_tuple, isi_non_list, isi_non_dict, isi_non_tuple_list, isi_bl_str, isi_bl_int, isi_bl_bool, isi_bl_tuple, isi_bl_list, isi_bl_dict, isi_bl_tuple_list, isi_int_str, isi_int_int, isi_int_bool, isi_int_tuple, isi_int_list, isi_int_dict, isi_int_tuple_list, isi_str_str, isi_str_int, isi_str_bool, isi_str_tuple, isi_str_list, isi_str_dict, isi_str_tuple_list, isi_tup_str, isi_tup_int, isi_tup_bool, isi_tup_tuple, isi_tup_list, isi_tup_dict, isi_tup_tuple_list, isi_lst_str, isi_lst_int, isi_lst_bool, isi_lst_tuple, isi_lst_list, isi_lst_dict, isi_lst_tuple_list, uTru_K, uB_K, uPart_K, uRng_K, uOrV_K, uAndV_K, uNotV_K, uChain_K, uAug_K, truK_non, truK_bl, truK_int, truK_str, truK_tup, truK_lst, blK_bl, partK_int, rngK_int, tuple_t, tuple_l, len_ref, mul_rk, mul_rd, tuple_r, list_r, list_t, list_l, ix_tup_0, ix_lst_0, ix_tup_1, ix_lst_1, ix_tup_2, ix_lst_2, ix_tup_3, ix_lst_3, ix_tup_4, ix_lst_4, ixt_g, ixl_g, add_ll2, in_ss2, anyI_l2, isn_n, gTup_t, gCons_c, gNil_n, cle, clt, cge, cgt, ceq, cne, exists_eq_left', exists_eq_left, Option.some.injEq, U.int.injEq, U.bl.injEq, U.str.injEq, U.ref.injEq, U.tup.injEq, U.lst.injEq, U.ty.injEq, List.cons.injEq, and_true, true_and, and_self, List.map_cons, List.map_nil, List.length_cons, List.length_nil, List.cons_append, List.nil_append, List.append_nil, List.getElem?_cons_zero, List.getElem?_cons_succ, List.set_cons_zero, List.set_cons_succ, List.replicate, ↓reduceIte, Bool.false_eq_true, Bool.not_true, Bool.not_false, reduceCtorEq, Nat.reduceAdd, Nat.reduceSub, Nat.reduceLeDiff, Nat.reduceEqDiff, decide_true, decide_false, at0, at1, at2, at3, at4, ix0, ix1, ix2, ix3, ix4, updM_same, beq_self_eq_true, Option.bind, Option.map, wipeU, NT.put, puts, MO.lst.injEq, exists_and_left, decide_eq_true_eq, Bool.and_eq_true, Bool.or_eq_true, exists_eq', Nat.zero_le, true_or, or_true]
    refine ⟨by decide, by decide, line_le, ?_⟩
    refine for_inv (fun i σ M => ∃ a2 a4 a5 a6, σ = [some (U.lst (List.map U.int ns)), some (U.ref s), a2, none, a4, a5, a6, none] ∧ Strm M s c (260 * (30 - i))) _ (fun _ _ _ _ => True.intro) ?_ ?_ ⟨_, _, _, _, rfl, ?_⟩
    · rintro i x σ M N hx ⟨a2, a4, a5, a6, rfl, hS⟩ hN
      rw [show 260 * (30 - i) = 260 * (30 - (i + 1)) + 260 by have := (List.getElem?_eq_some_iff.mp hx).1; rw [range_len] at this; omega] at hS
      simp only [uIfS, uOr, uAnd, uNot, uCB, uCons, uNil, uC, uRet, uNext, uOp, uUn, uTup, uLst, uIf, uAsg, uName, uDrop, uCall, uBM, uBM0, uSl, uNoPart, uSub, ustart, uSeq, uRng2, List.append_nil, uYes, add_ii, add_ss, add_tt, add_lr_, add_rl_, sub_ii, mul_ii, mod_ii, div_ii, pow_ii, lt_ii, lt_ss, le_ii, gt_ii, ge_ii, neg_i, int_i, aug_ii, isNon_non, isNon_bl, isNon_int, isNon_str, isNon_tup, isNon_lst, isNon_ref, val_non, val_bl, val_int, val_str, val_tup, val_lst, refV_lst, val_ref, refL_lst, listU_lst, listU_ref, seqU_lst, seqU_tup, seqU_ref, lenU_str, lenU_tup, lenU_lst, lenU_ref, tyM_non, tyM_bl, tyM_int, tyM_str, tyM_tup, tyM_lst, refT_lst, tyM_ref, okN_str, okN_int, okN_bool, okN_tuple, okN_list, okN_dict, sub_NoneType_str, sub_NoneType_int, sub_NoneType_bool, sub_NoneType_tuple, sub_NoneType_list, sub_NoneType_dict, sub_bool_str, sub_bool_int, sub_bool_bool, sub_bool_tuple, sub_bool_list, sub_bool_dict, sub_int_str, sub_int_int, sub_int_bool, sub_int_tuple, sub_int_list, sub_int_dict, sub_str_str, sub_str_int, sub_str_bool, sub_str_tuple, sub_str_list, sub_str_dict, sub_tuple_str, sub_tuple_int, sub_tuple_bool, sub_tuple_tuple, sub_tuple_list, sub_tuple_dict, sub_list_str, sub_list_int, sub_list_bool, sub_list_tuple, sub_list_list, sub_list_dict, sub_dict_str, sub_dict_int, sub_dict_bool, sub_dict_tuple, sub_dict_list, sub_dict_dict, tru_non, tru_bl, tru_int, tru_str, tru_tup, tru_lst, eq_R, ne_R, isD_non, isD_bl, isD_int, isD_str, isD_tup, isD_lst, isDs_nil, isDs_cons, dep_non, dep_bl, dep_int, dep_str, dep_tup, dep_lst, deps_nil, deps_cons, ueq_ii, ueq_ss, ueq_bb, ueq_tt, ueq_ll, ueqs_nn, ueqs_cc, ueqs_cn, ueqs_nc, ix_s, ix_r, set_r, app_r, pop_r, ins_r, join_r, all_1, any_1, repr_1, newL_f, newL_t, sl_s, sl_t, sl_l, sl_r, in_t, in_l, in_r, tyMt_rl, tyMt_rd, tyMt_s, any_t, anyI_t, anyI_s, anyI_r, uVar_0, uVar_1, uVar_2, uVar_3, uVar_4, uVar_5, uVar_6, uVar_7, uVar_8, uVar_9, uVar_10, uVar_11, uVar_12, uVar_13, uVar_14, uVar_15, len_str, len_tup, len_lst, isi_non_str, isi_non_int, isi_non_bool, isi_non_tuple, isi_non_list, isi_non_dict, isi_non_tuple_list, isi_bl_str, isi_bl_int, isi_bl_bool, isi_bl_tuple, isi_bl_list, isi_bl_dict, isi_bl_tuple_list, isi_int_str, isi_int_int, isi_int_bool, isi_int_tuple, isi_int_list, isi_int_dict, isi_int_tuple_list, isi_str_str, isi_str_int, isi_str_bool, isi_str_tuple, isi_str_list, isi_str_dict, isi_str_tuple_list, isi_tup_str, isi_tup_int, isi_tup_bool, isi_tup_tuple, isi_tup_list, isi_tup_dict, isi_tup_tuple_list, isi_lst_str, isi_lst_int, isi_lst_bool, isi_lst_tuple, isi_lst_list, isi_lst_dict, isi_lst_tuple_list, uTru_K, uB_K, uPart_K, uRng_K, uOrV_K, uAndV_K, uNotV_K, uChain_K, uAug_K, truK_non, truK_bl, truK_int, truK_str, truK_tup, truK_lst, blK_bl, partK_int, rngK_int, tuple_t, tuple_l, len_ref, mul_rk, mul_rd, tuple_r, list_r, list_t, list_l, ix_tup_0, ix_lst_0, ix_tup_1, ix_lst_1, ix_tup_2, ix_lst_2, ix_tup_3, ix_lst_3, ix_tup_4, ix_lst_4, ixt_g, ixl_g, add_ll2, in_ss2, anyI_l2, isn_n, gTup_t, gCons_c, gNil_n, cle, clt, cge, cgt, ceq, cne, exists_eq_left', exists_eq_left, Option.some.injEq, U.int.injEq, U.bl.injEq, U.str.injEq, U.ref.injEq, U.tup.injEq, U.lst.injEq, U.ty.injEq, List.cons.injEq, and_true, true_and, and_self, List.map_cons, List.map_nil, List.length_cons, List.length_nil, List.cons_append, List.nil_append, List.append_nil, List.getElem?_cons_zero, List.getElem?_cons_succ, List.set_cons_zero, List.set_cons_succ, List.replicate, ↓reduceIte, Bool.false_eq_true, Bool.not_true, Bool.not_false, reduceCtorEq, Nat.reduceAdd, Nat.reduceSub, Nat.reduceLeDiff, Nat.reduceEqDiff, decide_true, decide_false, at0, at1, at2, at3, at4, ix0, ix1, ix2, ix3, ix4, updM_same, beq_self_eq_true, Option.bind, Option.map, wipeU, NT.put, puts, MO.lst.injEq, exists_and_left, decide_eq_true_eq, Bool.and_eq_true, Bool.or_eq_true, exists_eq', Nat.zero_le, true_or, or_true]
      refine near_value_use hS fun y M1 hy hS1 hB1 => ?_
      have oy : okR y := hy.okR (by decide) (by decide)
      simp only [uLc, uRng1, uIfS, uOr, uAnd, uNot, uCB, uCons, uNil, uC, uRet, uNext, uOp, uUn, uTup, uLst, uIf, uAsg, uName, uDrop, uCall, uBM, uBM0, uSl, uNoPart, uSub, ustart, uSeq, uRng2, List.append_nil, uYes, add_ii, add_ss, add_tt, add_lr_, add_rl_, sub_ii, mul_ii, mod_ii, div_ii, pow_ii, lt_ii, lt_ss, le_ii, gt_ii, ge_ii, neg_i, int_i, aug_ii, isNon_non, isNon_bl, isNon_int, isNon_str, isNon_tup, isNon_lst, isNon_ref, val_non, val_bl, val_int, val_str, val_tup, val_lst, refV_lst, val_ref, refL_lst, listU_lst, listU_ref, seqU_lst, seqU_tup, seqU_ref, lenU_str, lenU_tup, lenU_lst, lenU_ref, tyM_non, tyM_bl, tyM_int, tyM_str, tyM_tup, tyM_lst, refT_lst, tyM_ref, okN_str, okN_int, okN_bool, okN_tuple, okN_list, okN_dict, sub_NoneType_str, sub_NoneType_int, sub_NoneType_bool, sub_NoneType_tuple, sub_NoneType_list, sub_NoneType_dict, sub_bool_str, sub_bool_int, sub_bool_bool, sub_bool_tuple, sub_bool_list, sub_bool_dict, sub_int_str, sub_int_int, sub_int_bool, sub_int_tuple, sub_int_list, sub_int_dict, sub_str_str, sub_str_int, sub_str_bool, sub_str_tuple, sub_str_list, sub_str_dict, sub_tuple_str, sub_tuple_int, sub_tuple_bool, sub_tuple_tuple, sub_tuple_list, sub_tuple_dict, sub_list_str, sub_list_int, sub_list_bool, sub_list_tuple, sub_list_list, sub_list_dict, sub_dict_str, sub_dict_int, sub_dict_bool, sub_dict_tuple, sub_dict_list, sub_dict_dict, tru_non, tru_bl, tru_int, tru_str, tru_tup, tru_lst, eq_R, ne_R, isD_non, isD_bl, isD_int, isD_str, isD_tup, isD_lst, isDs_nil, isDs_cons, dep_non, dep_bl, dep_int, dep_str, dep_tup, dep_lst, deps_nil, deps_cons, ueq_ii, ueq_ss, ueq_bb, ueq_tt, ueq_ll, ueqs_nn, ueqs_cc, ueqs_cn, ueqs_nc, ix_s, ix_r, set_r, app_r, pop_r, ins_r, join_r, all_1, any_1, repr_1, newL_f, newL_t, sl_s, sl_t, sl_l, sl_r, in_t, in_l, in_r, tyMt_rl, tyMt_rd, tyMt_s, any_t, anyI_t, anyI_s, anyI_r, uVar_0, uVar_1, uVar_2, uVar_3, uVar_4, uVar_5, uVar_6, uVar_7, uVar_8, uVar_9, uVar_10, uVar_11, uVar_12, uVar_13, uVar_14, uVar_15, len_str, len_tup, len_lst, isi_non_str, isi_non_int, isi_non_bool, isi_non_tuple, isi_non_list, isi_non_dict, isi_non_tuple_list, isi_bl_str, isi_bl_int, isi_bl_bool, isi_bl_tuple, isi_bl_list, isi_bl_dict, isi_bl_tuple_list, isi_int_str, isi_int_int, isi_int_bool, isi_int_tuple, isi_int_list, isi_int_dict, isi_int_tuple_list, isi_str_str, isi_str_int, isi_str_bool, isi_str_tuple, isi_str_list, isi_str_dict, isi_str_tuple_list, isi_tup_str, isi_tup_int, isi_tup_bool, isi_tup_tuple, isi_tup_list, isi_tup_dict, isi_tup_tuple_list, isi_lst_str, isi_lst_int, isi_lst_bool, isi_lst_tuple, isi_lst_list, isi_lst_dict, isi_lst_tuple_list, uTru_K, uB_K, uPart_K, uRng_K, uOrV_K, uAndV_K, uNotV_K, uChain_K, uAug_K, truK_non, truK_bl, truK_int, truK_str, truK_tup, truK_lst, blK_bl, partK_int, rngK_int, tuple_t, tuple_l, len_ref, mul_rk, mul_rd, tuple_r, list_r, list_t, list_l, ix_tup_0, ix_lst_0, ix_tup_1, ix_lst_1, ix_tup_2, ix_lst_2, ix_tup_3, ix_lst_3, ix_tup_4, ix_lst_4, ixt_g, ixl_g, add_ll2, in_ss2, anyI_l2, isn_n, gTup_t, gCons_c, gNil_n, cle, clt, cge, cgt, ceq, cne, exists_eq_left', exists_eq_left, Option.some.injEq, U.int.injEq, U.bl.injEq, U.str.injEq, U.ref.injEq, U.tup.injEq, U.lst.injEq, U.ty.injEq, List.cons.injEq, and_true, true_and, and_self, List.map_cons, List.map_nil, List.length_cons, List.length_nil, List.cons_append, List.nil_append, List.append_nil, List.getElem?_cons_zero, List.getElem?_cons_succ, List.set_cons_zero, List.set_cons_succ, List.replicate, ↓reduceIte, Bool.false_eq_true, Bool.not_true, Bool.not_false, reduceCtorEq, Nat.reduceAdd, Nat.reduceSub, Nat.reduceLeDiff, Nat.reduceEqDiff, decide_true, decide_false, at0, at1, at2, at3, at4, ix0, ix1, ix2, ix3, ix4, updM_same, beq_self_eq_true, Option.bind, Option.map, wipeU, NT.put, puts, MO.lst.injEq, exists_and_left, decide_eq_true_eq, Bool.and_eq_true, Bool.or_eq_true, exists_eq', Nat.zero_le, true_or, or_true, rep_ok oy, val_isD hy.d]
      refine ⟨oy, by decide, by decide, line_le, ?_⟩
      refine lc_map (fun _ => .bl (isValueU y)) (fun _ _ _ => True.intro) (fun D acc hD x hx => ⟨_, rfl, fun Q q => ?_⟩) ?_
      · simp only [uIfS, uOr, uAnd, uNot, uCB, uCons, uNil, uC, uRet, uNext, uOp, uUn, uTup, uLst, uIf, uAsg, uName, uDrop, uCall, uBM, uBM0, uSl, uNoPart, uSub, ustart, uSeq, uRng2, List.append_nil, uYes, add_ii, add_ss, add_tt, add_lr_, add_rl_, sub_ii, mul_ii, mod_ii, div_ii, pow_ii, lt_ii, lt_ss, le_ii, gt_ii, ge_ii, neg_i, int_i, aug_ii, isNon_non, isNon_bl, isNon_int, isNon_str, isNon_tup, isNon_lst, isNon_ref, val_non, val_bl, val_int, val_str, val_tup, val_lst, refV_lst, val_ref, refL_lst, listU_lst, listU_ref, seqU_lst, seqU_tup, seqU_ref, lenU_str, lenU_tup, lenU_lst, lenU_ref, tyM_non, tyM_bl, tyM_int, tyM_str, tyM_tup, tyM_lst, refT_lst, tyM_ref, okN_str, okN_int, okN_bool, okN_tuple, okN_list, okN_dict, sub_NoneType_str, sub_NoneType_int, sub_NoneType_bool, sub_NoneType_tuple, sub_NoneType_list, sub_NoneType_dict, sub_bool_str, sub_bool_int, sub_bool_bool, sub_bool_tuple, sub_bool_list, sub_bool_dict, sub_int_str, sub_int_int, sub_int_bool, sub_int_tuple, sub_int_list, sub_int_dict, sub_str_str, sub_str_int, sub_str_bool, sub_str_tuple, sub_str_list, sub_str_dict, sub_tuple_str, sub_tuple_int, sub_tuple_bool, sub_tuple_tuple, sub_tuple_list, sub_tuple_dict, sub_list_str, sub_list_int, sub_list_bool, sub_list_tuple, sub_list_list, sub_list_dict, sub_dict_str, sub_dict_int, sub_dict_bool, sub_dict_tuple, sub_dict_list, sub_dict_dict, tru_non, tru_bl, tru_int, tru_str, tru_tup, tru_lst, eq_R, ne_R, isD_non, isD_bl, isD_int, isD_str, isD_tup, isD_lst, isDs_nil, isDs_cons, dep_non, dep_bl, dep_int, dep_str, dep_tup, dep_lst, deps_nil, deps_cons, ueq_ii, ueq_ss, ueq_bb, ueq_tt, ueq_ll, ueqs_nn, ueqs_cc, ueqs_cn, ueqs_nc, ix_s, ix_r, set_r, app_r, pop_r, ins_r, join_r, all_1, any_1, repr_1, newL_f, newL_t, sl_s, sl_t, sl_l, sl_r, in_t, in_l, in_r, tyMt_rl, tyMt_rd, tyMt_s, any_t, anyI_t, anyI_s, anyI_r, uVar_0, uVar_1, uVar_2, uVar_3, uVar_4, uVar_5, uVar_6, uVar_7, uVar_8, uVar_9, uVar_10, uVar_11, uVar_12, uVar_13, uVar_14, uVar_15, len_str, len_tup, len_lst, isi_non_str, isi_non_int, isi_non_bool, isi_non_tuple, isi_non_list, isi_non_dict, isi_non_tuple_list, isi_bl_str, isi_bl_int, isi_bl_bool, isi_bl_tuple, isi_bl_list, isi_bl_dict, isi_bl_tuple_list, isi_int_str, isi_int_int, isi_int_bool, isi_int_tuple, isi_int_list, isi_int_dict, isi_int_tuple_list, isi_str_str, isi_str_int, isi_str_bool, isi_str_tuple, isi_str_list, isi_str_dict, isi_str_tuple_list, isi_tup_str, isi_tup_int, isi_tup_bool, isi_tup_tuple, isi_tup_list, isi_tup_dict, isi_tup_tuple_list, isi_lst_str, isi_lst_int, isi_lst_bool, isi_lst_tuple, isi_lst_list, isi_lst_dict, isi_lst_tuple_list, uTru_K, uB_K, uPart_K, uRng_K, uOrV_K, uAndV_K, uNotV_K, uChain_K, uAug_K, truK_non, truK_bl, truK_int, truK_str, truK_tup, truK_lst, blK_bl, partK_int, rngK_int, tuple_t, tuple_l, len_ref, mul_rk, mul_rd, tuple_r, list_r, list_t, list_l, ix_tup_0, ix_lst_0, ix_tup_1, ix_lst_1, ix_tup_2, ix_lst_2, ix_tup_3, ix_lst_3, ix_tup_4, ix_lst_4, ixt_g, ixl_g, add_ll2, in_ss2, anyI_l2, isn_n, gTup_t, gCons_c, gNil_n, cle, clt, cge, cgt, ceq, cne, exists_eq_left', exists_eq_left, Option.some.injEq, U.int.injEq, U.bl.injEq, U.str.injEq, U.ref.injEq, U.tup.injEq, U.lst.injEq, U.ty.injEq, List.cons.injEq, and_true, true_and, and_self, List.map_cons, List.map_nil, List.length_cons, List.length_nil, List.cons_append, List.nil_append, List.append_nil, List.getElem?_cons_zero, List.getElem?_cons_succ, List.set_cons_zero, List.set_cons_succ, List.replicate, ↓reduceIte, Bool.false_eq_true, Bool.not_true, Bool.not_false, reduceCtorEq, Nat.reduceAdd, Nat.reduceSub, Nat.reduceLeDiff, Nat.reduceEqDiff, decide_true, decide_false, at0, at1, at2, at3, at4, ix0, ix1, ix2, ix3, ix4, updM_same, beq_self_eq_true, Option.bind, Option.map, wipeU, NT.put, puts, MO.lst.injEq, exists_and_left, decide_eq_true_eq, Bool.and_eq_true, Bool.or_eq_true, exists_eq', Nat.zero_le, true_or, or_true, sp_is_value]
        exact ⟨hy.d, q⟩
      have e2 : (rangeU 0 (Int.toNat 2)).map (fun _ => U.bl (isValueU y)) = [.bl (isValueU y), .bl (isValueU y)] := rfl
      rw [e2]
      simp only [uIfS, uOr, uAnd, uNot, uCB, uCons, uNil, uC, uRet, uNext, uOp, uUn, uTup, uLst, uIf, uAsg, uName, uDrop, uCall, uBM, uBM0, uSl, uNoPart, uSub, ustart, uSeq, uRng2, List.append_nil, uYes, add_ii, add_ss, add_tt, add_lr_, add_rl_, sub_ii, mul_ii, mod_ii, div_ii, pow_ii, lt_ii, lt_ss, le_ii, gt_ii, ge_ii, neg_i, int_i, aug_ii, isNon_non, isNon_bl, isNon_int, isNon_str, isNon_tup, isNon_lst, isNon_ref, val_non, val_bl, val_int, val_str, val_tup, val_lst, refV_lst, val_ref, refL_lst, listU_lst, listU_ref, seqU_lst, seqU_tup, seqU_ref, lenU_str, lenU_tup, lenU_lst, lenU_ref, tyM_non, tyM_bl, tyM_int, tyM_str, tyM_tup, tyM_lst, refT_lst, tyM_ref, okN_str, okN_int, okN_bool, okN_tuple, okN_list, okN_dict, sub_NoneType_str, sub_NoneType_int, sub_NoneType_bool, sub_NoneType_tuple, sub_NoneType_list, sub_NoneType_dict, sub_bool_str, sub_bool_int, sub_bool_bool, sub_bool_tuple, sub_bool_list, sub_bool_dict, sub_int_str, sub_int_int, sub_int_bool, sub_int_tuple, sub_int_list, sub_int_dict, sub_str_str, sub_str_int, sub_str_bool, sub_str_tuple, sub_str_list, sub_str_dict, sub_tuple_str, sub_tuple_int, sub_tuple_bool, sub_tuple_tuple, sub_tuple_list, sub_tuple_dict, sub_list_str, sub_list_int, sub_list_bool, sub_list_tuple, sub_list_list, sub_list_dict, sub_dict_str, sub_dict_int, sub_dict_bool, sub_dict_tuple, sub_dict_list, sub_dict_dict, tru_non, tru_bl, tru_int, tru_str, tru_tup, tru_lst, eq_R, ne_R, isD_non, isD_bl, isD_int, isD_str, isD_tup, isD_lst, isDs_nil, isDs_cons, dep_non, dep_bl, dep_int, dep_str, dep_tup, dep_lst, deps_nil, deps_cons, ueq_ii, ueq_ss, ueq_bb, ueq_tt, ueq_ll, ueqs_nn, ueqs_cc, ueqs_cn, ueqs_nc, ix_s, ix_r, set_r, app_r, pop_r, ins_r, join_r, all_1, any_1, repr_1, newL_f, newL_t, sl_s, sl_t, sl_l, sl_r, in_t, in_l, in_r, tyMt_rl, tyMt_rd, tyMt_s, any_t, anyI_t, anyI_s, anyI_r, uVar_0, uVar_1, uVar_2, uVar_3, uVar_4, uVar_5, uVar_6, uVar_7, uVar_8, uVar_9, uVar_10, uVar_11, uVar_12, uVar_13, uVar_14, uVar_15, len_str, len_tup, len_lst, isi_non_str, isi_non_int, isi_non_bool, isi_non_tuple, isi_non_list, isi_non_dict, isi_non_tuple_list, isi_bl_str, isi_bl_int, isi_bl_bool, isi_bl_tuple, isi_bl_list, isi_bl_dict, isi_bl_tuple_list, isi_int_str, isi_int_int, isi_int_bool, isi_int_tuple, isi_int_list, isi_int_dict, isi_int_tuple_list, isi_str_str, isi_str_int, isi_str_bool, isi_str_tuple, isi_str_list, isi_str_dict, isi_str_tuple_list, isi_tup_str, isi_tup_int, isi_tup_bool, isi_tup_tuple, isi_tup_list, isi_tup_dict, isi_tup_tuple_list, isi_lst_str, isi_lst_int, isi_lst_bool, isi_lst_tuple, isi_lst_list, isi_lst_dict, isi_lst_tuple_list, uTru_K, uB_K, uPart_K, uRng_K, uOrV_K, uAndV_K, uNotV_K, uChain_K, uAug_K, truK_non, truK_bl, truK_int, truK_str, truK_tup, truK_lst, blK_bl, partK_int, rngK_int, tuple_t, tuple_l, len_ref, mul_rk, mul_rd, tuple_r, list_r, list_t, list_l, ix_tup_0, ix_lst_0, ix_tup_1, ix_lst_1, ix_tup_2, ix_lst_2, ix_tup_3, ix_lst_3, ix_tup_4, ix_lst_4, ixt_g, ixl_g, add_ll2, in_ss2, anyI_l2, isn_n, gTup_t, gCons_c, gNil_n, cle, clt, cge, cgt, ceq, cne, exists_eq_left', exists_eq_left, Option.some.injEq, U.int.injEq, U.bl.injEq, U.str.injEq, U.ref.injEq, U.tup.injEq, U.lst.injEq, U.ty.injEq, List.cons.injEq, and_true, true_and, and_self, List.map_cons, List.map_nil, List.length_cons, List.length_nil, List.cons_append, List.nil_append, List.append_nil, List.getElem?_cons_zero, List.getElem?_cons_succ, List.set_cons_zero, List.set_cons_succ, List.replicate, ↓reduceIte, Bool.false_eq_true, Bool.not_true, Bool.not_false, reduceCtorEq, Nat.reduceAdd, Nat.reduceSub, Nat.reduceLeDiff, Nat.reduceEqDiff, decide_true, decide_false, at0, at1, at2, at3, at4, ix0, ix1, ix2, ix3, ix4, updM_same, beq_self_eq_true, Option.bind, Option.map, wipeU, NT.put, puts, MO.lst.injEq, exists_and_left, decide_eq_true_eq, Bool.and_eq_true, Bool.or_eq_true, exists_eq', Nat.zero_le, true_or, or_true, sp__law_is_value, sp__law_same]
      refine ⟨oy, line_le, fun p hp => ⟨by decide, by decide, line_le, _, _, ⟨rfl, rfl⟩, okR2 _ _, okR2 _ _, ?_⟩⟩
      rw [delM_upd hp]
      have e3 : (!rep (U.lst [.bl (isValueU y), .bl (isValueU y)]) == rep (.lst (List.replicate (Int.toNat 2) [U.bl (isValueU y)]).flatten)) = false := by
        show (!(rep (U.lst [.bl (isValueU y), .bl (isValueU y)]) == rep (U.lst [.bl (isValueU y), .bl (isValueU y)]))) = false
        rw [beq_self_eq_true]; rfl
      exact iteF (by rw [e3]; decide) ⟨oy, hN _ _ ⟨_, _, _, _, rfl, hS1⟩⟩
    · rintro σ M ⟨a2, a4, a5, a6, rfl, hS⟩
      simp only [uLc, uIfS, uOr, uAnd, uNot, uCB, uCons, uNil, uC, uRet, uNext, uOp, uUn, uTup, uLst, uIf, uAsg, uName, uDrop, uCall, uBM, uBM0, uSl, uNoPart, uSub, ustart, uSeq, uRng2, List.append_nil, uYes, add_ii, add_ss, add_tt, add_lr_, add_rl_, sub_ii, mul_ii, mod_ii, div_ii, pow_ii, lt_ii, lt_ss, le_ii, gt_ii, ge_ii, neg_i, int_i, aug_ii, isNon_non, isNon_bl, isNon_int, isNon_str, isNon_tup, isNon_lst, isNon_ref, val_non, val_bl, val_int, val_str, val_tup, val_lst, refV_lst, val_ref, refL_lst, listU_lst, listU_ref, seqU_lst, seqU_tup, seqU_ref, lenU_str, lenU_tup, lenU_lst, lenU_ref, tyM_non, tyM_bl, tyM_int, tyM_str, tyM_tup, tyM_lst, refT_lst, tyM_ref, okN_str, okN_int, okN_bool, okN_tuple, okN_list, okN_dict, sub_NoneType_str, sub_NoneType_int, sub_NoneType_bool, sub_NoneType_tuple, sub_NoneType_list, sub_NoneType_dict, sub_bool_str, sub_bool_int, sub_bool_bool, sub_bool_tuple, sub_bool_list, sub_bool_dict, sub_int_str, sub_int_int, sub_int_bool, sub_int_tuple, sub_int_list, sub_int_dict, sub_str_str, sub_str_int, sub_str_bool, sub_str_tuple, sub_str_list, sub_str_dict, sub_tuple_str, sub_tuple_int, sub_tuple_bool, sub_tuple_tuple, sub_tuple_list, sub_tuple_dict, sub_list_str, sub_list_int, sub_list_bool, sub_list_tuple, sub_list_list, sub_list_dict, sub_dict_str, sub_dict_int, sub_dict_bool, sub_dict_tuple, sub_dict_list, sub_dict_dict, tru_non, tru_bl, tru_int, tru_str, tru_tup, tru_lst, eq_R, ne_R, isD_non, isD_bl, isD_int, isD_str, isD_tup, isD_lst, isDs_nil, isDs_cons, dep_non, dep_bl, dep_int, dep_str, dep_tup, dep_lst, deps_nil, deps_cons, ueq_ii, ueq_ss, ueq_bb, ueq_tt, ueq_ll, ueqs_nn, ueqs_cc, ueqs_cn, ueqs_nc, ix_s, ix_r, set_r, app_r, pop_r, ins_r, join_r, all_1, any_1, repr_1, newL_f, newL_t, sl_s, sl_t, sl_l, sl_r, in_t, in_l, in_r, tyMt_rl, tyMt_rd, tyMt_s, any_t, anyI_t, anyI_s, anyI_r, uVar_0, uVar_1, uVar_2, uVar_3, uVar_4, uVar_5, uVar_6, uVar_7, uVar_8, uVar_9, uVar_10, uVar_11, uVar_12, uVar_13, uVar_14, uVar_15, len_str, len_tup, len_lst, isi_non_str, isi_non_int, isi_non_bool, isi_non_tuple, isi_non_list, isi_non_dict, isi_non_tuple_list, isi_bl_str, isi_bl_int, isi_bl_bool, isi_bl_tuple, isi_bl_list, isi_bl_dict, isi_bl_tuple_list, isi_int_str, isi_int_int, isi_int_bool, isi_int_tuple, isi_int_list, isi_int_dict, isi_int_tuple_list, isi_str_str, isi_str_int, isi_str_bool, isi_str_tuple, isi_str_list, isi_str_dict, isi_str_tuple_list, isi_tup_str, isi_tup_int, isi_tup_bool, isi_tup_tuple, isi_tup_list, isi_tup_dict, isi_tup_tuple_list, isi_lst_str, isi_lst_int, isi_lst_bool, isi_lst_tuple, isi_lst_list, isi_lst_dict, isi_lst_tuple_list, uTru_K, uB_K, uPart_K, uRng_K, uOrV_K, uAndV_K, uNotV_K, uChain_K, uAug_K, truK_non, truK_bl, truK_int, truK_str, truK_tup, truK_lst, blK_bl, partK_int, rngK_int, tuple_t, tuple_l, len_ref, mul_rk, mul_rd, tuple_r, list_r, list_t, list_l, ix_tup_0, ix_lst_0, ix_tup_1, ix_lst_1, ix_tup_2, ix_lst_2, ix_tup_3, ix_lst_3, ix_tup_4, ix_lst_4, ixt_g, ixl_g, add_ll2, in_ss2, anyI_l2, isn_n, gTup_t, gCons_c, gNil_n, cle, clt, cge, cgt, ceq, cne, exists_eq_left', exists_eq_left, Option.some.injEq, U.int.injEq, U.bl.injEq, U.str.injEq, U.ref.injEq, U.tup.injEq, U.lst.injEq, U.ty.injEq, List.cons.injEq, and_true, true_and, and_self, List.map_cons, List.map_nil, List.length_cons, List.length_nil, List.cons_append, List.nil_append, List.append_nil, List.getElem?_cons_zero, List.getElem?_cons_succ, List.set_cons_zero, List.set_cons_succ, List.replicate, ↓reduceIte, Bool.false_eq_true, Bool.not_true, Bool.not_false, reduceCtorEq, Nat.reduceAdd, Nat.reduceSub, Nat.reduceLeDiff, Nat.reduceEqDiff, decide_true, decide_false, at0, at1, at2, at3, at4, ix0, ix1, ix2, ix3, ix4, updM_same, beq_self_eq_true, Option.bind, Option.map, wipeU, NT.put, puts, MO.lst.injEq, exists_and_left, decide_eq_true_eq, Bool.and_eq_true, Bool.or_eq_true, exists_eq', Nat.zero_le, true_or, or_true]
      refine ⟨line_le, line_le, line_le, line_le, line_le, line_le, ?_⟩
      have hd : ∀ x ∈ [U.int 0, .int (-5), .str "on", .tup [.str "link", .tup []], .bl true, .bl false, .str "On", .lst [.str "link", .tup []], .tup [.str "link", .lst []], .tup [.str "link"], .tup [.str "link", .str "a"], .non], Dt 4 1000 x := Dt.ofs (by decide +kernel)
      refine lc_map (fun x => .bl (isValueU x)) (fun _ _ _ => True.intro) (fun D acc hD x hx => ⟨_, rfl, fun Q q => ?_⟩) ?_
      · simp only [uIfS, uOr, uAnd, uNot, uCB, uCons, uNil, uC, uRet, uNext, uOp, uUn, uTup, uLst, uIf, uAsg, uName, uDrop, uCall, uBM, uBM0, uSl, uNoPart, uSub, ustart, uSeq, uRng2, List.append_nil, uYes, add_ii, add_ss, add_tt, add_lr_, add_rl_, sub_ii, mul_ii, mod_ii, div_ii, pow_ii, lt_ii, lt_ss, le_ii, gt_ii, ge_ii, neg_i, int_i, aug_ii, isNon_non, isNon_bl, isNon_int, isNon_str, isNon_tup, isNon_lst, isNon_ref, val_non, val_bl, val_int, val_str, val_tup, val_lst, refV_lst, val_ref, refL_lst, listU_lst, listU_ref, seqU_lst, seqU_tup, seqU_ref, lenU_str, lenU_tup, lenU_lst, lenU_ref, tyM_non, tyM_bl, tyM_int, tyM_str, tyM_tup, tyM_lst, refT_lst, tyM_ref, okN_str, okN_int, okN_bool, okN_tuple, okN_list, okN_dict, sub_NoneType_str, sub_NoneType_int, sub_NoneType_bool, sub_NoneType_tuple, sub_NoneType_list, sub_NoneType_dict, sub_bool_str, sub_bool_int, sub_bool_bool, sub_bool_tuple, sub_bool_list, sub_bool_dict, sub_int_str, sub_int_int, sub_int_bool, sub_int_tuple, sub_int_list, sub_int_dict, sub_str_str, sub_str_int, sub_str_bool, sub_str_tuple, sub_str_list, sub_str_dict, sub_tuple_str, sub_tuple_int, sub_tuple_bool, sub_tuple_tuple, sub_tuple_list, sub_tuple_dict, sub_list_str, sub_list_int, sub_list_bool, sub_list_tuple, sub_list_list, sub_list_dict, sub_dict_str, sub_dict_int, sub_dict_bool, sub_dict_tuple, sub_dict_list, sub_dict_dict, tru_non, tru_bl, tru_int, tru_str, tru_tup, tru_lst, eq_R, ne_R, isD_non, isD_bl, isD_int, isD_str, isD_tup, isD_lst, isDs_nil, isDs_cons, dep_non, dep_bl, dep_int, dep_str, dep_tup, dep_lst, deps_nil, deps_cons, ueq_ii, ueq_ss, ueq_bb, ueq_tt, ueq_ll, ueqs_nn, ueqs_cc, ueqs_cn, ueqs_nc, ix_s, ix_r, set_r, app_r, pop_r, ins_r, join_r, all_1, any_1, repr_1, newL_f, newL_t, sl_s, sl_t, sl_l, sl_r, in_t, in_l, in_r, tyMt_rl, tyMt_rd, tyMt_s, any_t, anyI_t, anyI_s, anyI_r, uVar_0, uVar_1, uVar_2, uVar_3, uVar_4, uVar_5, uVar_6, uVar_7, uVar_8, uVar_9, uVar_10, uVar_11, uVar_12, uVar_13, uVar_14, uVar_15, len_str, len_tup, len_lst, isi_non_str, isi_non_int, isi_non_bool, isi_non_tuple, isi_non_list, isi_non_dict, isi_non_tuple_list, isi_bl_str, isi_bl_int, isi_bl_bool, isi_bl_tuple, isi_bl_list, isi_bl_dict, isi_bl_tuple_list, isi_int_str, isi_int_int, isi_int_bool, isi_int_tuple, isi_int_list, isi_int_dict, isi_int_tuple_list, isi_str_str, isi_str_int, isi_str_bool, isi_str_tuple, isi_str_list, isi_str_dict, isi_str_tuple_list, isi_tup_str, isi_tup_int, isi_tup_bool, isi_tup_tuple, isi_tup_list, isi_tup_dict, isi_tup_tuple_list, isi_lst_str, isi_lst_int, isi_lst_bool, isi_lst_tuple, isi_lst_list, isi_lst_dict, isi_lst_tuple_list, uTru_K, uB_K, uPart_K, uRng_K, uOrV_K, uAndV_K, uNotV_K, uChain_K, uAug_K, truK_non, truK_bl, truK_int, truK_str, truK_tup, truK_lst, blK_bl, partK_int, rngK_int, tuple_t, tuple_l, len_ref, mul_rk, mul_rd, tuple_r, list_r, list_t, list_l, ix_tup_0, ix_lst_0, ix_tup_1, ix_lst_1, ix_tup_2, ix_lst_2, ix_tup_3, ix_lst_3, ix_tup_4, ix_lst_4, ixt_g, ixl_g, add_ll2, in_ss2, anyI_l2, isn_n, gTup_t, gCons_c, gNil_n, cle, clt, cge, cgt, ceq, cne, exists_eq_left', exists_eq_left, Option.some.injEq, U.int.injEq, U.bl.injEq, U.str.injEq, U.ref.injEq, U.tup.injEq, U.lst.injEq, U.ty.injEq, List.cons.injEq, and_true, true_and, and_self, List.map_cons, List.map_nil, List.length_cons, List.length_nil, List.cons_append, List.nil_append, List.append_nil, List.getElem?_cons_zero, List.getElem?_cons_succ, List.set_cons_zero, List.set_cons_succ, List.replicate, ↓reduceIte, Bool.false_eq_true, Bool.not_true, Bool.not_false, reduceCtorEq, Nat.reduceAdd, Nat.reduceSub, Nat.reduceLeDiff, Nat.reduceEqDiff, decide_true, decide_false, at0, at1, at2, at3, at4, ix0, ix1, ix2, ix3, ix4, updM_same, beq_self_eq_true, Option.bind, Option.map, wipeU, NT.put, puts, MO.lst.injEq, exists_and_left, decide_eq_true_eq, Bool.and_eq_true, Bool.or_eq_true, exists_eq', Nat.zero_le, true_or, or_true, sp_is_value]
        exact ⟨(hd x hx).d, q⟩
      have e : [U.int 0, .int (-5), .str "on", .tup [.str "link", .tup []], .bl true, .bl false, .str "On", .lst [.str "link", .tup []], .tup [.str "link", .lst []], .tup [.str "link"], .tup [.str "link", .str "a"], .non].map (fun x => U.bl (isValueU x)) =
          (List.replicate (Int.toNat 4) [U.bl true]).flatten ++ (List.replicate (Int.toNat 8) [U.bl false]).flatten := by
        simp only [List.map_cons, List.map_nil]
        rw [show isValueU (U.int 0) = true by decide +kernel, show isValueU (U.int (-5)) = true by decide +kernel, show isValueU (.str "on") = true by decide +kernel, show isValueU (.tup [.str "link", .tup []]) = true by decide +kernel,
          show isValueU (.bl true) = false by decide +kernel, show isValueU (.bl false) = false by decide +kernel, show isValueU (.str "On") = false by decide +kernel, show isValueU (.lst [.str "link", .tup []]) = false by decide +kernel, show isValueU (.tup [.str "link", .lst []]) = false by decide +kernel,
          show isValueU (.tup [.str "link"]) = false by decide +kernel, show isValueU (.tup [.str "link", .str "a"]) = false by decide +kernel, show isValueU .non = false by decide +kernel]
        rfl
      rw [e]
      refine ⟨line_le, fun p hp => ⟨by decide, by decide, line_le, line_le, fun p2 hp2 => ⟨by decide, by decide, line_le, line_le, ?_, ?_, ?_, ?_⟩⟩⟩
      · show isD (U.lst ((List.replicate (Int.toNat 4) [U.bl true]).flatten ++ (List.replicate (Int.toNat 8) [U.bl false]).flatten)) = true
        decide +kernel
      · decide +kernel
      · exact .inr (by decide +kernel)
      · have e3 : ueq (U.lst ((List.replicate (Int.toNat 4) [U.bl true]).flatten ++ (List.replicate (Int.toNat 8) [U.bl false]).flatten)) (.lst ((List.replicate (Int.toNat 4) [U.bl true]).flatten ++ (List.replicate (Int.toNat 8) [U.bl false]).flatten)) = true := by decide +kernel
        have e4 : ∀ M, val M (U.lst ((List.replicate (Int.toNat 4) [U.bl true]).flatten ++ (List.replicate (Int.toNat 8) [U.bl false]).flatten)) = .lst ((List.replicate (Int.toNat 4) [U.bl true]).flatten ++ (List.replicate (Int.toNat 8) [U.bl false]).flatten) := fun _ => rfl
        rw [e4, e3]
        exact q _
    · exact ⟨hsc, ns, 0, 0, 0, updM_same, by rw [updM_ne (Ne.symm hsc), updM_same], by decide, by simp, by decide, by decide, hn⟩

end
theorem all_mk {l : PySem.W.OpenLaw} {w : World} {K : PySem.W.Frag} {h : Heap} {mg : Str → Option Value} {fa f0 f1 f2 f3 f4 f5 f6 f7 f8 f9 f10 f11 f12 f13 f14 f15 f16 f17 : Addr} (X : K.In h) (G : h.Ns mainGlobals mg) (hfa : mg "law" = some (.ref fa))
  {od0 an0 od1 an1 od2 an2 od3 an3 od4 an4 od5 an5 od6 an6 od7 an7 od8 an8 od9 an9 od10 an10 od11 an11 od12 an12 od13 an13 od14 an14 od15 an15 od16 an16 od17 an17 : Option Addr} {sl0 sl1 sl2 sl3 sl4 sl5 sl6 sl7 sl8 sl9 sl10 sl11 sl12 sl13 sl14 sl15 sl16 sl17 : Array (Option Value)} {oc0 kV0 dc0 pm0 cd0 ct0 oc1 kV1 dc1 pm1 cd1 ct1 oc2 kV2 dc2 pm2 cd2 ct2 oc3 kV3 dc3 pm3 cd3 ct3 oc4 kV4 dc4 pm4 cd4 ct4 oc5 kV5 dc5 pm5 cd5 ct5 oc6 kV6 dc6 pm6 cd6 ct6 oc7 kV7 dc7 pm7 cd7 ct7 oc8 kV8 dc8 pm8 cd8 ct8 oc9 kV9 dc9 pm9 cd9 ct9 oc10 kV10 dc10 pm10 cd10 ct10 oc11 kV11 dc11 pm11 cd11 ct11 oc12 kV12 dc12 pm12 cd12 ct12 oc13 kV13 dc13 pm13 cd13 ct13 oc14 kV14 dc14 pm14 cd14 ct14 oc15 kV15 dc15 pm15 cd15 ct15 oc16 kV16 dc16 pm16 cd16 ct16 oc17 kV17 dc17 pm17 cd17 ct17 : Value} {t_LETTERS t_MOST : Tok}
  (a0 : PySem.W.nsIn K mainGlobals "is_name" = some (some (.ref f0))) (l0 : K.lookup f0 = some ⟨oc0, od0, .func (PySem.W.fnOf "is_name" "is_name" (defArgs s_is_name) (defBody s_is_name) (defScope s_is_name) .none kV0 dc0 pm0 an0 cd0 ct0), sl0⟩) (c0 : PySem.W.codeIn K cd0 "is_name" = true) (k0 : PySem.W.keepIn K (.ref f0) = true)
  (a1 : PySem.W.nsIn K mainGlobals "is_integer" = some (some (.ref f1))) (l1 : K.lookup f1 = some ⟨oc1, od1, .func (PySem.W.fnOf "is_integer" "is_integer" (defArgs s_is_integer) (defBody s_is_integer) (defScope s_is_integer) .none kV1 dc1 pm1 an1 cd1 ct1), sl1⟩) (c1 : PySem.W.codeIn K cd1 "is_integer" = true) (k1 : PySem.W.keepIn K (.ref f1) = true)
  (a2 : PySem.W.nsIn K mainGlobals "is_path" = some (some (.ref f2))) (l2 : K.lookup f2 = some ⟨oc2, od2, .func (PySem.W.fnOf "is_path" "is_path" (defArgs s_is_path) (defBody s_is_path) (defScope s_is_path) .none kV2 dc2 pm2 an2 cd2 ct2), sl2⟩) (c2 : PySem.W.codeIn K cd2 "is_path" = true) (k2 : PySem.W.keepIn K (.ref f2) = true)
  (a3 : PySem.W.nsIn K mainGlobals "is_link" = some (some (.ref f3))) (l3 : K.lookup f3 = some ⟨oc3, od3, .func (PySem.W.fnOf "is_link" "is_link" (defArgs s_is_link) (defBody s_is_link) (defScope s_is_link) .none kV3 dc3 pm3 an3 cd3 ct3), sl3⟩) (c3 : PySem.W.codeIn K cd3 "is_link" = true) (k3 : PySem.W.keepIn K (.ref f3) = true)
  (a4 : PySem.W.nsIn K mainGlobals "is_value" = some (some (.ref f4))) (l4 : K.lookup f4 = some ⟨oc4, od4, .func (PySem.W.fnOf "is_value" "is_value" (defArgs s_is_value) (defBody s_is_value) (defScope s_is_value) .none kV4 dc4 pm4 an4 cd4 ct4), sl4⟩) (c4 : PySem.W.codeIn K cd4 "is_value" = true) (k4 : PySem.W.keepIn K (.ref f4) = true)
  (a5 : PySem.W.nsIn K mainGlobals "_law_draw" = some (some (.ref f5))) (l5 : K.lookup f5 = some ⟨oc5, od5, .func (PySem.W.fnOf "_law_draw" "_law_draw" (defArgs s__law_draw) (defBody s__law_draw) (defScope s__law_draw) .none kV5 dc5 pm5 an5 cd5 ct5), sl5⟩) (c5 : PySem.W.codeIn K cd5 "_law_draw" = true) (k5 : PySem.W.keepIn K (.ref f5) = true)
  (a6 : PySem.W.nsIn K mainGlobals "_law_same" = some (some (.ref f6))) (l6 : K.lookup f6 = some ⟨oc6, od6, .func (PySem.W.fnOf "_law_same" "_law_same" (defArgs s__law_same) (defBody s__law_same) (defScope s__law_same) .none kV6 dc6 pm6 an6 cd6 ct6), sl6⟩) (c6 : PySem.W.codeIn K cd6 "_law_same" = true) (k6 : PySem.W.keepIn K (.ref f6) = true)
  (a7 : PySem.W.nsIn K mainGlobals "_law_path" = some (some (.ref f7))) (l7 : K.lookup f7 = some ⟨oc7, od7, .func (PySem.W.fnOf "_law_path" "_law_path" (defArgs s__law_path) (defBody s__law_path) (defScope s__law_path) .none kV7 dc7 pm7 an7 cd7 ct7), sl7⟩) (c7 : PySem.W.codeIn K cd7 "_law_path" = true) (k7 : PySem.W.keepIn K (.ref f7) = true)
  (a8 : PySem.W.nsIn K mainGlobals "_law_value" = some (some (.ref f8))) (l8 : K.lookup f8 = some ⟨oc8, od8, .func (PySem.W.fnOf "_law_value" "_law_value" (defArgs s__law_value) (defBody s__law_value) (defScope s__law_value) .none kV8 dc8 pm8 an8 cd8 ct8), sl8⟩) (c8 : PySem.W.codeIn K cd8 "_law_value" = true) (k8 : PySem.W.keepIn K (.ref f8) = true)
  (a9 : PySem.W.nsIn K mainGlobals "_law_is_name" = some (some (.ref f9))) (l9 : K.lookup f9 = some ⟨oc9, od9, .func (PySem.W.fnOf "_law_is_name" "_law_is_name" (defArgs s__law_is_name) (defBody s__law_is_name) (defScope s__law_is_name) .none kV9 dc9 pm9 an9 cd9 ct9), sl9⟩) (c9 : PySem.W.codeIn K cd9 "_law_is_name" = true) (k9 : PySem.W.keepIn K (.ref f9) = true)
  (a10 : PySem.W.nsIn K mainGlobals "_law_is_path" = some (some (.ref f10))) (l10 : K.lookup f10 = some ⟨oc10, od10, .func (PySem.W.fnOf "_law_is_path" "_law_is_path" (defArgs s__law_is_path) (defBody s__law_is_path) (defScope s__law_is_path) .none kV10 dc10 pm10 an10 cd10 ct10), sl10⟩) (c10 : PySem.W.codeIn K cd10 "_law_is_path" = true) (k10 : PySem.W.keepIn K (.ref f10) = true)
  (a11 : PySem.W.nsIn K mainGlobals "_law_is_value" = some (some (.ref f11))) (l11 : K.lookup f11 = some ⟨oc11, od11, .func (PySem.W.fnOf "_law_is_value" "_law_is_value" (defArgs s__law_is_value) (defBody s__law_is_value) (defScope s__law_is_value) .none kV11 dc11 pm11 an11 cd11 ct11), sl11⟩) (c11 : PySem.W.codeIn K cd11 "_law_is_value" = true) (k11 : PySem.W.keepIn K (.ref f11) = true)
  (a12 : PySem.W.nsIn K mainGlobals "_law_letters" = some (some (.ref f12))) (l12 : K.lookup f12 = some ⟨oc12, od12, .func (PySem.W.fnOf "_law_letters" "_law_letters" (defArgs s__law_letters) (defBody s__law_letters) (defScope s__law_letters) .none kV12 dc12 pm12 an12 cd12 ct12), sl12⟩) (c12 : PySem.W.codeIn K cd12 "_law_letters" = true) (k12 : PySem.W.keepIn K (.ref f12) = true)
  (a13 : PySem.W.nsIn K mainGlobals "_law_near_name" = some (some (.ref f13))) (l13 : K.lookup f13 = some ⟨oc13, od13, .func (PySem.W.fnOf "_law_near_name" "_law_near_name" (defArgs s__law_near_name) (defBody s__law_near_name) (defScope s__law_near_name) .none kV13 dc13 pm13 an13 cd13 ct13), sl13⟩) (c13 : PySem.W.codeIn K cd13 "_law_near_name" = true) (k13 : PySem.W.keepIn K (.ref f13) = true)
  (a14 : PySem.W.nsIn K mainGlobals "_law_thing" = some (some (.ref f14))) (l14 : K.lookup f14 = some ⟨oc14, od14, .func (PySem.W.fnOf "_law_thing" "_law_thing" (defArgs s__law_thing) (defBody s__law_thing) (defScope s__law_thing) .none kV14 dc14 pm14 an14 cd14 ct14), sl14⟩) (c14 : PySem.W.codeIn K cd14 "_law_thing" = true) (k14 : PySem.W.keepIn K (.ref f14) = true)
  (a15 : PySem.W.nsIn K mainGlobals "_law_near_path" = some (some (.ref f15))) (l15 : K.lookup f15 = some ⟨oc15, od15, .func (PySem.W.fnOf "_law_near_path" "_law_near_path" (defArgs s__law_near_path) (defBody s__law_near_path) (defScope s__law_near_path) .none kV15 dc15 pm15 an15 cd15 ct15), sl15⟩) (c15 : PySem.W.codeIn K cd15 "_law_near_path" = true) (k15 : PySem.W.keepIn K (.ref f15) = true)
  (a16 : PySem.W.nsIn K mainGlobals "_law_near_value" = some (some (.ref f16))) (l16 : K.lookup f16 = some ⟨oc16, od16, .func (PySem.W.fnOf "_law_near_value" "_law_near_value" (defArgs s__law_near_value) (defBody s__law_near_value) (defScope s__law_near_value) .none kV16 dc16 pm16 an16 cd16 ct16), sl16⟩) (c16 : PySem.W.codeIn K cd16 "_law_near_value" = true) (k16 : PySem.W.keepIn K (.ref f16) = true)
  (a17 : PySem.W.nsIn K mainGlobals "law" = some (some (.ref f17))) (l17 : K.lookup f17 = some ⟨oc17, od17, .func (PySem.W.fnOf "law" "law" (defArgs s_law) (defBody s_law) (defScope s_law) .none kV17 dc17 pm17 an17 cd17 ct17), sl17⟩) (c17 : PySem.W.codeIn K cd17 "law" = true) (k17 : PySem.W.keepIn K (.ref f17) = true)
  (g_LETTERS : PySem.W.nsIn K mainGlobals "LETTERS" = some (some (.str "abcdefghijklmnopqrstuvwxyz" t_LETTERS)))
  (g_MOST : PySem.W.nsIn K mainGlobals "MOST" = some (some (.int 8 t_MOST)))
  (n_all : PySem.W.nsIn K mainGlobals "all" = some none)
  (n_bool : PySem.W.nsIn K mainGlobals "bool" = some none)
  (n_int : PySem.W.nsIn K mainGlobals "int" = some none)
  (n_isinstance : PySem.W.nsIn K mainGlobals "isinstance" = some none)
  (n_len : PySem.W.nsIn K mainGlobals "len" = some none)
  (n_list : PySem.W.nsIn K mainGlobals "list" = some none)
  (n_range : PySem.W.nsIn K mainGlobals "range" = some none)
  (n_repr : PySem.W.nsIn K mainGlobals "repr" = some none)
  (n_str : PySem.W.nsIn K mainGlobals "str" = some none)
  (n_tuple : PySem.W.nsIn K mainGlobals "tuple" = some none)
  : ∃ fd : FuncData, (∀ (s : Shared) (v : Value), BindsTo s fd ⟨[v], []⟩ [("_law_script", v)]) ∧ ∀ base : Heap, K.In base → base.Ns mainGlobals mg → UFn l.prog w K mg base CX0 10 fa fd ["_law_script"] sp_law := by
  have e := hfa.symm.trans (PySem.W.mg_of X G a17)
  cases e
  have F0 := fun_mk (st := s_is_name) l0 c0 k0
  have D0 : Df K mg "is_name" s_is_name _ _ ["value"] := ⟨F0, PySem.W.mg_of X G a0, F0.binds (ps := ["value"]) fun _ _ _ _ _ _ us hl => match us, hl with | [_], _ => rfl⟩
  have F1 := fun_mk (st := s_is_integer) l1 c1 k1
  have D1 : Df K mg "is_integer" s_is_integer _ _ ["value"] := ⟨F1, PySem.W.mg_of X G a1, F1.binds (ps := ["value"]) fun _ _ _ _ _ _ us hl => match us, hl with | [_], _ => rfl⟩
  have F2 := fun_mk (st := s_is_path) l2 c2 k2
  have D2 : Df K mg "is_path" s_is_path _ _ ["value"] := ⟨F2, PySem.W.mg_of X G a2, F2.binds (ps := ["value"]) fun _ _ _ _ _ _ us hl => match us, hl with | [_], _ => rfl⟩
  have F3 := fun_mk (st := s_is_link) l3 c3 k3
  have D3 : Df K mg "is_link" s_is_link _ _ ["value"] := ⟨F3, PySem.W.mg_of X G a3, F3.binds (ps := ["value"]) fun _ _ _ _ _ _ us hl => match us, hl with | [_], _ => rfl⟩
  have F4 := fun_mk (st := s_is_value) l4 c4 k4
  have D4 : Df K mg "is_value" s_is_value _ _ ["value"] := ⟨F4, PySem.W.mg_of X G a4, F4.binds (ps := ["value"]) fun _ _ _ _ _ _ us hl => match us, hl with | [_], _ => rfl⟩
  have F5 := fun_mk (st := s__law_draw) l5 c5 k5
  have D5 : Df K mg "_law_draw" s__law_draw _ _ ["_law_stream", "_law_many"] := ⟨F5, PySem.W.mg_of X G a5, F5.binds (ps := ["_law_stream", "_law_many"]) fun _ _ _ _ _ _ us hl => match us, hl with | [_, _], _ => rfl⟩
  have F6 := fun_mk (st := s__law_same) l6 c6 k6
  have D6 : Df K mg "_law_same" s__law_same _ _ ["_law_found", "_law_due"] := ⟨F6, PySem.W.mg_of X G a6, F6.binds (ps := ["_law_found", "_law_due"]) fun _ _ _ _ _ _ us hl => match us, hl with | [_, _], _ => rfl⟩
  have F7 := fun_mk (st := s__law_path) l7 c7 k7
  have D7 : Df K mg "_law_path" s__law_path _ _ ["_law_stream", "_law_most"] := ⟨F7, PySem.W.mg_of X G a7, F7.binds (ps := ["_law_stream", "_law_most"]) fun _ _ _ _ _ _ us hl => match us, hl with | [_, _], _ => rfl⟩
  have F8 := fun_mk (st := s__law_value) l8 c8 k8
  have D8 : Df K mg "_law_value" s__law_value _ _ ["_law_stream"] := ⟨F8, PySem.W.mg_of X G a8, F8.binds (ps := ["_law_stream"]) fun _ _ _ _ _ _ us hl => match us, hl with | [_], _ => rfl⟩
  have F9 := fun_mk (st := s__law_is_name) l9 c9 k9
  have D9 : Df K mg "_law_is_name" s__law_is_name _ _ ["_law_thing_here"] := ⟨F9, PySem.W.mg_of X G a9, F9.binds (ps := ["_law_thing_here"]) fun _ _ _ _ _ _ us hl => match us, hl with | [_], _ => rfl⟩
  have F10 := fun_mk (st := s__law_is_path) l10 c10 k10
  have D10 : Df K mg "_law_is_path" s__law_is_path _ _ ["_law_thing_here"] := ⟨F10, PySem.W.mg_of X G a10, F10.binds (ps := ["_law_thing_here"]) fun _ _ _ _ _ _ us hl => match us, hl with | [_], _ => rfl⟩
  have F11 := fun_mk (st := s__law_is_value) l11 c11 k11
  have D11 : Df K mg "_law_is_value" s__law_is_value _ _ ["_law_thing_here"] := ⟨F11, PySem.W.mg_of X G a11, F11.binds (ps := ["_law_thing_here"]) fun _ _ _ _ _ _ us hl => match us, hl with | [_], _ => rfl⟩
  have F12 := fun_mk (st := s__law_letters) l12 c12 k12
  have D12 : Df K mg "_law_letters" s__law_letters _ _ ["_law_stream", "_law_many"] := ⟨F12, PySem.W.mg_of X G a12, F12.binds (ps := ["_law_stream", "_law_many"]) fun _ _ _ _ _ _ us hl => match us, hl with | [_, _], _ => rfl⟩
  have F13 := fun_mk (st := s__law_near_name) l13 c13 k13
  have D13 : Df K mg "_law_near_name" s__law_near_name _ _ ["_law_stream"] := ⟨F13, PySem.W.mg_of X G a13, F13.binds (ps := ["_law_stream"]) fun _ _ _ _ _ _ us hl => match us, hl with | [_], _ => rfl⟩
  have F14 := fun_mk (st := s__law_thing) l14 c14 k14
  have D14 : Df K mg "_law_thing" s__law_thing _ _ ["_law_stream", "_law_deep"] := ⟨F14, PySem.W.mg_of X G a14, F14.binds (ps := ["_law_stream", "_law_deep"]) fun _ _ _ _ _ _ us hl => match us, hl with | [_, _], _ => rfl⟩
  have F15 := fun_mk (st := s__law_near_path) l15 c15 k15
  have D15 : Df K mg "_law_near_path" s__law_near_path _ _ ["_law_stream"] := ⟨F15, PySem.W.mg_of X G a15, F15.binds (ps := ["_law_stream"]) fun _ _ _ _ _ _ us hl => match us, hl with | [_], _ => rfl⟩
  have F16 := fun_mk (st := s__law_near_value) l16 c16 k16
  have D16 : Df K mg "_law_near_value" s__law_near_value _ _ ["_law_stream"] := ⟨F16, PySem.W.mg_of X G a16, F16.binds (ps := ["_law_stream"]) fun _ _ _ _ _ _ us hl => match us, hl with | [_], _ => rfl⟩
  have F17 := fun_mk (st := s_law) l17 c17 k17
  have D17 : Df K mg "law" s_law _ _ ["_law_script"] := ⟨F17, PySem.W.mg_of X G a17, F17.binds (ps := ["_law_script"]) fun _ _ _ _ _ _ us hl => match us, hl with | [_], _ => rfl⟩
  exact ⟨PySem.W.fnOf "law" "law" (defArgs s_law) (defBody s_law) (defScope s_law) .none kV17 dc17 pm17 an17 cd17 ct17, fun s v => .of_eq rfl, fun base _ _ => ok_law ⟨_, _, D0, _, _, D1, _, _, D2, _, _, D3, _, _, D4, _, _, D5, _, _, D6, _, _, D7, _, _, D8, _, _, D9, _, _, D10, _, _, D11, _, _, D12, _, _, D13, _, _, D14, _, _, D15, _, _, D16, _, _, D17, t_LETTERS, PySem.W.mg_of X G g_LETTERS, t_MOST, PySem.W.mg_of X G g_MOST, PySem.W.mg_none_of X G n_all, PySem.W.mg_none_of X G n_bool, PySem.W.mg_none_of X G n_int, PySem.W.mg_none_of X G n_isinstance, PySem.W.mg_none_of X G n_len, PySem.W.mg_none_of X G n_list, PySem.W.mg_none_of X G n_range, PySem.W.mg_none_of X G n_repr, PySem.W.mg_none_of X G n_str, PySem.W.mg_none_of X G n_tuple⟩⟩
end PU
open PySem PySem.W PyProof.Rows
set_option maxRecDepth 100000 in
set_option maxHeartbeats 0 in
theorem PySem.Challenge.cw_variantnest_k04_values_holds : PySem.Challenge.rw_variantnest_k04_values.Holds := by
  w_on; o_law; k_head; (case hw => w_witness2)
  k_fill
  refine PU.law_walk (l := PySem.Challenge.rw_variantnest_k04_values) (n := 63) (k := 10) (x := "_law_script") (sp := PU.sp_law) rfl (by decide) rfl ⟨rfl, by decide, by decide⟩ rfl (fun w h Y => PySem.W.kIn_of Y) (fun ns hl Q q => ⟨ns, rfl, hl, q⟩) ?F
  case F =>
    intro w mg fa h KX G hmg
    refine' PU.all_mk KX G hmg ?a0 ?l0 ?c0 ?k0 ?a1 ?l1 ?c1 ?k1 ?a2 ?l2 ?c2 ?k2 ?a3 ?l3 ?c3 ?k3 ?a4 ?l4 ?c4 ?k4 ?a5 ?l5 ?c5 ?k5 ?a6 ?l6 ?c6 ?k6 ?a7 ?l7 ?c7 ?k7 ?a8 ?l8 ?c8 ?k8 ?a9 ?l9 ?c9 ?k9 ?a10 ?l10 ?c10 ?k10 ?a11 ?l11 ?c11 ?k11 ?a12 ?l12 ?c12 ?k12 ?a13 ?l13 ?c13 ?k13 ?a14 ?l14 ?c14 ?k14 ?a15 ?l15 ?c15 ?k15 ?a16 ?l16 ?c16 ?k16 ?a17 ?l17 ?c17 ?k17 ?g_LETTERS ?g_MOST ?n_all ?n_bool ?n_int ?n_isinstance ?n_len ?n_list ?n_range ?n_repr ?n_str ?n_tuple
    (case a0 => k_is)
    (case l0 => k_is)
    (case c0 => k_is)
    (case k0 => k_is)
    (case a1 => k_is)
    (case l1 => k_is)
    (case c1 => k_is)
    (case k1 => k_is)
    (case a2 => k_is)
    (case l2 => k_is)
    (case c2 => k_is)
    (case k2 => k_is)
    (case a3 => k_is)
    (case l3 => k_is)
    (case c3 => k_is)
    (case k3 => k_is)
    (case a4 => k_is)
    (case l4 => k_is)
    (case c4 => k_is)
    (case k4 => k_is)
    (case a5 => k_is)
    (case l5 => k_is)
    (case c5 => k_is)
    (case k5 => k_is)
    (case a6 => k_is)
    (case l6 => k_is)
    (case c6 => k_is)
    (case k6 => k_is)
    (case a7 => k_is)
    (case l7 => k_is)
    (case c7 => k_is)
    (case k7 => k_is)
    (case a8 => k_is)
    (case l8 => k_is)
    (case c8 => k_is)
    (case k8 => k_is)
    (case a9 => k_is)
    (case l9 => k_is)
    (case c9 => k_is)
    (case k9 => k_is)
    (case a10 => k_is)
    (case l10 => k_is)
    (case c10 => k_is)
    (case k10 => k_is)
    (case a11 => k_is)
    (case l11 => k_is)
    (case c11 => k_is)
    (case k11 => k_is)
    (case a12 => k_is)
    (case l12 => k_is)
    (case c12 => k_is)
    (case k12 => k_is)
    (case a13 => k_is)
    (case l13 => k_is)
    (case c13 => k_is)
    (case k13 => k_is)
    (case a14 => k_is)
    (case l14 => k_is)
    (case c14 => k_is)
    (case k14 => k_is)
    (case a15 => k_is)
    (case l15 => k_is)
    (case c15 => k_is)
    (case k15 => k_is)
    (case a16 => k_is)
    (case l16 => k_is)
    (case c16 => k_is)
    (case k16 => k_is)
    (case a17 => k_is)
    (case l17 => k_is)
    (case c17 => k_is)
    (case k17 => k_is)
    (case g_LETTERS => k_is)
    (case g_MOST => k_is)
    (case n_all => k_is)
    (case n_bool => k_is)
    (case n_int => k_is)
    (case n_isinstance => k_is)
    (case n_len => k_is)
    (case n_list => k_is)
    (case n_range => k_is)
    (case n_repr => k_is)
    (case n_str => k_is)
    (case n_tuple => k_is)

