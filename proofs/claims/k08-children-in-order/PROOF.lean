import PyProof.Rows.All
import Wide.All
import OpenK.AllK
import Wide.FinOn
import PyProof.EqAt
import PyProof.EqKinds
import PyProof.TupleCall
import HandS.ForMost
import HandS.IsInst
import KE.KeyNested
import HandS.ExcInit
import PyProof.CodeObj
import HandS.Deep
import HandS.Style
import HandS.TupAny
import HandS.More
import HandS.Flow
import HandS.Zip
import HandS.TupSets
import HandS.Exc
import HandS.TryOnly
import HandS.ExcOwn
import HandS.ExcField
import HandS.ExcIs
import HandS.ClsMeth
import HandS.Text
import KE.KDictSum
import KE.KDictWalk
import KE.SortData
import KE.SortKeyHeap
import KE.KDictCopyH
import HandS.SortKw
import HandS.ExcValue
import HandS.TryMany
import HandS.Iter
import KE.DataCmp
import HandS.SetKeys
import HandS.DictComp
import HandS.ListItems
import KE.KDictPairs
import HandS.DictTup
import KE.KSortTup
import KE.SortCalls
import HandS.TupMul
import HandS.Call
import KE.KDictKeyed
import KE.KDictDisplayH
import PySem.Challenge.RW_variantnest_k08_children_in_order
set_option Elab.async false
set_option linter.all false
set_option maxRecDepth 100000
/-! UBase: values that carry tuples, and lists that nobody changes any more, by value; the judgements of HandS read over them. -/
namespace PU
open PySem PySem.Spec PyProof.Rows L2

inductive U where
  | non | bl (b : Bool) | int (i : Int) | str (x : Str) | ref (a : Addr) | ty (n : String)
  | tup (xs : List U) | lst (xs : List U)

/-- a text that may stand anywhere -/
def okS (x : Str) : Bool := decide (x.length ≤ sizeLine) && PyData.strOk x
theorem okS.len {x : Str} (h : okS x = true) : x.length ≤ sizeLine := of_decide_eq_true (Bool.and_eq_true_iff.mp h).1
theorem okS.ok {x : Str} (h : okS x = true) : PyData.strOk x = true := (Bool.and_eq_true_iff.mp h).2
/-- a list that is not changed any more -/
def FzL (K : PySem.W.Frag) (H : Hp) (a : Addr) (xs : List V) : Prop :=
  (∃ o, H a = some (.frz o (.lst xs))) ∨
    ∃ (o : Obj) (its : Array Value) (n : Nat), K.lookup a = some o ∧ o.cls = .type "list" ∧ o.dict = none ∧ o.data = .seq its n ∧ its.size ≤ sizeLine ∧ Vals xs its.toList
theorem FzL.sq {K : PySem.W.Frag} {H : Hp} {a : Addr} {xs : List V} (h : FzL K H a xs) : SqL K H a xs := by
  rcases h with ⟨o, h⟩ | h
  · exact .inl (.inr ⟨o, h⟩)
  · exact .inr h

/-- a tuple of which it is known that it has no dict of its own -/
def SqD (K : PySem.W.Frag) (H : Hp) (a : Addr) (xs : List V) : Prop :=
  (∃ o, H a = some (.frz o (.tup xs)) ∧ o.dict = none) ∨
    ∃ (o : Obj) (its : Array Value) (n : Nat), K.lookup a = some o ∧ o.cls = .type "tuple" ∧ o.dict = none ∧ o.data = .seq its n ∧ its.size ≤ sizeLine ∧ Vals xs its.toList
theorem SqD.t {K : PySem.W.Frag} {H : Hp} {a : Addr} {xs : List V} (h : SqD K H a xs) : SqT K H a xs := by
  rcases h with ⟨o, h, _⟩ | ⟨o, its, n, h1, h2, _, h4, h5, h6⟩
  · exact .inl (.inr ⟨o, h⟩)
  · exact .inr ⟨o, its, n, h1, h2, h4, h5, h6⟩
def intHead : List V → Bool
  | .int _ :: _ => true
  | _ => false
/-- a pair of an enumerate need not be so -/
def SqX (K : PySem.W.Frag) (H : Hp) (a : Addr) (xs : List V) : Prop := SqD K H a xs ∨ (SqT K H a xs ∧ intHead xs = true)
theorem SqX.t {K : PySem.W.Frag} {H : Hp} {a : Addr} {xs : List V} (h : SqX K H a xs) : SqT K H a xs := h.elim (fun h => h.t) fun h => h.1
instance {K : PySem.W.Frag} {H : Hp} {a : Addr} {xs : List V} : Coe (SqX K H a xs) (SqT K H a xs) := ⟨SqX.t⟩
mutual
/-- u, carried by value, stands as v in the heap H -/
def RelU (K : PySem.W.Frag) (H : Hp) : U → V → Prop
  | .non, v => v = .non
  | .bl b, v => v = .bl b
  | .int i, v => v = .int i
  | .str x, v => v = .str x ∧ okS x = true
  | .ref a, v => v = .ref a
  | .ty n, v => v = .ty n
  | .tup xs, v => ∃ a vs, v = .ref a ∧ SqX K H a vs ∧ RelUs K H xs vs
  | .lst xs, v => ∃ a vs, v = .ref a ∧ FzL K H a vs ∧ RelUs K H xs vs
def RelUs (K : PySem.W.Frag) (H : Hp) : List U → List V → Prop
  | [], vs => vs = []
  | x :: xs, vs => ∃ v r, vs = v :: r ∧ RelU K H x v ∧ RelUs K H xs r
end

/-- what never changes stands as it did -/
structure Stab (H H' : Hp) : Prop where
  tups : ∀ b xs, H b = some (.tup xs) → H' b = some (.tup xs)
  frzs : ∀ b o u, H b = some (.frz o u) → H' b = some (.frz o u)
theorem Stab.refl (H : Hp) : Stab H H := ⟨fun _ _ h => h, fun _ _ _ h => h⟩
theorem Stab.trans {H H1 H2 : Hp} (a : Stab H H1) (b : Stab H1 H2) : Stab H H2 := ⟨fun c xs h => b.tups c xs (a.tups c xs h), fun c o u h => b.frzs c o u (a.frzs c o u h)⟩
theorem Stab.upd {H : Hp} {p : Addr} {o : HO} (h1 : ∀ xs, H p ≠ some (.tup xs)) (h2 : ∀ ob u, H p ≠ some (.frz ob u)) : Stab H (upd H p o) :=
  ⟨fun b xs h => by
    by_cases e : b = p
    · subst e; exact absurd h (h1 _)
    · rw [upd_ne e]; exact h,
   fun b ob u h => by
    by_cases e : b = p
    · subst e; exact absurd h (h2 _ _)
    · rw [upd_ne e]; exact h⟩
theorem Stab.new {H : Hp} {p : Addr} {o : HO} (h : H p = none) : Stab H (L2.upd H p o) := Stab.upd (fun xs e => by rw [h] at e; cases e) (fun ob u e => by rw [h] at e; cases e)
theorem Stab.lst {H : Hp} {p : Addr} {o : HO} {xs : List V} (h : H p = some (.lst xs)) : Stab H (L2.upd H p o) := Stab.upd (fun xs e => by rw [h] at e; cases e) (fun ob u e => by rw [h] at e; cases e)

theorem SqT.stab {K : PySem.W.Frag} {H H' : Hp} {a : Addr} {xs : List V} (s : Stab H H') (h : SqT K H a xs) : SqT K H' a xs := by
  rcases h with (h | ⟨o, h⟩) | h
  · exact .inl (.inl (s.tups _ _ h))
  · exact .inl (.inr ⟨o, s.frzs _ _ _ h⟩)
  · exact .inr h
theorem SqX.stab {K : PySem.W.Frag} {H H' : Hp} {a : Addr} {xs : List V} (s : Stab H H') (h : SqX K H a xs) : SqX K H' a xs := by
  rcases h with (⟨o, h, k⟩ | h) | ⟨h, k⟩
  · exact .inl (.inl ⟨o, s.frzs _ _ _ h, k⟩)
  · exact .inl (.inr h)
  · exact .inr ⟨SqT.stab s h, k⟩
theorem FzL.stab {K : PySem.W.Frag} {H H' : Hp} {a : Addr} {xs : List V} (s : Stab H H') (h : FzL K H a xs) : FzL K H' a xs := by
  rcases h with ⟨o, h⟩ | h
  · exact .inl ⟨o, s.frzs _ _ _ h⟩
  · exact .inr h
mutual
theorem RelU.stab {K : PySem.W.Frag} {H H' : Hp} (s : Stab H H') : ∀ {u : U} {v : V}, RelU K H u v → RelU K H' u v
  | .non, _, h => h
  | .bl _, _, h => h
  | .int _, _, h => h
  | .str _, _, h => h
  | .ref _, _, h => h
  | .ty _, _, h => h
  | .tup xs, v, h => by
    simp only [RelU] at h ⊢
    obtain ⟨a, vs, e, q, r⟩ := h
    exact ⟨a, vs, e, SqX.stab s q, RelUs.stab s r⟩
  | .lst xs, v, h => by
    simp only [RelU] at h ⊢
    obtain ⟨a, vs, e, q, r⟩ := h
    exact ⟨a, vs, e, q.stab s, RelUs.stab s r⟩
theorem RelUs.stab {K : PySem.W.Frag} {H H' : Hp} (s : Stab H H') : ∀ {us : List U} {vs : List V}, RelUs K H us vs → RelUs K H' us vs
  | [], _, h => h
  | x :: xs, vs, h => by
    simp only [RelUs] at h ⊢
    obtain ⟨v, r, e, q, t⟩ := h
    exact ⟨v, r, e, RelU.stab s q, RelUs.stab s t⟩
end
section
variable {K : PySem.W.Frag} {H : Hp}
theorem RelUs.nil : RelUs K H [] [] := rfl
theorem RelUs.cons {x : U} {v : V} {xs : List U} {vs : List V} (h : RelU K H x v) (t : RelUs K H xs vs) : RelUs K H (x :: xs) (v :: vs) := ⟨v, vs, rfl, h, t⟩
theorem RelUs.length : ∀ {xs : List U} {vs : List V}, RelUs K H xs vs → xs.length = vs.length
  | [], _, h => by obtain rfl := h; rfl
  | x :: xs, _, h => by
    obtain ⟨v, r, rfl, _, t⟩ := h
    simp [RelUs.length t]
theorem RelUs.get : ∀ {xs : List U} {vs : List V} {i : Nat} {x : U}, RelUs K H xs vs → xs[i]? = some x → ∃ v, vs[i]? = some v ∧ RelU K H x v
  | [], _, _, _, _, e => by simp at e
  | x :: xs, _, 0, _, h, e => by
    obtain ⟨v, r, rfl, q, t⟩ := h
    simp at e; subst e
    exact ⟨v, rfl, q⟩
  | x :: xs, _, i + 1, y, h, e => by
    obtain ⟨v, r, rfl, q, t⟩ := h
    obtain ⟨w, e1, e2⟩ := RelUs.get (i := i) t (by simpa using e)
    exact ⟨w, by simpa using e1, e2⟩
theorem RelUs.append : ∀ {xs ys : List U} {vs ws : List V}, RelUs K H xs vs → RelUs K H ys ws → RelUs K H (xs ++ ys) (vs ++ ws)
  | [], _, _, _, h, k => by obtain rfl := h; exact k
  | x :: xs, ys, _, ws, h, k => by
    obtain ⟨v, r, rfl, q, t⟩ := h
    exact ⟨v, r ++ ws, rfl, q, RelUs.append t k⟩
theorem RelUs.set {x : U} {v : V} (q : RelU K H x v) : ∀ {xs : List U} {vs : List V} (i : Nat), RelUs K H xs vs → RelUs K H (xs.set i x) (vs.set i v)
  | [], _, _, h => by obtain rfl := h; exact RelUs.nil
  | y :: ys, _, 0, h => by
    obtain ⟨w, r, rfl, p, t⟩ := h
    exact ⟨v, r, rfl, q, t⟩
  | y :: ys, _, i + 1, h => by
    obtain ⟨w, r, rfl, p, t⟩ := h
    exact ⟨w, r.set i v, rfl, p, RelUs.set q i t⟩
theorem RelUs.take (n : Nat) : ∀ {xs : List U} {vs : List V}, RelUs K H xs vs → RelUs K H (xs.take n) (vs.take n) := by
  induction n with
  | zero => intro xs vs _; simp; exact RelUs.nil
  | succ n ih =>
    intro xs vs h
    cases xs with
    | nil => obtain rfl := h; exact RelUs.nil
    | cons x xs =>
      obtain ⟨v, r, rfl, q, t⟩ := h
      exact ⟨v, r.take n, rfl, q, ih t⟩
theorem RelUs.drop (n : Nat) : ∀ {xs : List U} {vs : List V}, RelUs K H xs vs → RelUs K H (xs.drop n) (vs.drop n) := by
  induction n with
  | zero => intro xs vs h; exact h
  | succ n ih =>
    intro xs vs h
    cases xs with
    | nil => obtain rfl := h; exact RelUs.nil
    | cons x xs =>
      obtain ⟨v, r, rfl, q, t⟩ := h
      exact ih t
theorem RelUs.eraseIdx : ∀ {xs : List U} {vs : List V} (i : Nat), RelUs K H xs vs → RelUs K H (xs.eraseIdx i) (vs.eraseIdx i)
  | [], _, _, h => by obtain rfl := h; exact RelUs.nil
  | y :: ys, _, 0, h => by
    obtain ⟨w, r, rfl, p, t⟩ := h
    exact t
  | y :: ys, _, i + 1, h => by
    obtain ⟨w, r, rfl, p, t⟩ := h
    exact ⟨w, r.eraseIdx i, rfl, p, RelUs.eraseIdx i t⟩
theorem RelUs.mem : ∀ {xs : List U} {vs : List V}, (∀ x ∈ xs, ∃ v, RelU K H x v) → ∃ vs, RelUs K H xs vs
  | [], _, _ => ⟨[], RelUs.nil⟩
  | x :: xs, vs, h => by
    obtain ⟨v, q⟩ := h x (by simp)
    obtain ⟨r, t⟩ := RelUs.mem (xs := xs) (vs := vs) fun y hy => h y (by simp [hy])
    exact ⟨v :: r, RelUs.cons q t⟩
end

/-- what may change: by address -/
inductive MO where
  | lst (xs : List U)
  | ins (C dx : Addr) (fs : List (Str × U))
  | xd (fs : List (Str × U))
  | dK (kvs : List (Key × U))
  | raw (u : HO)
  | exd (fs : List (Str × U))
  | dN (φ : Addr → List (NestedKey × Addr × V) → HO) (kvs : List (U × U))
  | sD (φ : List (Key × V) → HO) (kvs : List (Str × U))
  | tab (q : Str)
/-- a text's key -/
def skp (p : Str × U) : Key × U := (Sum.inr p.1, p.2)
mutual
/-- a key of any depth: texts, ints, None, tuples of these -/
def nkU : U → Option NestedKey
  | .non => some .none
  | .int i => some (.num i)
  | .str x => some (.text x)
  | .tup xs => (nkUs xs).map .tup
  | _ => none
def nkUs : List U → Option (List NestedKey)
  | [] => some []
  | x :: xs => match nkU x, nkUs xs with
    | some k, some ks => some (k :: ks)
    | _, _ => none
end
def RelKs {κ : Type} (K : PySem.W.Frag) (H : Hp) : List (κ × U) → List (κ × V) → Prop
  | [], vs => vs = []
  | (k, x) :: xs, vs => ∃ v r, vs = (k, v) :: r ∧ RelU K H x v ∧ RelKs K H xs r
theorem RelKs.stab {κ : Type} {K : PySem.W.Frag} {H H' : Hp} (s : Stab H H') : ∀ {us : List (κ × U)} {vs : List (κ × V)}, RelKs K H us vs → RelKs K H' us vs
  | [], _, h => h
  | (k, x) :: xs, vs, h => by
    simp only [RelKs] at h ⊢
    obtain ⟨v, r, e, q, t⟩ := h
    exact ⟨v, r, e, RelU.stab s q, RelKs.stab s t⟩
def RelDs (K : PySem.W.Frag) (H : Hp) : List (U × U) → List (NestedKey × Addr × V) → Prop
  | [], vs => vs = []
  | (k, x) :: xs, vs => ∃ nk b v r, vs = (nk, b, v) :: r ∧ nkU k = some nk ∧ nk.depth ≤ 8 ∧ RelU K H k (.ref b) ∧ RelU K H x v ∧ RelDs K H xs r
theorem RelDs.stab {K : PySem.W.Frag} {H H' : Hp} (s : Stab H H') : ∀ {us : List (U × U)} {vs : List (NestedKey × Addr × V)}, RelDs K H us vs → RelDs K H' us vs
  | [], _, h => h
  | (k, x) :: xs, vs, h => by
    simp only [RelDs] at h ⊢
    obtain ⟨nk, b, v, r, e, hk, hd, kb, q, t⟩ := h
    exact ⟨nk, b, v, r, e, hk, hd, RelU.stab s kb, RelU.stab s q, RelDs.stab s t⟩
abbrev UHp := Addr → Option MO
/-- a code object that a table tells -/
def CodeF (H : Hp) (cv : Value) (q : Str) : Prop := ∃ (c : Addr) (oc : Obj) (vs : Array Value) (t : Tok), cv = .ref c ∧ H c = some (.frz oc (.own 0)) ∧ oc.data = .fields vs ∧ vs[1]? = some (.str q t)
/-- a def's table of code objects, all of one name -/
def TabU (H : Hp) (P : Addr) (q : Str) : Prop := ∃ ps : Array Value, H P = some (.tbl ps) ∧ TriplesOk ps.toList ∧ ∀ (pos : Pos) (cv : Value), codeAmong pos ps.toList = some cv → CodeF H cv q
theorem CodeF.keep {H H' : Hp} {cv : Value} {q : Str} (s : ∀ b o x, H b = some (.frz o (.own x)) → H' b = some (.frz o (.own x))) (h : CodeF H cv q) : CodeF H' cv q := by
  obtain ⟨c, oc, vs, t, e1, e2, e3⟩ := h
  exact ⟨c, oc, vs, t, e1, s _ _ _ e2, e3⟩
def RelO (K : PySem.W.Frag) (H : Hp) (a : Addr) : MO → Prop
  | .lst xs => ∃ vs, H a = some (.lst vs) ∧ RelUs K H xs vs
  | .ins C dx fs => ∃ vs, H a = some (.ins C dx vs) ∧ RelKs K H fs vs
  | .xd fs => ∃ vs, H a = some (.xd vs) ∧ RelKs K H fs vs
  | .dK kvs => ∃ vs, H a = some (.dK vs) ∧ RelKs K H kvs vs
  | .raw u => H a = some u
  | .exd fs => ∃ vs, H a = some (L2.exd a vs) ∧ RelKs K H fs vs
  | .dN φ kvs => ∃ vs, H a = some (φ a vs) ∧ RelDs K H kvs vs
  | .sD φ kvs => ∃ vs, H a = some (φ vs) ∧ RelKs K H (kvs.map skp) vs
  | .tab q => TabU H a q
def RelM (K : PySem.W.Frag) (H : Hp) (M : UHp) : Prop := ∀ a o, M a = some o → RelO K H a o
def updM (M : UHp) (a : Addr) (o : MO) : UHp := fun b => if b = a then some o else M b
theorem updM_same {M : UHp} {a : Addr} {o : MO} : updM M a o a = some o := by unfold updM; rw [if_pos rfl]
theorem updM_ne {M : UHp} {a b : Addr} {o : MO} (h : b ≠ a) : updM M a o b = M b := by unfold updM; rw [if_neg h]
theorem updM_updM {M : UHp} {a : Addr} {o u : MO} : updM (updM M a o) a u = updM M a u := by
  funext b; unfold updM; split <;> rfl
section
variable {K : PySem.W.Frag} {H H' : Hp} {M : UHp} {a p : Addr} {o : MO}
theorem RelO.some (h : RelO K H a o) : ∃ u, H a = some u := by
  cases o with
  | raw u => exact ⟨_, h⟩
  | _ => obtain ⟨vs, e, _⟩ := h; exact ⟨_, e⟩
theorem RelM.none (h : RelM K H M) (e : H p = Option.none) : M p = Option.none := by
  cases q : M p with
  | none => rfl
  | some o => obtain ⟨u, e'⟩ := (h p o q).some; rw [e] at e'; cases e'
/-- an object that stands at another place too -/
theorem RelO.at (s : Stab H H') (h : RelO K H a o) (e : H' a = H a) : RelO K H' a o := by
  cases o with
  | lst xs => obtain ⟨vs, q, r⟩ := h; exact ⟨vs, e.trans q, r.stab s⟩
  | ins C dx fs => obtain ⟨vs, q, r⟩ := h; exact ⟨vs, e.trans q, r.stab s⟩
  | xd fs => obtain ⟨vs, q, r⟩ := h; exact ⟨vs, e.trans q, r.stab s⟩
  | dK kvs => obtain ⟨vs, q, r⟩ := h; exact ⟨vs, e.trans q, r.stab s⟩
  | raw u => exact e.trans h
  | exd fs => obtain ⟨vs, q, r⟩ := h; exact ⟨vs, e.trans q, r.stab s⟩
  | dN φ kvs => obtain ⟨vs, q, r⟩ := h; exact ⟨vs, e.trans q, r.stab s⟩
  | sD φ kvs => obtain ⟨vs, q, r⟩ := h; exact ⟨vs, e.trans q, r.stab s⟩
  | tab q => obtain ⟨ps, e1, e2, e3⟩ := h; exact ⟨ps, e.trans e1, e2, fun pos cv hc => (e3 pos cv hc).keep fun b o x h => s.frzs b o _ h⟩
/-- laid at a place that was free, of no concern to M -/
theorem RelM.beside {u : HO} (h : RelM K H M) (hn : H p = Option.none) : RelM K (upd H p u) M := fun b o e => by
  have hb : b ≠ p := fun z => by subst z; obtain ⟨w, q⟩ := (h b o e).some; rw [hn] at q; cases q
  exact (h b o e).at (Stab.new hn) (upd_ne hb)
theorem RelM.write {u : HO} (h : RelM K H M) (s : Stab H (upd H p u)) (new : RelO K (upd H p u) p o) : RelM K (upd H p u) (updM M p o) := fun b w e => by
  by_cases hb : b = p
  · subst hb; rw [updM_same] at e; cases e; exact new
  · rw [updM_ne hb] at e
    exact (h b w e).at s (upd_ne hb)
end

abbrev USt := List (Option U)
structure RelS (K : PySem.W.Frag) (H : Hp) (σ : USt) (τ : L2.St) : Prop where
  len : σ.length = τ.length
  get : ∀ (i : Nat) (u : U), σ[i]? = some (some u) → ∃ v, τ[i]? = some (some v) ∧ RelU K H u v
theorem RelS.stab {K : PySem.W.Frag} {H H' : Hp} (s : Stab H H') {σ : USt} {τ : L2.St} (h : RelS K H σ τ) : RelS K H' σ τ :=
  ⟨h.len, fun i u e => let ⟨v, e1, e2⟩ := h.get i u e; ⟨v, e1, e2.stab s⟩⟩
theorem RelS.set {K : PySem.W.Frag} {H : Hp} {σ : USt} {τ : L2.St} (h : RelS K H σ τ) {u : U} {v : V} (r : RelU K H u v) (i : Nat) : RelS K H (σ.set i (some u)) (τ.set i (some v)) :=
  ⟨by simp [h.len], fun j w e => by
    by_cases hj : i = j
    · subst hj
      by_cases hl : i < σ.length
      · rw [List.getElem?_set_self hl] at e; cases e
        exact ⟨v, by rw [List.getElem?_set_self (by rw [← h.len]; exact hl)], r⟩
      · rw [List.getElem?_eq_none (by simpa using hl)] at e; cases e
    · rw [List.getElem?_set_ne hj] at e ⊢
      exact h.get j w e⟩
theorem RelS.unset {K : PySem.W.Frag} {H : Hp} {σ : USt} {τ : L2.St} (h : RelS K H σ τ) (i : Nat) (o : Option V) : RelS K H (σ.set i none) (τ.set i o) :=
  ⟨by simp [h.len], fun j w e => by
    by_cases hj : i = j
    · subst hj
      by_cases hl : i < σ.length
      · rw [List.getElem?_set_self hl] at e; cases e
      · rw [List.getElem?_eq_none (by simpa using hl)] at e; cases e
    · rw [List.getElem?_set_ne hj] at e ⊢
      exact h.get j w e⟩

/-! ### the judgements -/
abbrev UK := U → UHp → Prop
abbrev UTE := USt → UHp → UK → Prop
abbrev UTT := USt → UHp → (Bool → UHp → Prop) → Prop
abbrev UTA := USt → UHp → (List U → UHp → Prop) → Prop
structure UEnds where
  nx : USt → UHp → Prop
  rt : UK
  bk : USt → UHp → Prop := fun _ _ => False
  ct : USt → UHp → Prop := fun _ _ => False
abbrev UTS := UEnds → USt → UHp → Prop
abbrev UTG := U → USt → UHp → (USt → UHp → Prop) → Prop

def UpK (K : PySem.W.Frag) (H : Hp) (Qu : UK) (Q : VK) : Prop := ∀ x M' v H', Qu x M' → Stab H H' → RelM K H' M' → RelU K H' x v → Q v H'
def UpB (K : PySem.W.Frag) (H : Hp) (Qu : Bool → UHp → Prop) (Q : Bool → Hp → Prop) : Prop := ∀ b M' H', Qu b M' → Stab H H' → RelM K H' M' → Q b H'
def UpA (K : PySem.W.Frag) (H : Hp) (Qu : List U → UHp → Prop) (Q : List V → Hp → Prop) : Prop := ∀ xs M' vs H', Qu xs M' → Stab H H' → RelM K H' M' → RelUs K H' xs vs → Q vs H'
def UpS (K : PySem.W.Frag) (H : Hp) (Qu : USt → UHp → Prop) (Q : L2.St → Hp → Prop) : Prop := ∀ σ' M' τ' H', Qu σ' M' → Stab H H' → RelM K H' M' → RelS K H' σ' τ' → Q τ' H'
structure UpD (K : PySem.W.Frag) (H : Hp) (Du : UEnds) (D : Ends) : Prop where
  nx : UpS K H Du.nx D.nx
  rt : UpK K H Du.rt D.rt
  bk : UpS K H Du.bk D.bk
  ct : UpS K H Du.ct D.ct
section
variable {K : PySem.W.Frag} {H H' : Hp}
theorem UpK.from {Qu : UK} {Q : VK} (h : UpK K H Qu Q) (s : Stab H H') : UpK K H' Qu Q := fun x M' v H2 q s2 m r => h x M' v H2 q (s.trans s2) m r
theorem UpB.from {Qu : Bool → UHp → Prop} {Q : Bool → Hp → Prop} (h : UpB K H Qu Q) (s : Stab H H') : UpB K H' Qu Q := fun x M' H2 q s2 m => h x M' H2 q (s.trans s2) m
theorem UpA.from {Qu : List U → UHp → Prop} {Q : List V → Hp → Prop} (h : UpA K H Qu Q) (s : Stab H H') : UpA K H' Qu Q := fun x M' v H2 q s2 m r => h x M' v H2 q (s.trans s2) m r
theorem UpS.from {Qu : USt → UHp → Prop} {Q : L2.St → Hp → Prop} (h : UpS K H Qu Q) (s : Stab H H') : UpS K H' Qu Q := fun x M' v H2 q s2 m r => h x M' v H2 q (s.trans s2) m r
theorem UpD.from {Qu : UEnds} {Q : Ends} (h : UpD K H Qu Q) (s : Stab H H') : UpD K H' Qu Q := ⟨h.nx.from s, h.rt.from s, h.bk.from s, h.ct.from s⟩
end
def dnE (K : PySem.W.Frag) (t : UTE) : TE := fun τ H Q => ∃ σ M Qu, RelS K H σ τ ∧ RelM K H M ∧ t σ M Qu ∧ UpK K H Qu Q
def dnT (K : PySem.W.Frag) (t : UTT) : TT := fun τ H Q => ∃ σ M Qu, RelS K H σ τ ∧ RelM K H M ∧ t σ M Qu ∧ UpB K H Qu Q
def dnA (K : PySem.W.Frag) (t : UTA) : TA := fun τ H Q => ∃ σ M Qu, RelS K H σ τ ∧ RelM K H M ∧ t σ M Qu ∧ UpA K H Qu Q
def dnS (K : PySem.W.Frag) (t : UTS) : TS := fun D τ H => ∃ σ M Du, RelS K H σ τ ∧ RelM K H M ∧ t Du σ M ∧ UpD K H Du D
def dnG (K : PySem.W.Frag) (t : UTG) : TG := fun v τ H Q => ∃ u σ M Qu, RelU K H u v ∧ RelS K H σ τ ∧ RelM K H M ∧ t u σ M Qu ∧ UpS K H Qu Q
abbrev UE (X : Cx) (e : Expr) (t : UTE) : Prop := PE X e (dnE X.K t)
abbrev UT (X : Cx) (e : Expr) (t : UTT) : Prop := PT X e (dnT X.K t)
abbrev UW (X : Cx) (e : Expr) (t : UTT) : Prop := PW X e (dnT X.K t)
abbrev UA (X : Cx) (es : List Expr) (t : UTA) : Prop := PA X es (dnA X.K t)
abbrev US (X : Cx) (st : Stmt) (t : UTS) : Prop := PS X st (dnS X.K t)
abbrev USs (X : Cx) (st : List Stmt) (t : UTS) : Prop := PSs X st (dnS X.K t)
abbrev UG (X : Cx) (e : Expr) (t : UTG) : Prop := PG X e (dnG X.K t)
section
variable {X : Cx}
theorem PE.mono {e : Expr} {t t' : TE} (h : PE X e t) (w : ∀ σ H Q, t' σ H Q → t σ H Q) : PE X e t' := ⟨fun pins s σ H Q I q => h.run pins s σ H Q I (w σ H Q q)⟩
theorem PT.mono {e : Expr} {t t' : TT} (h : PT X e t) (w : ∀ σ H Q, t' σ H Q → t σ H Q) : PT X e t' := ⟨fun pins s σ H Q I q => h.run pins s σ H Q I (w σ H Q q)⟩
theorem PW.mono {e : Expr} {t t' : TT} (h : PW X e t) (w : ∀ σ H Q, t' σ H Q → t σ H Q) : PW X e t' := ⟨fun wh pins s σ H Q I q => h.run wh pins s σ H Q I (w σ H Q q)⟩
theorem PA.mono {es : List Expr} {t t' : TA} (h : PA X es t) (w : ∀ σ H Q, t' σ H Q → t σ H Q) : PA X es t' := ⟨fun pos pins s σ H Q I q => h.run pos pins s σ H Q I (w σ H Q q)⟩
theorem PS.mono {st : Stmt} {t t' : TS} (h : PS X st t) (w : ∀ D σ H, t' D σ H → t D σ H) : PS X st t' := ⟨fun pins s σ H D I q => h.run pins s σ H D I (w D σ H q)⟩
theorem PSs.mono {st : List Stmt} {t t' : TS} (h : PSs X st t) (w : ∀ D σ H, t' D σ H → t D σ H) : PSs X st t' := ⟨fun pins s σ H D I q => h.run pins s σ H D I (w D σ H q)⟩
theorem PG.mono {e : Expr} {t t' : TG} (h : PG X e t) (w : ∀ v σ H Q, t' v σ H Q → t v σ H Q) : PG X e t' := ⟨fun pins s σ H v u Q I r q => h.run pins s σ H v u Q I r (w v σ H Q q)⟩

/-! ### names, constants -/
def uVar (i : Nat) (σ : USt) (M : UHp) (Q : UK) : Prop := ∃ v, σ[i]? = some (some v) ∧ Q v M
def uC (v : U) (_ : USt) (M : UHp) (Q : UK) : Prop := Q v M
theorem uv (i : Nat) {x : Str} {pos : Pos} (hN : X.N[i]? = some x := by rfl) (hv : Vis X.env.scope x := by first | exact Or.inl rfl | exact Or.inr (Or.inl rfl) | exact Or.inr (Or.inr rfl)) (hd : (x == ("__debug__" : Str)) = false := by decide)
    (hcd : (x == ("__classdict__" : Str)) = false := by decide) : UE X (.Name x pos) (uVar i) := PE.mono (pe_var hN hv hd hcd) fun τ H Q h => by
  obtain ⟨σ, M, Qu, rs, rm, ⟨u, e, q⟩, up⟩ := h
  obtain ⟨v, e1, r⟩ := rs.get i u e
  exact ⟨v, e1, up u M v H q (Stab.refl H) rm r⟩
theorem dn_c {c : U} {v : V} (r : ∀ H, RelU X.K H c v) : ∀ σ H Q, dnE X.K (uC c) σ H Q → tC v σ H Q := fun τ H Q h => by
  obtain ⟨σ, M, Qu, rs, rm, q, up⟩ := h
  exact up c M v H q (Stab.refl H) rm (r H)
theorem ue_int {i j pos} : UE X (.Constant (.int i) j pos) (uC (.int i)) := PE.mono pe_int (dn_c fun _ => rfl)
theorem ue_bl {b j pos} : UE X (.Constant (.bool b) j pos) (uC (.bl b)) := PE.mono pe_bl (dn_c fun _ => rfl)
theorem ue_non {j pos} : UE X (.Constant .none j pos) (uC .non) := PE.mono pe_non (dn_c fun _ => rfl)
theorem ue_str {x j pos} (hx : okS x = true := by decide +kernel) : UE X (.Constant (.str x) j pos) (uC (.str x)) := PE.mono pe_str (dn_c fun _ => ⟨rfl, hx⟩)
/-- a module's constant -/
theorem ue_glob {x : Str} {c : U} {v : V} {u : Value} {pos : Pos} (hg : Gl X x) (hm : X.mg x = some u) (r : RelV v u) (ru : ∀ H, RelU X.K H c v) (hd : (x == ("__debug__" : Str)) = false := by decide) : UE X (.Name x pos) (uC c) := PE.mono (pe_glob hg hm r hd) (dn_c ru)
theorem ue_bltn {x : Str} {n : String} {pos : Pos} (hg : Gl X x) (hm : X.mg x = none) (hv : bootBuiltins x = some (.type n)) (hn : x ≠ "__name__" := by decide) (hd : (x == ("__debug__" : Str)) = false := by decide) : UE X (.Name x pos) (uC (.ty n)) := PE.mono (pe_bltn (v := .ty n) hg hm hv rfl hn hd) (dn_c fun _ => rfl)

/-! ### operators by values -/
abbrev UR2 := U → U → UHp → UK → Prop
def dn2 (K : PySem.W.Frag) (r : UR2) : R2 := fun v w H Q => ∃ x y M Qu, RelU K H x v ∧ RelU K H y w ∧ RelM K H M ∧ r x y M Qu ∧ UpK K H Qu Q
abbrev UOpR (X : Cx) (f : Value → Value → Sem Value) (r : UR2) : Prop := OpR X f (dn2 X.K r)
theorem OpR.mono {f : Value → Value → Sem Value} {r r' : R2} (h : OpR X f r) (w : ∀ x y H Q, r' x y H Q → r x y H Q) : OpR X f r' := fun pins s σ H x y v u Q I rx ry q => h pins s σ H x y v u Q I rx ry (w x y H Q q)
def uOp (r : UR2) (ta tb : UTE) (σ : USt) (M : UHp) (Q : UK) : Prop := ta σ M fun x M1 => tb σ M1 fun y M2 => r x y M2 Q
theorem dn_op {r : UR2} {ta tb : UTE} : ∀ σ H Q, dnE X.K (uOp r ta tb) σ H Q → tOp (dn2 X.K r) (dnE X.K ta) (dnE X.K tb) σ H Q := fun τ H Q h => by
  obtain ⟨σ, M, Qu, rs, rm, q, up⟩ := h
  refine ⟨σ, M, _, rs, rm, q, fun x M1 v H1 q1 s1 m1 r1 => ?_⟩
  refine ⟨σ, M1, _, rs.stab s1, m1, q1, fun y M2 w H2 q2 s2 m2 r2 => ?_⟩
  exact ⟨x, y, M2, Qu, r1.stab s2, r2, m2, q2, up.from (s1.trans s2)⟩
variable {a b : Expr} {ta tb : UTE} {pos : Pos}
theorem ue_op {op : Operator} {r : UR2} (ho : UOpR X (binaryOp op) r) (ha : UE X a ta) (hb : UE X b tb) : UE X (.BinOp a op b pos) (uOp r ta tb) := PE.mono (pe_op ho ha hb) dn_op
theorem ue_cmp {op : CmpOp} {r : UR2} (ho : UOpR X (compareOp op) r) (ha : UE X a ta) (hb : UE X b tb) (hm : behindInMarks op b = false) : UE X (.Compare a [op] [b] pos) (uOp r ta tb) := PE.mono (pe_cmpR ho ha hb hm) dn_op
/-- a value that is a bool, as a test -/
def uB (t : UTE) (σ : USt) (M : UHp) (Q : Bool → UHp → Prop) : Prop := t σ M fun x M' => ∃ k, x = .bl k ∧ Q k M'
theorem dn_b {t : UTE} {r : TE} (w : ∀ σ H Q, dnE X.K t σ H Q → r σ H Q) : ∀ σ H Q, dnT X.K (uB t) σ H Q → tTest r σ H Q := fun τ H Q h => by
  obtain ⟨σ, M, Qu, rs, rm, q, up⟩ := h
  refine w _ _ _ ⟨σ, M, _, rs, rm, q, fun x M1 v H1 q1 s1 m1 r1 => ?_⟩
  obtain ⟨k, rfl, q⟩ := q1
  obtain rfl := r1
  exact ⟨k, rfl, up k M1 H1 q s1 m1⟩
theorem ut_cmp {op : CmpOp} {r : UR2} (ho : UOpR X (compareOp op) r) (ha : UE X a ta) (hb : UE X b tb) (hm : behindInMarks op b = false) : UT X (.Compare a [op] [b] pos) (uB (uOp r ta tb)) := PT.mono (pt_cmpR ho ha hb hm) (dn_b dn_op)
def uChain (r r' : UR2) (ta tb tc : UTE) (σ : USt) (M : UHp) (Q : UK) : Prop := ta σ M fun x M1 => tb σ M1 fun y M2 => r x y M2 fun z M3 => ∃ k, z = .bl k ∧
  (if k = true then tc σ M3 fun w' M4 => r' y w' M4 Q else Q (.bl false) M3)
theorem dn_chain {r r' : UR2} {ta tb tc : UTE} : ∀ σ H Q, dnE X.K (uChain r r' ta tb tc) σ H Q → tChain (dn2 X.K r) (dn2 X.K r') (dnE X.K ta) (dnE X.K tb) (dnE X.K tc) σ H Q := fun τ H Q h => by
  obtain ⟨σ, M, Qu, rs, rm, q, up⟩ := h
  refine ⟨σ, M, _, rs, rm, q, fun x M1 v H1 q1 s1 m1 r1 => ?_⟩
  refine ⟨σ, M1, _, rs.stab s1, m1, q1, fun y M2 w H2 q2 s2 m2 r2 => ?_⟩
  refine ⟨x, y, M2, _, r1.stab s2, r2, m2, q2, fun z M3 v3 H3 q3 s3 m3 r3 => ?_⟩
  obtain ⟨k, rfl, q3⟩ := q3
  obtain rfl := r3
  refine ⟨k, rfl, ?_⟩
  cases k with
  | false =>
    simp only [Bool.false_eq_true,if_false] at q3 ⊢
    exact up _ M3 _ H3 q3 ((s1.trans s2).trans s3) m3 rfl
  | true =>
    simp only [if_true] at q3 ⊢
    refine ⟨σ, M3, _, rs.stab ((s1.trans s2).trans s3), m3, q3, fun w' M4 v4 H4 q4 s4 m4 r4 => ?_⟩
    exact ⟨y, w', M4, Qu, r2.stab (s3.trans s4), r4, m4, q4, up.from (((s1.trans s2).trans s3).trans s4)⟩
theorem ut_chain {c : Expr} {tc : UTE} {op op' : CmpOp} {r r' : UR2} (ho : UOpR X (compareOp op) r) (ho' : UOpR X (compareOp op') r') (ha : UE X a ta) (hb : UE X b tb) (hc : UE X c tc)
    (hm : lastMarks [op, op'] [b, c] = false := by with_unfolding_all rfl) : UT X (.Compare a [op, op'] [b, c] pos) (uB (uChain r r' ta tb tc)) := PT.mono (pt_chain ho ho' ha hb hc hm) (dn_b dn_chain)
abbrev UR1 := U → UHp → UK → Prop
def dn1 (K : PySem.W.Frag) (r : UR1) : V → Hp → VK → Prop := fun v H Q => ∃ x M Qu, RelU K H x v ∧ RelM K H M ∧ r x M Qu ∧ UpK K H Qu Q
def uUn (r : UR1) (ta : UTE) (σ : USt) (M : UHp) (Q : UK) : Prop := ta σ M fun x M1 => r x M1 Q
theorem ue_un {op : UnaryOp} {r : UR1} (ho : UnR X (unaryOp op) (dn1 X.K r)) (ha : UE X a ta) : UE X (.UnaryOp op a pos) (uUn r ta) := PE.mono (pe_un ho ha) fun τ H Q h => by
  obtain ⟨σ, M, Qu, rs, rm, q, up⟩ := h
  refine ⟨σ, M, _, rs, rm, q, fun x M1 v H1 q1 s1 m1 r1 => ?_⟩
  exact ⟨x, M1, Qu, r1, m1, q1, up.from s1⟩

/-! ### truth -/
def truU (M : UHp) : U → Option Bool
  | .non => some false
  | .bl b => some b
  | .int i => some (i != 0)
  | .str x => some ((x.length : Int) != 0)
  | .tup xs => some (!xs.isEmpty)
  | .lst xs => some (!xs.isEmpty)
  | .ref a => match M a with
    | some (.lst xs) => some (!xs.isEmpty)
    | some (.dK kvs) => some (!kvs.isEmpty)
    | _ => none
  | .ty _ => none
theorem isEmpty_us {K : PySem.W.Frag} {H : Hp} {xs : List U} {vs : List V} (r : RelUs K H xs vs) : xs.isEmpty = vs.isEmpty := by
  cases xs with
  | nil => obtain rfl := r; rfl
  | cons x xs => obtain ⟨v, t, rfl, _⟩ := r; rfl
theorem isEmpty_ks {κ : Type} {K : PySem.W.Frag} {H : Hp} {xs : List (κ × U)} {vs : List (κ × V)} (r : RelKs K H xs vs) : xs.isEmpty = vs.isEmpty := by
  cases xs with
  | nil => obtain rfl := r; rfl
  | cons x xs => obtain ⟨v, t, rfl, _⟩ := r; rfl
theorem tru_dn {K : PySem.W.Frag} {H : Hp} {M : UHp} {x : U} {v : V} {k : Bool} (rm : RelM K H M) (r : RelU K H x v) (h : truU M x = some k) : TruV K v H k := by
  cases x with
  | non => obtain rfl := r; simp only [truU,Option.some.injEq] at h; exact h.symm
  | bl b => obtain rfl := r; simp only [truU,Option.some.injEq] at h; exact h.symm
  | int i => obtain rfl := r; simp only [truU,Option.some.injEq] at h; exact h.symm
  | str y => obtain ⟨rfl, z⟩ := r; simp only [truU,Option.some.injEq] at h; exact ⟨okS.len z, h.symm⟩
  | ty n => simp [truU] at h
  | tup xs =>
    obtain ⟨a, vs, rfl, q, t⟩ := r
    simp only [truU,Option.some.injEq] at h
    exact .inr (.inl ⟨vs, q, by rw [← h, isEmpty_us t]⟩)
  | lst xs =>
    obtain ⟨a, vs, rfl, q, t⟩ := r
    simp only [truU,Option.some.injEq] at h
    exact .inl ⟨vs, q.sq, by rw [← h, isEmpty_us t]⟩
  | ref a =>
    obtain rfl := r
    simp only [truU] at h
    cases e : M a with
    | none => rw [e] at h; cases h
    | some o =>
      rw [e] at h
      have ro := rm a o e
      cases o with
      | lst xs => obtain ⟨vs, q, t⟩ := ro; simp only [Option.some.injEq] at h; exact .inl ⟨vs, SqL.of q, by rw [← h, isEmpty_us t]⟩
      | dK kvs => obtain ⟨vs, q, t⟩ := ro; simp only [Option.some.injEq] at h; exact .inr (.inr ⟨vs, q, by rw [← h, isEmpty_ks t]⟩)
      | ins _ _ _ => cases h
      | xd _ => cases h
      | raw _ => cases h
      | exd _ => cases h
      | dN _ _ => cases h
      | sD _ _ => cases h
      | tab _ => cases h
def uTru (t : UTE) (σ : USt) (M : UHp) (Q : Bool → UHp → Prop) : Prop := t σ M fun x M' => ∃ k, truU M' x = some k ∧ Q k M'
theorem ut_val (ha : UE X a ta) (he : ∀ whole, isTrue a X.env whole = (do let v ← whole; standAt a.pos; holding [v] (truthy v)) := by intro _; rfl) : UT X a (uTru ta) := PT.mono (pt_truth ha he) fun τ H Q h => by
  obtain ⟨σ, M, Qu, rs, rm, q, up⟩ := h
  refine ⟨σ, M, _, rs, rm, q, fun x M1 v H1 q1 s1 m1 r1 => ?_⟩
  obtain ⟨k, e, q⟩ := q1
  exact ⟨k, tru_dn m1 r1 e, up k M1 H1 q s1 m1⟩

/-! ### and, or, not, if -/
variable {rest : List Expr} {t u : UTT}
def z8d (t u : UTT) (σ : USt) (M : UHp) (Q : Bool → UHp → Prop) : Prop := t σ M fun c M1 => if c = true then u σ M1 Q else Q false M1
def uOr (t u : UTT) (σ : USt) (M : UHp) (Q : Bool → UHp → Prop) : Prop := t σ M fun c M1 => if c = true then Q true M1 else u σ M1 Q
def z8m (t : UTT) (σ : USt) (M : UHp) (Q : Bool → UHp → Prop) : Prop := t σ M fun c M1 => Q (!c) M1
theorem uw_and1 (ha : UT X a t) : UW X (.BoolOp .And [a] pos) t := pw_and1 ha
theorem uw_or1 (ha : UT X a t) : UW X (.BoolOp .Or [a] pos) t := pw_or1 ha
theorem uw_and (ha : UT X a t) (hb : UW X (.BoolOp .And (b :: rest) pos) u) : UW X (.BoolOp .And (a :: b :: rest) pos) (z8d t u) := PW.mono (pw_and ha hb) fun τ H Q h => by
  obtain ⟨σ, M, Qu, rs, rm, q, up⟩ := h
  refine ⟨σ, M, _, rs, rm, q, fun c M1 H1 q1 s1 m1 => ?_⟩
  cases c with
  | true =>
    simp only [if_true] at q1 ⊢
    exact ⟨σ, M1, _, rs.stab s1, m1, q1, up.from s1⟩
  | false =>
    simp only [Bool.false_eq_true,if_false] at q1 ⊢
    exact up _ M1 H1 q1 s1 m1
theorem uw_or (ha : UT X a t) (hb : UW X (.BoolOp .Or (b :: rest) pos) u) : UW X (.BoolOp .Or (a :: b :: rest) pos) (uOr t u) := PW.mono (pw_or ha hb) fun τ H Q h => by
  obtain ⟨σ, M, Qu, rs, rm, q, up⟩ := h
  refine ⟨σ, M, _, rs, rm, q, fun c M1 H1 q1 s1 m1 => ?_⟩
  cases c with
  | true =>
    simp only [if_true] at q1 ⊢
    exact up _ M1 H1 q1 s1 m1
  | false =>
    simp only [Bool.false_eq_true,if_false] at q1 ⊢
    exact ⟨σ, M1, _, rs.stab s1, m1, q1, up.from s1⟩
theorem ut_not (ha : UT X a t) : UT X (.UnaryOp .Not a pos) (z8m t) := PT.mono (pt_not ha) fun τ H Q h => by
  obtain ⟨σ, M, Qu, rs, rm, q, up⟩ := h
  exact ⟨σ, M, _, rs, rm, q, fun c M1 H1 q1 s1 m1 => up (!c) M1 H1 q1 s1 m1⟩
def uIf (t : UTT) (ta tb : UTE) (σ : USt) (M : UHp) (Q : UK) : Prop := t σ M fun c M1 => if c = true then ta σ M1 Q else tb σ M1 Q
theorem ue_if {c : Expr} (hc : UT X c t) (ha : UE X a ta) (hb : UE X b tb) : UE X (.IfExp c a b pos) (uIf t ta tb) := PE.mono (pe_ifExp hc ha hb) fun τ H Q h => by
  obtain ⟨σ, M, Qu, rs, rm, q, up⟩ := h
  refine ⟨σ, M, _, rs, rm, q, fun c M1 H1 q1 s1 m1 => ?_⟩
  cases c with
  | true =>
    simp only [if_true] at q1 ⊢
    exact ⟨σ, M1, _, rs.stab s1, m1, q1, up.from s1⟩
  | false =>
    simp only [Bool.false_eq_true,if_false] at q1 ⊢
    exact ⟨σ, M1, _, rs.stab s1, m1, q1, up.from s1⟩

/-! ### argument lists -/
def z8l (_ : USt) (M : UHp) (Q : List U → UHp → Prop) : Prop := Q [] M
def z7t (ta : UTE) (tr : UTA) (σ : USt) (M : UHp) (Q : List U → UHp → Prop) : Prop := ta σ M fun x M1 => tr σ M1 fun xs M2 => Q (x :: xs) M2
theorem ua_nil : UA X [] z8l := PA.mono pa_nil fun τ H Q h => by
  obtain ⟨σ, M, Qu, rs, rm, q, up⟩ := h
  exact up [] M [] H q (Stab.refl H) rm RelUs.nil
theorem ua_cons {e : Expr} {es : List Expr} {te : UTE} {tr : UTA} (ha : UE X e te) (hr : UA X es tr) (hs : starEach (e :: es) X.env = (false, eval e X.env) :: starEach es X.env := by rfl) : UA X (e :: es) (z7t te tr) := PA.mono (pa_cons ha hr hs) fun τ H Q h => by
  obtain ⟨σ, M, Qu, rs, rm, q, up⟩ := h
  refine ⟨σ, M, _, rs, rm, q, fun x M1 v H1 q1 s1 m1 r1 => ?_⟩
  refine ⟨σ, M1, _, rs.stab s1, m1, q1, fun xs M2 vs H2 q2 s2 m2 r2 => ?_⟩
  exact up _ M2 _ H2 q2 (s1.trans s2) m2 (RelUs.cons (r1.stab s2) r2)

/-! ### statements -/
variable {st : Stmt} {sts : List Stmt} {p q : UTS} {e : Expr} {te : UTE}
def z7w (D : UEnds) (σ : USt) (M : UHp) : Prop := D.nx σ M
def z8q (t u : UTS) (D : UEnds) (σ : USt) (M : UHp) : Prop := t { D with nx := u D } σ M
theorem uss_nil : USs X [] z7w := PSs.mono pss_nil fun D τ H h => by
  obtain ⟨σ, M, Du, rs, rm, q, up⟩ := h
  exact up.nx σ M τ H q (Stab.refl H) rm rs
theorem uss_cons (h1 : US X st p) (h2 : USs X sts q) : USs X (st :: sts) (z8q p q) := PSs.mono (pss_cons h1 h2) fun D τ H h => by
  obtain ⟨σ, M, Du, rs, rm, q, up⟩ := h
  refine ⟨σ, M, _, rs, rm, q, ⟨fun σ1 M1 τ1 H1 q1 s1 m1 r1 => ?_, up.rt, up.bk, up.ct⟩⟩
  exact ⟨σ1, M1, Du, r1, m1, q1, up.from s1⟩
theorem uss_one (h1 : US X st p) : USs X [st] p := pss_one h1
def z7u (te : UTE) (D : UEnds) (σ : USt) (M : UHp) : Prop := te σ M fun _ M1 => D.nx σ M1
theorem us_expr (he : UE X e te) (hs : swapsWith e none pos.line X.env = pure false := by rfl) : US X (.Expr e pos) (z7u te) := PS.mono (ps_expr he hs) fun D τ H h => by
  obtain ⟨σ, M, Du, rs, rm, q, up⟩ := h
  exact ⟨σ, M, _, rs, rm, q, fun x M1 v H1 q1 s1 m1 r1 => up.nx σ M1 τ H1 q1 s1 m1 (rs.stab s1)⟩
def z8o (te : UTE) (D : UEnds) (σ : USt) (M : UHp) : Prop := te σ M D.rt
theorem us_ret (he : UE X e te) : US X (.Return (some e) pos) (z8o te) := PS.mono (ps_ret he) fun D τ H h => by
  obtain ⟨σ, M, Du, rs, rm, q, up⟩ := h
  exact ⟨σ, M, _, rs, rm, q, up.rt⟩
def z8i (c : UTT) (t u : UTS) (D : UEnds) (σ : USt) (M : UHp) : Prop := c σ M fun b M1 => if b = true then t D σ M1 else u D σ M1
theorem us_if {c : Expr} {as bs : List Stmt} (hc : UT X c t) (ha : USs X as p) (hb : USs X bs q) : US X (.If c as bs pos) (z8i t p q) := PS.mono (ps_if hc ha hb) fun D τ H h => by
  obtain ⟨σ, M, Du, rs, rm, q, up⟩ := h
  refine ⟨σ, M, _, rs, rm, q, fun c M1 H1 q1 s1 m1 => ?_⟩
  cases c with
  | true =>
    simp only [if_true] at q1 ⊢
    exact ⟨σ, M1, _, rs.stab s1, m1, q1, up.from s1⟩
  | false =>
    simp only [Bool.false_eq_true,if_false] at q1 ⊢
    exact ⟨σ, M1, _, rs.stab s1, m1, q1, up.from s1⟩
/-! ### targets -/
def z7v (i : Nat) (v : U) (σ : USt) (M : UHp) (Q : USt → UHp → Prop) : Prop := Q (σ.set i (some v)) M
theorem ug_name {i : Nat} {x : Str} (hN : X.N.Nodup) (hi : X.N[i]? = some x) (hx : Loc X.env.scope x) (hf : X.fn x = true ∨ X.env.scope.names.lookup x = some .local := by first | exact .inl rfl | exact .inr rfl | assumption) : UG X (.Name x pos) (z7v i) :=
  PG.mono (pg_name hN hi hx hf) fun v τ H Q h => by
    obtain ⟨u, σ, M, Qu, ru, rs, rm, q, up⟩ := h
    exact up _ M _ H q (Stab.refl H) rm (rs.set ru i)
def z8e (te : UTE) (g : UTG) (D : UEnds) (σ : USt) (M : UHp) : Prop := te σ M fun x M1 => g x σ M1 D.nx
theorem us_asg {tg : Expr} {g : UTG} (he : UE X e te) (hg : UG X tg g) (hs : swapsWithSole [tg] e pos.line X.env = pure false := by rfl) (hw : swappedStores [tg] e X.env = pure none := by rfl)
    (h1 : (assignEach [tg] X.env).map (·.2) = [assign tg X.env] := by rfl) : US X (.Assign [tg] e pos) (z8e te g) := PS.mono (ps_asg he hg hs hw h1) fun D τ H h => by
  obtain ⟨σ, M, Du, rs, rm, q, up⟩ := h
  refine ⟨σ, M, _, rs, rm, q, fun x M1 v H1 q1 s1 m1 r1 => ?_⟩
  exact ⟨x, σ, M1, _, r1, rs.stab s1, m1, q1, up.nx.from s1⟩
theorem us_set {i : Nat} {x : Str} {pos' : Pos} (hN : X.N.Nodup) (hi : X.N[i]? = some x) (hx : Loc X.env.scope x) (he : UE X e te) (hs : swapsWith e (some (.Name x pos')) pos.line X.env = pure false := by rfl)
    (hf : X.fn x = true ∨ X.env.scope.names.lookup x = some .local := by first | exact .inl rfl | exact .inr rfl | assumption) : US X (.Assign [.Name x pos'] e pos) (z8e te (z7v i)) := PS.mono (ps_set hN hi hx he hs hf) fun D τ H h => by
  obtain ⟨σ, M, Du, rs, rm, q, up⟩ := h
  refine ⟨σ, M, _, rs, rm, q, fun x M1 v H1 q1 s1 m1 r1 => ?_⟩
  exact up.nx _ M1 _ H1 q1 s1 m1 ((rs.stab s1).set r1 i)
/-- a, b = .. of a tuple or a list of that length -/
abbrev UTGs := List U → USt → UHp → (USt → UHp → Prop) → Prop
def dnGs (K : PySem.W.Frag) (t : UTGs) : TGs := fun vs τ H Q => ∃ us σ M Qu, RelUs K H us vs ∧ RelS K H σ τ ∧ RelM K H M ∧ t us σ M Qu ∧ UpS K H Qu Q
abbrev UGs (X : Cx) (es : List Expr) (t : UTGs) : Prop := PGs X es (dnGs X.K t)
def ugNil (us : List U) (σ : USt) (M : UHp) (Q : USt → UHp → Prop) : Prop := us = [] ∧ Q σ M
def ugCons (t : UTG) (u : UTGs) (us : List U) (σ : USt) (M : UHp) (Q : USt → UHp → Prop) : Prop := ∃ v r, us = v :: r ∧ t v σ M fun σ' M' => u r σ' M' Q
theorem PGs.mono {es : List Expr} {t t' : TGs} (h : PGs X es t) (w : ∀ v σ H Q, t' v σ H Q → t v σ H Q) : PGs X es t' := ⟨fun pins s σ H v u Q I r q => h.run pins s σ H v u Q I r (w v σ H Q q)⟩
theorem ugs_nil : UGs X [] ugNil := PGs.mono pgs_nil fun vs τ H Q h => by
  obtain ⟨us, σ, M, Qu, ru, rs, rm, ⟨rfl, q⟩, up⟩ := h
  obtain rfl := ru
  exact ⟨rfl, up _ M _ H q (Stab.refl H) rm rs⟩
theorem ugs_cons {es : List Expr} {g : UTG} {gs : UTGs} (h1 : UG X e g) (h2 : UGs X es gs) (hs : (assignEach (e :: es) X.env).map (·.2) = assign e X.env :: (assignEach es X.env).map (·.2) := by rfl) : UGs X (e :: es) (ugCons g gs) :=
  PGs.mono (pgs_cons h1 h2 hs) fun vs τ H Q h => by
    obtain ⟨us, σ, M, Qu, ru, rs, rm, ⟨x, r, rfl, q⟩, up⟩ := h
    obtain ⟨v, vr, rfl, r1, r2⟩ := ru
    refine ⟨v, vr, rfl, x, σ, M, _, r1, rs, rm, q, fun σ1 M1 τ1 H1 q1 s1 m1 t1 => ?_⟩
    exact ⟨r, σ1, M1, Qu, r2.stab s1, t1, m1, q1, up.from s1⟩
def ugTup (n : Nat) (t : UTGs) (v : U) (σ : USt) (M : UHp) (Q : USt → UHp → Prop) : Prop := ∃ xs, v = .tup xs ∧ xs.length = n ∧ t xs σ M Q
theorem ug_tup {es : List Expr} {k : Nat} {gs : UTGs} {n : Nat} (hc : X.calm = true) (h : UGs X es gs)
    (hn : (assignEach es X.env).length = n := by rfl) (hst : (assignEach es X.env).findIdx? (·.1) = none := by rfl) : UG X (.Tuple es k pos) (ugTup n gs) :=
  PG.mono (pg_tup hc h hn hst) fun v τ H Q h => by
    obtain ⟨u, σ, M, Qu, ru, rs, rm, ⟨xs, rfl, hl, q⟩, up⟩ := h
    obtain ⟨a, vs, rfl, hq, r⟩ := ru
    exact ⟨a, vs, rfl, hq, by rw [← hl, r.length], xs, σ, M, Qu, r, rs, rm, q, up⟩
end
end PU

set_option Elab.async false
set_option linter.all false
set_option maxRecDepth 100000
/-! UOps: operators, built-ins and methods over U. -/
namespace PU
open PySem PySem.Spec PyProof.Rows L2

/-! ### freezing a list -/
def FzQ (Q : VK) : VK := fun v H => Q v H ∨ ∃ a xs, v = .ref a ∧ H a = some (.lst xs) ∧ ∀ o, Q v (upd H a (.frz o (.lst xs)))
theorem ep_fz {X : Cx} {pins : List (Addr × Obj)} {σ : L2.St} {Q : VK} {u : Value} {s : Shared} (h : EP X pins σ (FzQ Q) u s) : EP X pins σ Q u s := by
  obtain ⟨v, H, I, r, q⟩ := h
  rcases q with q | ⟨a, xs, rfl, e, q⟩
  · exact ⟨v, H, I, r, q⟩
  · obtain ⟨od, I1⟩ := I.lock e True.intro
    exact ⟨.ref a, _, I1, r, q od⟩
/-- a new list: by address (m = true), or by value -/
def newL (m : Bool) (xs : List U) (M : UHp) (Q : UK) : Prop := if m = true then ∀ p, M p = none → Q (.ref p) (updM M p (.lst xs)) else Q (.lst xs) M
theorem newL_dn {K : PySem.W.Frag} {H : Hp} {M : UHp} {Qu : UK} {Q : VK} {m : Bool} {xs : List U} {vs : List V} (rm : RelM K H M) (up : UpK K H Qu Q) (r : RelUs K H xs vs) (h : newL m xs M Qu) :
    ∀ p, H p = none → FzQ Q (.ref p) (upd H p (.lst vs)) := fun p hp => by
  cases m with
  | true =>
    have h : ∀ p, M p = none → Qu (.ref p) (updM M p (.lst xs)) := h
    have s := Stab.new (o := .lst vs) hp
    exact .inl (up _ _ _ _ (h p (rm.none hp)) s (rm.write s ⟨vs, upd_same, r.stab s⟩) rfl)
  | false =>
    have h : Qu (.lst xs) M := h
    refine .inr ⟨p, vs, rfl, upd_same, fun o => ?_⟩
    rw [upd_upd]
    have s := Stab.new (o := .frz o (.lst vs)) hp
    exact up _ _ _ _ h s (rm.beside hp) ⟨p, vs, rfl, .inl ⟨o, upd_same⟩, r.stab s⟩
theorem newT_dn {K : PySem.W.Frag} {H : Hp} {M : UHp} {Qu : UK} {Q : VK} {xs : List U} {vs : List V} (rm : RelM K H M) (up : UpK K H Qu Q) (r : RelUs K H xs vs) (h : Qu (.tup xs) M) :
    ∀ p o, H p = none → o.dict = none → Q (.ref p) (upd H p (.frz o (.tup vs))) := fun p o hp ho => by
  have s := Stab.new (o := .frz o (.tup vs)) hp
  exact up _ _ _ _ h s (rm.beside hp) ⟨p, vs, rfl, .inl (.inl ⟨o, upd_same, ho⟩), r.stab s⟩
/-! the rules that make tuples, with the tuple's object known -/
section
variable {X : Cx}
theorem laidT {pins : List (Addr × Obj)} {τ : L2.St} {H : Hp} {s : Shared} {h' : Heap} {tk : Nat} {xs : List V} {its : List Value} (I : Inv X pins τ H s) (k : ∀ b o, s.heap.get? b = some o → h'.get? b = some o) (hn : H h'.objs.size = none) (hs : s.heap.objs.size ≤ h'.objs.size) (r : Vals xs its) (hz : xs.length ≤ sizeLine) :
    Inv X pins τ (upd H h'.objs.size (.frz { cls := .type "tuple", data := .seq its.toArray } (.tup xs))) { s with heap := h'.push { cls := .type "tuple", data := .seq its.toArray }, toks := tk } :=
  I.laid (t' := tk) (a := h'.objs.size) (o := .frz { cls := .type "tuple", data := .seq its.toArray } (.tup xs)) (fun b o e => Heap.get?_push_of_some _ (k b o e)) hs ⟨Heap.get?_push_size _ rfl, hz, its, r, IsTup.new _ _⟩
def tTupD (t : TA) : TE := fun σ H Q => t σ H fun xs H1 => xs.length ≤ sizeLine ∧ ∀ p o, H1 p = none → o.dict = none → Q (.ref p) (upd H1 p (.frz o (.tup xs)))
theorem pe_tupD {es : List Expr} {t : TA} {pos : Pos} {x1} (h : PA X es t) : PE X (.Tuple es x1 pos) (tTupD t) := by
  constructor
  intro pins s σ H Q I hq
  refine wpAny_Tuple_spliced (thn (h.run pos pins s σ H _ I hq) fun us s1 h1 => ?_)
  obtain ⟨xs, H1, I1, r, z, q⟩ := h1
  have hn := I1.hok.fresh (Nat.le_refl s1.heap.objs.size)
  exact ⟨by rw [← r.length]; exact z, .ref s1.heap.objs.size, _, laidT (tk := s1.toks) I1 (fun _ _ e => e) hn (Nat.le_refl _) r z, rfl, q _ _ hn rfl⟩
theorem call_tupleD : CallR X (.type "tuple") (fun xs H Q => ∃ p ys, xs = [.ref p] ∧ ((SqL X.K H p ys ∧ ∀ l o, H l = none → o.dict = none → Q (.ref l) (upd H l (.frz o (.tup ys)))) ∨ (SqT X.K H p ys ∧ Q (.ref p) H))) := by
  intro pins s σ H xs us Q I r h
  obtain ⟨p, ys, rfl, ⟨hq, q⟩ | h⟩ := h
  · cases r with
    | cons r1 r2 =>
      cases r2
      cases r1
      obtain ⟨its, r', pl, hz⟩ := I.list hq
      have hlen := r'.length
      refine call_tuple_list pl.isList (fun h' kp => ?_) (by simp only [List.size_toArray] <;> omega)
      have hn : H h'.objs.size = none := by
        have I1 : Inv X pins σ H { s with heap := h' } := I.kept (t' := s.toks) kp
        exact I1.hok.fresh (Nat.le_refl _)
      have I1 : Inv X pins σ H { s with heap := h' } := I.kept (t' := s.toks) kp
      exact ⟨.ref h'.objs.size, _, laidT (s := { s with heap := h' }) (tk := s.toks) I1 (fun _ _ e => e) hn (Nat.le_refl _) r' hz, rfl, q _ _ hn rfl⟩
  · exact call_tuple_of pins s σ H _ us Q I r ⟨p, ys, rfl, .inr h⟩
def rCatD (K : PySem.W.Frag) : R2 := fun x y H Q => ∃ a b xs ys, x = .ref a ∧ y = .ref b ∧ SqT K H a xs ∧ SqT K H b ys ∧ xs.length + ys.length ≤ sizeLine ∧
  (xs = [] → Q (.ref b) H) ∧ (xs ≠ [] → ys = [] → Q (.ref a) H) ∧ (xs ≠ [] → ys ≠ [] → ∀ p o, H p = none → o.dict = none → Q (.ref p) (upd H p (.frz o (.tup (xs ++ ys)))))
theorem op_catD : OpR X (binaryOp .Add) (rCatD X.K) := by
  intro pins s σ H x y v u Q I rx ry h
  obtain ⟨a, b, xs, ys, rfl, rfl, ha, hb, hz, q0, q1, q2⟩ := h
  cases rx
  cases ry
  obtain ⟨its, r1, p1, _⟩ := I.tuple ha
  obtain ⟨its2, r2, p2, _⟩ := I.tuple hb
  by_cases hx : xs = []
  · subst hx
    cases r1
    exact cat_tup0 p1 p2 ⟨.ref b, H, I, rfl, q0 rfl⟩
  · have hn := I.hok.fresh (Nat.le_refl s.heap.objs.size)
    refine HT.cat_tup p1 p2 (fun z => hx (r1.nil_iff.mp z)) (fun z => ⟨.ref a, H, I, rfl, q1 hx (r2.nil_iff.mp z)⟩) (fun z => ?_) (by rw [← r1.length, ← r2.length]; exact hz)
    exact ⟨.ref s.heap.objs.size, _, laidT (tk := s.toks) I (fun _ _ e => e) hn (Nat.le_refl _) (r1.append r2) (by rw [List.length_append]; exact hz), rfl, q2 hx (fun w => z (r2.nil_iff.mpr w)) _ _ hn rfl⟩
def rSlD (K : PySem.W.Frag) : V → Option Int → Option Int → Hp → VK → Prop := fun x lo hi H Q => ∃ a xs, x = .ref a ∧ SqT K H a xs ∧
  (HT.sIx xs.length 0 lo = 0 ∧ HT.sIx xs.length xs.length hi = xs.length → Q (.ref a) H) ∧ (¬ (HT.sIx xs.length 0 lo = 0 ∧ HT.sIx xs.length xs.length hi = xs.length) → ∀ p o, H p = none → o.dict = none → Q (.ref p) (upd H p (.frz o (.tup (cutV xs lo hi)))))
theorem sl_tupD : SlR X (rSlD X.K) := by
  intro pins s σ H x v vl vu lo hi sl Q I rx hs pl pu h
  obtain ⟨a, xs, rfl, hx, q1, q2⟩ := h
  by_cases hw : HT.sIx xs.length 0 lo = 0 ∧ HT.sIx xs.length xs.length hi = xs.length
  · exact sl_tupA pins s σ H _ v vl vu lo hi sl Q I rx hs pl pu ⟨a, xs, rfl, hx, q1, fun h => absurd hw h⟩
  · cases rx
    obtain ⟨its, r, ht, hz⟩ := I.tuple hx
    have hlen : its.toArray.size = xs.length := by rw [List.size_toArray]; exact r.length.symm
    have hn := I.hok.fresh (Nat.le_refl s.heap.objs.size)
    refine ⟨"tuple", _, PyProof.Rows.slot_tuple_getitem.lookup, ht.typeIs, ?_⟩
    refine HT.getItem_tuple_cut ht hs pl pu (by rw [hlen]; exact hw) ?_ (by rw [hlen]; exact hz)
    rw [hlen]
    have rr := (r.drop (HT.sIx xs.length 0 lo)).take (HT.sIx xs.length xs.length hi - HT.sIx xs.length 0 lo)
    exact ⟨.ref s.heap.objs.size, _, laidT (tk := s.toks) I (fun _ _ e => e) hn (Nat.le_refl _) rr (Nat.le_trans (cutV_length xs lo hi) hz), rfl, q2 hw _ _ hn rfl⟩
end

/-! ### what is a sequence -/
def listU (M : UHp) : U → Option (List U)
  | .lst xs => some xs
  | .ref a => match M a with
    | some (.lst xs) => some xs
    | _ => none
  | _ => none
def seqU (M : UHp) : U → Option (List U)
  | .tup xs => some xs
  | .lst xs => some xs
  | .ref a => match M a with
    | some (.lst xs) => some xs
    | _ => none
  | _ => none
theorem list_dn {K : PySem.W.Frag} {H : Hp} {M : UHp} {x : U} {v : V} {xs : List U} (rm : RelM K H M) (r : RelU K H x v) (h : listU M x = some xs) : ∃ a vs, v = .ref a ∧ SqL K H a vs ∧ RelUs K H xs vs := by
  cases x with
  | lst ys =>
    obtain ⟨a, vs, rfl, q, t⟩ := r
    simp only [listU,Option.some.injEq] at h; subst h
    exact ⟨a, vs, rfl, q.sq, t⟩
  | ref a =>
    obtain rfl := r
    simp only [listU] at h
    cases e : M a with
    | none => rw [e] at h; cases h
    | some o =>
      rw [e] at h
      cases o with
      | lst ys =>
        simp only [Option.some.injEq] at h; subst h
        obtain ⟨vs, q, t⟩ := rm a _ e
        exact ⟨a, vs, rfl, SqL.of q, t⟩
      | _ => cases h
  | _ => simp [listU] at h
theorem seq_dn {K : PySem.W.Frag} {H : Hp} {M : UHp} {x : U} {v : V} {xs : List U} (rm : RelM K H M) (r : RelU K H x v) (h : seqU M x = some xs) : ∃ a vs, v = .ref a ∧ (SqL K H a vs ∨ SqX K H a vs) ∧ RelUs K H xs vs := by
  cases x with
  | tup ys =>
    obtain ⟨a, vs, rfl, q, t⟩ := r
    simp only [seqU,Option.some.injEq] at h; subst h
    exact ⟨a, vs, rfl, .inr q, t⟩
  | lst ys =>
    obtain ⟨a, vs, e, q, t⟩ := list_dn (x := .lst ys) rm r (by simpa [seqU, listU] using h)
    exact ⟨a, vs, e, .inl q, t⟩
  | ref a =>
    obtain ⟨b, vs, e, q, t⟩ := list_dn (x := .ref a) rm r (by simpa [seqU, listU] using h)
    exact ⟨b, vs, e, .inl q, t⟩
  | _ => simp [seqU] at h

/-! ### data, for == and repr -/
mutual
def toD : U → Option PyData
  | .non => some .none
  | .bl b => some (.bool b)
  | .int i => some (.int i)
  | .str x => some (.str x)
  | .tup xs => (toDs xs).map .tuple
  | .lst xs => (toDs xs).map .list
  | .ref _ => none
  | .ty _ => none
def toDs : List U → Option (List PyData)
  | [] => some []
  | x :: xs => match toD x, toDs xs with
    | some d, some ds => some (d :: ds)
    | _, _ => none
end
/-- a mutable list of data by its items -/
def val (M : UHp) : U → U
  | .ref a => match M a with
    | some (.lst xs) => .lst xs
    | _ => .ref a
  | x => x
mutual
def isD : U → Bool
  | .non => true
  | .bl _ => true
  | .int _ => true
  | .str x => okS x
  | .tup xs => isDs xs
  | .lst xs => isDs xs
  | .ref _ => false
  | .ty _ => false
def isDs : List U → Bool
  | [] => true
  | x :: xs => isD x && isDs xs
end
mutual
/-- the depth of nesting -/
def dep : U → Nat
  | .tup xs => deps xs + 1
  | .lst xs => deps xs + 1
  | _ => 0
def deps : List U → Nat
  | [] => 0
  | x :: xs => max (dep x) (deps xs)
end
mutual
/-- == of data -/
def ueq : U → U → Bool
  | .non, .non => true
  | .bl a, .bl b => a == b
  | .bl a, .int j => (if a then 1 else 0) == j
  | .int i, .bl b => i == (if b then 1 else 0)
  | .int i, .int j => i == j
  | .str x, .str y => x == y
  | .lst xs, .lst ys => ueqs xs ys
  | .tup xs, .tup ys => ueqs xs ys
  | _, _ => false
def ueqs : List U → List U → Bool
  | [], [] => true
  | x :: xs, y :: ys => ueq x y && ueqs xs ys
  | _, _ => false
end
mutual
theorem toD_some : ∀ x : U, isD x = true → ∃ d, toD x = some d ∧ d.canLay0 = true
  | .non, _ => ⟨_, rfl, by simp [PyData.canLay0]⟩
  | .bl _, _ => ⟨_, rfl, by simp [PyData.canLay0]⟩
  | .int _, _ => ⟨_, rfl, by simp [PyData.canLay0]⟩
  | .str x, h => ⟨_, rfl, by simp only [PyData.canLay0]; exact okS.ok (by simpa [isD] using h)⟩
  | .tup xs, h => by
    obtain ⟨ds, e, q⟩ := toDs_some xs (by simpa [isD] using h)
    exact ⟨_, by simp [toD, e]; rfl, by simpa [PyData.canLay0] using q⟩
  | .lst xs, h => by
    obtain ⟨ds, e, q⟩ := toDs_some xs (by simpa [isD] using h)
    exact ⟨_, by simp [toD, e]; rfl, by simpa [PyData.canLay0] using q⟩
  | .ref _, h => by simp [isD] at h
  | .ty _, h => by simp [isD] at h
theorem toDs_some : ∀ xs : List U, isDs xs = true → ∃ ds, toDs xs = some ds ∧ PyData.canLayAll0 ds = true
  | [], _ => ⟨[], rfl, by simp [PyData.canLayAll0]⟩
  | x :: xs, h => by
    simp only [isDs,Bool.and_eq_true] at h
    obtain ⟨d, e, q⟩ := toD_some x h.1
    obtain ⟨ds, e2, q2⟩ := toDs_some xs h.2
    exact ⟨d :: ds, by simp [toDs, e, e2], by simp [PyData.canLayAll0, q, q2]⟩
end
mutual
theorem dep_toD : ∀ (x : U) (d : PyData), toD x = some d → d.depth = dep x
  | .non, _, h => by simp [toD] at h; subst h; simp [PyData.depth, dep]
  | .bl _, _, h => by simp [toD] at h; subst h; simp [PyData.depth, dep]
  | .int _, _, h => by simp [toD] at h; subst h; simp [PyData.depth, dep]
  | .str _, _, h => by simp [toD] at h; subst h; simp [PyData.depth, dep]
  | .tup xs, d, h => by
    simp only [toD,Option.map_eq_some_iff] at h
    obtain ⟨ds, e, rfl⟩ := h
    simp [PyData.depth, dep, deps_toD xs ds e]
  | .lst xs, d, h => by
    simp only [toD,Option.map_eq_some_iff] at h
    obtain ⟨ds, e, rfl⟩ := h
    simp [PyData.depth, dep, deps_toD xs ds e]
  | .ref _, _, h => by simp [toD] at h
  | .ty _, _, h => by simp [toD] at h
theorem deps_toD : ∀ (xs : List U) (ds : List PyData), toDs xs = some ds → PyData.depthAll ds = deps xs
  | [], _, h => by simp [toDs] at h; subst h; simp [PyData.depthAll, deps]
  | x :: xs, ds, h => by
    simp only [toDs] at h
    cases e : toD x with
    | none => rw [e] at h; simp at h
    | some d =>
      cases e2 : toDs xs with
      | none => rw [e, e2] at h; simp at h
      | some es =>
        rw [e, e2] at h
        simp only [Option.some.injEq] at h
        subst h
        simp [PyData.depthAll, deps, dep_toD x d e, deps_toD xs es e2]
end
mutual
theorem eqv_toD : ∀ (x y : U) (d e : PyData), toD x = some d → toD y = some e → PyData.eqv d e = ueq x y
  | x, y, d, e, hx, hy => by
    cases x <;> simp only [toD,Option.some.injEq,Option.map_eq_some_iff,reduceCtorEq] at hx <;>
    cases y <;> simp only [toD,Option.some.injEq,Option.map_eq_some_iff,reduceCtorEq] at hy <;>
    (try subst hx) <;> (try subst hy) <;> (try obtain ⟨ds, ex, rfl⟩ := hx) <;> (try obtain ⟨es, ey, rfl⟩ := hy) <;>
    (try simp only [PyData.eqv,ueq]) <;> (try exact eqvs_toD _ _ _ _ ex ey)
theorem eqvs_toD : ∀ (xs ys : List U) (ds es : List PyData), toDs xs = some ds → toDs ys = some es → PyData.eqvAll ds es = ueqs xs ys
  | [], ys, ds, es, hx, hy => by
    simp only [toDs,Option.some.injEq] at hx; subst hx
    cases ys with
    | nil => simp only [toDs,Option.some.injEq] at hy; subst hy; simp [PyData.eqvAll, ueqs]
    | cons y ys =>
      simp only [toDs] at hy
      cases e : toD y <;> cases e2 : toDs ys <;> rw [e, e2] at hy <;> simp at hy
      subst hy; simp [PyData.eqvAll, ueqs]
  | x :: xs, ys, ds, es, hx, hy => by
    simp only [toDs] at hx
    cases ex : toD x <;> cases ex2 : toDs xs <;> rw [ex, ex2] at hx <;> simp at hx
    subst hx
    cases ys with
    | nil => simp only [toDs,Option.some.injEq] at hy; subst hy; simp [PyData.eqvAll, ueqs]
    | cons y ys =>
      simp only [toDs] at hy
      cases ey : toD y <;> cases ey2 : toDs ys <;> rw [ey, ey2] at hy <;> simp at hy
      subst hy
      simp only [PyData.eqvAll,ueqs]
      rw [eqv_toD x y _ _ ex ey, eqvs_toD xs ys _ _ ex2 ey2]
end
mutual
theorem dp_of {K : PySem.W.Frag} {H : Hp} : ∀ (x : U) (v : V) (d : PyData), RelU K H x v → toD x = some d → Dp K H v d
  | .non, _, _, r, h => by obtain rfl := r; simp [toD] at h; subst h; exact .non
  | .bl _, _, _, r, h => by obtain rfl := r; simp [toD] at h; subst h; exact .bl _
  | .int _, _, _, r, h => by obtain rfl := r; simp [toD] at h; subst h; exact .int _
  | .str _, _, _, r, h => by obtain ⟨rfl, _⟩ := r; simp [toD] at h; subst h; exact .str _
  | .ref _, _, _, _, h => by simp [toD] at h
  | .ty _, _, _, _, h => by simp [toD] at h
  | .tup xs, v, d, r, h => by
    simp only [toD,Option.map_eq_some_iff] at h
    obtain ⟨ds, e, rfl⟩ := h
    obtain ⟨a, vs, rfl, q, t⟩ := r
    exact .tup q (dps_of xs vs ds t e)
  | .lst xs, v, d, r, h => by
    simp only [toD,Option.map_eq_some_iff] at h
    obtain ⟨ds, e, rfl⟩ := h
    obtain ⟨a, vs, rfl, q, t⟩ := r
    exact .lst q.sq (dps_of xs vs ds t e)
theorem dps_of {K : PySem.W.Frag} {H : Hp} : ∀ (xs : List U) (vs : List V) (ds : List PyData), RelUs K H xs vs → toDs xs = some ds → DpAll K H vs ds
  | [], _, _, r, h => by obtain rfl := r; simp [toDs] at h; subst h; exact .nil
  | x :: xs, vs, ds, r, h => by
    simp only [toDs] at h
    obtain ⟨v, w, rfl, r1, r2⟩ := r
    cases e : toD x <;> cases e2 : toDs xs <;> rw [e, e2] at h <;> simp at h
    subst h
    exact .cons (dp_of x v _ r1 e) (dps_of xs w _ r2 e2)
end
theorem dp_val {K : PySem.W.Frag} {H : Hp} {M : UHp} {x : U} {v : V} {d : PyData} (rm : RelM K H M) (r : RelU K H x v) (h : toD (val M x) = some d) : Dp K H v d := by
  cases x with
  | ref a =>
    simp only [val] at h
    cases e : M a with
    | none => rw [e] at h; simp [toD] at h
    | some o =>
      rw [e] at h
      cases o with
      | lst xs =>
        simp only [toD,Option.map_eq_some_iff] at h
        obtain ⟨ds, e2, rfl⟩ := h
        obtain rfl := r
        obtain ⟨vs, q, t⟩ := rm a _ e
        exact .lst (SqL.of q) (dps_of xs vs ds t e2)
      | _ => simp [toD] at h
  | _ => exact dp_of _ v d r (by simpa [val] using h)

/-! ### operators -/
section
variable {X : Cx}
def addR (m : Bool) (x : U) (y : U) (M : UHp) (Q : UK) : Prop := match x, y with
  | .int i, .int j => Q (.int (i + j)) M
  | .str a, .str b => a.length + b.length ≤ sizeLine ∧ Q (.str (a ++ b)) M
  | .tup a, .tup b => a.length + b.length ≤ sizeLine ∧ Q (.tup (a ++ b)) M
  | x, y => ∃ xs ys, listU M x = some xs ∧ listU M y = some ys ∧ xs.length + ys.length ≤ sizeLine ∧ newL m (xs ++ ys) M Q
theorem str_len_append (a b : Str) : (a ++ b).length = a.length + b.length := strLen_append a b
theorem okS.app {a b : Str} (ha : okS a = true) (hb : okS b = true) (h : a.length + b.length ≤ sizeLine) : okS (a ++ b) = true := by
  have h1 := okS.ok ha
  have h2 := okS.ok hb
  unfold okS
  rw [Bool.and_eq_true]
  refine ⟨decide_eq_true (by rw [str_len_append]; exact h), ?_⟩
  unfold PyData.strOk at *
  show ((a.cps ++ b.cps).all (· < 0x110000)) = true
  rw [Array.all_append, h1, h2]; rfl
def rCatL (K : PySem.W.Frag) : R2 := fun x y H Q => ∃ l b xs zs, x = .ref l ∧ y = .ref b ∧ SqL K H l xs ∧ SqL K H b zs ∧ xs.length + zs.length ≤ sizeLine ∧ ∀ p, H p = none → FzQ Q (.ref p) (upd H p (.lst (xs ++ zs)))
theorem op_catL : OpR X (binaryOp .Add) (rCatL X.K) := by
  intro pins s σ H x y v u Q I rx ry h
  obtain ⟨l, b, xs, zs, rfl, rfl, hH, hB, hz, q⟩ := h
  cases rx
  cases ry
  obtain ⟨its, r, ⟨⟨cls, dd, data, sl⟩, n, ho, hc, _, hd⟩, _⟩ := I.list hH
  obtain ⟨its2, r2, ⟨⟨cls2, dd2, data2, sl2⟩, n2, ho2, hc2, _, hd2⟩, _⟩ := I.list hB
  simp only at hc hd hc2 hd2
  subst hc hd hc2 hd2
  have hl := r.length
  have hl2 := r2.length
  have hlen : its.length + its2.length ≤ sizeLine := by omega
  refine wpAny_mono (Q := EP X pins σ (FzQ Q)) (E := X.xe) ?_ (fun _ _ => ep_fz) (fun _ _ h => h)
  refine concat_meets ⟨_, ho, rfl⟩ ⟨_, ho2, rfl⟩ noFill_list_add seq_list_add PySem.F.slot_list_add PySem.F.entry_list_add (PySem.F.args_list_add_2 _ _) (list_addW l b its.toArray its2.toArray n n2 dd dd2 sl sl2 (by simpa using hlen)) ⟨ho, ho2, ?_⟩
  have ea : its.toArray ++ its2.toArray = (its ++ its2).toArray := by simp
  rw [ea]
  exact ⟨.ref _, _, I.lnew (t' := s.toks) (r.append r2) (by rw [List.length_append]; omega), rfl, q _ I.fresh⟩
theorem uo_add (m : Bool) : UOpR X (binaryOp .Add) (addR m) := by
  refine OpR.mono (OpR.or op_add (OpR.or op_add_str (OpR.or op_catD op_catL))) fun v w H Q h => ?_
  obtain ⟨x, y, M, Qu, r1, r2, rm, q, up⟩ := h
  unfold addR at q
  split at q
  · obtain rfl := r1; obtain rfl := r2
    exact .inl ⟨_, _, rfl, rfl, up _ _ _ _ q (Stab.refl H) rm rfl⟩
  · obtain ⟨rfl, z1⟩ := r1; obtain ⟨rfl, z2⟩ := r2
    exact .inr (.inl ⟨_, _, rfl, rfl, q.1, up _ _ _ _ q.2 (Stab.refl H) rm ⟨rfl, okS.app z1 z2 q.1⟩⟩)
  · rename_i as bs
    obtain ⟨a, vs, rfl, h1, t1⟩ := r1
    obtain ⟨b, ws, rfl, h2, t2⟩ := r2
    refine .inr (.inr (.inl ⟨a, b, vs, ws, rfl, rfl, h1, h2, by rw [← t1.length, ← t2.length]; exact q.1, fun e => ?_, fun _ e => ?_, fun _ _ => ?_⟩))
    · subst e
      have : as = [] := by cases as with
        | nil => rfl
        | cons _ _ => obtain ⟨_, _, e, _⟩ := t1; cases e
      subst this
      exact up _ _ _ _ q.2 (Stab.refl H) rm ⟨b, ws, rfl, h2, t2⟩
    · subst e
      have : bs = [] := by cases bs with
        | nil => rfl
        | cons _ _ => obtain ⟨_, _, e, _⟩ := t2; cases e
      subst this
      exact up _ _ _ _ q.2 (Stab.refl H) rm ⟨a, vs, rfl, h1, by simpa using t1⟩
    · exact newT_dn rm up (t1.append t2) q.2
  · obtain ⟨xs, ys, e1, e2, hz, q⟩ := q
    obtain ⟨a, vs, rfl, h1, t1⟩ := list_dn rm r1 e1
    obtain ⟨b, ws, rfl, h2, t2⟩ := list_dn rm r2 e2
    exact .inr (.inr (.inr ⟨a, b, vs, ws, rfl, rfl, h1, h2, by rw [← t1.length, ← t2.length]; exact hz, newL_dn rm up (t1.append t2) q⟩))
def subR (x : U) (y : U) (M : UHp) (Q : UK) : Prop := match x, y with
  | .int i, .int j => Q (.int (i - j)) M
  | _, _ => False
theorem uo_sub : UOpR X (binaryOp .Sub) subR := OpR.mono op_sub fun v w H Q h => by
  obtain ⟨x, y, M, Qu, r1, r2, rm, q, up⟩ := h
  unfold subR at q
  split at q
  · obtain rfl := r1; obtain rfl := r2
    exact ⟨_, _, rfl, rfl, up _ _ _ _ q (Stab.refl H) rm rfl⟩
  · exact q.elim
def delM (M : UHp) (a : Addr) : UHp := fun b => if b = a then none else M b
/-- m: the new list by address; d: the old one is of no concern any more -/
def mulR (m d : Bool) (x : U) (y : U) (M : UHp) (Q : UK) : Prop := match x, y with
  | .int i, .int j => CMul i j ∧ Q (.int (i * j)) M
  | .ref a, .int k => ∃ xs, M a = some (.lst xs) ∧ -(2 ^ 63) ≤ k ∧ k < 2 ^ 63 ∧ xs.length * k.toNat ≤ sizeLine ∧ newL m (List.replicate k.toNat xs).flatten (if d = true then delM M a else M) Q
  | _, _ => False
theorem RelM.less {K : PySem.W.Frag} {H : Hp} {M : UHp} (rm : RelM K H M) (d : Bool) (a : Addr) : RelM K H (if d = true then delM M a else M) := by
  cases d with
  | false => exact rm
  | true =>
    intro b o e
    have e : delM M a b = some o := e
    unfold delM at e
    by_cases h : b = a
    · rw [if_pos h] at e; cases e
    · rw [if_neg h] at e; exact rm b o e
theorem RelUs.rep {K : PySem.W.Frag} {H : Hp} {xs : List U} {vs : List V} (r : RelUs K H xs vs) : ∀ n : Nat, RelUs K H (List.replicate n xs).flatten (List.replicate n vs).flatten
  | 0 => RelUs.nil
  | n + 1 => by
    rw [List.replicate_succ, List.replicate_succ, List.flatten_cons, List.flatten_cons]
    exact r.append (RelUs.rep r n)
theorem OpR.fz {f : Value → Value → Sem Value} {r r' : R2} (h : OpR X f r) (w : ∀ x y H Q, r' x y H Q → r x y H (FzQ Q)) : OpR X f r' := fun pins s σ H x y v u Q I rx ry q => thn (h pins s σ H x y v u (FzQ Q) I rx ry (w x y H Q q)) fun _ _ => ep_fz
theorem uo_mul (m d : Bool) : UOpR X (binaryOp .Mult) (mulR m d) := by
  refine OpR.mono (OpR.or op_mul (OpR.fz (r' := fun x y H Q => rRep x y H (FzQ Q)) op_rep fun x y H Q h => h)) fun v w H Q h => ?_
  obtain ⟨x, y, M, Qu, r1, r2, rm, q, up⟩ := h
  unfold mulR at q
  split at q
  · obtain rfl := r1; obtain rfl := r2
    exact .inl ⟨_, _, rfl, rfl, q.1, up _ _ _ _ q.2 (Stab.refl H) rm rfl⟩
  · rename_i a k
    obtain rfl := r1; obtain rfl := r2
    obtain ⟨xs, e, h1, h2, h3, q⟩ := q
    obtain ⟨vs, e2, t⟩ := rm a _ e
    exact .inr ⟨a, k, vs, rfl, rfl, e2, h1, h2, by rw [← t.length]; exact h3, newL_dn (rm.less d a) up (t.rep _) q⟩
  · exact q.elim
def modR (x : U) (y : U) (M : UHp) (Q : UK) : Prop := match x, y with
  | .int i, .int j => 0 < j ∧ Q (.int (i % j)) M
  | _, _ => False
theorem uo_mod : UOpR X (binaryOp .Mod) modR := OpR.mono op_mod fun v w H Q h => by
  obtain ⟨x, y, M, Qu, r1, r2, rm, q, up⟩ := h
  unfold modR at q
  split at q
  · obtain rfl := r1; obtain rfl := r2
    exact ⟨_, _, rfl, rfl, q.1, up _ _ _ _ q.2 (Stab.refl H) rm rfl⟩
  · exact q.elim
def divR (x : U) (y : U) (M : UHp) (Q : UK) : Prop := match x, y with
  | .int i, .int j => CDiv i j ∧ Q (.int (i / j)) M
  | _, _ => False
theorem uo_div : UOpR X (binaryOp .FloorDiv) divR := OpR.mono op_fdiv fun v w H Q h => by
  obtain ⟨x, y, M, Qu, r1, r2, rm, q, up⟩ := h
  unfold divR at q
  split at q
  · obtain rfl := r1; obtain rfl := r2
    exact ⟨_, _, rfl, rfl, q.1, up _ _ _ _ q.2 (Stab.refl H) rm rfl⟩
  · exact q.elim
def powR (x : U) (y : U) (M : UHp) (Q : UK) : Prop := match x, y with
  | .int i, .int j => CPow i j ∧ Q (.int (i ^ j.toNat)) M
  | _, _ => False
theorem uo_pow : UOpR X (binaryOp .Pow) powR := OpR.mono op_pow fun v w H Q h => by
  obtain ⟨x, y, M, Qu, r1, r2, rm, q, up⟩ := h
  unfold powR at q
  split at q
  · obtain rfl := r1; obtain rfl := r2
    exact ⟨_, _, rfl, rfl, q.1, up _ _ _ _ q.2 (Stab.refl H) rm rfl⟩
  · exact q.elim
/-! comparisons -/
def eqR (x : U) (y : U) (M : UHp) (Q : UK) : Prop := isD (val M x) = true ∧ isD (val M y) = true ∧ (dep (val M x) ≤ 64 ∨ dep (val M y) ≤ 64) ∧ Q (.bl (ueq (val M x) (val M y))) M
def neR (x : U) (y : U) (M : UHp) (Q : UK) : Prop := isD (val M x) = true ∧ isD (val M y) = true ∧ (dep (val M x) ≤ 64 ∨ dep (val M y) ≤ 64) ∧ Q (.bl (!ueq (val M x) (val M y))) M
def rEqD2 (K : PySem.W.Frag) : R2 := fun x y H Q => ∃ d e, Dp K H x d ∧ Dp K H y e ∧ d.canLay0 = true ∧ e.canLay0 = true ∧ (d.depth ≤ 64 ∨ e.depth ≤ 64) ∧ Q (.bl (PyData.eqv d e)) H
def rNeD2 (K : PySem.W.Frag) : R2 := fun x y H Q => ∃ d e, Dp K H x d ∧ Dp K H y e ∧ d.canLay0 = true ∧ e.canLay0 = true ∧ (d.depth ≤ 64 ∨ e.depth ≤ 64) ∧ Q (.bl (!PyData.eqv d e)) H
theorem op_eqD2 (hu : X.A.units + 64 < cLine) : OpR X (compareOp .Eq) (rEqD2 X.K) := by
  intro pins s σ H x y v u Q I rx ry h
  obtain ⟨d, e, hd, he, sd, se, hm, q⟩ := h
  obtain ⟨as, r1⟩ := Dp.reads I d x v hd rx
  obtain ⟨bs, r2⟩ := Dp.reads I e y u he ry
  have h2 : min d.depth e.depth ≤ 64 := by
    have a1 : min d.depth e.depth ≤ d.depth := Nat.min_le_left _ _
    have a2 : min d.depth e.depth ≤ e.depth := Nat.min_le_right _ _
    omega
  exact SeqAt.compareEq_reads r1 r2 sd se (by omega) ⟨.bl _, H, I, rfl, q⟩
theorem op_neD2 (hu : X.A.units + 64 < cLine) : OpR X (compareOp .NotEq) (rNeD2 X.K) := by
  intro pins s σ H x y v u Q I rx ry h
  obtain ⟨d, e, hd, he, sd, se, hm, q⟩ := h
  obtain ⟨as, r1⟩ := Dp.reads I d x v hd rx
  obtain ⟨bs, r2⟩ := Dp.reads I e y u he ry
  have h2 : min d.depth e.depth ≤ 64 := by
    have a1 : min d.depth e.depth ≤ d.depth := Nat.min_le_left _ _
    have a2 : min d.depth e.depth ≤ e.depth := Nat.min_le_right _ _
    omega
  exact SeqAt.compareNe_reads r1 r2 sd se (by omega) ⟨.bl _, H, I, rfl, q⟩
theorem uo_eq (hu : X.A.units + 64 < cLine) : UOpR X (compareOp .Eq) eqR := OpR.mono (op_eqD2 hu) fun v w H Q h => by
  obtain ⟨x, y, M, Qu, r1, r2, rm, ⟨h1, h2, h3, q⟩, up⟩ := h
  obtain ⟨d, ed, cd⟩ := toD_some _ h1
  obtain ⟨e, ee, ce⟩ := toD_some _ h2
  refine ⟨d, e, dp_val rm r1 ed, dp_val rm r2 ee, cd, ce, ?_, ?_⟩
  · rw [dep_toD _ _ ed, dep_toD _ _ ee]; exact h3
  · rw [eqv_toD _ _ _ _ ed ee]; exact up _ _ _ _ q (Stab.refl H) rm rfl
theorem uo_ne (hu : X.A.units + 64 < cLine) : UOpR X (compareOp .NotEq) neR := OpR.mono (op_neD2 hu) fun v w H Q h => by
  obtain ⟨x, y, M, Qu, r1, r2, rm, ⟨h1, h2, h3, q⟩, up⟩ := h
  obtain ⟨d, ed, cd⟩ := toD_some _ h1
  obtain ⟨e, ee, ce⟩ := toD_some _ h2
  refine ⟨d, e, dp_val rm r1 ed, dp_val rm r2 ee, cd, ce, ?_, ?_⟩
  · rw [dep_toD _ _ ed, dep_toD _ _ ee]; exact h3
  · rw [eqv_toD _ _ _ _ ed ee]; exact up _ _ _ _ q (Stab.refl H) rm rfl
def ltR (x : U) (y : U) (M : UHp) (Q : UK) : Prop := match x, y with
  | .int i, .int j => Q (.bl (decide (i < j))) M
  | .str a, .str b => Q (.bl (decide (a.cps.toList < b.cps.toList))) M
  | _, _ => False
theorem uo_lt : UOpR X (compareOp .Lt) ltR := OpR.mono (OpR.or op_lt op_lt_str) fun v w H Q h => by
  obtain ⟨x, y, M, Qu, r1, r2, rm, q, up⟩ := h
  unfold ltR at q
  split at q
  · obtain rfl := r1; obtain rfl := r2
    exact .inl ⟨_, _, rfl, rfl, up _ _ _ _ q (Stab.refl H) rm rfl⟩
  · obtain ⟨rfl, _⟩ := r1; obtain ⟨rfl, _⟩ := r2
    exact .inr ⟨_, _, rfl, rfl, up _ _ _ _ q (Stab.refl H) rm rfl⟩
  · exact q.elim
def leR (x : U) (y : U) (M : UHp) (Q : UK) : Prop := match x, y with
  | .int i, .int j => Q (.bl (decide (i ≤ j))) M
  | _, _ => False
theorem uo_le : UOpR X (compareOp .LtE) leR := OpR.mono op_le fun v w H Q h => by
  obtain ⟨x, y, M, Qu, r1, r2, rm, q, up⟩ := h
  unfold leR at q
  split at q
  · obtain rfl := r1; obtain rfl := r2
    exact ⟨_, _, rfl, rfl, up _ _ _ _ q (Stab.refl H) rm rfl⟩
  · exact q.elim
def gtR (x : U) (y : U) (M : UHp) (Q : UK) : Prop := match x, y with
  | .int i, .int j => Q (.bl (decide (j < i))) M
  | _, _ => False
theorem uo_gt : UOpR X (compareOp .Gt) gtR := OpR.mono op_gt fun v w H Q h => by
  obtain ⟨x, y, M, Qu, r1, r2, rm, q, up⟩ := h
  unfold gtR at q
  split at q
  · obtain rfl := r1; obtain rfl := r2
    exact ⟨_, _, rfl, rfl, up _ _ _ _ q (Stab.refl H) rm rfl⟩
  · exact q.elim
def geR (x : U) (y : U) (M : UHp) (Q : UK) : Prop := match x, y with
  | .int i, .int j => Q (.bl (decide (j ≤ i))) M
  | _, _ => False
/-- is None -/
def isNon : U → Bool
  | .non => true
  | _ => false
def isnR (neg : Bool) (x : U) (y : U) (M : UHp) (Q : UK) : Prop := y = .non ∧ Q (.bl (if neg then !isNon x else isNon x)) M
theorem isn_dn {K : PySem.W.Frag} {H : Hp} {x : U} {v : V} (r : RelU K H x v) : decide (v = .non) = isNon x := by
  cases x with
  | non => obtain rfl := r; rfl
  | bl _ => obtain rfl := r; rfl
  | int _ => obtain rfl := r; rfl
  | str _ => obtain ⟨rfl, _⟩ := r; rfl
  | ref _ => obtain rfl := r; rfl
  | ty _ => obtain rfl := r; rfl
  | tup _ => obtain ⟨_, _, rfl, _⟩ := r; rfl
  | lst _ => obtain ⟨_, _, rfl, _⟩ := r; rfl
theorem uo_is : UOpR X (compareOp .Is) (isnR false) := OpR.mono op_isN fun v w H Q h => by
  obtain ⟨x, y, M, Qu, r1, r2, rm, ⟨rfl, q⟩, up⟩ := h
  obtain rfl := r2
  refine ⟨rfl, ?_⟩
  rw [isn_dn r1]
  exact up _ _ _ _ q (Stab.refl H) rm rfl
def negR (x : U) (M : UHp) (Q : UK) : Prop := match x with
  | .int i => Q (.int (-i)) M
  | _ => False
theorem uu_neg : UnR X (unaryOp .USub) (dn1 X.K negR) := fun pins s σ H v u Q I rv h => by
  obtain ⟨x, M, Qu, r1, rm, q, up⟩ := h
  unfold negR at q
  split at q
  · obtain rfl := r1
    exact un_neg pins s σ H _ u Q I rv ⟨_, rfl, up _ _ _ _ q (Stab.refl H) rm rfl⟩
  · exact q.elim
end
end PU

set_option Elab.async false
set_option linter.all false
set_option maxRecDepth 100000
/-! URepr: repr of data, its size. -/
namespace PU
open PySem PySem.Spec PyProof.Rows L2

def rep (x : U) : Str := match toD x with
  | some d => d.shown
  | none => Str.empty
mutual
/-- the integers are short enough to be written -/
def shw : U → Bool
  | .int i => decide (i.natAbs.log2 < 1920)
  | .tup xs => shws xs
  | .lst xs => shws xs
  | _ => true
def shws : List U → Bool
  | [] => true
  | x :: xs => shw x && shws xs
end
mutual
/-- a bound of the length of the text -/
def sz : U → Nat
  | .non => 4
  | .bl _ => 5
  | .int i => i.natAbs.log2 + 2
  | .str x => 10 * x.length + 2
  | .ref _ => 0
  | .ty _ => 0
  | .tup xs => szs xs + 4
  | .lst xs => szs xs + 4
def szs : List U → Nat
  | [] => 0
  | x :: xs => sz x + 2 + szs xs
end
mutual
theorem shw_toD : ∀ (x : U) (d : PyData), toD x = some d → shw x = true → d.showable = true
  | .non, _, h, _ => by simp [toD] at h; subst h; simp [PyData.showable]
  | .bl _, _, h, _ => by simp [toD] at h; subst h; simp [PyData.showable]
  | .int _, _, h, s => by simp [toD] at h; subst h; simpa [PyData.showable, shw] using s
  | .str _, _, h, _ => by simp [toD] at h; subst h; simp [PyData.showable]
  | .tup xs, d, h, s => by
    simp only [toD,Option.map_eq_some_iff] at h
    obtain ⟨ds, e, rfl⟩ := h
    simpa [PyData.showable] using shws_toD xs ds e (by simpa [shw] using s)
  | .lst xs, d, h, s => by
    simp only [toD,Option.map_eq_some_iff] at h
    obtain ⟨ds, e, rfl⟩ := h
    simpa [PyData.showable] using shws_toD xs ds e (by simpa [shw] using s)
  | .ref _, _, h, _ => by simp [toD] at h
  | .ty _, _, h, _ => by simp [toD] at h
theorem shws_toD : ∀ (xs : List U) (ds : List PyData), toDs xs = some ds → shws xs = true → PyData.showableAll ds = true
  | [], _, h, _ => by simp [toDs] at h; subst h; simp [PyData.showableAll]
  | x :: xs, ds, h, s => by
    simp only [toDs] at h
    simp only [shws,Bool.and_eq_true] at s
    cases e : toD x <;> cases e2 : toDs xs <;> rw [e, e2] at h <;> simp at h
    subst h
    simp [PyData.showableAll, shw_toD x _ e s.1, shws_toD xs _ e2 s.2]
end
/-! code points -/
theorem strOk_iff {x : Str} : PyData.strOk x = true ↔ ∀ c ∈ x.cps.toList, c < 0x110000 := by
  unfold PyData.strOk
  rw [Array.all_eq_true']
  constructor
  · intro h c hc; simpa using h c (by simpa using hc)
  · intro h c hc; simpa using h c (by simpa using hc)
theorem strOk_app {a b : Str} (ha : PyData.strOk a = true) (hb : PyData.strOk b = true) : PyData.strOk (a ++ b) = true := by
  rw [strOk_iff] at *
  intro c hc
  have : c ∈ (a.cps ++ b.cps).toList := hc
  rw [Array.toList_append, List.mem_append] at this
  rcases this with h | h
  · exact ha c h
  · exact hb c h
theorem strOk_ofString (s : String) : PyData.strOk (Str.ofString s) = true := by
  rw [strOk_iff]
  intro c hc
  have : c ∈ (cpsOfBytes 0 0 s.toByteArray.data.toList).toArray.toList := hc
  rw [List.toList_toArray, cpsOfBytes_string, List.mem_map] at this
  obtain ⟨ch, _, rfl⟩ := this
  have hv := ch.valid
  show ch.val.toNat < 0x110000
  rcases hv with h | ⟨_, h⟩
  · have : ch.val.toNat < 55296 := h
    omega
  · exact h
theorem reprChar_ok (q c : Nat) (hq : q < 0x110000) (hc : c < 0x110000) : ∀ d ∈ Builtin.Str.reprChar q c, d < 0x110000 := by
  have hd : ∀ d ∈ (Nat.toDigits 16 c).map Char.toNat, d < 0x110000 := by
    intro d hd
    rw [List.mem_map] at hd
    obtain ⟨ch, _, rfl⟩ := hd
    rcases ch.valid with h | ⟨_, h⟩
    · have : ch.val.toNat < 55296 := h
      show ch.val.toNat < _
      omega
    · exact h
  have hh : ∀ w, ∀ d ∈ List.replicate (w - ((Nat.toDigits 16 c).map Char.toNat).length) 48 ++ (Nat.toDigits 16 c).map Char.toNat, d < 0x110000 := by
    intro w d h
    rcases List.mem_append.mp h with h | h
    · have := (List.mem_replicate.mp h).2; omega
    · exact hd d h
  intro d h
  unfold Builtin.Str.reprChar at h
  simp only at h
  split at h
  · simp only [List.mem_cons,List.not_mem_nil,or_false] at h; omega
  · split at h
    · simp only [List.mem_cons,List.not_mem_nil,or_false] at h; omega
    · split at h
      · simp only [List.mem_cons,List.not_mem_nil,or_false] at h; omega
      · split at h
        · simp only [List.mem_cons,List.not_mem_nil,or_false] at h; omega
        · split at h
          · simp only [List.mem_cons,List.not_mem_nil,or_false] at h; omega
          · split at h
            · rcases List.mem_append.mp h with h | h
              · simp only [List.mem_cons,List.not_mem_nil,or_false] at h; omega
              · exact hh 2 d h
            · split at h
              · rcases List.mem_append.mp h with h | h
                · simp only [List.mem_cons,List.not_mem_nil,or_false] at h; omega
                · exact hh 4 d h
              · rcases List.mem_append.mp h with h | h
                · simp only [List.mem_cons,List.not_mem_nil,or_false] at h; omega
                · exact hh 8 d h
theorem reprQuote_lt (x : Str) : reprQuote x < 0x110000 := by unfold reprQuote; split <;> decide
theorem strOk_repr {x : Str} (hx : PyData.strOk x = true) : PyData.strOk (reprText x) = true := by
  rw [strOk_iff] at *
  have go : ∀ (l : List Nat) (acc : Array Nat), (∀ c ∈ l, c < 0x110000) → (∀ c ∈ acc.toList, c < 0x110000) → ∀ c ∈ (l.foldl (fun out c => out ++ (Builtin.Str.reprChar (reprQuote x) c).toArray) acc).toList, c < 0x110000 := by
    intro l
    induction l with
    | nil => intro acc _ h; exact h
    | cons a l ih =>
      intro acc hl h
      rw [List.foldl_cons]
      refine ih _ (fun c hc => hl c (List.mem_cons_of_mem _ hc)) fun c hc => ?_
      rw [Array.toList_append, List.mem_append] at hc
      rcases hc with hc | hc
      · exact h c hc
      · exact reprChar_ok _ a (reprQuote_lt x) (hl a List.mem_cons_self) c (by simpa using hc)
  intro c hc
  unfold reprText at hc
  simp only [Array.toList_push,List.mem_append,List.mem_cons,List.not_mem_nil,or_false] at hc
  rcases hc with hc | hc
  · rw [← Array.foldl_toList] at hc
    refine go x.cps.toList _ hx (fun c hc => ?_) c hc
    simp only [List.mem_cons,List.not_mem_nil,or_false] at hc
    rw [hc]; exact reprQuote_lt x
  · rw [hc]; exact reprQuote_lt x
theorem join_len (sep : Str) : ∀ ts : List Str, (Str.join sep ts).length ≤ (ts.map fun t => t.length + sep.length).sum
  | [] => by show (Str.empty).length ≤ _; simp; rfl
  | [x] => by show x.length ≤ _; simp
  | x :: y :: r => by
    have ih := join_len sep (y :: r)
    show (x ++ sep ++ Str.join sep (y :: r)).length ≤ _
    rw [strLen_append, strLen_append]
    simp only [List.map_cons,List.sum_cons] at ih ⊢
    omega
theorem join_ok {sep : Str} (hs : PyData.strOk sep = true) : ∀ ts : List Str, (∀ t ∈ ts, PyData.strOk t = true) → PyData.strOk (Str.join sep ts) = true
  | [], _ => by show PyData.strOk Str.empty = true; rw [strOk_iff]; intro c hc; exact absurd hc (by show ¬ c ∈ ([] : List Nat); simp)
  | [x], h => h x List.mem_cons_self
  | x :: y :: r, h => by
    have ih := join_ok hs (y :: r) fun t ht => h t (List.mem_cons_of_mem _ ht)
    show PyData.strOk (x ++ sep ++ Str.join sep (y :: r)) = true
    exact strOk_app (strOk_app (h x List.mem_cons_self) hs) ih
mutual
theorem shown_ok : ∀ (x : U) (d : PyData), toD x = some d → isD x = true → d.shown.length ≤ sz x ∧ PyData.strOk d.shown = true
  | .non, _, h, _ => by simp [toD] at h; subst h; exact ⟨by simp only [PyData.shown,sz]; decide, by simp only [PyData.shown]; exact strOk_ofString _⟩
  | .bl b, _, h, _ => by
    simp [toD] at h; subst h
    cases b
    · exact ⟨by simp only [PyData.shown,sz]; decide, by simp only [PyData.shown]; exact strOk_ofString _⟩
    · exact ⟨by simp only [PyData.shown,sz]; decide, by simp only [PyData.shown]; exact strOk_ofString _⟩
  | .int i, _, h, _ => by
    simp [toD] at h; subst h
    refine ⟨?_, by simp only [PyData.shown]; exact strOk_ofString _⟩
    simp only [PyData.shown,sz]
    have := int_text_length_le (a := i) (k := i.natAbs.log2 + 1) (by omega) (by omega)
    have e : (Str.ofString (toString i)).length = (toString i).length := by
      show (cpsOfBytes 0 0 (toString i).toByteArray.data.toList).toArray.size = _
      rw [List.size_toArray, cpsOfBytes_string, List.length_map]; rfl
    show (Str.ofString (toString i)).length ≤ _
    omega
  | .str x, _, h, g => by
    simp [toD] at h; subst h
    have ok : okS x = true := by simpa [isD] using g
    have o2 := okS.ok ok
    refine ⟨?_, by simp only [PyData.shown]; exact strOk_repr o2⟩
    simp only [PyData.shown,sz]
    exact StrLaws.reprText_len x fun c hc => Nat.lt_of_lt_of_le (strOk_iff.mp o2 c hc) (by decide)
  | .tup xs, d, h, g => by
    simp only [toD,Option.map_eq_some_iff] at h
    obtain ⟨ds, e, rfl⟩ := h
    obtain ⟨h1, h2⟩ := showns_ok xs ds e (by simpa [isD] using g)
    simp only [PyData.shown_tuple,sz]
    constructor
    · have hj := join_len ", " (PyData.shownAll ds)
      rw [strLen_append, strLen_append]
      have l1 : ("(" : Str).length = 1 := by decide
      have l2 : (if (ds.length == 1) = true then (",)" : Str) else ")").length ≤ 2 := by split <;> decide
      have l3 : (", " : Str).length = 2 := by decide
      rw [l3] at hj
      have l2' : ((if (ds.length == 1) = true then ",)" else ")" : String) : Str).length ≤ 2 := by split <;> decide
      omega
    · refine strOk_app (strOk_app (strOk_ofString _) (join_ok (strOk_ofString _) _ h2)) ?_
      exact strOk_ofString _
  | .lst xs, d, h, g => by
    simp only [toD,Option.map_eq_some_iff] at h
    obtain ⟨ds, e, rfl⟩ := h
    obtain ⟨h1, h2⟩ := showns_ok xs ds e (by simpa [isD] using g)
    simp only [PyData.shown_list,sz]
    constructor
    · have hj := join_len ", " (PyData.shownAll ds)
      rw [strLen_append, strLen_append]
      have l1 : ("[" : Str).length = 1 := by decide
      have l2 : ("]" : Str).length = 1 := by decide
      have l3 : (", " : Str).length = 2 := by decide
      rw [l3] at hj
      omega
    · exact strOk_app (strOk_app (strOk_ofString _) (join_ok (strOk_ofString _) _ h2)) (strOk_ofString _)
  | .ref _, _, h, _ => by simp [toD] at h
  | .ty _, _, h, _ => by simp [toD] at h
theorem showns_ok : ∀ (xs : List U) (ds : List PyData), toDs xs = some ds → isDs xs = true → ((PyData.shownAll ds).map fun t => t.length + 2).sum ≤ szs xs ∧ ∀ t ∈ PyData.shownAll ds, PyData.strOk t = true
  | [], _, h, _ => by simp [toDs] at h; subst h; simp [PyData.shownAll, szs]
  | x :: xs, ds, h, g => by
    simp only [toDs] at h
    simp only [isDs,Bool.and_eq_true] at g
    cases e : toD x <;> cases e2 : toDs xs <;> rw [e, e2] at h <;> simp at h
    subst h
    obtain ⟨h1, h2⟩ := shown_ok x _ e g.1
    obtain ⟨h3, h4⟩ := showns_ok xs _ e2 g.2
    simp only [PyData.shownAll_cons,List.map_cons,List.sum_cons,szs,List.mem_cons]
    refine ⟨by omega, fun t ht => ?_⟩
    rcases ht with rfl | ht
    · exact h2
    · exact h4 t ht
end
/-- what repr takes -/
def okR (x : U) : Prop := isD x = true ∧ shw x = true ∧ dep x ≤ 150 ∧ sz x ≤ 16000000
theorem rep_ok {x : U} (h : okR x) : okS (rep x) = true := by
  obtain ⟨h1, h2, h3, h4⟩ := h
  obtain ⟨d, e, _⟩ := toD_some x h1
  obtain ⟨q1, q2⟩ := shown_ok x d e h1
  have er : rep x = d.shown := by unfold rep; rw [e]
  rw [er]
  unfold okS
  rw [Bool.and_eq_true]
  exact ⟨decide_eq_true (Nat.le_trans q1 (Nat.le_trans h4 (by rw [sizeLine_eq]; decide))), q2⟩
def reprR (xs : List U) (M : UHp) (Q : UK) : Prop := match xs with
  | [x] => okR (val M x) ∧ Q (.str (rep (val M x))) M
  | _ => False
def dnC (K : PySem.W.Frag) (r : List U → UHp → UK → Prop) : List V → Hp → VK → Prop := fun vs H Q => ∃ xs M Qu, RelUs K H xs vs ∧ RelM K H M ∧ r xs M Qu ∧ UpK K H Qu Q
section
variable {X : Cx}
theorem noDict_of_canLay {d : PyData} (h : d.canLay0 = true) : d.hasDict = false := PyData.hasDict_of_canLay d h
theorem uc_repr (hg : X.A.guards = some []) (hu : X.A.units + 200 < cLine) : CallR X (.builtin "repr") (dnC X.K reprR) := by
  intro pins s σ H vs us Q I rv h
  obtain ⟨xs, M, Qu, r, rm, q, up⟩ := h
  unfold reprR at q
  split at q
  · rename_i x
    obtain ⟨v, w, rfl, r1, rfl⟩ := r
    obtain ⟨u, rfl, ru⟩ := vals1 rv
    obtain ⟨ok, q⟩ := q
    have oks := rep_ok ok
    obtain ⟨h1, h2, h3, h4⟩ := ok
    obtain ⟨d, e, cl⟩ := toD_some _ h1
    have er : rep (val M x) = d.shown := by unfold rep; rw [e]
    have hd := dep_toD _ _ e
    have hz : d.shown.length ≤ sizeLine := by rw [← er]; exact okS.len oks
    obtain ⟨as, rd⟩ := Dp.reads I d v u (dp_val rm r1 e) ru
    have fin := up _ _ (.str (rep (val M x))) H q (Stab.refl H) rm ⟨rfl, oks⟩
    have hs := shw_toD _ _ e h2
    rw [er] at fin
    cases d with
    | none =>
      cases rd
      exact PySem.P.repr_of_none (by simp only [PyData.shown] at fin; exact ⟨.str "None", H, I.tok _, ⟨_, rfl⟩, fin⟩)
    | bool b =>
      cases rd
      exact PySem.P.repr_of_bool (by simp only [PyData.shown] at fin; exact ⟨.str _, H, I.tok _, ⟨_, rfl⟩, fin⟩)
    | int i =>
      cases rd
      exact PySem.P.repr_of_int (by simpa [PyData.showable] using hs) (by simp only [PyData.shown] at fin; exact ⟨.str _, H, I.tok _, ⟨_, rfl⟩, fin⟩)
    | str z =>
      cases rd
      exact PySem.P.repr_of_str (by simp only [PyData.shown] at fin; exact ⟨.str _, H, I.tok _, ⟨_, rfl⟩, fin⟩) (by simpa only [PyData.shown] using hz)
    | list ds =>
      have : ∃ a, u = .ref a := by cases rd; exact ⟨_, rfl⟩
      obtain ⟨a, rfl⟩ := this
      exact repr_of_reads' rd hs (PyData.noDict_hsm (noDict_of_canLay cl)) hg (by omega) (fun _ _ e => e) (fun h' u' tk hk => ⟨.str _, H, I.kept hk, ⟨_, rfl⟩, fin⟩) hz
    | tuple ds =>
      have : ∃ a, u = .ref a := by cases rd; exact ⟨_, rfl⟩
      obtain ⟨a, rfl⟩ := this
      exact repr_of_reads' rd hs (PyData.noDict_hsm (noDict_of_canLay cl)) hg (by omega) (fun _ _ e => e) (fun h' u' tk hk => ⟨.str _, H, I.kept hk, ⟨_, rfl⟩, fin⟩) hz
    | dict kvs => simp [PyData.canLay0] at cl
  · exact q.elim
end
end PU

set_option Elab.async false
set_option linter.all false
set_option maxRecDepth 100000
/-! UFn: what a def keeps; calls. -/
namespace PU
open PySem PySem.Spec PyProof.Rows L2

theorem delM_same {M : UHp} {a : Addr} : delM M a a = none := by unfold delM; rw [if_pos rfl]
theorem delM_ne {M : UHp} {a b : Addr} (h : b ≠ a) : delM M a b = M b := by unfold delM; rw [if_neg h]
theorem delM_upd {M : UHp} {a : Addr} {o : MO} (h : M a = none) : delM (updM M a o) a = M := by
  funext b
  by_cases e : b = a
  · subst e; rw [delM_same, h]
  · rw [delM_ne e, updM_ne e]
/-- a list that is handed back may be carried by value from then on -/
def ZQ (Q : UK) : UK := fun x M => Q x M ∨ ∃ a xs, x = .ref a ∧ M a = some (.lst xs) ∧ Q (.lst xs) (delM M a)
theorem RelM.del {K : PySem.W.Frag} {H : Hp} {M : UHp} {a : Addr} {vs : List V} {u : HO} (rm : RelM K H M) (h : H a = some (.lst vs)) : RelM K (upd H a u) (delM M a) := fun b o e => by
  by_cases hb : b = a
  · subst hb; rw [delM_same] at e; cases e
  · rw [delM_ne hb] at e
    exact (rm b o e).at (Stab.lst h) (upd_ne hb)
theorem zq_dn {K : PySem.W.Frag} {H : Hp} {Qu : UK} {Q : VK} (up : UpK K H Qu Q) : UpK K H (ZQ Qu) (FzQ Q) := fun x M v H' q s m r => by
  rcases q with q | ⟨a, xs, rfl, e, q⟩
  · exact .inl (up x M v H' q s m r)
  · obtain rfl := r
    obtain ⟨vs, h1, h2⟩ := m a _ e
    refine .inr ⟨a, vs, rfl, h1, fun o => ?_⟩
    have s2 : Stab H' (upd H' a (.frz o (.lst vs))) := Stab.lst h1
    exact up _ _ _ _ q (s.trans s2) (m.del h1) ⟨a, vs, rfl, .inl ⟨o, upd_same⟩, h2.stab s2⟩

/-- an exception: its class, its own dict -/
abbrev UXK := Value → Option Addr → UHp → Prop
def UpX (K : PySem.W.Frag) (H : Hp) (Eu : UXK) (E : XK) : Prop := ∀ c d M' H', Eu c d M' → Stab H H' → RelM K H' M' → E c d H'
/-- a def's promise -/
abbrev USp := List U → UHp → UK → UXK → Prop
def dnP (K : PySem.W.Frag) (sp : USp) : Sp := fun vs H Q E => ∃ us M Qu Eu, RelUs K H us vs ∧ RelM K H M ∧ sp us M Qu Eu ∧ UpK K H Qu Q ∧ UpX K H Eu E
abbrev EU0 : UXK := fun _ _ _ => False
structure UFn (P : Program) (w : World) (K : PySem.W.Frag) (mg : Str → Option Value) (base : Heap) (CX : CXT) (k : Nat) (f : Addr) (fd : FuncData) (ps : List Str) (sp : USp) : Prop where
  len : ∀ us M Q E, sp us M Q E → us.length = ps.length
  go : ∀ (A : Around) (outer : List Env) (s : Shared) (H : Hp) (args : Args) (ws : List Value) (vs : List V) (Q : VK) (E : XK), Room k A → A.guards = some [] →
    Env0 P w K mg base A outer s H → BindsTo s fd args (ps.zip ws) → Vals vs ws → dnP K sp vs H Q E → codeAny (model P w) A (.call (.ref f) args) (CR CX outer P w H s Q E) s
section
variable {P : Program} {w : World} {K : PySem.W.Frag} {mg : Str → Option Value} {base : Heap} {CX : CXT} {k : Nat} {f : Addr} {fd : FuncData} {ps : List Str}
theorem UFn.up {j k : Nat} {sp : USp} (F : UFn P w K mg base CX j f fd ps sp) (h : j ≤ k) : UFn P w K mg base CX k f fd ps sp :=
  ⟨F.len, fun A outer s H args ws vs Q E hr => F.go A outer s H args ws vs Q E (hr.mono h)⟩
theorem UFn.imp {sp sp' : USp} (F : UFn P w K mg base CX k f fd ps sp) (h : ∀ us M Q E, sp' us M Q E → sp us M Q E) : UFn P w K mg base CX k f fd ps sp' :=
  ⟨fun us M Q E q => F.len us M Q E (h _ _ _ _ q), fun A outer s H args ws vs Q E hr hg e0 hb hv ⟨us, M, Qu, Eu, r, m, q, u1, u2⟩ =>
    F.go A outer s H args ws vs Q E hr hg e0 hb hv ⟨us, M, Qu, Eu, r, m, h _ _ _ _ q, u1, u2⟩⟩
/-- a promise by cases of what is asked: one choice for each -/
theorem UFn.any {ι : Sort _} {sp : ι → USp} (h0 : Nonempty ι) (F : ∀ i, UFn P w K mg base CX k f fd ps (sp i)) : UFn P w K mg base CX k f fd ps (fun us M Q E => ∃ i, sp i us M Q E) :=
  ⟨fun us M Q E ⟨i, q⟩ => (F i).len us M Q E q, fun A outer s H args ws vs Q E hr hg e0 hb hv ⟨us, M, Qu, Eu, r, m, ⟨i, q⟩, u1, u2⟩ =>
    (F i).go A outer s H args ws vs Q E hr hg e0 hb hv ⟨us, M, Qu, Eu, r, m, q, u1, u2⟩⟩

def z72 (N : List Str) (us : List U) : USt := us.map some ++ List.replicate (N.length - us.length) none
theorem rel_start {H : Hp} {N : List Str} : ∀ {us : List U} {vs : List V}, RelUs K H us vs → RelS K H (z72 N us) (L2.start N vs) := fun {us vs} r => by
  refine ⟨by simp [z72, L2.start, r.length], fun i u e => ?_⟩
  unfold z72 at e
  unfold L2.start
  by_cases hi : i < us.length
  · rw [List.getElem?_append_left (by simpa using hi), List.getElem?_map] at e
    rw [List.getElem?_append_left (by simpa [← r.length] using hi), List.getElem?_map]
    cases q : us[i]? with
    | none => rw [q] at e; cases e
    | some x =>
      rw [q] at e; cases e
      obtain ⟨v, e1, e2⟩ := r.get q
      exact ⟨v, by rw [e1]; rfl, e2⟩
  · rw [List.getElem?_append_right (by simpa using hi), List.getElem?_replicate] at e
    split at e <;> cases e

/-- the body of a def: by its reading -/
theorem ufn_body {name qual : Str} {params : Arguments} {body : List Stmt} {scope : Scope} {dV kV doc pm cdv ct oc : Value} {an od : Option Addr}
    {osl : Array (Option Value)} {N : List Str} {sp : USp} (lk : K.lookup f = some ⟨oc, od, .func (PySem.W.fnOf name qual params body scope dV kV doc pm an cdv ct), osl⟩) (hcd : PySem.W.codeIn K cdv qual = true) (S : FnScope N ps scope)
    (len : ∀ us M Q E, sp us M Q E → us.length = ps.length)
    (hbody : ∀ (A : Around) (outer : List Env) (s : Shared) (H : Hp) (E : XK), Room k (A.deeper (envOfC qual scope s.heap.objs.size f cdv)) → A.guards = some [] →
      ∀ (us : List U) (M : UHp) (Q : UK) (Eu : UXK), UpX K H Eu E → sp us M Q Eu → ∃ t, USs (cxOf CX P w K mg base N qual scope f cdv A outer s H E) body t ∧ t { nx := fun _ M' => Q .non M', rt := ZQ Q } (z72 N us) M) :
    UFn P w K mg base CX (k + 1) f (PySem.W.fnOf name qual params body scope dV kV doc pm an cdv ct) ps sp := by
  refine ⟨len, fun A outer s H args ws vs Q E hr hg e0 hb rv hsp => ?_⟩
  obtain ⟨us, M, Qu, Eu, ru, rm, q0, upK, upX⟩ := hsp
  have hl : vs.length = ps.length := by rw [← ru.length]; exact len _ _ _ _ q0
  have inH : ∀ b o, base.get? b = some o → s.heap.get? b = some o := fun b o e => (e0.bs b o e).1
  have KH := e0.mod.kin.keeps inH
  have lim := e0.mod.nolimit.keeps inH
  refine codeAny_call_function hr.depth (KH _ _ lk) rfl S.co S.gen rfl (PySem.W.codeRec_of KH hcd) (hb _ _ _ _ ?_)
  refine wpAny_newFunctionEnv_cells S.kind (fun y hy => ?_) fun env he s1 x => ?_
  · rcases S.par y.1 (List.of_mem_zip (show (y.1, y.2) ∈ ps.zip ws from hy)).1 with z | z
    · exact .inl z
    · exact .inr ⟨z, PySem.W.cellsFrom_some _ _ _ (.inl z)⟩
  · subst he
    refine ⟨lim.keeps x.toInCall.keep, codeAny_func ?_⟩
    obtain ⟨t, ht, q⟩ := hbody A outer s H E (hr.deeper _) hg us M Qu Eu upX q0
    have I : Inv (cxOf CX P w K mg base N qual scope f cdv A outer s H E) [] (L2.start N vs) H s1 := inv_start S hr.hd e0 hl rv x
    have wp := ht.run [] s1 (L2.start N vs) H { nx := fun _ H' => Q .non H', rt := FzQ Q, bk := fun _ _ => False, ct := fun _ _ => False } I
      ⟨z72 N us, M, _, rel_start ru, rm, q, ⟨fun σ' M' τ' H' q' s' m' _ => upK .non M' .non H' q' s' m' rfl, zq_dn upK, fun _ _ _ _ z _ _ _ => z.elim, fun _ _ _ _ z _ _ _ => z.elim⟩⟩
    refine wpAny_mono wp (fun fl s' hs => ?_) fun e s' hs => hs
    cases fl with
    | ret u =>
      obtain ⟨v, σ', H', J, r1, q1⟩ := hs
      obtain ⟨v2, H2, J2, r2, q2⟩ := ep_fz (show EP _ [] σ' (FzQ Q) u s' from ⟨v, H', J, r1, q1⟩)
      exact ⟨v2, H2, J2.os, J2.bare, J2.base, J2.hok, r2, q2⟩
    | next =>
      obtain ⟨σ', H', J, q1⟩ := hs
      exact ⟨.non, H', J.os, J.bare, J.base, J.hok, rfl, q1⟩
    | brk => exact False.elim hs.choose_spec.choose_spec.2
    | cont => exact False.elim hs.choose_spec.choose_spec.2
end
section
variable {P : Program} {w : World} {K : PySem.W.Frag} {mg : Str → Option Value} {base : Heap} {k : Nat} {f : Addr} {fd : FuncData} {N ps : List Str} {x qual : Str} {st : Stmt}
theorem us_nox {X : Cx} {sts : List Stmt} {t : UTS} (h : USs X.nox sts t) : USs X sts t := PSs.nox h
/-- a def that lets no exception out -/
theorem ufn_ok {sp : USp} {t : UTS} (F : Fun K x qual st f fd) (S : FnScope N ps (defScope st)) (len : ∀ us M Q E, sp us M Q E → us.length = ps.length)
    (hbody : ∀ (cdv : Value) (A : Around) (outer : List Env) (s : Shared) (H : Hp) (E : XK), Room k (A.deeper (envOfC qual (defScope st) s.heap.objs.size f cdv)) → A.guards = some [] →
      USs (cxOf CX0 P w K mg base N qual (defScope st) f cdv A outer s H E).nox (defBody st) t)
    (pure : ∀ (us : List U) (M : UHp) (Q : UK) (E : UXK), sp us M Q E → t { nx := fun _ M' => Q .non M', rt := ZQ Q } (z72 N us) M) : UFn P w K mg base CX0 (k + 1) f fd ps sp := by
  obtain ⟨oc, od, kV, doc, pm, an, cdv, ct, osl, rfl, lk, hcd⟩ := F.ex
  exact ufn_body lk hcd S len fun A outer s H E hr hg us M Q Eu _ hsp => ⟨t, us_nox (hbody cdv A outer s H E hr hg), pure us M Q Eu hsp⟩
end

/-! ### calls -/
section
variable {X : Cx} {CX : CXT} {k : Nat} {f : Addr} {fd : FuncData} {ps : List Str} {sp : USp} {x : Str} {p pos : Pos} {e : Expr} {es : List Expr} {t : UTA}
def z7s (sp : USp) (dus : List U) (t : UTA) (σ : USt) (M : UHp) (Q : UK) : Prop := t σ M fun us M1 => sp (us ++ dus) M1 Q EU0
theorem run_ufn {CX : CXT} {pins : List (Addr × Obj)} {τ : L2.St} {H : Hp} {s : Shared} {Q : VK} {E : XK} {ws : List Value} {vs : List V} {ds : List Value} {dvs : List V} (F : UFn X.prog X.w X.K X.mg X.base CX k f fd ps sp) (hr : Room k X.A) (hG : X.A.guards = some []) (hb : Binds X.K fd ps ds)
    (hd : Vals dvs ds) (hx : Passes CX X E) (I : Inv X pins τ H s) (rv : Vals vs ws) (h : dnP X.K sp (vs ++ dvs) H Q E) : wpAny (model X.prog X.w) X.A (call (.ref f) ws) (EP X pins τ Q) X.xe s := by
  have rr := rv.append hd
  have hl : (ws ++ ds).length = ps.length := by
    obtain ⟨us, M, Qu, Eu, r, _, q, _⟩ := h
    rw [← rr.length, ← r.length]; exact F.len _ _ _ _ q
  refine wpAny_call (codeAny_mono (F.go X.A X.stack s H _ _ _ Q E hr hG I.env0 (hb s ws I.kIn hl) rr h) fun r s' hq => ?_)
  match r, hq with
  | .error e, hq => exact hx pins τ H s e s' I hq
  | .ok (.ret u), hq => exact I.after hq
theorem ue_call {dus : List U} {dvs : List V} {ds : List Value} (F : UFn X.prog X.w X.K X.mg X.base CX0 k f fd ps sp) (hr : Room k X.A) (hG : X.A.guards = some []) (hg : Gl X x) (hm : X.mg x = some (.ref f)) (hk : PySem.W.keepIn X.K (.ref f) = true)
    (hb : Binds X.K fd ps ds) (hd : Vals dvs ds) (hdu : ∀ H, RelUs X.K H dus dvs)
    (ha : UA X (e :: es) t) (hdb : (x == ("__debug__" : Str)) = false := by decide) (he : starEach (e :: es) X.env = (false, eval e X.env) :: starEach es X.env := by rfl) (hpl : (backTo pos (starEach es X.env)).any (·.1) = false := by rfl) :
    UE X (.Call (.Name x p) (e :: es) [] pos) (z7s sp dus t) := by
  constructor
  intro pins s τ H Q I h
  obtain ⟨σ, M, Qu, rs, rm, q, up⟩ := h
  refine wpAny_Call_Name_kw (ld_glob I hg hm ?_ hdb)
  refine PySem.W.callWith_K (h₀ := X.base) I.ok.mod.kin hk (thn (ha.run pos pins s τ H (fun vs H1 => dnP X.K sp (vs ++ dvs) H1 Q E0) I ⟨σ, M, _, rs, rm, q, fun us M1 vs H1 q1 s1 m1 r1 => ?_⟩) fun ws s1 ⟨vs, H1, I1, r, q⟩ => ⟨I1.kIn, ?_⟩) he hpl
  · exact ⟨us ++ dus, M1, Qu, EU0, r1.append (hdu H1), m1, q1, up.from s1, fun _ _ _ _ z _ _ => z.elim⟩
  · exact run_ufn F hr hG hb hd pass0 I1 r q
end
end PU

set_option Elab.async false
set_option linter.all false
set_option maxRecDepth 100000
/-! UBlt: built-ins, methods, subscripts, displays over U. -/
namespace PU
open PySem PySem.Spec PyProof.Rows L2

section
variable {X : Cx} {x : Str} {p pos : Pos} {e : Expr} {es : List Expr} {t : UTA} {id T : String} {r : List U → UHp → UK → Prop}
abbrev UCallR (X : Cx) (f : Value) (r : List U → UHp → UK → Prop) : Prop := CallR X f (dnC X.K r)
theorem CallR.mono {f : Value} {r r' : List V → Hp → VK → Prop} (h : CallR X f r) (w : ∀ xs H Q, r' xs H Q → r xs H Q) : CallR X f r' := fun pins s σ H xs us Q I rs q => h pins s σ H xs us Q I rs (w xs H Q q)
theorem CallR.fz {f : Value} {r r' : List V → Hp → VK → Prop} (h : CallR X f r) (w : ∀ xs H Q, r' xs H Q → r xs H (FzQ Q)) : CallR X f r' := fun pins s σ H xs us Q I rs q =>
  thn (h pins s σ H xs us (FzQ Q) I rs (w xs H Q q)) fun _ _ => ep_fz
theorem PE.fz {e : Expr} {t t' : TE} (h : PE X e t) (w : ∀ σ H Q, t' σ H Q → t σ H (FzQ Q)) : PE X e t' := ⟨fun pins s σ H Q I q => thn (h.run pins s σ H (FzQ Q) I (w σ H Q q)) fun _ _ => ep_fz⟩
def uCB (r : List U → UHp → UK → Prop) (t : UTA) (σ : USt) (M : UHp) (Q : UK) : Prop := t σ M fun xs M1 => r xs M1 Q
theorem dn_cb : ∀ σ H Q, dnE X.K (uCB r t) σ H Q → tCB (dnC X.K r) (dnA X.K t) σ H Q := fun τ H Q h => by
  obtain ⟨σ, M, Qu, rs, rm, q, up⟩ := h
  exact ⟨σ, M, _, rs, rm, q, fun xs M1 vs H1 q1 s1 m1 r1 => ⟨xs, M1, Qu, r1, m1, q1, up.from s1⟩⟩
theorem ue_callB (hc : UCallR X (.builtin id) r) (hg : Gl X x) (hm : X.mg x = none) (hv : bootBuiltins x = some (.builtin id)) (ha : UA X (e :: es) t) (hn : x ≠ "__name__" := by decide) (hdb : (x == ("__debug__" : Str)) = false := by decide)
    (he : starEach (e :: es) X.env = (false, eval e X.env) :: starEach es X.env := by rfl) (hpl : (backTo pos (starEach es X.env)).any (·.1) = false := by rfl) : UE X (.Call (.Name x p) (e :: es) [] pos) (uCB r t) :=
  PE.mono (pe_callB hc hg hm hv ha hn hdb he hpl) dn_cb
theorem ue_callTy (hc : UCallR X (.type T) r) (hg : Gl X x) (hm : X.mg x = none) (hv : bootBuiltins x = some (.type T)) (ha : UA X (e :: es) t) (hn : x ≠ "__name__" := by decide) (hdb : (x == ("__debug__" : Str)) = false := by decide)
    (he : starEach (e :: es) X.env = (false, eval e X.env) :: starEach es X.env := by rfl) (hpl : (backTo pos (starEach es X.env)).any (·.1) = false := by rfl) : UE X (.Call (.Name x p) (e :: es) [] pos) (uCB r t) :=
  PE.mono (pe_callTy hc hg hm hv ha hn hdb he hpl) dn_cb

/-! ### displays -/
def z8s (t : UTA) (σ : USt) (M : UHp) (Q : UK) : Prop := t σ M fun xs M1 => xs.length ≤ sizeLine ∧ Q (.tup xs) M1
def z8j (m : Bool) (t : UTA) (σ : USt) (M : UHp) (Q : UK) : Prop := t σ M fun xs M1 => xs.length ≤ sizeLine ∧ newL m xs M1 Q
theorem ue_tup {x1} (h : UA X es t) : UE X (.Tuple es x1 pos) (z8s t) := PE.mono (pe_tupD h) fun τ H Q h => by
  obtain ⟨σ, M, Qu, rs, rm, q, up⟩ := h
  exact ⟨σ, M, _, rs, rm, q, fun xs M1 vs H1 q1 s1 m1 r1 => ⟨by rw [← r1.length]; exact q1.1, newT_dn m1 (up.from s1) r1 q1.2⟩⟩
theorem ue_lst (m : Bool) (h : UA X es t) : UE X (.List es pos) (z8j m t) := PE.fz (pe_lst h) fun τ H Q h => by
  obtain ⟨σ, M, Qu, rs, rm, q, up⟩ := h
  exact ⟨σ, M, _, rs, rm, q, fun xs M1 vs H1 q1 s1 m1 r1 => ⟨by rw [← r1.length]; exact q1.1, newL_dn m1 (up.from s1) r1 q1.2⟩⟩

/-! ### len -/
def lenU (M : UHp) : U → Option Nat
  | .str z => some z.length
  | .tup xs => some xs.length
  | .lst xs => some xs.length
  | .ref a => match M a with
    | some (.lst xs) => some xs.length
    | _ => none
  | _ => none
def lenR (xs : List U) (M : UHp) (Q : UK) : Prop := match xs with
  | [x] => ∃ n, lenU M x = some n ∧ Q (.int (n : Nat)) M
  | _ => False
theorem uc_len : UCallR X (.builtin "len") lenR := CallR.mono call_len fun vs H Q h => by
  obtain ⟨xs, M, Qu, r, rm, q, up⟩ := h
  unfold lenR at q
  split at q
  · rename_i x
    obtain ⟨v, w, rfl, r1, rfl⟩ := r
    obtain ⟨n, e, q⟩ := q
    refine ⟨v, n, rfl, ?_, up _ _ _ _ q (Stab.refl H) rm rfl⟩
    cases x with
    | str z => obtain ⟨rfl, k⟩ := r1; simp only [lenU,Option.some.injEq] at e; exact ⟨okS.len k, e.symm⟩
    | tup ys => obtain ⟨a, vs, rfl, h1, h2⟩ := r1; simp only [lenU,Option.some.injEq] at e; exact .inr ⟨vs, h1, by rw [← e, h2.length]⟩
    | lst ys => obtain ⟨a, vs, rfl, h1, h2⟩ := r1; simp only [lenU,Option.some.injEq] at e; exact .inl ⟨vs, h1.sq, by rw [← e, h2.length]⟩
    | ref a =>
      simp only [lenU] at e
      cases hm : M a with
      | none => rw [hm] at e; cases e
      | some o =>
        rw [hm] at e
        cases o with
        | lst ys =>
          simp only [Option.some.injEq] at e
          obtain rfl := r1
          obtain ⟨vs, h1, h2⟩ := rm a _ hm
          exact .inl ⟨vs, SqL.of h1, by rw [← e, h2.length]⟩
        | _ => cases e
    | _ => simp [lenU] at e
  · exact q.elim

/-! ### isinstance -/
def tyM (M : UHp) : U → Option String
  | .non => some "NoneType"
  | .bl _ => some "bool"
  | .int _ => some "int"
  | .str _ => some "str"
  | .tup _ => some "tuple"
  | .lst _ => some "list"
  | .ref a => match M a with
    | some (.lst _) => some "list"
    | some (.dK _) => some "dict"
    | _ => none
  | .ty _ => none
def subT (t n : String) : Bool := t == n || (t == "bool" && n == "int")
def okN (n : String) : Bool := n == "str" || n == "int" || n == "bool" || n == "tuple" || n == "list" || n == "dict"
theorem kit_sub {K : PySem.W.Frag} {M : UHp} {u : U} {t n : String} (h : tyM M u = some t) (hn : okN n = true) : PySem.W.kitOne K (.type t) (.type n) = some (subT t n) := by
  have ht : t = "NoneType" ∨ t = "bool" ∨ t = "int" ∨ t = "str" ∨ t = "tuple" ∨ t = "list" ∨ t = "dict" := by
    cases u <;> simp only [tyM,Option.some.injEq,reduceCtorEq] at h
    case ref a =>
      split at h
      · simp at h; simp [← h]
      · simp at h; simp [← h]
      · cases h
    all_goals simp [← h]
  have hn' : n = "str" ∨ n = "int" ∨ n = "bool" ∨ n = "tuple" ∨ n = "list" ∨ n = "dict" := by
    simp only [okN,Bool.or_eq_true,beq_iff_eq] at hn
    rcases hn with ((((h | h) | h) | h) | h) | h <;> simp [h]
  apply kit_ty
  rcases ht with rfl | rfl | rfl | rfl | rfl | rfl | rfl <;> rcases hn' with rfl | rfl | rfl | rfl | rfl | rfl <;> decide +kernel
def isiR (xs : List U) (M : UHp) (Q : UK) : Prop := match xs with
  | [x, .ty n] => ∃ t, tyM M x = some t ∧ okN n = true ∧ Q (.bl (subT t n)) M
  | [x, .tup [.ty n, .ty m]] => ∃ t, tyM M x = some t ∧ okN n = true ∧ okN m = true ∧ Q (.bl (subT t n || subT t m)) M
  | _ => False
theorem tyx_of {K : PySem.W.Frag} {H : Hp} {M : UHp} {u : U} {v : V} {t : String} (rm : RelM K H M) (r : RelU K H u v) (h : tyM M u = some t) : TyX K H v (.type t) := by
  cases u with
  | non => obtain rfl := r; simp only [tyM,Option.some.injEq] at h; subst h; exact .base .non
  | bl b => obtain rfl := r; simp only [tyM,Option.some.injEq] at h; subst h; exact .base (.bl b)
  | int i => obtain rfl := r; simp only [tyM,Option.some.injEq] at h; subst h; exact .base (.int i)
  | str z => obtain ⟨rfl, _⟩ := r; simp only [tyM,Option.some.injEq] at h; subst h; exact .base (.str z)
  | ty n => simp [tyM] at h
  | tup xs =>
    obtain ⟨a, vs, rfl, q, _⟩ := r
    simp only [tyM,Option.some.injEq] at h; subst h
    rcases q.t with (q | ⟨o, q⟩) | ⟨o, its, n, q, c, _⟩
    · exact .base (.tup q)
    · exact .fTuple q
    · exact .kTuple q c
  | lst xs =>
    obtain ⟨a, vs, rfl, q, _⟩ := r
    simp only [tyM,Option.some.injEq] at h; subst h
    rcases q with ⟨o, q⟩ | ⟨o, its, n, q, c, _⟩
    · exact .base (.frz q)
    · exact .kList q c
  | ref a =>
    obtain rfl := r
    simp only [tyM] at h
    cases hm : M a with
    | none => rw [hm] at h; cases h
    | some o =>
      rw [hm] at h
      cases o with
      | lst ys => simp only [Option.some.injEq] at h; subst h; obtain ⟨vs, h1, h2⟩ := rm a _ hm; exact .base (.lst h1)
      | dK ys => simp only [Option.some.injEq] at h; subst h; obtain ⟨vs, h1, h2⟩ := rm a _ hm; exact .base (.dK h1)
      | _ => cases h
theorem uc_isi : UCallR X (.builtin "isinstance") isiR := fun pins s σ H vs us Q I rv h => by
  obtain ⟨xs, M, Qu, r, rm, q, up⟩ := h
  unfold isiR at q
  split at q
  · rename_i x n
    obtain ⟨v, w, rfl, r1, v2, w2, rfl, r2, rfl⟩ := r
    obtain rfl := r2
    obtain ⟨t, e, hn, q⟩ := q
    exact call_isi pins s σ H _ us Q I rv ⟨v, .ty n, .type t, .type n, _, rfl, .ty n, tyx_of rm r1 e, kit_sub e hn, up _ _ _ _ q (Stab.refl H) rm rfl⟩
  · rename_i x n m
    obtain ⟨v, w, rfl, r1, v2, w2, rfl, r2, rfl⟩ := r
    obtain ⟨tp, ts, rfl, hq, v3, w3, rfl, e3, v4, w4, rfl, e4, rfl⟩ := r2
    obtain rfl := e3
    obtain rfl := e4
    obtain ⟨t, e, hn, hm, q⟩ := q
    have kk : PySem.W.kitAny X.K (.type t) [.type n, .type m] = some (subT t n || subT t m) := by
      refine kitAny_cons (kit_sub e hn) (fun h1 => ?_) fun h1 => by rw [h1]; rfl
      refine kitAny_cons (kit_sub e hm) (fun h2 => ?_) fun h2 => by rw [h2, Bool.or_true]
      rw [h1, h2]; rfl
    obtain ⟨u1, u2, rfl, q1, q2⟩ := rv.two
    obtain rfl : u2 = Value.ref tp := q2
    obtain ⟨P, Z, z, hx⟩ := kit_of I q1 (tyx_of rm r1 e)
    obtain ⟨its, rt, ⟨⟨oc, od, dt, sl⟩, ho, hcls, nn, hdt⟩, _⟩ := I.tuple hq.t
    simp only at hcls hdt
    subst hcls hdt
    have hits : its = [.type n, .type m] := by
      cases rt with
      | cons a b =>
        cases b with
        | cons c d =>
          cases d
          rw [show _ = Value.type n from a, show _ = Value.type m from c]
    subst hits
    exact PySem.W.kia_tup Z I.kIn z ho kk hx fun tk => ⟨.bl _, H, I.tok tk, rfl, up _ _ _ _ q (Stab.refl H) rm rfl⟩
  · exact q.elim

/-! ### all, any -/
def allU : List U → Option Bool
  | [] => some true
  | .bl b :: r => (allU r).map (b && ·)
  | _ :: _ => none
def anyU : List U → Option Bool
  | [] => some false
  | .bl b :: r => (anyU r).map (b || ·)
  | _ :: _ => none
theorem allU_bl : ∀ {xs : List U} {k : Bool}, allU xs = some k → ∃ bs : List Bool, xs = bs.map .bl ∧ k = bs.all _root_.id
  | [], k, h => by simp only [allU,Option.some.injEq] at h; exact ⟨[], rfl, h.symm⟩
  | .bl b :: r, k, h => by
    simp only [allU,Option.map_eq_some_iff] at h
    obtain ⟨c, e, rfl⟩ := h
    obtain ⟨bs, rfl, rfl⟩ := allU_bl e
    exact ⟨b :: bs, rfl, by simp⟩
  | .non :: _, _, h => by simp [allU] at h
  | .int _ :: _, _, h => by simp [allU] at h
  | .str _ :: _, _, h => by simp [allU] at h
  | .ref _ :: _, _, h => by simp [allU] at h
  | .ty _ :: _, _, h => by simp [allU] at h
  | .tup _ :: _, _, h => by simp [allU] at h
  | .lst _ :: _, _, h => by simp [allU] at h
theorem allU_map {α : Type} (f : α → Bool) (xs : List α) : allU (xs.map fun x => .bl (f x)) = some (xs.all f) := by
  induction xs with
  | nil => rfl
  | cons x xs ih => simp [allU, ih]
theorem rel_bls {K : PySem.W.Frag} {H : Hp} : ∀ {bs : List Bool} {vs : List V}, RelUs K H (bs.map .bl) vs → vs = bs.map V.bl
  | [], _, h => h
  | b :: bs, _, h => by
    obtain ⟨v, r, rfl, rfl, t⟩ := h
    rw [rel_bls t]; rfl
def allR (xs : List U) (M : UHp) (Q : UK) : Prop := match xs with
  | [x] => ∃ ys k, listU M x = some ys ∧ allU ys = some k ∧ Q (.bl k) M
  | _ => False
def anyR (xs : List U) (M : UHp) (Q : UK) : Prop := match xs with
  | [x] => ∃ ys k, listU M x = some ys ∧ anyU ys = some k ∧ Q (.bl k) M
  | _ => False
theorem uc_all (hc : X.calm = true) : UCallR X (.builtin "all") allR := CallR.mono (cr_all hc) fun vs H Q h => by
  obtain ⟨xs, M, Qu, r, rm, q, up⟩ := h
  unfold allR at q
  split at q
  · obtain ⟨v, w, rfl, r1, rfl⟩ := r
    obtain ⟨ys, k, e, e2, q⟩ := q
    obtain ⟨bs, rfl, rfl⟩ := allU_bl e2
    obtain ⟨a, vs, rfl, h1, h2⟩ := list_dn rm r1 e
    obtain rfl := rel_bls h2
    exact ⟨a, bs, rfl, h1, up _ _ _ _ q (Stab.refl H) rm rfl⟩
  · exact q.elim
/-! ### tuple, list, int -/
def tupleR (xs : List U) (M : UHp) (Q : UK) : Prop := match xs with
  | [x] => ∃ ys, seqU M x = some ys ∧ Q (.tup ys) M
  | _ => False
theorem uc_tuple : UCallR X (.type "tuple") tupleR := CallR.mono call_tupleD fun vs H Q h => by
  obtain ⟨xs, M, Qu, r, rm, q, up⟩ := h
  unfold tupleR at q
  split at q
  · obtain ⟨v, w, rfl, r1, rfl⟩ := r
    obtain ⟨ys, e, q⟩ := q
    obtain ⟨a, vs, rfl, h1, h2⟩ := seq_dn rm r1 e
    rcases h1 with h1 | h1
    · exact ⟨a, vs, rfl, .inl ⟨h1, newT_dn rm up h2 q⟩⟩
    · exact ⟨a, vs, rfl, .inr ⟨h1.t, up _ _ _ _ q (Stab.refl H) rm ⟨a, vs, rfl, h1, h2⟩⟩⟩
  · exact q.elim
def listR (m : Bool) (xs : List U) (M : UHp) (Q : UK) : Prop := match xs with
  | [x] => ∃ ys, seqU M x = some ys ∧ newL m ys M Q
  | _ => False
theorem uc_list (m : Bool) : UCallR X (.type "list") (listR m) := CallR.fz call_list_of fun vs H Q h => by
  obtain ⟨xs, M, Qu, r, rm, q, up⟩ := h
  unfold listR at q
  split at q
  · obtain ⟨v, w, rfl, r1, rfl⟩ := r
    obtain ⟨ys, e, q⟩ := q
    obtain ⟨a, vs, rfl, h1, h2⟩ := seq_dn rm r1 e
    exact ⟨a, vs, rfl, h1.imp id SqX.t, newL_dn rm up h2 q⟩
  · exact q.elim
def intR (xs : List U) (M : UHp) (Q : UK) : Prop := match xs with
  | [.int i] => Q (.int i) M
  | _ => False
/-! ### a[b] -/
def cutL {α : Type} (xs : List α) (lo hi : Option Int) : List α := (xs.drop (HT.sIx xs.length 0 lo)).take (HT.sIx xs.length xs.length hi - HT.sIx xs.length 0 lo)
theorem rel_at {K : PySem.W.Frag} {H : Hp} {xs : List U} {vs : List V} {i : Int} {x : U} (r : RelUs K H xs vs) (h : atI xs i = some x) : ∃ v, atI vs i = some v ∧ RelU K H x v := by
  unfold atI at h ⊢
  rw [r.length] at h
  cases e : ixN vs.length i with
  | none => rw [e] at h; cases h
  | some j =>
    rw [e] at h
    exact r.get h
def ixR (x : U) (y : U) (M : UHp) (Q : UK) : Prop := match x, y with
  | .str z, .int i => ∃ c, atI z.cps.toList i = some c ∧ Q (.str ⟨#[c]⟩) M
  | x, .int i => ∃ xs v, seqU M x = some xs ∧ atI xs i = some v ∧ Q v M
  | _, _ => False
theorem at_mem {α : Type} {xs : List α} {i : Int} {x : α} (h : atI xs i = some x) : x ∈ xs := by
  unfold atI at h
  cases e : ixN xs.length i with
  | none => rw [e] at h; cases h
  | some j => rw [e] at h; exact List.mem_of_getElem? h
theorem okS_one {z : Str} {c : Nat} (h : okS z = true) (hc : c ∈ z.cps.toList) : okS ⟨#[c]⟩ = true := by
  unfold okS
  rw [Bool.and_eq_true]
  refine ⟨decide_eq_true ?_, ?_⟩
  · show 1 ≤ sizeLine
    rw [sizeLine_eq]; decide
  · rw [strOk_iff]
    intro d hd
    have : d = c := by simpa using hd
    rw [this]; exact strOk_iff.mp (okS.ok h) c hc
theorem ui_ix : IxR X (dn2 X.K ixR) := fun value slice pins s σ H v w a b Q I rv rw h hs => by
  refine ix_seq value slice pins s σ H v w a b Q I rv rw ?_ hs
  obtain ⟨x, y, M, Qu, r1, r2, rm, q, up⟩ := h
  unfold ixR at q
  split at q
  · obtain ⟨rfl, k⟩ := r1
    obtain rfl := r2
    obtain ⟨c, e, q⟩ := q
    exact .inr (.inr ⟨_, _, c, rfl, rfl, okS.len k, e, up _ _ _ _ q (Stab.refl H) rm ⟨rfl, okS_one k (at_mem e)⟩⟩)
  · obtain rfl := r2
    obtain ⟨xs, z, e, e2, q⟩ := q
    obtain ⟨p, vs, rfl, h1, h2⟩ := seq_dn rm r1 e
    obtain ⟨v, e3, r3⟩ := rel_at h2 e2
    have fin := up _ _ _ _ q (Stab.refl H) rm r3
    rcases h1 with h1 | h1
    · exact .inl ⟨p, vs, _, v, rfl, rfl, h1, e3, fin⟩
    · exact .inr (.inl ⟨p, vs, _, v, rfl, rfl, h1, e3, fin⟩)
  · exact q.elim
theorem ue_ix {a b : Expr} {ta tb : UTE} (ha : UE X a ta) (hb : UE X b tb) (hs : PlainIx b := by exact fun _ _ => rfl) : UE X (.Subscript a b pos) (uOp ixR ta tb) := PE.mono (pe_ix ui_ix ha hb hs) dn_op

/-! ### slices -/
abbrev UTO := USt → UHp → (Option Int → UHp → Prop) → Prop
def dnO (K : PySem.W.Frag) (t : UTO) : TO := fun τ H Q => ∃ σ M Qu, RelS K H σ τ ∧ RelM K H M ∧ t σ M Qu ∧ ∀ i M' H', Qu i M' → Stab H H' → RelM K H' M' → Q i H'
abbrev UO (X : Cx) (e : Option Expr) (t : UTO) : Prop := PO X e (dnO X.K t)
theorem PO.mono {e : Option Expr} {t t' : TO} (h : PO X e t) (w : ∀ σ H Q, t' σ H Q → t σ H Q) : PO X e t' := ⟨fun pins s σ H Q I q => h.run pins s σ H Q I (w σ H Q q)⟩
def z4x (_ : USt) (M : UHp) (Q : Option Int → UHp → Prop) : Prop := Q none M
def uPart (te : UTE) (σ : USt) (M : UHp) (Q : Option Int → UHp → Prop) : Prop := te σ M fun x M1 => ∃ i, x = .int i ∧ Q (some i) M1
theorem uo_none : UO X none z4x := PO.mono po_none fun τ H Q h => by
  obtain ⟨σ, M, Qu, rs, rm, q, up⟩ := h
  exact up none M H q (Stab.refl H) rm
theorem uo_some {te : UTE} (h : UE X e te) : UO X (some e) (uPart te) := PO.mono (po_some h) fun τ H Q h => by
  obtain ⟨σ, M, Qu, rs, rm, q, up⟩ := h
  refine ⟨σ, M, _, rs, rm, q, fun x M1 v H1 q1 s1 m1 r1 => ?_⟩
  obtain ⟨i, rfl, q1⟩ := q1
  obtain rfl := r1
  exact ⟨i, rfl, up _ _ _ q1 s1 m1⟩
def slR (m : Bool) (x : U) (lo hi : Option Int) (M : UHp) (Q : UK) : Prop := match x with
  | .str z => Q (.str (cutS z lo hi)) M
  | .tup xs => Q (.tup (cutL xs lo hi)) M
  | x => ∃ xs, listU M x = some xs ∧ newL m (cutL xs lo hi) M Q
theorem okS_sub {z y : Str} (h : okS z = true) (hl : y.length ≤ z.length) (hm : ∀ c ∈ y.cps.toList, c ∈ z.cps.toList) : okS y = true := by
  unfold okS
  rw [Bool.and_eq_true]
  exact ⟨decide_eq_true (Nat.le_trans hl (okS.len h)), strOk_iff.mpr fun c hc => strOk_iff.mp (okS.ok h) c (hm c hc)⟩
theorem okS_cut {z : Str} (h : okS z = true) (lo hi : Option Int) : okS (cutS z lo hi) = true := by
  refine okS_sub h ?_ fun c hc => ?_
  · show ((z.cps.toList.drop _).take _).toArray.size ≤ z.cps.size
    rw [List.size_toArray, List.length_take, List.length_drop, Array.length_toList]
    omega
  · have : c ∈ ((z.cps.toList.drop (HT.sIx z.length 0 lo)).take (HT.sIx z.length z.length hi - HT.sIx z.length 0 lo)) := by
      have e : (cutS z lo hi).cps.toList = ((z.cps.toList.drop (HT.sIx z.length 0 lo)).take (HT.sIx z.length z.length hi - HT.sIx z.length 0 lo)) := by unfold cutS; simp
      rw [e] at hc; exact hc
    exact List.mem_of_mem_drop (List.mem_of_mem_take this)
theorem rel_cut {K : PySem.W.Frag} {H : Hp} {xs : List U} {vs : List V} (r : RelUs K H xs vs) (lo hi : Option Int) : RelUs K H (cutL xs lo hi) (cutV vs lo hi) := by
  unfold cutL cutV
  rw [r.length]
  exact (r.drop _).take _
theorem cut_whole {xs : List U} {lo hi : Option Int} (h : HT.sIx xs.length 0 lo = 0 ∧ HT.sIx xs.length xs.length hi = xs.length) : cutL xs lo hi = xs := by
  unfold cutL
  rw [h.1, h.2]; simp
def dnSl (K : PySem.W.Frag) (r : U → Option Int → Option Int → UHp → UK → Prop) : V → Option Int → Option Int → Hp → VK → Prop := fun v lo hi H Q => ∃ x M Qu, RelU K H x v ∧ RelM K H M ∧ r x lo hi M Qu ∧ UpK K H Qu Q
theorem ui_sl (m : Bool) : SlR X (dnSl X.K (slR m)) := fun pins s σ H v w vl vu lo hi sl Q I rv hs pl pu h => by
  obtain ⟨x, M, Qu, r1, rm, q, up⟩ := h
  unfold slR at q
  split at q
  · obtain ⟨rfl, k⟩ := r1
    exact sl_str pins s σ H _ w vl vu lo hi sl Q I rv hs pl pu ⟨_, rfl, okS.len k, up _ _ _ _ q (Stab.refl H) rm ⟨rfl, okS_cut k lo hi⟩⟩
  · rename_i xs
    obtain ⟨a, vs, rfl, h1, h2⟩ := r1
    refine sl_tupD pins s σ H _ w vl vu lo hi sl Q I rv hs pl pu ⟨a, vs, rfl, h1, fun hw => ?_, fun _ => newT_dn rm up (rel_cut h2 lo hi) q⟩
    rw [← h2.length] at hw
    rw [cut_whole hw] at q
    exact up _ _ _ _ q (Stab.refl H) rm ⟨a, vs, rfl, h1, h2⟩
  · obtain ⟨xs, e, q⟩ := q
    obtain ⟨a, vs, rfl, h1, h2⟩ := list_dn rm r1 e
    obtain ⟨T, id, k1, k2, k3⟩ := sl_list pins s σ H _ w vl vu lo hi sl (FzQ Q) I rv hs pl pu ⟨a, vs, rfl, h1, newL_dn rm up (rel_cut h2 lo hi) q⟩
    exact ⟨T, id, k1, k2, thn k3 fun _ _ => ep_fz⟩
def uSl (r : U → Option Int → Option Int → UHp → UK → Prop) (te : UTE) (tl th : UTO) (σ : USt) (M : UHp) (Q : UK) : Prop := te σ M fun x M1 => tl σ M1 fun l M2 => th σ M2 fun u M3 => r x l u M3 Q
theorem ue_slice (m : Bool) {lo hi : Option Expr} {te : UTE} {tl th : UTO} {p2 : Pos} (he : UE X e te) (hl : UO X lo tl) (hu : UO X hi th) : UE X (.Subscript e (.Slice lo hi none p2) pos) (uSl (slR m) te tl th) := PE.mono (pe_slice (ui_sl m) he hl hu) fun τ H Q h => by
  obtain ⟨σ, M, Qu, rs, rm, q, up⟩ := h
  refine ⟨σ, M, _, rs, rm, q, fun x M1 v H1 q1 s1 m1 r1 => ?_⟩
  refine ⟨σ, M1, _, rs.stab s1, m1, q1, fun l M2 H2 q2 s2 m2 => ?_⟩
  refine ⟨σ, M2, _, rs.stab (s1.trans s2), m2, q2, fun u M3 H3 q3 s3 m3 => ?_⟩
  exact ⟨x, M3, Qu, r1.stab (s2.trans s3), m3, q3, up.from ((s1.trans s2).trans s3)⟩

/-! ### a[i] = v -/
def setR (o i v : U) (M : UHp) (Q : UHp → Prop) : Prop := match o, i with
  | .ref a, .int k => ∃ xs j, M a = some (.lst xs) ∧ ixN xs.length k = some j ∧ Q (updM M a (.lst (xs.set j v)))
  | _, _ => False
def dnSet (K : PySem.W.Frag) (r : U → U → U → UHp → (UHp → Prop) → Prop) : TSet := fun o i v H Q => ∃ x y z M Qu, RelU K H x o ∧ RelU K H y i ∧ RelU K H z v ∧ RelM K H M ∧ r x y z M Qu ∧ ∀ M' H', Qu M' → Stab H H' → RelM K H' M' → Q H'
theorem ui_set : PSet X (dnSet X.K setR) := fun pins s σ H o i v ov iv u Q I ro ri rv h => by
  refine set_list pins s σ H o i v ov iv u Q I ro ri rv ?_
  obtain ⟨x, y, z, M, Qu, r1, r2, r3, rm, q, up⟩ := h
  unfold setR at q
  split at q
  · rename_i a k
    obtain rfl := r1
    obtain rfl := r2
    obtain ⟨xs, j, e, e2, q⟩ := q
    obtain ⟨vs, h1, h2⟩ := rm a _ e
    have s' : Stab H (upd H a (.lst (vs.set j v))) := Stab.lst h1
    exact ⟨a, vs, k, j, rfl, rfl, h1, by rw [← h2.length]; exact e2, up _ _ q s' (rm.write s' ⟨_, upd_same, (RelUs.set r3 j h2).stab s'⟩)⟩
  · exact q.elim
def z8r (r : U → U → U → UHp → (UHp → Prop) → Prop) (to ti : UTE) (v : U) (σ : USt) (M : UHp) (Q : USt → UHp → Prop) : Prop := to σ M fun o M1 => ti σ M1 fun i M2 => r o i v M2 fun M3 => Q σ M3
theorem ug_sub {r : U → U → U → UHp → (UHp → Prop) → Prop} {o i : Expr} {to ti : UTE} (hs : PSet X (dnSet X.K r)) (ho : UE X o to) (hi : UE X i ti)
    (ha : ∀ v, assign (.Subscript o i pos) X.env v = (do
      let ov ← holding [v] (eval o X.env)
      let iv ← holding [v, ov] (eval i X.env)
      standAt pos
      holding [v, ov, iv] (setItem ov iv v)
      release [v, ov, iv] []) := by intro _; rfl) : UG X (.Subscript o i pos) (z8r r to ti) := PG.mono (pg_sub ho hi hs ha) fun v τ H Q h => by
  obtain ⟨u, σ, M, Qu, ru, rs, rm, q, up⟩ := h
  refine ⟨σ, M, _, rs, rm, q, fun o M1 ov H1 q1 s1 m1 r1 => ?_⟩
  refine ⟨σ, M1, _, rs.stab s1, m1, q1, fun i M2 iv H2 q2 s2 m2 r2 => ?_⟩
  exact ⟨o, i, u, M2, _, r1.stab s2, r2, ru.stab (s1.trans s2), m2, q2, fun M3 H3 q3 s3 m3 => up _ _ _ _ q3 ((s1.trans s2).trans s3) m3 (rs.stab ((s1.trans s2).trans s3))⟩

/-! ### methods of built-in types -/
def tyMt (T : String) (M : UHp) (x : U) : Prop := match x with
  | .str _ => T = "str"
  | .lst _ => T = "list"
  | .ref a => (T = "list" ∧ ∃ xs, M a = some (.lst xs)) ∨ (T = "dict" ∧ ∃ kvs, M a = some (.dK kvs))
  | _ => False
theorem tyMt_dn {K : PySem.W.Frag} {H : Hp} {M : UHp} {x : U} {v : V} {T : String} (rm : RelM K H M) (r : RelU K H x v) (h : tyMt T M x) : tyV K T v H := by
  cases x with
  | str z => obtain ⟨rfl, _⟩ := r; exact h
  | lst xs => obtain ⟨a, vs, rfl, q, _⟩ := r; exact .inl ⟨h, vs, q.sq⟩
  | ref a =>
    obtain rfl := r
    rcases h with ⟨rfl, xs, e⟩ | ⟨rfl, kvs, e⟩
    · obtain ⟨vs, h1, _⟩ := rm a _ e; exact .inl ⟨rfl, vs, SqL.of h1⟩
    · obtain ⟨vs, h1, _⟩ := rm a _ e; exact .inr (.inr (.inl ⟨rfl, .inl ⟨vs, h1⟩⟩))
  | _ => exact False.elim h
def dnMt (K : PySem.W.Frag) (r : U → List U → UHp → UK → Prop) : V → List V → Hp → VK → Prop := fun v vs H Q => ∃ x xs M Qu, RelU K H x v ∧ RelUs K H xs vs ∧ RelM K H M ∧ r x xs M Qu ∧ UpK K H Qu Q
abbrev UMtR (X : Cx) (id : String) (r : U → List U → UHp → UK → Prop) : Prop := MtR X id (dnMt X.K r)
theorem MtR.mono {id : String} {r r' : V → List V → Hp → VK → Prop} (h : MtR X id r) (w : ∀ x xs H Q, r' x xs H Q → r x xs H Q) : MtR X id r' := fun pins s σ H x xs v us Q I rx rs q => h pins s σ H x xs v us Q I rx rs (w x xs H Q q)
theorem MtR.fz {id : String} {r r' : V → List V → Hp → VK → Prop} (h : MtR X id r) (w : ∀ x xs H Q, r' x xs H Q → r x xs H (FzQ Q)) : MtR X id r' := fun pins s σ H x xs v us Q I rx rs q =>
  thn (h pins s σ H x xs v us (FzQ Q) I rx rs (w x xs H Q q)) fun _ _ => ep_fz
def uBM (T : String) (r : U → List U → UHp → UK → Prop) (to : UTE) (t : UTA) (σ : USt) (M : UHp) (Q : UK) : Prop := to σ M fun x M1 => tyMt T M1 x ∧ t σ M1 fun xs M2 => r x xs M2 Q
theorem ue_bm {rm : U → List U → UHp → UK → Prop} {o : Expr} {to : UTE} {name : Str} {apos cpos : Pos} (pa : PlainAttrs T) (slot : Slot T name id) (hty : typeOf (.builtin id) = pure (.type "method_descriptor")) (hm : UMtR X id rm) (ho : UE X o to) (ha : UA X (e :: es) t)
    (hbase : attributeBase o name X.env (eval o X.env) = eval o X.env := by rfl)
    (hfew : ((backTo cpos (starEach (e :: es) X.env)).all (fun x => !x.1) && (backToKw cpos (keywordEach [] X.env)).all (fun x => x.1.isSome)
      && decide ((e :: es).length + ([] : List Keyword).length + (if ([] : List Keyword).isEmpty then 0 else 1) < 30)) = true := by rfl)
    (hline : (apos.endLine == cpos.line) = true := by rfl) (hs : starEach (e :: es) X.env = (false, eval e X.env) :: starEach es X.env := by rfl) (hplain : (backTo cpos (starEach es X.env)).any (·.1) = false := by rfl) :
    UE X (.Call (.Attribute o name apos) (e :: es) [] cpos) (uBM T rm to t) := PE.mono (pe_bm pa slot hty hm ho ha hbase hfew hline hs hplain) fun τ H Q h => by
  obtain ⟨σ, M, Qu, rs, m0, q, up⟩ := h
  refine ⟨σ, M, _, rs, m0, q, fun x M1 v H1 q1 s1 m1 r1 => ⟨tyMt_dn m1 r1 q1.1, ?_⟩⟩
  refine ⟨σ, M1, _, rs.stab s1, m1, q1.2, fun xs M2 vs H2 q2 s2 m2 r2 => ?_⟩
  exact ⟨x, xs, M2, Qu, r1.stab s2, r2, m2, q2, up.from (s1.trans s2)⟩
def z8g (T : String) (r : U → List U → UHp → UK → Prop) (to : UTE) (σ : USt) (M : UHp) (Q : UK) : Prop := to σ M fun x M1 => tyMt T M1 x ∧ r x [] M1 Q
def appR (x : U) (xs : List U) (M : UHp) (Q : UK) : Prop := match x, xs with
  | .ref a, [y] => ∃ ys, M a = some (.lst ys) ∧ ys.length < sizeLine ∧ Q .non (updM M a (.lst (ys ++ [y])))
  | _, _ => False
theorem um_append : UMtR X "list.append" appR := MtR.mono mt_append fun v vs H Q h => by
  obtain ⟨x, xs, M, Qu, r1, r2, rm, q, up⟩ := h
  unfold appR at q
  split at q
  · rename_i a y
    obtain rfl := r1
    obtain ⟨w, t, rfl, rw, rfl⟩ := r2
    obtain ⟨ys, e, hl, q⟩ := q
    obtain ⟨vs, h1, h2⟩ := rm a _ e
    have s' : Stab H (upd H a (.lst (vs ++ [w]))) := Stab.lst h1
    exact ⟨a, vs, w, rfl, rfl, h1, by rw [← h2.length]; exact hl, up _ _ .non _ q s' (rm.write s' ⟨_, upd_same, (h2.append (RelUs.cons rw RelUs.nil)).stab s'⟩) rfl⟩
  · exact q.elim
def popR (x : U) (xs : List U) (M : UHp) (Q : UK) : Prop := match x, xs with
  | .ref a, [.int i] => ∃ ys k y, M a = some (.lst ys) ∧ i < 2 ^ 63 ∧ ixN ys.length i = some k ∧ ys[k]? = some y ∧ Q y (updM M a (.lst (ys.eraseIdx k)))
  | _, _ => False
theorem um_popAt : UMtR X "list.pop" popR := fun pins s σ H v vs u us Q I rv rvs h => by
  obtain ⟨x, xs, M, Qu, r1, r2, rm, q, up⟩ := h
  unfold popR at q
  split at q
  · rename_i a i
    obtain rfl := r1
    obtain ⟨w, t, rfl, rfl, rfl⟩ := r2
    obtain ⟨ys, k, y, e, hi, hk, hy, q⟩ := q
    obtain ⟨ws, h1, h2⟩ := rm a _ e
    obtain ⟨z, e3, r3⟩ := h2.get hy
    rw [h2.length] at hk
    obtain ⟨k1, k2, k3, k4⟩ := ixN_seq hk
    obtain ⟨hz, _⟩ := (show ObjOk X.prog X.w H s.heap a (.lst ws) from I.hok a _ h1)
    have hs := sizeLine_eq
    have s' : Stab H (upd H a (.lst (ws.eraseIdx k))) := Stab.lst h1
    exact mt_popAt pins s σ H _ _ u us Q I rv rvs ⟨a, ws, i, k, z, rfl, rfl, h1, by omega, hi, k1, e3, up _ _ _ _ q s' (rm.write s' ⟨_, upd_same, (RelUs.eraseIdx k h2).stab s'⟩) (r3.stab s')⟩
  · exact q.elim
def insR (x : U) (xs : List U) (M : UHp) (Q : UK) : Prop := match x, xs with
  | .ref a, [.int i, y] => ∃ ys, M a = some (.lst ys) ∧ ys.length < sizeLine ∧ 0 ≤ i ∧ i < 2 ^ 63 ∧ Q .non (updM M a (.lst (ys.take i.toNat ++ [y] ++ ys.drop i.toNat)))
  | _, _ => False
theorem um_insert : UMtR X "list.insert" insR := MtR.mono mt_insert fun v vs H Q h => by
  obtain ⟨x, xs, M, Qu, r1, r2, rm, q, up⟩ := h
  unfold insR at q
  split at q
  · rename_i a i y
    obtain rfl := r1
    obtain ⟨w, t, rfl, rfl, w2, t2, rfl, rw, rfl⟩ := r2
    obtain ⟨ys, e, hl, h0, hi, q⟩ := q
    obtain ⟨vs, h1, h2⟩ := rm a _ e
    have s' : Stab H (upd H a (.lst (vs.take i.toNat ++ [w2] ++ vs.drop i.toNat))) := Stab.lst h1
    exact ⟨a, vs, i, w2, rfl, rfl, h1, by rw [← h2.length]; exact hl, h0, hi, up _ _ .non _ q s' (rm.write s' ⟨_, upd_same, (((h2.take _).append (RelUs.cons rw RelUs.nil)).append (h2.drop _)).stab s'⟩) rfl⟩
  · exact q.elim
/-- the texts of a list -/
def strsU : List U → Option (List Str)
  | [] => some []
  | .str z :: r => (strsU r).map (z :: ·)
  | _ :: _ => none
theorem strsU_map {α : Type} (f : α → Str) (xs : List α) : strsU (xs.map fun x => .str (f x)) = some (xs.map f) := by
  induction xs with
  | nil => rfl
  | cons x xs ih => simp [strsU, ih]
theorem strsU_rel {K : PySem.W.Frag} {H : Hp} : ∀ {xs : List U} {vs : List V} {zs : List Str}, strsU xs = some zs → RelUs K H xs vs → vs = zs.map V.str ∧ ∀ z ∈ zs, okS z = true
  | [], _, _, h, r => by simp only [strsU,Option.some.injEq] at h; subst h; obtain rfl := r; exact ⟨rfl, by simp⟩
  | .str z :: xs, _, _, h, r => by
    simp only [strsU,Option.map_eq_some_iff] at h
    obtain ⟨ys, e, rfl⟩ := h
    obtain ⟨v, w, rfl, ⟨rfl, k⟩, t⟩ := r
    obtain ⟨rfl, hk⟩ := strsU_rel e t
    exact ⟨rfl, fun y hy => (List.mem_cons.mp hy).elim (fun e => e ▸ k) (hk y)⟩
  | .non :: _, _, _, h, _ => by simp [strsU] at h
  | .bl _ :: _, _, _, h, _ => by simp [strsU] at h
  | .int _ :: _, _, _, h, _ => by simp [strsU] at h
  | .ref _ :: _, _, _, h, _ => by simp [strsU] at h
  | .ty _ :: _, _, _, h, _ => by simp [strsU] at h
  | .tup _ :: _, _, _, h, _ => by simp [strsU] at h
  | .lst _ :: _, _, _, h, _ => by simp [strsU] at h
def joinR (x : U) (xs : List U) (M : UHp) (Q : UK) : Prop := match x, xs with
  | .str a, [y] => ∃ ys zs, seqU M y = some ys ∧ strsU ys = some zs ∧ (zs.map (·.length)).sum + zs.length * a.length ≤ 16777216 ∧ (okS a = true → (∀ z ∈ zs, okS z = true) → okS (Txt.join a zs) = true) ∧ Q (.str (Txt.join a zs)) M
  | _, _ => False
theorem um_join : UMtR X "str.join" joinR := MtR.mono mt_join fun v vs H Q h => by
  obtain ⟨x, xs, M, Qu, r1, r2, rm, q, up⟩ := h
  unfold joinR at q
  split at q
  · obtain ⟨rfl, ka⟩ := r1
    obtain ⟨w, t, rfl, rw, rfl⟩ := r2
    obtain ⟨ys, zs, e, e2, hz, hk, q⟩ := q
    obtain ⟨p, ws, rfl, h1, h2⟩ := seq_dn rm rw e
    obtain ⟨rfl, hks⟩ := strsU_rel e2 h2
    exact ⟨_, p, zs, rfl, rfl, h1.imp id SqX.t, hz, up _ _ _ _ q (Stab.refl H) rm ⟨rfl, hk ka hks⟩⟩
  · exact q.elim
/-! in a text -/
end
end PU

set_option Elab.async false
set_option linter.all false
set_option maxRecDepth 100000
/-! UIter: and, or, not as values; for loops and comprehensions over U. -/
namespace PU
open PySem PySem.Spec PyProof.Rows L2

section
variable {X : Cx} {a b : Expr} {ta tb : UTE} {rest : List Expr} {pos : Pos}
def uOrV (ta tb : UTE) (σ : USt) (M : UHp) (Q : UK) : Prop := ta σ M fun x M1 => ∃ k, truU M1 x = some k ∧ if k = true then Q x M1 else tb σ M1 Q
def uAndV (ta tb : UTE) (σ : USt) (M : UHp) (Q : UK) : Prop := ta σ M fun x M1 => ∃ k, truU M1 x = some k ∧ if k = true then tb σ M1 Q else Q x M1
theorem ue_one {op} {t : UTE} (h : UE X a t) : UE X (.BoolOp op [a] pos) t := pe_one h
theorem ue_or (ha : UE X a ta) (hb : UE X (.BoolOp .Or (b :: rest) pos) tb) : UE X (.BoolOp .Or (a :: b :: rest) pos) (uOrV ta tb) := PE.mono (pe_orT ha hb) fun τ H Q h => by
  obtain ⟨σ, M, Qu, rs, rm, q, up⟩ := h
  refine ⟨σ, M, _, rs, rm, q, fun x M1 v H1 q1 s1 m1 r1 => ?_⟩
  obtain ⟨k, e, q1⟩ := q1
  refine ⟨k, tru_dn m1 r1 e, ?_⟩
  cases k with
  | true => simp only [if_true] at q1 ⊢; exact up _ _ _ _ q1 s1 m1 r1
  | false => simp only [Bool.false_eq_true,if_false] at q1 ⊢; exact ⟨σ, M1, _, rs.stab s1, m1, q1, up.from s1⟩
theorem ue_and (ha : UE X a ta) (hb : UE X (.BoolOp .And (b :: rest) pos) tb) : UE X (.BoolOp .And (a :: b :: rest) pos) (uAndV ta tb) := PE.mono (pe_andT ha hb) fun τ H Q h => by
  obtain ⟨σ, M, Qu, rs, rm, q, up⟩ := h
  refine ⟨σ, M, _, rs, rm, q, fun x M1 v H1 q1 s1 m1 r1 => ?_⟩
  obtain ⟨k, e, q1⟩ := q1
  refine ⟨k, tru_dn m1 r1 e, ?_⟩
  cases k with
  | true => simp only [if_true] at q1 ⊢; exact ⟨σ, M1, _, rs.stab s1, m1, q1, up.from s1⟩
  | false => simp only [Bool.false_eq_true,if_false] at q1 ⊢; exact up _ _ _ _ q1 s1 m1 r1
def uNotV (ta : UTE) (σ : USt) (M : UHp) (Q : UK) : Prop := ta σ M fun x M1 => ∃ k, truU M1 x = some k ∧ Q (.bl (!k)) M1
theorem ue_not (ha : UE X a ta) : UE X (.UnaryOp .Not a pos) (uNotV ta) := PE.mono (pe_notT ha) fun τ H Q h => by
  obtain ⟨σ, M, Qu, rs, rm, q, up⟩ := h
  refine ⟨σ, M, _, rs, rm, q, fun x M1 v H1 q1 s1 m1 r1 => ?_⟩
  obtain ⟨k, e, q1⟩ := q1
  exact ⟨k, tru_dn m1 r1 e, up _ _ _ _ q1 s1 m1 rfl⟩
end

/-! ### what is walked -/
/-- the items, and what has to stay -/
structure UIt where
  xs : List U
  st : UHp → Prop
abbrev UTI := USt → UHp → (UIt → UHp → Prop) → Prop
/-- J walks the items of it, from H on -/
def Lk (K : PySem.W.Frag) (it : UIt) (J : It) (H : Hp) : Prop := ∀ (i : Nat) (H' : Hp) (M' : UHp), Stab H H' → RelM K H' M' → it.st M' →
  (∀ x, it.xs[i]? = some x → J.go i H' ∧ ∀ v H2, J.yld i H' v H2 → Stab H' H2 ∧ RelU K H2 x v ∧ ∀ M2, RelM K H' M2 → RelM K H2 M2) ∧ (it.xs.length ≤ i → J.stop i H')
def dnI (K : PySem.W.Frag) (w : UTI) : TI := fun τ H R => ∃ σ M Ru, RelS K H σ τ ∧ RelM K H M ∧ w σ M Ru ∧ ∀ it M' J H', Ru it M' → Stab H H' → RelM K H' M' → Lk K it J H' → it.xs.length ≤ sizeLine → R J H'
abbrev UI (X : Cx) (tg iter : Expr) (w : UTI) : Prop := PI X tg iter (dnI X.K w)
theorem PI.mono {X : Cx} {tg iter : Expr} {w w' : TI} (h : PI X tg iter w) (k : ∀ σ H R, w' σ H R → w σ H R) : PI X tg iter w' := ⟨fun pins s σ H R I q => h.run pins s σ H R I (k σ H R q)⟩
section
variable {X : Cx} {tg l : Expr} {tl : UTE}
theorem lk_list {K : PySem.W.Frag} {H : Hp} {x : U} {xs : List U} {a : Addr} (r : RelU K H x (.ref a)) : Lk K ⟨xs, fun M' => listU M' x = some xs⟩ (Itl K a) H := fun i H' M' s m e => by
  obtain ⟨b, vs, e1, h1, h2⟩ := list_dn m (r.stab s) e
  cases e1
  refine ⟨fun y hy => ?_, fun hi => ⟨vs, h1, by rw [← h2.length]; exact hi⟩⟩
  obtain ⟨v, e2, rv⟩ := h2.get hy
  refine ⟨⟨vs, v, h1, e2⟩, fun w H2 hy => ?_⟩
  obtain ⟨rfl, hw⟩ := hy
  have := hw vs h1
  rw [e2] at this
  cases this
  exact ⟨Stab.refl _, rv, fun _ h => h⟩
/-- a text, sign by sign -/
def signs (z : Str) : List U := z.cps.toList.map fun c => .str ⟨#[c]⟩
theorem lk_str {K : PySem.W.Frag} {H : Hp} {z : Str} (k : okS z = true) : Lk K ⟨signs z, fun _ => True⟩ (Its z) H := fun i H' M' s m _ => by
  refine ⟨fun y hy => ?_, fun hi => (show z.cps.size ≤ i by simpa [signs] using hi)⟩
  have hy : (signs z)[i]? = some y := hy
  unfold signs at hy
  rw [List.getElem?_map] at hy
  cases e : z.cps.toList[i]? with
  | none => rw [e] at hy; cases hy
  | some c =>
    rw [e] at hy; cases hy
    have e' : z.cps[i]? = some c := by simpa using e
    have hi : i < z.cps.size := by
      by_cases h : i < z.cps.size
      · exact h
      · rw [Array.getElem?_eq_none (by omega)] at e'; cases e'
    refine ⟨hi, fun w H2 hw => ?_⟩
    obtain ⟨rfl, d, e2, rfl⟩ := hw
    rw [e'] at e2
    cases e2
    exact ⟨Stab.refl _, ⟨rfl, okS_one k (List.mem_of_getElem? e)⟩, fun _ h => h⟩
/-- either: by what it is -/
def uAnyI (te : UTE) (σ : USt) (M : UHp) (R : UIt → UHp → Prop) : Prop := te σ M fun x M1 => match x with
  | .tup xs => R ⟨xs, fun _ => True⟩ M1
  | .str z => R ⟨signs z, fun _ => True⟩ M1
  | x => ∃ xs, listU M1 x = some xs ∧ R ⟨xs, fun M' => listU M' x = some xs⟩ M1
def rangeU (lo : Int) (n : Nat) : List U := (List.range n).map fun i => .int (lo + (i : Nat))
theorem lk_range {K : PySem.W.Frag} {H : Hp} {lo : Int} {n : Nat} : Lk K ⟨rangeU lo n, fun _ => True⟩ (Itr lo n) H := fun i H' M' s m _ => by
  refine ⟨fun y hy => ?_, fun hi => (show n ≤ i by simpa [rangeU] using hi)⟩
  unfold rangeU at hy
  rw [List.getElem?_map] at hy
  have hi : i < n := by
    by_cases h : i < n
    · exact h
    · rw [List.getElem?_eq_none (by simpa using h)] at hy; cases hy
  rw [List.getElem?_range hi] at hy
  cases hy
  refine ⟨hi, fun w H2 hy => ?_⟩
  obtain ⟨rfl, rfl⟩ := hy
  exact ⟨Stab.refl _, rfl, fun _ h => h⟩
def uRng1 (ta : UTA) (σ : USt) (M : UHp) (R : UIt → UHp → Prop) : Prop := ta σ M fun us M1 => ∃ j : Int, us = [.int j] ∧ -(2 ^ 62) ≤ j ∧ j < 2 ^ 62 ∧ j.toNat ≤ sizeLine ∧ R ⟨rangeU 0 j.toNat, fun _ => True⟩ M1
theorem ui_range1 {a : Expr} {ta : UTA} {p pos : Pos} (hg : Gl X "range") (hm : X.mg "range" = none) (ha : UA X [a] ta) (hs : starEach [a] X.env = [(false, eval a X.env)] := by rfl) : UI X tg (.Call (.Name "range" p) [a] [] pos) (uRng1 ta) :=
  PI.mono (pi_range1 hg hm ha hs) fun τ H R h => by
    obtain ⟨σ, M, Ru, rs, rm, q, up⟩ := h
    refine ⟨σ, M, _, rs, rm, q, fun us M1 vs H1 q1 s1 m1 r1 => ?_⟩
    obtain ⟨j, rfl, h1, h2, hz, q1⟩ := q1
    obtain ⟨v, w, rfl, rfl, rfl⟩ := r1
    exact ⟨j, rfl, h1, h2, up _ _ _ _ q1 s1 m1 lk_range (by simpa [rangeU] using hz)⟩
def z7x (ta : UTA) (σ : USt) (M : UHp) (R : UIt → UHp → Prop) : Prop := ta σ M fun us M1 => ∃ i j : Int, us = [.int i, .int j] ∧ (-(2 ^ 62) ≤ i ∧ i < 2 ^ 62 ∧ -(2 ^ 62) ≤ j ∧ j < 2 ^ 62) ∧ (j - i).toNat ≤ sizeLine ∧ R ⟨rangeU i (j - i).toNat, fun _ => True⟩ M1
end

/-! ### a list or a tuple, whichever it is -/
section
variable {X : Cx} {tg l : Expr} {tl : UTE}
theorem ui_any (hl : UE X l tl) : UI X tg l (uAnyI tl) := by
  constructor
  intro pins s τ H R I h
  obtain ⟨σ, M, Ru, rs, rm, q, up⟩ := h
  refine thn (hl.run pins s τ H (fun v H1 => (∃ a ys, v = .ref a ∧ SqL X.K H1 a ys ∧ (ys.length ≤ sizeLine → R (Itl X.K a) H1)) ∨ (∃ a ys, v = .ref a ∧ SqT X.K H1 a ys ∧ (ys.length ≤ sizeLine → R (Itt X.K a) H1)) ∨ ∃ z, v = .str z ∧ R (Its z) H1) I ⟨σ, M, _, rs, rm, q, fun x M1 v H1 q1 s1 m1 r1 => ?_⟩) fun v s1 ⟨x, H1, I1, r1, q1⟩ => ?_
  · split at q1
    · rename_i xs
      obtain ⟨a, vs, rfl, h1, h2⟩ := r1
      refine .inr (.inl ⟨a, vs, rfl, h1, fun hz => up _ _ _ _ q1 s1 m1 (fun i H' M' s m _ => ?_) (by show xs.length ≤ sizeLine; rw [h2.length]; exact hz)⟩)
      have h1' := SqT.stab s h1.t
      have h2' := h2.stab s
      refine ⟨fun y hy => ?_, fun hi => ⟨vs, h1', by rw [← h2'.length]; exact hi⟩⟩
      obtain ⟨v, e2, rv⟩ := h2'.get hy
      refine ⟨⟨vs, v, h1', e2⟩, fun w H2 hy => ?_⟩
      obtain ⟨rfl, hw⟩ := hy
      have := hw vs h1'
      rw [e2] at this
      cases this
      exact ⟨Stab.refl _, rv, fun _ h => h⟩
    · rename_i z
      obtain ⟨rfl, k⟩ := r1
      exact .inr (.inr ⟨z, rfl, up _ _ _ _ q1 s1 m1 (lk_str k) (by show (signs z).length ≤ sizeLine; unfold signs; rw [List.length_map, Array.length_toList]; exact okS.len k)⟩)
    · obtain ⟨xs, e, q1⟩ := q1
      obtain ⟨a, vs, rfl, h1, h2⟩ := list_dn m1 r1 e
      exact .inl ⟨a, vs, rfl, h1, fun hz => up _ _ _ _ q1 s1 m1 (lk_list r1) (by show xs.length ≤ sizeLine; rw [h2.length]; exact hz)⟩
  · rcases q1 with ⟨a, ys, rfl, hq, q1⟩ | ⟨a, ys, rfl, hq, q1⟩ | ⟨z, rfl, q1⟩
    · cases r1
      obtain ⟨its, rv, p, hz⟩ := I1.list hq
      exact wpAny_pyIter_list p.isList (pi_one (tk := s1.toks) I1 _ (turn_list a _) ⟨_, Heap.get?_push_size _ rfl, rfl, rfl⟩ (q1 hz))
    · cases r1
      obtain ⟨its, rv, p, hz⟩ := I1.tuple hq
      exact wpAny_pyIter_tuple (show s1.heap.IsTuple a its.toArray from p) (pi_one (tk := s1.toks) I1 _ (turn_tuple a _) ⟨_, Heap.get?_push_size _ rfl, rfl, rfl⟩ (q1 hz))
    · obtain ⟨t, rfl⟩ := r1
      cases ha : z.cps.all (· < 128)
      · exact wpAny_pyIter_wide ha (pi_one (tk := s1.toks) I1 _ (turn_str _ z t "str_iterator" (.inr rfl)) ⟨_, Heap.get?_push_size _ rfl, rfl, rfl⟩ q1)
      · exact wpAny_pyIter_ascii ha (pi_one (tk := s1.toks) I1 _ (turn_str _ z t "str_ascii_iterator" (.inl rfl)) ⟨_, Heap.get?_push_size _ rfl, rfl, rfl⟩ q1)
end

/-! ### for -/
def uForGo (g : UTG) (tb : UTS) (st : UHp → Prop) (D : UEnds) : List U → USt → UHp → Prop
  | [], σ, M => st M ∧ D.nx σ M
  | x :: r, σ, M => st M ∧ g x σ M fun σ2 M2 => tb { D with nx := uForGo g tb st D r, ct := uForGo g tb st D r, bk := D.nx } σ2 M2
def uFor (w : UTI) (g : UTG) (tb : UTS) (D : UEnds) (σ : USt) (M : UHp) : Prop := w σ M fun it M1 => uForGo g tb it.st D it.xs σ M1
theorem dn_for {K : PySem.W.Frag} {w : UTI} {g : UTG} {tb : UTS} : ∀ D τ H, dnS K (uFor w g tb) D τ H → tFor (dnI K w) (dnG K g) (dnS K tb) D τ H := fun D τ H h => by
  obtain ⟨σ, M, Du, rs, rm, q, up⟩ := h
  refine ⟨σ, M, _, rs, rm, q, fun it M1 J H1 q1 s1 m1 lk _ => ?_⟩
  refine ⟨fun i m τ' H' => m = it.xs.length - i ∧ i ≤ it.xs.length ∧ ∃ σ' M', Stab H1 H' ∧ RelS K H' σ' τ' ∧ RelM K H' M' ∧ uForGo g tb it.st Du (it.xs.drop i) σ' M', ⟨it.xs.length, by simp, Nat.zero_le _, σ, M1, Stab.refl _, rs.stab s1, m1, q1⟩, ?_⟩
  rintro i m τ' H' ⟨rfl, hi, σ', M', s', rs', rm', q'⟩
  by_cases hlt : i < it.xs.length
  · right
    have hx : it.xs[i]? = some it.xs[i] := List.getElem?_eq_getElem hlt
    rw [List.drop_eq_getElem_cons hlt] at q'
    obtain ⟨hst, q'⟩ := q'
    obtain ⟨go, stop⟩ := lk i H' M' s' rm' hst
    obtain ⟨hgo, hy⟩ := go _ hx
    refine ⟨hgo, fun τ2 H2 => ∃ σ2 M2, Stab H1 H2 ∧ RelS K H2 σ2 τ2 ∧ RelM K H2 M2 ∧ uForGo g tb it.st Du (it.xs.drop (i + 1)) σ2 M2, fun τ2 H2 n2 => ⟨it.xs.length - (i + 1), by omega, rfl, hlt, n2⟩, fun v H2 y => ?_⟩
    obtain ⟨s2, ru, m2⟩ := hy v H2 y
    refine ⟨it.xs[i], σ', M', _, ru, rs'.stab s2, m2 _ rm', q', fun σ3 M3 τ3 H3 q3 s3 m3 r3 => ?_⟩
    have s13 : Stab H1 H3 := (s'.trans s2).trans s3
    refine ⟨σ3, M3, _, r3, m3, q3, ?_⟩
    have nx : UpS K H3 (uForGo g tb it.st Du (it.xs.drop (i + 1))) (fun τ2 H2 => ∃ σ2 M2, Stab H1 H2 ∧ RelS K H2 σ2 τ2 ∧ RelM K H2 M2 ∧ uForGo g tb it.st Du (it.xs.drop (i + 1)) σ2 M2) :=
      fun σ4 M4 τ4 H4 q4 s4 m4 r4 => ⟨σ4, M4, s13.trans s4, r4, m4, q4⟩
    exact ⟨nx, up.rt.from (s1.trans s13), up.nx.from (s1.trans s13), nx⟩
  · left
    have e : i = it.xs.length := by omega
    subst e
    rw [List.drop_length] at q'
    obtain ⟨hst, q'⟩ := q'
    obtain ⟨_, stop⟩ := lk _ H' M' s' rm' hst
    exact ⟨stop (Nat.le_refl _), up.nx _ _ _ _ q' (s1.trans s') rm' rs'⟩
theorem us_for {X : Cx} {tg iter : Expr} {body : List Stmt} {w : UTI} {g : UTG} {tb : UTS} {pos : Pos} (hp : PassesOwn (model X.prog X.w) X.A X.env X.xe) (hc : X.calm = true) (hi : UI X tg iter w) (hg : UG X tg g) (hb : USs X body tb)
    (hs : ∀ x, foldedSetIterable iter X.env x = pure x := by intro _; rfl) : US X (.For tg iter body [] pos) (uFor w g tb) := PS.mono (ps_for hp hc hi hg hb hs) dn_for

/-! ### comprehensions -/
theorem wipe_wipe (τ : L2.St) (vs : List Nat) : wipe (wipe τ vs) vs = wipe τ vs := by
  have comm : ∀ (l : List Nat) (τ : L2.St) (j : Nat), wipe (τ.set j none) l = (wipe τ l).set j none := by
    intro l
    induction l with
    | nil => intro τ j; rfl
    | cons a l ih =>
      intro τ j
      show (wipe (τ.set j none) l).set a none = ((wipe τ l).set a none).set j none
      rw [ih τ j]
      by_cases h : a = j
      · subst h; rfl
      · rw [List.set_comm _ _ (Ne.symm h)]
  induction vs with
  | nil => rfl
  | cons a l ih =>
    show (wipe ((wipe τ l).set a none) l).set a none = (wipe τ l).set a none
    rw [comm, ih, List.set_set]
def wipeU (σ : USt) : List Nat → USt
  | [] => σ
  | v :: vs => (wipeU σ vs).set v none
theorem rel_wipe {K : PySem.W.Frag} {H : Hp} {σ : USt} {τ : L2.St} (r : RelS K H σ τ) : ∀ vs : List Nat, RelS K H (wipeU σ vs) (wipe τ vs)
  | [] => r
  | v :: vs => (rel_wipe r vs).unset v none
/-- a target that is names: by their slots -/
inductive NT where
  | one (i : Nat)
  | tup (ts : List NT)
mutual
def NT.put : NT → U → USt → Option USt
  | .one i, u, σ => some (σ.set i (some u))
  | .tup ts, u, σ => match u with
    | .tup us => puts ts us σ
    | _ => none
def puts : List NT → List U → USt → Option USt
  | [], [], σ => some σ
  | t :: ts, u :: us, σ => match t.put u σ with
    | some σ' => puts ts us σ'
    | none => none
  | _, _, _ => none
end
mutual
def NT.gt (K : PySem.W.Frag) : NT → TG
  | .one i => gName i
  | .tup ts => gTup K ts.length (gts K ts)
def gts (K : PySem.W.Frag) : List NT → TGs
  | [] => gNil
  | t :: ts => gCons (t.gt K) (gts K ts)
end
mutual
def NT.slots : NT → List Nat
  | .one i => [i]
  | .tup ts => slotss ts
def slotss : List NT → List Nat
  | [] => []
  | t :: ts => t.slots ++ slotss ts
end
theorem wipe_set {τ : L2.St} {i : Nat} {o : Option V} : ∀ {vs : List Nat}, i ∈ vs → wipe (τ.set i o) vs = wipe τ vs
  | v :: vs, h => by
    have comm : ∀ (l : List Nat) (τ : L2.St) (o : Option V) (j : Nat), j ∉ l → wipe (τ.set j o) l = (wipe τ l).set j o := by
      intro l
      induction l with
      | nil => intro τ o j _; rfl
      | cons a l ih =>
        intro τ o j hj
        simp only [List.mem_cons,not_or] at hj
        show (wipe (τ.set j o) l).set a none = ((wipe τ l).set a none).set j o
        rw [ih τ o j hj.2, List.set_comm _ _ (Ne.symm hj.1)]
    show (wipe (τ.set i o) vs).set v none = (wipe τ vs).set v none
    by_cases hi : i ∈ vs
    · rw [wipe_set hi]
    · have e : i = v := by
        rcases List.mem_cons.mp h with h | h
        · exact h
        · exact absurd h hi
      subst e
      rw [comm vs τ o i hi, List.set_set]
mutual
theorem nt_gt {K : PySem.W.Frag} {H : Hp} {vs : List Nat} : ∀ (t : NT) (u : U) (v : V) (σ σ' : USt) (τ : L2.St) (Q : L2.St → Hp → Prop), (∀ i ∈ t.slots, i ∈ vs) → RelU K H u v → RelS K H σ τ → t.put u σ = some σ' →
    (∀ τ', RelS K H σ' τ' → wipe τ' vs = wipe τ vs → Q τ' H) → t.gt K v τ H Q
  | .one i, u, v, σ, σ', τ, Q, hs, ru, rs, e, q => by
    simp only [NT.put,Option.some.injEq] at e
    subst e
    simp only [NT.gt]
    exact q _ (rs.set ru i) (wipe_set (hs i (by simp [NT.slots])))
  | .tup ts, u, v, σ, σ', τ, Q, hs, ru, rs, e, q => by
    cases u with
    | tup us =>
      simp only [NT.put] at e
      obtain ⟨a, ws, rfl, h1, h2⟩ := ru
      simp only [NT.gt]
      have hl := puts_len ts us σ σ' e
      exact ⟨a, ws, rfl, h1, by rw [← h2.length, hl], nts_gt ts us ws σ σ' τ Q (fun i hi => hs i (by simpa [NT.slots] using hi)) h2 rs e q⟩
    | _ => simp [NT.put] at e
theorem nts_gt {K : PySem.W.Frag} {H : Hp} {vs : List Nat} : ∀ (ts : List NT) (us : List U) (ws : List V) (σ σ' : USt) (τ : L2.St) (Q : L2.St → Hp → Prop), (∀ i ∈ slotss ts, i ∈ vs) → RelUs K H us ws → RelS K H σ τ → puts ts us σ = some σ' →
    (∀ τ', RelS K H σ' τ' → wipe τ' vs = wipe τ vs → Q τ' H) → gts K ts ws τ H Q
  | [], us, ws, σ, σ', τ, Q, _, ru, rs, e, q => by
    cases us with
    | nil =>
      simp only [puts,Option.some.injEq] at e
      subst e
      obtain rfl := ru
      exact ⟨rfl, q _ rs rfl⟩
    | cons _ _ => simp [puts] at e
  | t :: ts, us, ws, σ, σ', τ, Q, hs, ru, rs, e, q => by
    cases us with
    | nil => simp [puts] at e
    | cons u us =>
      obtain ⟨v, r, rfl, r1, r2⟩ := ru
      simp only [puts] at e
      cases e1 : t.put u σ with
      | none => rw [e1] at e; cases e
      | some σ1 =>
        rw [e1] at e
        refine ⟨v, r, rfl, nt_gt t u v σ σ1 τ _ (fun i hi => hs i (by simp [slotss, hi])) r1 rs e1 fun τ1 rs1 w1 => ?_⟩
        exact nts_gt ts us r σ1 σ' τ1 Q (fun i hi => hs i (by simp [slotss, hi])) r2 rs1 e fun τ2 rs2 w2 => q τ2 rs2 (w2.trans w1)
theorem puts_len : ∀ (ts : List NT) (us : List U) (σ σ' : USt), puts ts us σ = some σ' → us.length = ts.length
  | [], us, σ, σ', e => by cases us with
    | nil => rfl
    | cons _ _ => simp [puts] at e
  | t :: ts, us, σ, σ', e => by
    cases us with
    | nil => simp [puts] at e
    | cons u us =>
      simp only [puts] at e
      cases e1 : t.put u σ with
      | none => rw [e1] at e; cases e
      | some σ1 =>
        rw [e1] at e
        simp [puts_len ts us σ1 σ' e]
end
def uLcGo (D : Addr) (n : NT) (tt : UTT) (te : UTE) (st : UHp → Prop) (σ : USt) (R : List U → UHp → Prop) : List U → List U → UHp → Prop
  | [], acc, M => st M ∧ R acc M
  | x :: r, acc, M => st M ∧ ∃ σ2, n.put x σ = some σ2 ∧ tt σ2 M fun b M3 => if b = true then te σ2 M3 fun y M4 => M4 D = some (.lst acc) ∧ uLcGo D n tt te st σ R r (acc ++ [y]) (updM M4 D (.lst (acc ++ [y])))
      else M3 D = some (.lst acc) ∧ uLcGo D n tt te st σ R r acc M3
/-- what is done with the new list at D: by address, or by value from then on -/
def finL (m : Bool) (D : Addr) (acc : List U) (M : UHp) (Q : UK) : Prop := if m = true then Q (.ref D) M else Q (.lst acc) (delM M D)
def uLc (m : Bool) (w : UTI) (n : NT) (tt : UTT) (te : UTE) (vs : List Nat) (σ : USt) (M : UHp) (Q : UK) : Prop := w σ M fun it M1 => ∀ D, M1 D = none → uLcGo D n tt te it.st (wipeU σ vs) (fun acc M2 => M2 D = some (.lst acc) ∧ finL m D acc M2 Q) it.xs [] (updM M1 D (.lst []))
theorem finL_dn {K : PySem.W.Frag} {H : Hp} {M : UHp} {Qu : UK} {Q : VK} {m : Bool} {D : Addr} {acc : List U} (rm : RelM K H M) (up : UpK K H Qu Q) (e : M D = some (.lst acc)) (h : finL m D acc M Qu) : FzQ Q (.ref D) H := by
  cases m with
  | true => exact .inl (up _ _ (.ref D) H h (Stab.refl H) rm rfl)
  | false =>
    have h : Qu (.lst acc) (delM M D) := h
    exact zq_dn up (.ref D) M (.ref D) H (.inr ⟨D, acc, rfl, e, h⟩) (Stab.refl H) rm rfl
theorem dn_lc {K : PySem.W.Frag} {m : Bool} {w : UTI} {n : NT} {tt : UTT} {te : UTE} {vs : List Nat} (hn : ∀ i ∈ n.slots, i ∈ vs) : ∀ τ H Q Q', (∀ v H, FzQ Q v H → Q' v H) → dnE K (uLc m w n tt te vs) τ H Q → tLc (dnI K w) (n.gt K) (dnT K tt) (dnE K te) vs τ H Q' := fun τ H Q Q' hQ h => by
  obtain ⟨σ, M, Qu, rs, rm, q, up⟩ := h
  refine ⟨σ, M, _, rs, rm, q, fun it M1 J H1 q1 s1 m1 lk hz D hD => ?_⟩
  have sD : Stab H1 (upd H1 D (.lst [])) := Stab.new hD
  have q1 := q1 D (m1.none hD)
  refine ⟨fun i k H' => k = it.xs.length - i ∧ i ≤ it.xs.length ∧ ∃ acc M', Stab H1 H' ∧ M' D = some (.lst acc) ∧ acc.length ≤ i ∧ RelM K H' M' ∧ uLcGo D n tt te it.st (wipeU σ vs) (fun acc M2 => M2 D = some (.lst acc) ∧ finL m D acc M2 Qu) (it.xs.drop i) acc M',
    ⟨it.xs.length, by simp, Nat.zero_le _, [], _, sD, updM_same, Nat.le_refl _, m1.write (o := .lst []) sD ⟨[], upd_same, RelUs.nil⟩, q1⟩, ?_⟩
  rintro i k H' ⟨rfl, hi, acc, M', s', hMD, hla, rm', q'⟩
  by_cases hlt : i < it.xs.length
  · right
    have hx : it.xs[i]? = some it.xs[i] := List.getElem?_eq_getElem hlt
    rw [List.drop_eq_getElem_cons hlt] at q'
    obtain ⟨hst, σ2, hput, q'⟩ := q'
    obtain ⟨go, stop⟩ := lk i H' M' s' rm' hst
    obtain ⟨hgo, hy⟩ := go _ hx
    refine ⟨hgo, fun H2 => ∃ acc M2, Stab H1 H2 ∧ M2 D = some (.lst acc) ∧ acc.length ≤ i + 1 ∧ RelM K H2 M2 ∧ uLcGo D n tt te it.st (wipeU σ vs) (fun acc M2 => M2 D = some (.lst acc) ∧ finL m D acc M2 Qu) (it.xs.drop (i + 1)) acc M2,
      fun H2 n2 => ⟨it.xs.length - (i + 1), by omega, rfl, hlt, n2⟩, fun v H2 y => ?_⟩
    obtain ⟨s2, ru, m2⟩ := hy v H2 y
    have s12 : Stab H1 H2 := s'.trans s2
    refine nt_gt n it.xs[i] v (wipeU σ vs) σ2 (wipe τ vs) _ hn ru (rel_wipe (rs.stab (s1.trans s12)) vs) hput fun τ2 rs2 w2 => ⟨by rw [w2]; exact wipe_wipe τ vs, ?_⟩
    refine ⟨σ2, M', _, rs2, m2 _ rm', q', fun b M3 H3 q3 s3 m3 => ?_⟩
    cases b with
    | false =>
      simp only [Bool.false_eq_true,if_false] at q3 ⊢
      exact ⟨acc, M3, s12.trans s3, q3.1, by omega, m3, q3.2⟩
    | true =>
      simp only [if_true] at q3 ⊢
      refine ⟨σ2, M3, _, rs2.stab s3, m3, q3, fun y M4 v4 H4 q4 s4 m4 r4 => ?_⟩
      obtain ⟨e4, q4⟩ := q4
      obtain ⟨ws, hD4, hr4⟩ := m4 D _ e4
      have s5 : Stab H4 (upd H4 D (.lst (ws ++ [v4]))) := Stab.lst hD4
      refine ⟨ws, hD4, by rw [← hr4.length]; omega, acc ++ [y], _, ((s12.trans s3).trans s4).trans s5, updM_same, by simp; omega, m4.write s5 ⟨_, upd_same, (hr4.append (RelUs.cons r4 RelUs.nil)).stab s5⟩, q4⟩
  · left
    have e : i = it.xs.length := by omega
    subst e
    rw [List.drop_length] at q'
    obtain ⟨hst, e2, q'⟩ := q'
    obtain ⟨_, stop⟩ := lk _ H' M' s' rm' hst
    exact ⟨stop (Nat.le_refl _), hQ _ _ (finL_dn rm' (up.from (s1.trans s')) e2 q')⟩
section
variable {X : Cx} {elt tg iter : Expr} {ifs : List Expr} {scope : Scope} {own : List (Str × Nat)} {pos : Pos} {w : UTI} {n : NT} {tt : UTT} {te : UTE}
abbrev UTs (X : Cx) (ifs : List Expr) (t : UTT) : Prop := PTs X ifs (dnT X.K t)
def z8t (_ : USt) (M : UHp) (Q : Bool → UHp → Prop) : Prop := Q true M
theorem uts_nil : UTs X [] z8t := ⟨fun pins s τ H Q I h => pts_nil.run pins s τ H Q I (by
  obtain ⟨σ, M, Qu, rs, rm, q, up⟩ := h
  exact up true M H q (Stab.refl H) rm)⟩
theorem ue_lc (m : Bool) (hc : X.calm = true) (hN : X.N.Nodup) (hi : UI X tg iter w) (ok : BlkOk X.N X.env.scope scope own) (hn : ∀ i ∈ n.slots, i ∈ own.map (·.2))
    (hg : ∀ (s : Shared) (H : Hp) (C : Addr) (cl : List (Str × Addr)) (fp : List Addr), PG (X.blk s H scope (compEnvC scope cl C X.env) fp) tg (n.gt X.K)) (ht : ∀ (s : Shared) (H : Hp) (C : Addr) (cl : List (Str × Addr)) (fp : List Addr), UTs (X.blk s H scope (compEnvC scope cl C X.env) fp) ifs tt)
    (he : ∀ (s : Shared) (H : Hp) (C : Addr) (cl : List (Str × Addr)) (fp : List Addr), UE (X.blk s H scope (compEnvC scope cl C X.env) fp) elt te) (hs : ∀ x, foldedSetIterable iter X.env x = pure x := by intro _; rfl) :
    UE X (.ListComp elt [⟨tg, iter, ifs, 0⟩] scope pos) (uLc m w n tt te (own.map (·.2))) := PE.fz (pe_lc hc hN hi ok hg ht he hs) fun τ H Q h => dn_lc hn τ H Q _ (fun _ _ q => q) h
def FzN (N : L2.St → Hp → Prop) : L2.St → Hp → Prop := fun τ H => N τ H ∨ ∃ a xs, H a = some (.lst xs) ∧ ∀ o, N τ (upd H a (.frz o (.lst xs)))
theorem PS.fz {st : Stmt} {t t' : TS} (h : PS X st t) (w : ∀ D τ H, t' D τ H → t { D with nx := FzN D.nx } τ H) : PS X st t' := ⟨fun pins s τ H D I q => thn (h.run pins s τ H _ I (w D τ H q)) fun f s1 q1 => by
  cases f with
  | next =>
    obtain ⟨τ', H', I', q1⟩ := q1
    rcases q1 with q1 | ⟨a, xs, e, q1⟩
    · exact ⟨τ', H', I', q1⟩
    · obtain ⟨od, I2⟩ := I'.lock e True.intro
      exact ⟨τ', _, I2, q1 od⟩
  | _ => exact q1⟩
/-- name = [..] on one line, the name a local -/
theorem us_setLc (m : Bool) {i : Nat} {y : Str} {py spos : Pos} (hc : X.calm = true) (hN : X.N.Nodup) (hy : X.N[i]? = some y) (hyl : X.env.scope.names.lookup y = some .local)
    (hsw : swapsWith (.ListComp elt [⟨tg, iter, ifs, 0⟩] scope pos) (some (.Name y py)) spos.line X.env = pure true) (hi : UI X tg iter w) (ok : BlkOk X.N X.env.scope scope own) (hn : ∀ i ∈ n.slots, i ∈ own.map (·.2))
    (hg : ∀ (s : Shared) (H : Hp) (C : Addr) (cl : List (Str × Addr)) (fp : List Addr), PG (X.blk s H scope (compEnvC scope cl C X.env) fp) tg (n.gt X.K)) (ht : ∀ (s : Shared) (H : Hp) (C : Addr) (cl : List (Str × Addr)) (fp : List Addr), UTs (X.blk s H scope (compEnvC scope cl C X.env) fp) ifs tt)
    (he : ∀ (s : Shared) (H : Hp) (C : Addr) (cl : List (Str × Addr)) (fp : List Addr), UE (X.blk s H scope (compEnvC scope cl C X.env) fp) elt te) (hs : ∀ x, foldedSetIterable iter X.env x = pure x := by intro _; rfl) :
    US X (.Assign [.Name y py] (.ListComp elt [⟨tg, iter, ifs, 0⟩] scope pos) spos) (z8e (uLc m w n tt te (own.map (·.2))) (z7v i)) :=
  PS.fz (ps_setLc hc hN hy hyl hsw hi ok hg ht he hs) fun D τ H h => by
    obtain ⟨σ, M, Du, rs, rm, q, up⟩ := h
    refine dn_lc hn τ H (fun v H1 => D.nx (τ.set i (some v)) H1) _ (fun v H1 q1 => ?_) ⟨σ, M, _, rs, rm, q, fun x M1 v H1 q1 s1 m1 r1 => up.nx _ _ _ _ q1 s1 m1 ((rs.stab s1).set r1 i)⟩
    rcases q1 with q1 | ⟨a, xs, rfl, e, q1⟩
    · exact .inl q1
    · exact .inr ⟨a, xs, e, q1⟩
end
end PU

set_option Elab.async false
set_option linter.all false
set_option maxRecDepth 100000
/-! UMore: in, not in; name op= e; targets; the comprehension of a pure element. -/
namespace PU
open PySem PySem.Spec PyProof.Rows L2

section
variable {X : Cx}
def inStr (a b : Str) : Bool := !(Builtin.Str.occurrences b a 0 b.length 1).isEmpty
def inU (x : U) (xs : List U) : Bool := xs.any fun y => ueq y x
theorem any_toD {x : U} {d : PyData} (hx : toD x = some d) : ∀ (xs : List U) (ds : List PyData), toDs xs = some ds → (ds.any fun y => PyData.eqv y d) = inU x xs
  | [], _, h => by simp only [toDs,Option.some.injEq] at h; subst h; rfl
  | y :: ys, ds, h => by
    simp only [toDs] at h
    cases e : toD y <;> cases e2 : toDs ys <;> rw [e, e2] at h <;> simp at h
    subst h
    simp only [inU,List.any_cons]
    rw [eqv_toD y x _ _ e hx]
    exact congrArg _ (any_toD hx ys _ e2)
def inR (neg : Bool) (x : U) (y : U) (M : UHp) (Q : UK) : Prop := match y with
  | .str b => ∃ a, x = .str a ∧ Q (.bl (if neg then !inStr a b else inStr a b)) M
  | .tup xs => isDs xs = true ∧ isD x = true ∧ (deps xs ≤ 64 ∨ dep x ≤ 64) ∧ Q (.bl (if neg then !inU x xs else inU x xs)) M
  | .lst xs => isDs xs = true ∧ isD x = true ∧ (deps xs ≤ 64 ∨ dep x ≤ 64) ∧ Q (.bl (if neg then !inU x xs else inU x xs)) M
  | .ref a => ∃ xs, M a = some (.lst xs) ∧ isDs xs = true ∧ isD x = true ∧ (deps xs ≤ 64 ∨ dep x ≤ 64) ∧ Q (.bl (if neg then !inU x xs else inU x xs)) M
  | _ => False
theorem room_dep {a b k : Nat} (h : a ≤ 64 ∨ b ≤ 64) (hu : k + 200 < cLine) : k + 1 + min a b < cLine := by
  have h1 : min a b ≤ a := Nat.min_le_left _ _
  have h2 : min a b ≤ b := Nat.min_le_right _ _
  omega
theorem in_seq_dn {f : Value → Value → Sem Value} {pins : List (Addr × Obj)} {τ : L2.St} {H : Hp} {s : Shared} {Q : VK} {M : UHp} {Qu : UK} {x : U} {xs : List U} {vx vy : V} {u v : Value} {neg : Bool} {mk : List PyData → PyData}
    (hu : X.A.units + 200 < cLine) (I : Inv X pins τ H s) (rm : RelM X.K H M) (up : UpK X.K H Qu Q) (r1 : RelU X.K H x vx) (rx : RelV vx u) (ry : RelV vy v)
    (dp : ∀ ds, toDs xs = some ds → Dp X.K H vy (mk ds))
    (rule : ∀ (ds : List PyData) (d : PyData) (as bs : List Addr), Reads s.heap v (mk ds) as → Reads s.heap u d bs → PyData.canLayAll0 ds = true → d.canLay0 = true → X.A.units + 1 + min (PyData.depthAll ds) d.depth < cLine →
      EP X pins τ Q (.bool (if neg then !(ds.any fun y => PyData.eqv y d) else ds.any fun y => PyData.eqv y d)) s → wpAny (model X.prog X.w) X.A (f u v) (EP X pins τ Q) X.xe s)
    (h : isDs xs = true ∧ isD x = true ∧ (deps xs ≤ 64 ∨ dep x ≤ 64) ∧ Qu (.bl (if neg then !inU x xs else inU x xs)) M) : wpAny (model X.prog X.w) X.A (f u v) (EP X pins τ Q) X.xe s := by
  obtain ⟨h1, h2, h3, q⟩ := h
  obtain ⟨ds, e, c⟩ := toDs_some xs h1
  obtain ⟨d, e2, c2⟩ := toD_some x h2
  obtain ⟨as, rd⟩ := Dp.reads I _ vy v (dp ds e) ry
  obtain ⟨bs, rd2⟩ := Dp.reads I d vx u (dp_of x vx d r1 e2) rx
  refine rule ds d as bs rd rd2 c c2 ?_ ?_
  · rw [deps_toD _ _ e, dep_toD _ _ e2]; exact room_dep h3 hu
  · rw [any_toD e2 xs ds e]
    exact ⟨.bl _, H, I, rfl, up _ _ _ _ q (Stab.refl H) rm rfl⟩
theorem uo_in (hu : X.A.units + 200 < cLine) : UOpR X (compareOp .In) (inR false) := fun pins s τ H vx vy u v Q I rx ry h => by
  obtain ⟨x, y, M, Qu, r1, r2, rm, q, up⟩ := h
  unfold inR at q
  split at q
  · obtain ⟨a, rfl, q⟩ := q
    obtain ⟨rfl, _⟩ := r1; obtain ⟨rfl, _⟩ := r2
    exact op_in_str pins s τ H _ _ u v Q I rx ry ⟨_, _, rfl, rfl, up _ _ _ _ q (Stab.refl H) rm rfl⟩
  · rename_i xs
    exact in_seq_dn (mk := .tuple) hu I rm up r1 rx ry (fun ds e => dp_of (.tup xs) vy _ r2 (by simp [toD, e])) (fun ds d as bs a b c e f g => SeqAt.in_tuple_reads a b c e f (by simpa using g)) q
  · rename_i xs
    exact in_seq_dn (mk := .list) hu I rm up r1 rx ry (fun ds e => dp_of (.lst xs) vy _ r2 (by simp [toD, e])) (fun ds d as bs a b c e f g => SeqAt.in_list_reads a b c e f (by simpa using g)) q
  · rename_i a
    obtain ⟨xs, hm, q⟩ := q
    obtain rfl := r2
    obtain ⟨vs, h1, h2⟩ := rm a _ hm
    exact in_seq_dn (mk := .list) hu I rm up r1 rx ry (fun ds e => .lst (SqL.of h1) (dps_of xs vs ds h2 e)) (fun ds d as bs a b c e f g => SeqAt.in_list_reads a b c e f (by simpa using g)) q
  · exact q.elim
theorem uo_notin (hu : X.A.units + 200 < cLine) : UOpR X (compareOp .NotIn) (inR true) := fun pins s τ H vx vy u v Q I rx ry h => by
  obtain ⟨x, y, M, Qu, r1, r2, rm, q, up⟩ := h
  unfold inR at q
  split at q
  · obtain ⟨a, rfl, q⟩ := q
    obtain ⟨rfl, _⟩ := r1; obtain ⟨rfl, _⟩ := r2
    exact op_notin_str pins s τ H _ _ u v Q I rx ry ⟨_, _, rfl, rfl, up _ _ _ _ q (Stab.refl H) rm rfl⟩
  · rename_i xs
    exact in_seq_dn (neg := true) (mk := .tuple) hu I rm up r1 rx ry (fun ds e => dp_of (.tup xs) vy _ r2 (by simp [toD, e])) (fun ds d as bs a b c e f g => SeqAt.notIn_tuple_reads a b c e f (by simpa using g)) q
  · rename_i xs
    exact in_seq_dn (neg := true) (mk := .list) hu I rm up r1 rx ry (fun ds e => dp_of (.lst xs) vy _ r2 (by simp [toD, e])) (fun ds d as bs a b c e f g => SeqAt.notIn_list_reads a b c e f (by simpa using g)) q
  · rename_i a
    obtain ⟨xs, hm, q⟩ := q
    obtain rfl := r2
    obtain ⟨vs, h1, h2⟩ := rm a _ hm
    exact in_seq_dn (neg := true) (mk := .list) hu I rm up r1 rx ry (fun ds e => .lst (SqL.of h1) (dps_of xs vs ds h2 e)) (fun ds d as bs a b c e f g => SeqAt.notIn_list_reads a b c e f (by simpa using g)) q
  · exact q.elim
/-! name += e -/
def augI (f : Int → Int → Int) (x : U) (y : U) (M : UHp) (Q : UK) : Prop := match x, y with
  | .int i, .int j => Q (.int (f i j)) M
  | _, _ => False
def z8f (i : Nat) (te : UTE) (r : UR2) (D : UEnds) (σ : USt) (M : UHp) : Prop := ∃ x, σ[i]? = some (some x) ∧ te σ M fun y M1 => r x y M1 fun z M2 => D.nx (σ.set i (some z)) M2
/-! targets of comprehensions -/
theorem pg_nt {i : Nat} {x : Str} {pos : Pos} {K : PySem.W.Frag} (hN : X.N.Nodup) (hi : X.N[i]? = some x) (hx : Loc X.env.scope x) (hf : X.fn x = true ∨ X.env.scope.names.lookup x = some .local := by first | exact .inl rfl | exact .inr rfl | assumption) : PG X (.Name x pos) ((NT.one i).gt K) := by
  simp only [NT.gt]
  exact pg_name hN hi hx hf
theorem pgs_nt_nil {K : PySem.W.Frag} : PGs X [] (gts K []) := by
  simp only [gts]
  exact pgs_nil
theorem pgs_nt_cons {e : Expr} {es : List Expr} {t : NT} {ts : List NT} {K : PySem.W.Frag} (h1 : PG X e (t.gt K)) (h2 : PGs X es (gts K ts))
    (hs : (assignEach (e :: es) X.env).map (·.2) = assign e X.env :: (assignEach es X.env).map (·.2) := by rfl) : PGs X (e :: es) (gts K (t :: ts)) := by
  simp only [gts]
  exact pgs_cons h1 h2 hs
theorem pg_ntt {es : List Expr} {k : Nat} {ts : List NT} {pos : Pos} (hc : X.calm = true) (h : PGs X es (gts X.K ts))
    (hn : (assignEach es X.env).length = ts.length := by rfl) (hst : (assignEach es X.env).findIdx? (·.1) = none := by rfl) : PG X (.Tuple es k pos) ((NT.tup ts).gt X.K) := by
  simp only [NT.gt]
  exact pg_tup hc h hn hst
end

theorem ue_gint {X : Cx} {x : Str} {i : Int} {t : Tok} {pos : Pos} (hg : Gl X x) (hm : X.mg x = some (.int i t)) (hd : (x == ("__debug__" : Str)) = false := by decide) : UE X (.Name x pos) (uC (.int i)) := ue_glob (v := .int i) hg hm ⟨t, rfl⟩ (fun _ => rfl) hd
theorem ue_gstr {X : Cx} {x z : Str} {t : Tok} {pos : Pos} (hg : Gl X x) (hm : X.mg x = some (.str z t)) (hz : okS z = true := by decide +kernel) (hd : (x == ("__debug__" : Str)) = false := by decide) : UE X (.Name x pos) (uC (.str z)) := ue_glob (v := .str z) hg hm ⟨t, rfl⟩ (fun _ => ⟨rfl, hz⟩) hd
theorem hu2 {k : Nat} {A : Around} (hr : Room k A) : A.units + 200 < cLine := by have := hr.un; omega
theorem hu6 {k : Nat} {A : Around} (hr : Room k A) : A.units + 64 < cLine := by have := hr.un; omega

/-! ### built-in names -/
theorem bt_len : bootBuiltins "len" = some (.builtin "len") := by decide +kernel
theorem bt_isi : bootBuiltins "isinstance" = some (.builtin "isinstance") := by decide +kernel
theorem bt_all : bootBuiltins "all" = some (.builtin "all") := by decide +kernel
theorem bt_repr : bootBuiltins "repr" = some (.builtin "repr") := by decide +kernel
theorem bt_tuple : bootBuiltins "tuple" = some (.type "tuple") := by decide +kernel
theorem bt_list : bootBuiltins "list" = some (.type "list") := by decide +kernel
theorem bt_int : bootBuiltins "int" = some (.type "int") := by decide +kernel
theorem bt_str : bootBuiltins "str" = some (.type "str") := by decide +kernel
theorem bt_bool : bootBuiltins "bool" = some (.type "bool") := by decide +kernel
theorem bt_dict : bootBuiltins "dict" = some (.type "dict") := by decide +kernel
theorem bt_sorted : bootBuiltins "sorted" = some (.builtin "sorted") := by decide +kernel
/-! ### a def of the module, as a caller needs it -/
structure Df (K : PySem.W.Frag) (mg : Str → Option Value) (x : Str) (st : Stmt) (f : Addr) (fd : FuncData) (ps : List Str) : Prop where
  F : Fun K x x st f fd
  g : mg x = some (.ref f)
  b : Binds K fd ps []

/-! ### comprehensions whose element changes nothing -/
/-- te gives y and changes nothing -/
def Ev (te : UTE) (σ : USt) (M : UHp) (y : U) : Prop := ∀ Q : UK, Q y M → te σ M Q
def EvT (tt : UTT) (σ : USt) (M : UHp) (b : Bool) : Prop := ∀ Q : Bool → UHp → Prop, Q b M → tt σ M Q
theorem go_pure {D : Addr} {n : NT} {tt : UTT} {te : UTE} {st : UHp → Prop} {σ : USt} {R : List U → UHp → Prop} {M0 : UHp} {F : U → U} {p : U → Bool} (hD : M0 D = none) :
    ∀ (xs acc : List U), (∀ acc, st (updM M0 D (.lst acc))) →
    (∀ x ∈ xs, ∀ acc, ∃ σ2, n.put x σ = some σ2 ∧ EvT tt σ2 (updM M0 D (.lst acc)) (p x) ∧ (p x = true → Ev te σ2 (updM M0 D (.lst acc)) (F x))) →
    R (acc ++ (xs.filter p).map F) (updM M0 D (.lst (acc ++ (xs.filter p).map F))) → uLcGo D n tt te st σ R xs acc (updM M0 D (.lst acc))
  | [], acc, hst, _, h => by simpa using ⟨hst acc, by simpa using h⟩
  | x :: xs, acc, hst, he, h => by
    obtain ⟨σ2, e1, e2, e3⟩ := he x (by simp) acc
    refine ⟨hst acc, σ2, e1, e2 _ ?_⟩
    cases hp : p x with
    | false =>
      simp only [Bool.false_eq_true,if_false]
      refine ⟨updM_same, go_pure hD xs acc hst (fun y hy => he y (by simp [hy])) ?_⟩
      simpa [List.filter_cons, hp] using h
    | true =>
      simp only [if_true]
      refine e3 hp _ ⟨updM_same, ?_⟩
      rw [updM_updM]
      refine go_pure hD xs (acc ++ [F x]) hst (fun y hy => he y (by simp [hy])) ?_
      simpa [List.filter_cons, hp] using h
/-- [F(x) for x in xs if p(x)], by value -/
theorem lc_pure {n : NT} {tt : UTT} {te : UTE} {σ : USt} {M0 : UHp} {Q : UK} {xs : List U} {st : UHp → Prop} (F : U → U) (p : U → Bool) (hst : ∀ D acc, M0 D = none → st (updM M0 D (.lst acc)))
    (he : ∀ D acc, M0 D = none → ∀ x ∈ xs, ∃ σ2, n.put x σ = some σ2 ∧ EvT tt σ2 (updM M0 D (.lst acc)) (p x) ∧ (p x = true → Ev te σ2 (updM M0 D (.lst acc)) (F x))) (h : Q (.lst ((xs.filter p).map F)) M0) :
    ∀ D, M0 D = none → uLcGo D n tt te st σ (fun acc M2 => M2 D = some (.lst acc) ∧ finL false D acc M2 Q) xs [] (updM M0 D (.lst [])) := fun D hD => by
  refine go_pure hD xs [] (fun acc => hst D acc hD) (fun x hx acc => he D acc hD x hx) ?_
  refine ⟨updM_same, ?_⟩
  show Q _ (delM _ D)
  rw [delM_upd hD]
  simpa using h
theorem lc_map {n : NT} {te : UTE} {σ : USt} {M0 : UHp} {Q : UK} {xs : List U} {st : UHp → Prop} (F : U → U) (hst : ∀ D acc, M0 D = none → st (updM M0 D (.lst acc)))
    (he : ∀ D acc, M0 D = none → ∀ x ∈ xs, ∃ σ2, n.put x σ = some σ2 ∧ Ev te σ2 (updM M0 D (.lst acc)) (F x)) (h : Q (.lst (xs.map F)) M0) :
    ∀ D, M0 D = none → uLcGo D n z8t te st σ (fun acc M2 => M2 D = some (.lst acc) ∧ finL false D acc M2 Q) xs [] (updM M0 D (.lst [])) := by
  refine lc_pure F (fun _ => true) hst (fun D acc hD x hx => ?_) (by rw [List.filter_eq_self.mpr (fun _ _ => rfl)]; exact h)
  obtain ⟨σ2, e1, e2⟩ := he D acc hD x hx
  exact ⟨σ2, e1, fun Q q => q, fun _ => e2⟩
/-- the items are images -/
theorem lc_of {α : Type} {n : NT} {te : UTE} {σ : USt} {M0 : UHp} {Q : UK} {st : UHp → Prop} (l : List α) (f G : α → U) (hst : ∀ D acc, M0 D = none → st (updM M0 D (.lst acc)))
    (he : ∀ D acc, M0 D = none → ∀ a ∈ l, ∃ σ2, n.put (f a) σ = some σ2 ∧ Ev te σ2 (updM M0 D (.lst acc)) (G a)) (h : Q (.lst (l.map G)) M0) :
    ∀ D, M0 D = none → uLcGo D n z8t te st σ (fun acc M2 => M2 D = some (.lst acc) ∧ finL false D acc M2 Q) (l.map f) [] (updM M0 D (.lst [])) := fun D hD => by
  have go : ∀ (l : List α) (acc : List U), (∀ a ∈ l, ∀ acc, ∃ σ2, n.put (f a) σ = some σ2 ∧ Ev te σ2 (updM M0 D (.lst acc)) (G a)) → Q (.lst (acc ++ l.map G)) M0 →
      uLcGo D n z8t te st σ (fun acc M2 => M2 D = some (.lst acc) ∧ finL false D acc M2 Q) (l.map f) acc (updM M0 D (.lst acc)) := by
    intro l
    induction l with
    | nil =>
      intro acc _ q
      refine ⟨hst D acc hD, updM_same, ?_⟩
      show Q _ (delM _ D)
      rw [delM_upd hD]
      simpa using q
    | cons a l ih =>
      intro acc he q
      obtain ⟨σ2, e1, e2⟩ := he a (by simp) acc
      refine ⟨hst D acc hD, σ2, e1, ?_⟩
      simp only [z8t,if_true]
      refine e2 _ ⟨updM_same, ?_⟩
      rw [updM_updM]
      exact ih (acc ++ [G a]) (fun b hb => he b (by simp [hb])) (by simpa using q)
  exact go l [] (fun a ha acc => he D acc hD a ha) (by simpa using h)
end PU

set_option Elab.async false
set_option linter.all false
set_option maxRecDepth 100000
/-! UData: data that a law draws. -/
namespace PU
open PySem PySem.Spec PyProof.Rows L2

theorem iteI {c : Prop} [inst : Decidable c] {a b : Prop} (ht : c → a) (hf : ¬ c → b) : @ite Prop c inst a b := by
  by_cases h : c
  · rw [if_pos h]; exact ht h
  · rw [if_neg h]; exact hf h
theorem iteF {c : Prop} [inst : Decidable c] {a b : Prop} (h : ¬ c) (hb : b) : @ite Prop c inst a b := by rw [if_neg h]; exact hb
theorem iteT {c : Prop} [inst : Decidable c] {a b : Prop} (h : c) (ha : a) : @ite Prop c inst a b := by rw [if_pos h]; exact ha
theorem isDs_iff : ∀ {xs : List U}, isDs xs = true ↔ ∀ x ∈ xs, isD x = true
  | [] => by simp [isDs]
  | x :: xs => by simp [isDs, isDs_iff (xs := xs)]
theorem shws_iff : ∀ {xs : List U}, shws xs = true ↔ ∀ x ∈ xs, shw x = true
  | [] => by simp [shws]
  | x :: xs => by simp [shws, shws_iff (xs := xs)]
theorem deps_le {k : Nat} : ∀ {xs : List U}, deps xs ≤ k ↔ ∀ x ∈ xs, dep x ≤ k
  | [] => by simp [deps]
  | x :: xs => by simp [deps, deps_le (xs := xs), Nat.max_le]
theorem szs_le {k : Nat} : ∀ {xs : List U}, (∀ x ∈ xs, sz x ≤ k) → szs xs ≤ xs.length * (k + 2)
  | [], _ => by simp [szs]
  | x :: xs, h => by
    have h1 := h x (by simp)
    have h2 := szs_le (xs := xs) fun y hy => h y (by simp [hy])
    simp only [szs,List.length_cons,Nat.add_mul]
    omega
theorem mem_szs : ∀ {xs : List U} {x : U}, x ∈ xs → sz x ≤ szs xs
  | y :: ys, x, h => by
    rcases List.mem_cons.mp h with rfl | h
    · simp only [szs]; omega
    · have := mem_szs h
      simp only [szs]; omega
theorem szs_app : ∀ (xs ys : List U), szs (xs ++ ys) = szs xs + szs ys
  | [], ys => by simp [szs]
  | x :: xs, ys => by simp [szs, szs_app xs ys]; omega
theorem isDs_app (xs ys : List U) : isDs (xs ++ ys) = (isDs xs && isDs ys) := by
  induction xs with
  | nil => simp [isDs]
  | cons x xs ih => simp [isDs, ih, Bool.and_assoc]
mutual
/-- the longest list within -/
def wid : U → Nat
  | .tup xs => max xs.length (wids xs)
  | .lst xs => max xs.length (wids xs)
  | _ => 0
def wids : List U → Nat
  | [] => 0
  | x :: xs => max (wid x) (wids xs)
end
theorem wids_le {k : Nat} : ∀ {xs : List U}, wids xs ≤ k ↔ ∀ x ∈ xs, wid x ≤ k
  | [] => by simp [wids]
  | x :: xs => by simp [wids, wids_le (xs := xs), Nat.max_le]
/-- data of at most such depth and size, with short integers -/
structure Dt (k n : Nat) (x : U) : Prop where
  d : isD x = true
  s : shw x = true
  p : dep x ≤ k
  z : sz x ≤ n
  w : wid x ≤ 60
theorem Dt.mono {k n k' n' : Nat} {x : U} (h : Dt k n x) (hk : k ≤ k') (hn : n ≤ n') : Dt k' n' x := ⟨h.d, h.s, Nat.le_trans h.p hk, Nat.le_trans h.z hn, h.w⟩
theorem Dt.okR {k n : Nat} {x : U} (h : Dt k n x) (hk : k ≤ 150) (hn : n ≤ 16000000) : okR x := ⟨h.d, h.s, Nat.le_trans h.p hk, Nat.le_trans h.z hn⟩
theorem Dt.tup {k n m : Nat} {xs : List U} (h : ∀ x ∈ xs, Dt k n x) (hm : xs.length * (n + 2) + 4 ≤ m) (hl : xs.length ≤ 60 := by first | omega | (simp; done) | decide) : Dt (k + 1) m (.tup xs) := by
  refine ⟨by simp only [isD]; exact isDs_iff.mpr fun x hx => (h x hx).d, by simp only [shw]; exact shws_iff.mpr fun x hx => (h x hx).s, ?_, ?_, by simp only [wid]; exact Nat.max_le.mpr ⟨hl, wids_le.mpr fun x hx => (h x hx).w⟩⟩
  · have := deps_le.mpr fun x hx => (h x hx).p
    simp only [dep]; omega
  · have := szs_le fun x hx => (h x hx).z
    simp only [sz]; omega
theorem Dt.lst {k n m : Nat} {xs : List U} (h : ∀ x ∈ xs, Dt k n x) (hm : xs.length * (n + 2) + 4 ≤ m) (hl : xs.length ≤ 60 := by first | omega | (simp; done) | decide) : Dt (k + 1) m (.lst xs) := by
  refine ⟨by simp only [isD]; exact isDs_iff.mpr fun x hx => (h x hx).d, by simp only [shw]; exact shws_iff.mpr fun x hx => (h x hx).s, ?_, ?_, by simp only [wid]; exact Nat.max_le.mpr ⟨hl, wids_le.mpr fun x hx => (h x hx).w⟩⟩
  · have := deps_le.mpr fun x hx => (h x hx).p
    simp only [dep]; omega
  · have := szs_le fun x hx => (h x hx).z
    simp only [sz]; omega
/-- decided at once, for what is written -/
def dtB (k n : Nat) (x : U) : Bool := isD x && shw x && decide (dep x ≤ k) && decide (sz x ≤ n) && decide (wid x ≤ 60)
theorem Dt.of {k n : Nat} {x : U} (h : dtB k n x = true) : Dt k n x := by
  simp only [dtB,Bool.and_eq_true,decide_eq_true_eq] at h
  exact ⟨h.1.1.1.1, h.1.1.1.2, h.1.1.2, h.1.2, h.2⟩
theorem Dt.ofs {k n : Nat} {xs : List U} (h : xs.all (dtB k n) = true) : ∀ x ∈ xs, Dt k n x := fun x hx => Dt.of (List.all_eq_true.mp h x hx)
theorem Dt.int {n : Nat} {i : Int} (h : i.natAbs.log2 + 2 ≤ n) (h2 : i.natAbs.log2 < 1920) : Dt 0 n (.int i) := ⟨rfl, by simp [shw, h2], Nat.le_refl _, by simpa [sz] using h, by simp [wid]⟩
theorem Dt.str {n : Nat} {z : Str} (h : okS z = true) (h2 : 10 * z.length + 2 ≤ n) : Dt 0 n (.str z) := ⟨by simpa [isD] using h, rfl, Nat.le_refl _, by simpa [sz] using h2, by simp [wid]⟩
/-- an item at a drawn place -/
theorem at_draw {xs : List U} {i : Int} (h0 : 0 ≤ i) (h1 : i < xs.length) : ∃ v, atI xs i = some v ∧ v ∈ xs := by
  have hj : i.toNat < xs.length := by omega
  refine ⟨xs[i.toNat], ?_, List.getElem_mem hj⟩
  unfold atI ixN
  rw [if_pos h0, if_pos h1]
  show xs[i.toNat]? = _
  exact List.getElem?_eq_getElem hj
/-- what stood still stands, but for s and c -/
def But (s c : Addr) (M M' : UHp) : Prop := ∀ b, b ≠ s → b ≠ c → ∀ o, M b = some o → M' b = some o
theorem But.refl {s c : Addr} {M : UHp} : But s c M M := fun _ _ _ _ e => e
theorem But.trans {s c : Addr} {M M1 M2 : UHp} (a : But s c M M1) (b : But s c M1 M2) : But s c M M2 := fun x h1 h2 o e => b x h1 h2 o (a x h1 h2 o e)
theorem But.eq {s c : Addr} {M M' : UHp} (h : ∀ b, b ≠ s → b ≠ c → M' b = M b) : But s c M M' := fun b h1 h2 o e => (h b h1 h2).trans e
theorem But.del {s c D : Addr} {M M' : UHp} (h : But s c M M') (hD : M D = none) : But s c M (delM M' D) := fun b h1 h2 o e => by
  by_cases hb : b = D
  · rw [hb, hD] at e; cases e
  · rw [delM_ne hb]; exact h b h1 h2 o e
theorem But.upd {s c D : Addr} {M M' : UHp} {o : MO} (h : But s c M M') (hD : M D = none) : But s c M (updM M' D o) := fun b h1 h2 u e => by
  by_cases hb : b = D
  · rw [hb, hD] at e; cases e
  · rw [updM_ne hb]; exact h b h1 h2 u e
/-- the stream of a law: the cells' list at c, the cell at hand, the number of draws (n more are allowed), the mix -/
def Strm (M : UHp) (s c : Addr) (n : Nat) : Prop := s ≠ c ∧ ∃ (ks : List Int) (a : Int) (b : Nat) (d : Int), M s = some (.lst [.ref c, .int a, .int b, .int d]) ∧ M c = some (.lst (ks.map .int)) ∧ 0 ≤ a ∧ b + n ≤ 8000000 ∧ 0 ≤ d ∧ d < 2147483647 ∧ ks.length ≤ 63
theorem Strm.le {M : UHp} {s c : Addr} {n m : Nat} (h : Strm M s c n) (hm : m ≤ n) : Strm M s c m := by
  obtain ⟨h1, ks, a, b, d, e1, e2, e3, e4, e5, e6, e7⟩ := h
  exact ⟨h1, ks, a, b, d, e1, e2, e3, by omega, e5, e6, e7⟩
theorem Strm.at {M M' : UHp} {s c : Addr} {n : Nat} (h : Strm M s c n) (e1 : M' s = M s) (e2 : M' c = M c) : Strm M' s c n := by
  obtain ⟨h1, ks, a, b, d, q1, q2, q⟩ := h
  exact ⟨h1, ks, a, b, d, e1.trans q1, e2.trans q2, q⟩
theorem Strm.upd {M : UHp} {s c p : Addr} {n : Nat} {o : MO} (h : Strm M s c n) (h1 : s ≠ p) (h2 : c ≠ p) : Strm (updM M p o) s c n := h.at (updM_ne h1) (updM_ne h2)
theorem Strm.del {M : UHp} {s c p : Addr} {n : Nat} (h : Strm M s c n) (h1 : s ≠ p) (h2 : c ≠ p) : Strm (delM M p) s c n := h.at (delM_ne h1) (delM_ne h2)
theorem Strm.sp {M : UHp} {s c p : Addr} {n : Nat} (h : Strm M s c n) (e : M p = none) : s ≠ p ∧ c ≠ p := by
  obtain ⟨_, ks, a, b, d, q1, q2, _⟩ := h
  exact ⟨fun z => (by rw [z, e] at q1; cases q1), fun z => (by rw [z, e] at q2; cases q2)⟩
theorem isDs_ints : ∀ ks : List Int, isDs (ks.map .int) = true
  | [] => rfl
  | k :: ks => by simp [isDs, isD, isDs_ints ks]
/-! places that are written -/
section
variable {α : Type} {a b c d e f g h : α} {xs : List α} {n : Nat}
theorem at0 : atI (a :: xs) 0 = some a := atI_nat (j := 0) (by simp)
theorem at1 : atI (a :: b :: xs) 1 = some b := atI_nat (j := 1) (by simp)
theorem at2 : atI (a :: b :: c :: xs) 2 = some c := atI_nat (j := 2) (by simp)
theorem at3 : atI (a :: b :: c :: d :: xs) 3 = some d := atI_nat (j := 3) (by simp)
theorem at4 : atI (a :: b :: c :: d :: e :: xs) 4 = some e := atI_nat (j := 4) (by simp)
theorem ix0 : ixN (n + 1) 0 = some 0 := by simp [ixN] <;> omega
theorem ix1 : ixN (n + 2) 1 = some 1 := by simp [ixN] <;> omega
theorem ix2 : ixN (n + 3) 2 = some 2 := by simp [ixN] <;> omega
theorem ix3 : ixN (n + 4) 3 = some 3 := by simp [ixN] <;> omega
theorem ix4 : ixN (n + 5) 4 = some 4 := by simp [ixN] <;> omega
theorem line_le {n : Nat} (h : n ≤ 1000000 := by decide) : n ≤ sizeLine := by rw [sizeLine_eq]; omega
theorem line_lt {n : Nat} (h : n ≤ 1000000 := by decide) : n < sizeLine := by rw [sizeLine_eq]; omega
end
/-! the law's draw -/
theorem strm_mk {M : UHp} {s c : Addr} {n b : Nat} {ks : List Int} {a d : Int} (hsc : s ≠ c) (e1 : M s = some (.lst [.ref c, .int a, .int (↑b + 1), .int d])) (e2 : M c = some (.lst (ks.map .int))) (ha : 0 ≤ a) (hb : b + (n + 1) ≤ 8000000)
    (h0 : 0 ≤ d) (h1 : d < 2147483647) (hk : ks.length ≤ 63) : Strm M s c n := ⟨hsc, ks, a, b + 1, d, by rw [e1]; simp, e2, ha, by omega, h0, h1, hk⟩
theorem mix_ok {d : Int} {b : Nat} {many : Int} {G : Int → Prop} (h0 : 0 ≤ d) (h1 : d < 2147483647) (hb : b < 8000000) (hm : 0 < many) (h : ∀ r, 0 ≤ r → r < many → G r) :
    CMul 104729 (↑b + 1) ∧ CPow (d + 104729 * (↑b + 1) + 17) 5 ∧ (0 : Int) < 2147483629 ∧ CMul ((d + 104729 * (↑b + 1) + 17) ^ Int.toNat 5 % 2147483629) 48271 ∧ CMul 40503 (↑b + 1) ∧ CMul (40503 * (↑b + 1)) (↑b + 1) ∧
      CPow ((d + 104729 * (↑b + 1) + 17) ^ Int.toNat 5 % 2147483629 * 48271 + 40503 * (↑b + 1) * (↑b + 1) + 13) 3 ∧ (0 : Int) < 1000000007 ∧ 0 < many ∧
      G (((d + 104729 * (↑b + 1) + 17) ^ Int.toNat 5 % 2147483629 * 48271 + 40503 * (↑b + 1) * (↑b + 1) + 13) ^ Int.toNat 3 % 1000000007 % many) := by
  have hx0 := Int.emod_nonneg ((d + 104729 * ((b : Int) + 1) + 17) ^ Int.toNat 5) (show (2147483629 : Int) ≠ 0 by decide)
  have hx1 := Int.emod_lt_of_pos ((d + 104729 * ((b : Int) + 1) + 17) ^ Int.toNat 5) (show (0 : Int) < 2147483629 by decide)
  generalize (d + 104729 * ((b : Int) + 1) + 17) ^ Int.toNat 5 % 2147483629 = x at hx0 hx1 ⊢
  have hsq : ((b : Int) + 1) * ((b : Int) + 1) ≤ 8000000 * 8000000 := Int.mul_le_mul (by omega) (by omega) (by omega) (by omega)
  have hsq0 : 0 ≤ ((b : Int) + 1) * ((b : Int) + 1) := Int.mul_nonneg (by omega) (by omega)
  have e : 40503 * ((b : Int) + 1) * ((b : Int) + 1) = 40503 * (((b : Int) + 1) * ((b : Int) + 1)) := Int.mul_assoc _ _ _
  rw [e]
  generalize ((b : Int) + 1) * ((b : Int) + 1) = y at hsq hsq0 ⊢
  refine ⟨.inl ⟨by omega, by omega⟩, ⟨by decide, by decide, by omega⟩, by decide, .inr ⟨by omega, by omega⟩, .inl ⟨by omega, by omega⟩, .inl ⟨by omega, by omega⟩, ⟨by decide, by decide, by omega⟩, by decide, hm, h _ (Int.emod_nonneg _ (by omega)) (Int.emod_lt_of_pos _ hm)⟩
/-! comprehensions that draw -/
theorem lc_inv {D : Addr} {n : NT} {te : UTE} {st : UHp → Prop} {σ : USt} {R : List U → UHp → Prop} (I : Nat → List U → UHp → Prop) (xs : List U) (hst : ∀ i acc M, I i acc M → st M)
    (he : ∀ i x acc M, xs[i]? = some x → I i acc M → M D = some (.lst acc) → ∃ σ2, n.put x σ = some σ2 ∧ ∀ Q : UK, (∀ y M4, M4 D = some (.lst acc) → I (i + 1) (acc ++ [y]) (updM M4 D (.lst (acc ++ [y]))) → Q y M4) → te σ2 M Q)
    (h : ∀ acc M, I xs.length acc M → M D = some (.lst acc) → R acc M) {M : UHp} (h0 : I 0 [] M) (hD : M D = some (.lst [])) : uLcGo D n z8t te st σ R xs [] M := by
  have go : ∀ (r : List U) (i : Nat) (acc : List U) (M : UHp), xs.drop i = r → i ≤ xs.length → I i acc M → M D = some (.lst acc) → uLcGo D n z8t te st σ R r acc M := by
    intro r
    induction r with
    | nil =>
      intro i acc M e hi hI hD
      have : i = xs.length := by
        have := congrArg List.length e
        simp at this; omega
      subst this
      exact ⟨hst _ _ _ hI, h acc M hI hD⟩
    | cons x r ih =>
      intro i acc M e hi hI hD
      have hlt : i < xs.length := by
        by_cases hlt : i < xs.length
        · exact hlt
        · rw [List.drop_eq_nil_of_le (by omega)] at e; cases e
      rw [List.drop_eq_getElem_cons hlt] at e
      have hx : xs[i]? = some x := by rw [List.getElem?_eq_getElem hlt, (List.cons.inj e).1]
      obtain ⟨σ2, e1, e2⟩ := he i x acc M hx hI hD
      refine ⟨hst _ _ _ hI, σ2, e1, ?_⟩
      simp only [z8t,if_true]
      exact e2 _ fun y M4 hD4 hI4 => ⟨hD4, ih (i + 1) (acc ++ [y]) _ (List.cons.inj e).2 hlt hI4 updM_same⟩
  exact go xs 0 [] M rfl (Nat.zero_le _) h0 hD
/-- .. each element takes k draws at most and has P -/
theorem lc_strm {D : Addr} {n : NT} {te : UTE} {σ : USt} {R : List U → UHp → Prop} {M0 : UHp} {s c : Addr} {N k : Nat} {xs : List U} (P : U → Prop) (hS : Strm M0 s c (N + xs.length * k))
    (he : ∀ x ∈ xs, ∃ σ2, n.put x σ = some σ2 ∧ ∀ M N', Strm M s c (N' + k) → ∀ Q : UK, (∀ y M', P y → Strm M' s c N' → But s c M M' → Q y M') → te σ2 M Q) (hD : M0 D = none)
    (h : ∀ ys M', ys.length = xs.length → (∀ y ∈ ys, P y) → Strm M' s c N → But s c M0 M' → M' D = some (.lst ys) → s ≠ D → c ≠ D → R ys M') :
    uLcGo D n z8t te (fun _ => True) σ R xs [] (updM M0 D (.lst [])) := by
  obtain ⟨h1, h2⟩ := hS.sp hD
  refine lc_inv (fun i acc M => acc.length = i ∧ i ≤ xs.length ∧ (∀ y ∈ acc, P y) ∧ Strm M s c (N + (xs.length - i) * k) ∧ But s c M0 M) xs (fun _ _ _ _ => True.intro) ?_ ?_
    ⟨rfl, Nat.zero_le _, by simp, hS.upd h1 h2, But.refl.upd hD⟩ updM_same
  · rintro i x acc M hx ⟨hl, hi, hP, hS', hB⟩ hD'
    have hlt : i < xs.length := (List.getElem?_eq_some_iff.mp hx).1
    obtain ⟨σ2, e1, e2⟩ := he x (List.mem_of_getElem? hx)
    have e : N + (xs.length - i) * k = (N + (xs.length - (i + 1)) * k) + k := by
      have : xs.length - i = (xs.length - (i + 1)) + 1 := by omega
      rw [this, Nat.add_mul]; omega
    rw [e] at hS'
    refine ⟨σ2, e1, fun Q q => e2 M _ hS' Q fun y M' hy hS2 hB2 => q y M' (hB2 D (Ne.symm h1) (Ne.symm h2) _ hD') ⟨by simp [hl], hlt, fun z hz => ?_, hS2.upd h1 h2, (hB.trans hB2).upd hD⟩⟩
    · rcases List.mem_append.mp hz with hz | hz
      · exact hP z hz
      · rw [List.mem_singleton.mp hz]; exact hy
  · rintro acc M ⟨hl, _, hP, hS', hB⟩ hD'
    rw [Nat.sub_self, Nat.zero_mul] at hS'
    exact h acc M hl hP hS' hB hD' h1 h2
theorem lc_strmF {n : NT} {te : UTE} {σ : USt} {Q : UK} {M0 : UHp} {s c : Addr} {N k : Nat} {xs : List U} (P : U → Prop) (hS : Strm M0 s c (N + xs.length * k))
    (he : ∀ x ∈ xs, ∃ σ2, n.put x σ = some σ2 ∧ ∀ M N', Strm M s c (N' + k) → ∀ Q : UK, (∀ y M', P y → Strm M' s c N' → But s c M M' → Q y M') → te σ2 M Q)
    (h : ∀ ys M', ys.length = xs.length → (∀ y ∈ ys, P y) → Strm M' s c N → But s c M0 M' → Q (.lst ys) M') :
    ∀ D, M0 D = none → uLcGo D n z8t te (fun _ => True) σ (fun acc M2 => M2 D = some (.lst acc) ∧ finL false D acc M2 Q) xs [] (updM M0 D (.lst [])) := fun D hD => by
  refine lc_strm P hS he hD fun ys M' hl hP hS' hB hD' h1 h2 => ⟨hD', ?_⟩
  show Q (.lst ys) (delM M' D)
  exact h ys _ hl hP (hS'.del h1 h2) (hB.del hD)
theorem lc_strmT {n : NT} {te : UTE} {σ : USt} {Q : UK} {M0 : UHp} {s c : Addr} {N k : Nat} {xs : List U} (P : U → Prop) (hS : Strm M0 s c (N + xs.length * k))
    (he : ∀ x ∈ xs, ∃ σ2, n.put x σ = some σ2 ∧ ∀ M N', Strm M s c (N' + k) → ∀ Q : UK, (∀ y M', P y → Strm M' s c N' → But s c M M' → Q y M') → te σ2 M Q)
    (h : ∀ D ys M', M0 D = none → ys.length = xs.length → (∀ y ∈ ys, P y) → Strm M' s c N → But s c M0 M' → M' D = some (.lst ys) → s ≠ D → c ≠ D → Q (.ref D) M') :
    ∀ D, M0 D = none → uLcGo D n z8t te (fun _ => True) σ (fun acc M2 => M2 D = some (.lst acc) ∧ finL true D acc M2 Q) xs [] (updM M0 D (.lst [])) := fun D hD =>
  lc_strm P hS he hD fun ys M' hl hP hS' hB hD' h1 h2 => ⟨hD', h D ys M' hD hl hP hS' hB hD' h1 h2⟩
/-! texts of single signs -/
def one (c : Nat) : Str := ⟨#[c]⟩
theorem join_ones : ∀ cs : List Nat, (Str.join "" (cs.map one)).cps.toList = cs
  | [] => rfl
  | [c] => rfl
  | c :: d :: cs => by
    have ih := join_ones (d :: cs)
    show (one c ++ ("" : Str) ++ Str.join "" ((d :: cs).map one)).cps.toList = _
    have e : (one c ++ ("" : Str) ++ Str.join "" ((d :: cs).map one)).cps.toList = [c] ++ ([] ++ (Str.join "" ((d :: cs).map one)).cps.toList) := by
      show ((#[c] ++ ("" : Str).cps) ++ (Str.join "" ((d :: cs).map one)).cps).toList = _
      rw [Array.toList_append, Array.toList_append]
      have : ("" : Str).cps.toList = [] := by decide +kernel
      rw [this]; simp
    rw [e, ih]; rfl
theorem str_len (z : Str) : z.length = z.cps.toList.length := by show z.cps.size = _; simp
theorem okS_iff {z : Str} : okS z = true ↔ z.length ≤ sizeLine ∧ ∀ c ∈ z.cps.toList, c < 0x110000 := by
  unfold okS
  rw [Bool.and_eq_true, decide_eq_true_eq, strOk_iff]
theorem ones_of {P : Nat → Prop} : ∀ {ys : List U}, (∀ y ∈ ys, ∃ c, y = .str (one c) ∧ P c) → ∃ cs : List Nat, ys = (cs.map one).map .str ∧ ∀ c ∈ cs, P c
  | [], _ => ⟨[], rfl, by simp⟩
  | y :: ys, h => by
    obtain ⟨c, rfl, hc⟩ := h y (by simp)
    obtain ⟨cs, rfl, hcs⟩ := ones_of (ys := ys) fun z hz => h z (by simp [hz])
    exact ⟨c :: cs, rfl, fun d hd => (List.mem_cons.mp hd).elim (fun e => e ▸ hc) (hcs d)⟩
theorem strs_ones (zs : List Str) : strsU (zs.map .str) = some zs := by
  have := strsU_map (fun z : Str => z) zs
  simpa using this
theorem range_len (lo : Int) (n : Nat) : (rangeU lo n).length = n := by simp [rangeU]
theorem val_isD {M : UHp} {x : U} (h : isD x = true) : val M x = x := by
  cases x <;> first | rfl | (simp [isD] at h)
theorem ufn_none {P : Program} {w : World} {K : PySem.W.Frag} {mg : Str → Option Value} {base : Heap} {CX : CXT} {k : Nat} {f : Addr} {fd : FuncData} {ps : List Str} : UFn P w K mg base CX k f fd ps (fun _ _ _ _ => False) :=
  ⟨fun _ _ _ _ z => z.elim, fun _ _ _ _ _ _ _ _ _ _ _ _ _ _ ⟨_, _, _, _, _, _, z, _⟩ => z.elim⟩
/-- a loop by what holds between its turns -/
theorem for_inv {g : UTG} {tb : UTS} {st : UHp → Prop} {D : UEnds} (I : Nat → USt → UHp → Prop) (xs : List U) (hst : ∀ i σ M, I i σ M → st M)
    (he : ∀ i x σ M (N : USt → UHp → Prop), xs[i]? = some x → I i σ M → (∀ σ' M', I (i + 1) σ' M' → N σ' M') → g x σ M fun σ2 M2 => tb { D with nx := N, ct := N, bk := D.nx } σ2 M2)
    (hd : ∀ σ M, I xs.length σ M → D.nx σ M) {σ : USt} {M : UHp} (h0 : I 0 σ M) : uForGo g tb st D xs σ M := by
  have go : ∀ (r : List U) (i : Nat) (σ : USt) (M : UHp), xs.drop i = r → i ≤ xs.length → I i σ M → uForGo g tb st D r σ M := by
    intro r
    induction r with
    | nil =>
      intro i σ M e hi hI
      have : i = xs.length := by
        have := congrArg List.length e
        simp at this; omega
      subst this
      exact ⟨hst _ _ _ hI, hd σ M hI⟩
    | cons x r ih =>
      intro i σ M e hi hI
      have hlt : i < xs.length := by
        by_cases hlt : i < xs.length
        · exact hlt
        · rw [List.drop_eq_nil_of_le (by omega)] at e; cases e
      rw [List.drop_eq_getElem_cons hlt] at e
      have hx : xs[i]? = some x := by rw [List.getElem?_eq_getElem hlt, (List.cons.inj e).1]
      exact ⟨hst _ _ _ hI, he i x σ M _ hx hI fun σ' M' hI' => ih (i + 1) σ' M' (List.cons.inj e).2 hlt hI'⟩
  exact go xs 0 σ M rfl (Nat.zero_le _) h0
theorem log2_lt {m k : Nat} (hk : 0 < k) (h : m < 2 ^ k) : m.log2 < k := by
  by_cases h0 : m = 0
  · subst h0; simpa using hk
  · exact (Nat.log2_lt h0).mpr h
theorem Dt.big {i : Int} {n : Nat} (h : i.natAbs ≤ 1000000000000000000000000000000) (hn : 101 ≤ n := by decide) : Dt 0 n (.int i) := by
  have : i.natAbs.log2 < 100 := log2_lt (by decide) (Nat.lt_of_le_of_lt h (by decide))
  exact Dt.int (by omega) (by omega)
theorem cut_len (z : Str) (lo hi : Option Int) : (cutS z lo hi).length ≤ z.length := by
  show ((z.cps.toList.drop _).take _).toArray.size ≤ z.cps.size
  rw [List.size_toArray, List.length_take, List.length_drop, Array.length_toList]
  omega
theorem zq_f {Q : UK} {p : Addr} {xs : List U} {M : UHp} (e : M p = some (.lst xs)) (h : Q (.lst xs) (delM M p)) : ZQ Q (.ref p) M := .inr ⟨p, xs, rfl, e, h⟩
theorem Dt.up {k n m : Nat} {xs : List U} (h : ∀ x ∈ xs, Dt k n x) (hm : szs xs + 4 ≤ m) (hl : xs.length ≤ 60) : Dt (k + 1) m (.tup xs) := by
  refine ⟨by simp only [isD]; exact isDs_iff.mpr fun x hx => (h x hx).d, by simp only [shw]; exact shws_iff.mpr fun x hx => (h x hx).s, ?_, by simp only [sz]; omega, by simp only [wid]; exact Nat.max_le.mpr ⟨hl, wids_le.mpr fun x hx => (h x hx).w⟩⟩
  have := deps_le.mpr fun x hx => (h x hx).p
  simp only [dep]; omega
theorem Dt.pair {k n m : Nat} {a b : U} (ha : Dt k n a) (hb : Dt k m b) : Dt (k + 1) (n + m + 8) (.tup [a, b]) := by
  have h1 := ha.z
  have h2 := hb.z
  refine Dt.up (n := max n m) (fun x hx => ?_) ?_ (by simp)
  · simp only [List.mem_cons,List.not_mem_nil,or_false] at hx
    rcases hx with rfl | rfl
    · exact ha.mono (Nat.le_refl _) (Nat.le_max_left ..)
    · exact hb.mono (Nat.le_refl _) (Nat.le_max_right ..)
  · simp only [szs]; omega
/-- many of one size -/
theorem Dt.many {k n m : Nat} {xs : List U} (h : ∀ x ∈ xs, Dt k n x) (l : xs.length ≤ m) (hm : m ≤ 60 := by decide) : Dt (k + 1) (m * (n + 2) + 4) (.tup xs) := by
  refine Dt.up h ?_ (by omega)
  have h1 := szs_le fun x hx => (h x hx).z
  have h2 : xs.length * (n + 2) ≤ m * (n + 2) := Nat.mul_le_mul_right _ l
  omega
end PU

set_option Elab.async false
set_option linter.all false
set_option maxRecDepth 100000
/-! USimp: what the words give, a case at a time (printed by mk_simp.py). -/
namespace PU
open PySem PySem.Spec PyProof.Rows L2
def anyI (x : U) (M1 : UHp) (R : UIt → UHp → Prop) : Prop := match x with
  | .tup xs => R ⟨xs, fun _ => True⟩ M1
  | .str z => R ⟨signs z, fun _ => True⟩ M1
  | x => ∃ xs, listU M1 x = some xs ∧ R ⟨xs, fun M' => listU M' x = some xs⟩ M1
def refV (p : Addr) : Option MO → U
  | some (.lst xs) => .lst xs
  | _ => .ref p
theorem z3g {p : Addr} {xs : List U} : refV p (some (.lst xs)) = .lst xs := rfl
def refL : Option MO → Option (List U)
  | some (.lst xs) => some xs
  | _ => none
theorem z3e {xs : List U} : refL (some (.lst xs)) = some xs := rfl
def refT : Option MO → Option String
  | some (.lst _) => some "list"
  | some (.dK _) => some "dict"
  | _ => none
theorem z3f {xs : List U} : refT (some (.lst xs)) = some "list" := rfl
theorem z4r {M : UHp} {p : Addr} : tyM M (U.ref p) = refT (M p) := by
  unfold tyM refT; rfl
def truK (x : U) (M : UHp) (Q : Bool → UHp → Prop) : Prop := ∃ k, truU M x = some k ∧ Q k M
def blK (x : U) (M : UHp) (Q : Bool → UHp → Prop) : Prop := ∃ k, x = .bl k ∧ Q k M
def partK (x : U) (M : UHp) (Q : Option Int → UHp → Prop) : Prop := ∃ i, x = .int i ∧ Q (some i) M
def rngK (us : List U) (M : UHp) (R : UIt → UHp → Prop) : Prop := ∃ j : Int, us = [.int j] ∧ -(2 ^ 62) ≤ j ∧ j < 2 ^ 62 ∧ j.toNat ≤ sizeLine ∧ R ⟨rangeU 0 j.toNat, fun _ => True⟩ M
theorem z5h {M : UHp} {Q : UK} {i j : Int} {m : Bool} : addR m (.int i) (.int j) M Q = Q (.int (i + j)) M := rfl
theorem z5i {M : UHp} {Q : UK} {a b : Str} {m : Bool} : addR m (.str a) (.str b) M Q = (a.length + b.length ≤ sizeLine ∧ Q (.str (a ++ b)) M) := rfl
theorem z5j {M : UHp} {Q : UK} {xs ys : List U} {m : Bool} : addR m (.tup xs) (.tup ys) M Q = (xs.length + ys.length ≤ sizeLine ∧ Q (.tup (xs ++ ys)) M) := rfl
theorem add_ll {M : UHp} {Q : UK} {xs ys : List U} {m : Bool} : addR m (.lst xs) (.lst ys) M Q = (∃ xs_1 ys_1, some xs = some xs_1 ∧ some ys = some ys_1 ∧ xs_1.length + ys_1.length ≤ sizeLine ∧ newL m (xs_1 ++ ys_1) M Q) := rfl
theorem z3v {M : UHp} {Q : UK} {xs : List U} {p : Addr} {m : Bool} : addR m (.lst xs) (.ref p) M Q = (∃ xs_1 ys_1, some xs = some xs_1 ∧ refL (M p) = some ys_1 ∧ xs_1.length + ys_1.length ≤ sizeLine ∧ newL m (xs_1 ++ ys_1) M Q) := rfl
theorem z3w {M : UHp} {Q : UK} {ys : List U} {p : Addr} {m : Bool} : addR m (.ref p) (.lst ys) M Q = (∃ xs_1 ys_1, refL (M p) = some xs_1 ∧ some ys = some ys_1 ∧ xs_1.length + ys_1.length ≤ sizeLine ∧ newL m (xs_1 ++ ys_1) M Q) := rfl
theorem z6f {M : UHp} {Q : UK} {i j : Int} : subR (.int i) (.int j) M Q = Q (.int (i - j)) M := rfl
theorem z64 {M : UHp} {Q : UK} {i j : Int} {m d : Bool} : mulR m d (.int i) (.int j) M Q = (CMul i j ∧ Q (.int (i * j)) M) := rfl
theorem z62 {M : UHp} {Q : UK} {i j : Int} : modR (.int i) (.int j) M Q = (0 < j ∧ Q (.int (i % j)) M) := rfl
theorem z5r {M : UHp} {Q : UK} {i j : Int} : divR (.int i) (.int j) M Q = (CDiv i j ∧ Q (.int (i / j)) M) := rfl
theorem z6b {M : UHp} {Q : UK} {i j : Int} : powR (.int i) (.int j) M Q = (CPow i j ∧ Q (.int (i ^ j.toNat)) M) := rfl
theorem z7j {M : UHp} {Q : UK} {i j : Int} : ltR (.int i) (.int j) M Q = Q (.bl (decide (i < j))) M := rfl
theorem z7k {M : UHp} {Q : UK} {a b : Str} : ltR (.str a) (.str b) M Q = Q (.bl (decide (a.cps.toList < b.cps.toList))) M := rfl
theorem z7i {M : UHp} {Q : UK} {i j : Int} : leR (.int i) (.int j) M Q = Q (.bl (decide (i ≤ j))) M := rfl
theorem z7c {M : UHp} {Q : UK} {i j : Int} : gtR (.int i) (.int j) M Q = Q (.bl (decide (j < i))) M := rfl
theorem z7b {M : UHp} {Q : UK} {i j : Int} : geR (.int i) (.int j) M Q = Q (.bl (decide (j ≤ i))) M := rfl
theorem z7l {M : UHp} {Q : UK} {i : Int} : negR (.int i) M Q = Q (.int (-i)) M := rfl
theorem z7e {M : UHp} {Q : UK} {i : Int} : intR [.int i] M Q = Q (.int i) M := rfl
theorem z5o {M : UHp} {Q : UK} {i j : Int} {f : Int → Int → Int} : augI f (.int i) (.int j) M Q = Q (.int (f i j)) M := rfl
theorem z2m  : isNon (U.non) = true := rfl
theorem z2w {k : Bool} : isNon (U.bl k) = false := rfl
theorem z2k {i : Int} : isNon (U.int i) = false := rfl
theorem z2o {z : Str} : isNon (U.str z) = false := rfl
theorem z2p {xs : List U} : isNon (U.tup xs) = false := rfl
theorem z2l {xs : List U} : isNon (U.lst xs) = false := rfl
theorem z2n {p : Addr} : isNon (U.ref p) = false := rfl
theorem z5c {M : UHp} : val M (U.non) = U.non := rfl
theorem z73 {M : UHp} {k : Bool} : val M (U.bl k) = U.bl k := rfl
theorem z5a {M : UHp} {i : Int} : val M (U.int i) = U.int i := rfl
theorem z5e {M : UHp} {z : Str} : val M (U.str z) = U.str z := rfl
theorem z5f {M : UHp} {xs : List U} : val M (U.tup xs) = U.tup xs := rfl
theorem z5b {M : UHp} {xs : List U} : val M (U.lst xs) = U.lst xs := rfl
theorem z5d {M : UHp} {p : Addr} : val M (U.ref p) = refV p (M p) := by
  unfold val refV; rfl
theorem z2q {M : UHp} {xs : List U} : listU M (U.lst xs) = some xs := rfl
theorem z2r {M : UHp} {p : Addr} : listU M (U.ref p) = refL (M p) := by
  unfold listU refL; rfl
theorem z3i {M : UHp} {xs : List U} : seqU M (U.lst xs) = some xs := rfl
theorem z3k {M : UHp} {xs : List U} : seqU M (U.tup xs) = some xs := rfl
theorem z3j {M : UHp} {p : Addr} : seqU M (U.ref p) = refL (M p) := by
  unfold seqU refL; rfl
theorem z39 {M : UHp} {z : Str} : lenU M (U.str z) = some z.length := rfl
theorem z3a {M : UHp} {xs : List U} : lenU M (U.tup xs) = some xs.length := rfl
theorem z37 {M : UHp} {xs : List U} : lenU M (U.lst xs) = some xs.length := rfl
theorem z38 {M : UHp} {p : Addr} : lenU M (U.ref p) = (refL (M p)).map List.length := by
  show (match M p with | some (MO.lst xs) => some xs.length | _ => none) = _
  generalize M p = o
  cases o with
  | none => rfl
  | some o => cases o <;> rfl
theorem len_1 {M : UHp} {Q : UK} {x : U} : lenR [x] M Q = (∃ n, lenU M x = some n ∧ Q (.int (n : Nat)) M) := rfl
theorem z4q {M : UHp} : tyM M (U.non) = some "NoneType" := rfl
theorem z6h {M : UHp} {k : Bool} : tyM M (U.bl k) = some "bool" := rfl
theorem z4o {M : UHp} {i : Int} : tyM M (U.int i) = some "int" := rfl
theorem z4s {M : UHp} {z : Str} : tyM M (U.str z) = some "str" := rfl
theorem z4t {M : UHp} {xs : List U} : tyM M (U.tup xs) = some "tuple" := rfl
theorem z4p {M : UHp} {xs : List U} : tyM M (U.lst xs) = some "list" := rfl
theorem isi_1 {M : UHp} {Q : UK} {x : U} {n : String} : isiR [x, .ty n] M Q = (∃ t, tyM M x = some t ∧ okN n = true ∧ Q (.bl (subT t n)) M) := rfl
theorem isi_2 {M : UHp} {Q : UK} {x : U} {n l : String} : isiR [x, .tup [.ty n, .ty l]] M Q = (∃ t, tyM M x = some t ∧ okN n = true ∧ okN l = true ∧ Q (.bl (subT t n || subT t l)) M) := rfl
theorem z4e  : okN "str" = true := by decide
theorem z4d  : okN "int" = true := by decide
theorem z3b  : okN "bool" = true := by decide
theorem z2s  : okN "tuple" = true := by decide
theorem z3d  : okN "list" = true := by decide
theorem z3c  : okN "dict" = true := by decide
theorem z0h  : subT "NoneType" "str" = false := by decide
theorem z0g  : subT "NoneType" "int" = false := by decide
theorem z0d  : subT "NoneType" "bool" = false := by decide
theorem z0a  : subT "NoneType" "tuple" = false := by decide
theorem z0f  : subT "NoneType" "list" = false := by decide
theorem z0e  : subT "NoneType" "dict" = false := by decide
theorem z1o  : subT "bool" "str" = false := by decide
theorem z1n  : subT "bool" "int" = true := by decide
theorem z0u  : subT "bool" "bool" = true := by decide
theorem z0j  : subT "bool" "tuple" = false := by decide
theorem z0w  : subT "bool" "list" = false := by decide
theorem z0v  : subT "bool" "dict" = false := by decide
theorem z2d  : subT "int" "str" = false := by decide
theorem z2c  : subT "int" "int" = true := by decide
theorem z1r  : subT "int" "bool" = false := by decide
theorem z10  : subT "int" "tuple" = false := by decide
theorem z1t  : subT "int" "list" = false := by decide
theorem z1s  : subT "int" "dict" = false := by decide
theorem z2f  : subT "str" "str" = true := by decide
theorem z2e  : subT "str" "int" = false := by decide
theorem z1w  : subT "str" "bool" = false := by decide
theorem z14  : subT "str" "tuple" = false := by decide
theorem z1y  : subT "str" "list" = false := by decide
theorem z1x  : subT "str" "dict" = false := by decide
theorem z16  : subT "tuple" "str" = false := by decide
theorem z15  : subT "tuple" "int" = false := by decide
theorem z0m  : subT "tuple" "bool" = false := by decide
theorem z0i  : subT "tuple" "tuple" = true := by decide
theorem z0o  : subT "tuple" "list" = false := by decide
theorem z0n  : subT "tuple" "dict" = false := by decide
theorem z1v  : subT "list" "str" = false := by decide
theorem z1u  : subT "list" "int" = false := by decide
theorem z11  : subT "list" "bool" = false := by decide
theorem z0l  : subT "list" "tuple" = false := by decide
theorem z13  : subT "list" "list" = true := by decide
theorem z12  : subT "list" "dict" = false := by decide
theorem z1q  : subT "dict" "str" = false := by decide
theorem z1p  : subT "dict" "int" = false := by decide
theorem z0x  : subT "dict" "bool" = false := by decide
theorem z0k  : subT "dict" "tuple" = false := by decide
theorem z0z  : subT "dict" "list" = false := by decide
theorem z0y  : subT "dict" "dict" = true := by decide
theorem z4i {M : UHp} : truU M U.non = some false := rfl
theorem z6g {M : UHp} {k : Bool} : truU M (U.bl k) = some k := rfl
theorem z4g {M : UHp} {i : Int} : truU M (U.int i) = some (i != 0) := rfl
theorem z4j {M : UHp} {z : Str} : truU M (U.str z) = some ((z.length : Int) != 0) := rfl
theorem z4k {M : UHp} {xs : List U} : truU M (U.tup xs) = some (!xs.isEmpty) := rfl
theorem z4h {M : UHp} {xs : List U} : truU M (U.lst xs) = some (!xs.isEmpty) := rfl
theorem z82 {M : UHp} {Q : UK} {x y : U} : eqR x y M Q = (isD (val M x) = true ∧ isD (val M y) = true ∧ (dep (val M x) ≤ 64 ∨ dep (val M y) ≤ 64) ∧ Q (.bl (ueq (val M x) (val M y))) M) := rfl
theorem z88 {M : UHp} {Q : UK} {x y : U} : neR x y M Q = (isD (val M x) = true ∧ isD (val M y) = true ∧ (dep (val M x) ≤ 64 ∨ dep (val M y) ≤ 64) ∧ Q (.bl (!ueq (val M x) (val M y))) M) := rfl
theorem isn_R {M : UHp} {Q : UK} {x y : U} {neg : Bool} : isnR neg x y M Q = (y = .non ∧ Q (.bl (if neg then !isNon x else isNon x)) M) := rfl
theorem z46  : isD U.non = true := rfl
theorem z5x {k : Bool} : isD (U.bl k) = true := rfl
theorem z44 {i : Int} : isD (U.int i) = true := rfl
theorem z47 {z : Str} : isD (U.str z) = okS z := rfl
theorem z48 {xs : List U} : isD (U.tup xs) = isDs xs := rfl
theorem z45 {xs : List U} : isD (U.lst xs) = isDs xs := rfl
theorem z2v  : isDs [] = true := rfl
theorem z2j {x : U} {xs : List U} : isDs (x :: xs) = (isD x && isDs xs) := rfl
theorem z40  : dep U.non = 0 := rfl
theorem z5q {k : Bool} : dep (U.bl k) = 0 := rfl
theorem z3y {i : Int} : dep (U.int i) = 0 := rfl
theorem z41 {z : Str} : dep (U.str z) = 0 := rfl
theorem z42 {xs : List U} : dep (U.tup xs) = deps xs + 1 := rfl
theorem z3z {xs : List U} : dep (U.lst xs) = deps xs + 1 := rfl
theorem z2u  : deps [] = 0 := rfl
theorem z2i {x : U} {xs : List U} : deps (x :: xs) = max (dep x) (deps xs) := rfl
theorem z6y {i j : Int} : ueq (.int i) (.int j) = (i == j) := rfl
theorem z70 {a b : Str} : ueq (.str a) (.str b) = (a == b) := rfl
theorem z6x {k l : Bool} : ueq (.bl k) (.bl l) = (k == l) := rfl
theorem z71 {xs ys : List U} : ueq (.tup xs) (.tup ys) = ueqs xs ys := rfl
theorem z6z {xs ys : List U} : ueq (.lst xs) (.lst ys) = ueqs xs ys := rfl
theorem z59  : ueqs [] [] = true := rfl
theorem z56 {x y : U} {xs ys : List U} : ueqs (x :: xs) (y :: ys) = (ueq x y && ueqs xs ys) := rfl
theorem z57 {x : U} {xs : List U} : ueqs (x :: xs) [] = false := rfl
theorem z58 {x : U} {xs : List U} : ueqs [] (x :: xs) = false := rfl
theorem z87 {M : UHp} {Q : UK} {i : Int} {z : Str} : ixR (.str z) (.int i) M Q = (∃ c, atI z.cps.toList i = some c ∧ Q (.str ⟨#[c]⟩) M) := rfl
theorem ix_t {M : UHp} {Q : UK} {i : Int} {xs : List U} : ixR (.tup xs) (.int i) M Q = (∃ xs_1, seqU M (.tup xs) = some xs_1 ∧ ∃ v, atI xs_1 i = some v ∧ Q v M) := propext ⟨fun ⟨a, b, c, d⟩ => ⟨a, c, b, d⟩, fun ⟨a, c, b, d⟩ => ⟨a, b, c, d⟩⟩
theorem ix_l {M : UHp} {Q : UK} {i : Int} {xs : List U} : ixR (.lst xs) (.int i) M Q = (∃ xs_1, seqU M (.lst xs) = some xs_1 ∧ ∃ v, atI xs_1 i = some v ∧ Q v M) := propext ⟨fun ⟨a, b, c, d⟩ => ⟨a, c, b, d⟩, fun ⟨a, c, b, d⟩ => ⟨a, b, c, d⟩⟩
theorem z86 {M : UHp} {Q : UK} {i : Int} {p : Addr} : ixR (.ref p) (.int i) M Q = (∃ xs_1, seqU M (.ref p) = some xs_1 ∧ ∃ v, atI xs_1 i = some v ∧ Q v M) := propext ⟨fun ⟨a, b, c, d⟩ => ⟨a, c, b, d⟩, fun ⟨a, c, b, d⟩ => ⟨a, b, c, d⟩⟩
theorem z7r {M : UHp} {R : UHp → Prop} {p : Addr} {k : Int} {v : U} : setR (.ref p) (.int k) v M R = (∃ xs, M p = some (.lst xs) ∧ ∃ j, ixN xs.length k = some j ∧ R (updM M p (.lst (xs.set j v)))) := propext ⟨fun ⟨a, b, c, d⟩ => ⟨a, c, b, d⟩, fun ⟨a, c, b, d⟩ => ⟨a, b, c, d⟩⟩
theorem z79 {M : UHp} {Q : UK} {p : Addr} {y : U} : appR (.ref p) [y] M Q = (∃ ys, M p = some (.lst ys) ∧ ys.length < sizeLine ∧ Q .non (updM M p (.lst (ys ++ [y])))) := rfl
theorem z7n {M : UHp} {Q : UK} {i : Int} {p : Addr} : popR (.ref p) [.int i] M Q = (∃ ys, M p = some (.lst ys) ∧ i < 2 ^ 63 ∧ ∃ k, ixN ys.length i = some k ∧ ∃ y, ys[k]? = some y ∧ Q y (updM M p (.lst (ys.eraseIdx k)))) := propext ⟨fun ⟨a, b, c, d, e, f, g, h⟩ => ⟨a, d, e, b, f, c, g, h⟩, fun ⟨a, d, e, b, f, c, g, h⟩ => ⟨a, b, c, d, e, f, g, h⟩⟩
theorem z7d {M : UHp} {Q : UK} {p : Addr} {i : Int} {y : U} : insR (.ref p) [.int i, y] M Q = (∃ ys, M p = some (.lst ys) ∧ ys.length < sizeLine ∧ 0 ≤ i ∧ i < 2 ^ 63 ∧ Q .non (updM M p (.lst (ys.take i.toNat ++ [y] ++ ys.drop i.toNat)))) := rfl
theorem z5y {M : UHp} {Q : UK} {a : Str} {y : U} : joinR (.str a) [y] M Q = (∃ ys, seqU M y = some ys ∧ ∃ zs, strsU ys = some zs ∧ (zs.map (·.length)).sum + zs.length * a.length ≤ 16777216 ∧ (okS a = true → (∀ z ∈ zs, okS z = true) → okS (Txt.join a zs) = true) ∧ Q (.str (Txt.join a zs)) M) := propext ⟨fun ⟨a, b, c, d⟩ => ⟨a, c, b, d⟩, fun ⟨a, c, b, d⟩ => ⟨a, b, c, d⟩⟩
theorem z76 {M : UHp} {Q : UK} {x : U} : allR [x] M Q = (∃ ys, listU M x = some ys ∧ ∃ k, allU ys = some k ∧ Q (.bl k) M) := propext ⟨fun ⟨a, b, c, d⟩ => ⟨a, c, b, d⟩, fun ⟨a, c, b, d⟩ => ⟨a, b, c, d⟩⟩
theorem z77 {M : UHp} {Q : UK} {x : U} : anyR [x] M Q = (∃ ys, listU M x = some ys ∧ ∃ k, anyU ys = some k ∧ Q (.bl k) M) := propext ⟨fun ⟨a, b, c, d⟩ => ⟨a, c, b, d⟩, fun ⟨a, c, b, d⟩ => ⟨a, b, c, d⟩⟩
theorem tuple_1 {M : UHp} {Q : UK} {x : U} : tupleR [x] M Q = (∃ ys, seqU M x = some ys ∧ Q (.tup ys) M) := rfl
theorem list_1 {M : UHp} {Q : UK} {x : U} {m : Bool} : listR m [x] M Q = (∃ ys, seqU M x = some ys ∧ newL m ys M Q) := rfl
theorem z6c {M : UHp} {Q : UK} {x : U} : reprR [x] M Q = (okR (val M x) ∧ Q (.str (rep (val M x))) M) := rfl
theorem z69 {M : UHp} {Q : UK} {xs : List U} : newL false xs M Q = Q (.lst xs) M := by simp [newL]
theorem z6a {M : UHp} {Q : UK} {xs : List U} : newL true xs M Q = (∀ p, M p = none → Q (.ref p) (updM M p (.lst xs))) := by simp [newL]
theorem z8b {M : UHp} {Q : UK} {m : Bool} {z : Str} {lo hi : Option Int} : slR m (.str z) lo hi M Q = Q (.str (cutS z lo hi)) M := rfl
theorem z8c {M : UHp} {Q : UK} {m : Bool} {xs : List U} {lo hi : Option Int} : slR m (.tup xs) lo hi M Q = Q (.tup (cutL xs lo hi)) M := rfl
theorem z89 {M : UHp} {Q : UK} {m : Bool} {xs : List U} {lo hi : Option Int} : slR m (.lst xs) lo hi M Q = (∃ ys, some xs = some ys ∧ newL m (cutL ys lo hi) M Q) := rfl
theorem z8a {M : UHp} {Q : UK} {m : Bool} {p : Addr} {lo hi : Option Int} : slR m (.ref p) lo hi M Q = (∃ ys, listU M (.ref p) = some ys ∧ newL m (cutL ys lo hi) M Q) := rfl
theorem in_ss {M : UHp} {Q : UK} {neg : Bool} {a b : Str} : inR neg (.str a) (.str b) M Q = (∃ c, U.str a = .str c ∧ Q (.bl (if neg then !inStr c b else inStr c b)) M) := rfl
theorem z85 {M : UHp} {Q : UK} {neg : Bool} {x : U} {xs : List U} : inR neg x (.tup xs) M Q = (isDs xs = true ∧ isD x = true ∧ (deps xs ≤ 64 ∨ dep x ≤ 64) ∧ Q (.bl (if neg then !inU x xs else inU x xs)) M) := rfl
theorem z83 {M : UHp} {Q : UK} {neg : Bool} {x : U} {xs : List U} : inR neg x (.lst xs) M Q = (isDs xs = true ∧ isD x = true ∧ (deps xs ≤ 64 ∨ dep x ≤ 64) ∧ Q (.bl (if neg then !inU x xs else inU x xs)) M) := rfl
theorem z84 {M : UHp} {Q : UK} {neg : Bool} {x : U} {p : Addr} : inR neg x (.ref p) M Q = (∃ xs, M p = some (.lst xs) ∧ isDs xs = true ∧ isD x = true ∧ (deps xs ≤ 64 ∨ dep x ≤ 64) ∧ Q (.bl (if neg then !inU x xs else inU x xs)) M) := rfl
theorem z4v {M : UHp} {p : Addr} : tyMt "list" M (.ref p) = (∃ xs, M p = some (.lst xs)) := by simp [tyMt]
theorem z4u {M : UHp} {p : Addr} : tyMt "dict" M (.ref p) = (∃ kvs, M p = some (.dK kvs)) := by simp [tyMt]
theorem z6i {T : String} {M : UHp} {z : Str} : tyMt T M (.str z) = (T = "str") := rfl
theorem z78 {te : UTE} {M : UHp} {R : UIt → UHp → Prop} : uAnyI te σ M R = te σ M (fun x M1 => anyI x M1 R) := by unfold uAnyI anyI; rfl
theorem z5m {M : UHp} {R : UIt → UHp → Prop} {xs : List U} : anyI (.tup xs) M R = R ⟨xs, fun _ => True⟩ M := rfl
theorem z5l {M : UHp} {R : UIt → UHp → Prop} {z : Str} : anyI (.str z) M R = R ⟨signs z, fun _ => True⟩ M := rfl
theorem anyI_l {M : UHp} {R : UIt → UHp → Prop} {xs : List U} : anyI (.lst xs) M R = (∃ ys, some xs = some ys ∧ R ⟨ys, fun _ => some xs = some ys⟩ M) := rfl
theorem z5k {M : UHp} {R : UIt → UHp → Prop} {p : Addr} : anyI (.ref p) M R = (∃ ys, listU M (.ref p) = some ys ∧ R ⟨ys, fun M' => listU M' (.ref p) = some ys⟩ M) := rfl
theorem z6n {a : U} {M : UHp} {Q : UK} : uVar 0 (some a :: σ) M Q = Q a M := by simp [uVar]
theorem z6o {x0 : Option U} {a : U} {M : UHp} {Q : UK} : uVar 1 (x0 :: some a :: σ) M Q = Q a M := by simp [uVar]
theorem z6p {x0 x1 : Option U} {a : U} {M : UHp} {Q : UK} : uVar 2 (x0 :: x1 :: some a :: σ) M Q = Q a M := by simp [uVar]
theorem z6q {x0 x1 x2 : Option U} {a : U} {M : UHp} {Q : UK} : uVar 3 (x0 :: x1 :: x2 :: some a :: σ) M Q = Q a M := by simp [uVar]
theorem z6r {x0 x1 x2 x3 : Option U} {a : U} {M : UHp} {Q : UK} : uVar 4 (x0 :: x1 :: x2 :: x3 :: some a :: σ) M Q = Q a M := by simp [uVar]
theorem z6s {x0 x1 x2 x3 x4 : Option U} {a : U} {M : UHp} {Q : UK} : uVar 5 (x0 :: x1 :: x2 :: x3 :: x4 :: some a :: σ) M Q = Q a M := by simp [uVar]
theorem z6t {x0 x1 x2 x3 x4 x5 : Option U} {a : U} {M : UHp} {Q : UK} : uVar 6 (x0 :: x1 :: x2 :: x3 :: x4 :: x5 :: some a :: σ) M Q = Q a M := by simp [uVar]
theorem z6u {x0 x1 x2 x3 x4 x5 x6 : Option U} {a : U} {M : UHp} {Q : UK} : uVar 7 (x0 :: x1 :: x2 :: x3 :: x4 :: x5 :: x6 :: some a :: σ) M Q = Q a M := by simp [uVar]
theorem z6v {x0 x1 x2 x3 x4 x5 x6 x7 : Option U} {a : U} {M : UHp} {Q : UK} : uVar 8 (x0 :: x1 :: x2 :: x3 :: x4 :: x5 :: x6 :: x7 :: some a :: σ) M Q = Q a M := by simp [uVar]
theorem z6w {x0 x1 x2 x3 x4 x5 x6 x7 x8 : Option U} {a : U} {M : UHp} {Q : UK} : uVar 9 (x0 :: x1 :: x2 :: x3 :: x4 :: x5 :: x6 :: x7 :: x8 :: some a :: σ) M Q = Q a M := by simp [uVar]
theorem z50 {x0 x1 x2 x3 x4 x5 x6 x7 x8 x9 : Option U} {a : U} {M : UHp} {Q : UK} : uVar 10 (x0 :: x1 :: x2 :: x3 :: x4 :: x5 :: x6 :: x7 :: x8 :: x9 :: some a :: σ) M Q = Q a M := by simp [uVar]
theorem z51 {x0 x1 x2 x3 x4 x5 x6 x7 x8 x9 x10 : Option U} {a : U} {M : UHp} {Q : UK} : uVar 11 (x0 :: x1 :: x2 :: x3 :: x4 :: x5 :: x6 :: x7 :: x8 :: x9 :: x10 :: some a :: σ) M Q = Q a M := by simp [uVar]
theorem z52 {x0 x1 x2 x3 x4 x5 x6 x7 x8 x9 x10 x11 : Option U} {a : U} {M : UHp} {Q : UK} : uVar 12 (x0 :: x1 :: x2 :: x3 :: x4 :: x5 :: x6 :: x7 :: x8 :: x9 :: x10 :: x11 :: some a :: σ) M Q = Q a M := by simp [uVar]
theorem z53 {x0 x1 x2 x3 x4 x5 x6 x7 x8 x9 x10 x11 x12 : Option U} {a : U} {M : UHp} {Q : UK} : uVar 13 (x0 :: x1 :: x2 :: x3 :: x4 :: x5 :: x6 :: x7 :: x8 :: x9 :: x10 :: x11 :: x12 :: some a :: σ) M Q = Q a M := by simp [uVar]
theorem z54 {x0 x1 x2 x3 x4 x5 x6 x7 x8 x9 x10 x11 x12 x13 : Option U} {a : U} {M : UHp} {Q : UK} : uVar 14 (x0 :: x1 :: x2 :: x3 :: x4 :: x5 :: x6 :: x7 :: x8 :: x9 :: x10 :: x11 :: x12 :: x13 :: some a :: σ) M Q = Q a M := by simp [uVar]
theorem z55 {x0 x1 x2 x3 x4 x5 x6 x7 x8 x9 x10 x11 x12 x13 x14 : Option U} {a : U} {M : UHp} {Q : UK} : uVar 15 (x0 :: x1 :: x2 :: x3 :: x4 :: x5 :: x6 :: x7 :: x8 :: x9 :: x10 :: x11 :: x12 :: x13 :: x14 :: some a :: σ) M Q = Q a M := by simp [uVar]
theorem z4b {M : UHp} {Q : UK} {z : Str} : lenR [.str z] M Q = Q (.int (z.length : Nat)) M := by simp [lenR, lenU]
theorem z4c {M : UHp} {Q : UK} {xs : List U} : lenR [.tup xs] M Q = Q (.int (xs.length : Nat)) M := by simp [lenR, lenU]
theorem z49 {M : UHp} {Q : UK} {xs : List U} : lenR [.lst xs] M Q = Q (.int (xs.length : Nat)) M := by simp [lenR, lenU]
theorem z27 {M : UHp} {Q : UK} : isiR [.non, .ty "str"] M Q = Q (.bl false) M := by simp only [isi_1,z4q,z4e,Option.some.injEq,exists_eq_left',z0h,true_and]
theorem z26 {M : UHp} {Q : UK} : isiR [.non, .ty "int"] M Q = Q (.bl false) M := by simp only [isi_1,z4q,z4d,Option.some.injEq,exists_eq_left',z0g,true_and]
theorem z1e {M : UHp} {Q : UK} : isiR [.non, .ty "bool"] M Q = Q (.bl false) M := by simp only [isi_1,z4q,z3b,Option.some.injEq,exists_eq_left',z0d,true_and]
theorem z0r {M : UHp} {Q : UK} : isiR [.non, .ty "tuple"] M Q = Q (.bl false) M := by simp only [isi_1,z4q,z2s,Option.some.injEq,exists_eq_left',z0a,true_and]
theorem z1g {M : UHp} {Q : UK} : isiR [.non, .ty "list"] M Q = Q (.bl false) M := by simp only [isi_1,z4q,z3d,Option.some.injEq,exists_eq_left',z0f,true_and]
theorem z1f {M : UHp} {Q : UK} : isiR [.non, .ty "dict"] M Q = Q (.bl false) M := by simp only [isi_1,z4q,z3c,Option.some.injEq,exists_eq_left',z0e,true_and]
theorem z05 {M : UHp} {Q : UK} : isiR [.non, .tup [.ty "tuple", .ty "list"]] M Q = Q (.bl false) M := by simp only [isi_2,z4q,z2s,z3d,Option.some.injEq,exists_eq_left',z0a,z0f,true_and,Bool.or_true,Bool.or_false,Bool.true_or,Bool.false_or]
theorem z04 {M : UHp} {Q : UK} : isiR [.non, .tup [.ty "list", .ty "tuple"]] M Q = Q (.bl false) M := by simp only [isi_2,z4q,z3d,z2s,Option.some.injEq,exists_eq_left',z0f,z0a,true_and,Bool.or_true,Bool.or_false,Bool.true_or,Bool.false_or]
theorem z2h {M : UHp} {Q : UK} {k : Bool} : isiR [.bl k, .ty "str"] M Q = Q (.bl false) M := by simp only [isi_1,z6h,z4e,Option.some.injEq,exists_eq_left',z1o,true_and]
theorem z2g {M : UHp} {Q : UK} {k : Bool} : isiR [.bl k, .ty "int"] M Q = Q (.bl true) M := by simp only [isi_1,z6h,z4d,Option.some.injEq,exists_eq_left',z1n,true_and]
theorem z1z {M : UHp} {Q : UK} {k : Bool} : isiR [.bl k, .ty "bool"] M Q = Q (.bl true) M := by simp only [isi_1,z6h,z3b,Option.some.injEq,exists_eq_left',z0u,true_and]
theorem z17 {M : UHp} {Q : UK} {k : Bool} : isiR [.bl k, .ty "tuple"] M Q = Q (.bl false) M := by simp only [isi_1,z6h,z2s,Option.some.injEq,exists_eq_left',z0j,true_and]
theorem z21 {M : UHp} {Q : UK} {k : Bool} : isiR [.bl k, .ty "list"] M Q = Q (.bl false) M := by simp only [isi_1,z6h,z3d,Option.some.injEq,exists_eq_left',z0w,true_and]
theorem z20 {M : UHp} {Q : UK} {k : Bool} : isiR [.bl k, .ty "dict"] M Q = Q (.bl false) M := by simp only [isi_1,z6h,z3c,Option.some.injEq,exists_eq_left',z0v,true_and]
theorem z0c {M : UHp} {Q : UK} {k : Bool} : isiR [.bl k, .tup [.ty "tuple", .ty "list"]] M Q = Q (.bl false) M := by simp only [isi_2,z6h,z2s,z3d,Option.some.injEq,exists_eq_left',z0j,z0w,true_and,Bool.or_true,Bool.or_false,Bool.true_or,Bool.false_or]
theorem z0b {M : UHp} {Q : UK} {k : Bool} : isiR [.bl k, .tup [.ty "list", .ty "tuple"]] M Q = Q (.bl false) M := by simp only [isi_2,z6h,z3d,z2s,Option.some.injEq,exists_eq_left',z0w,z0j,true_and,Bool.or_true,Bool.or_false,Bool.true_or,Bool.false_or]
theorem z23 {M : UHp} {Q : UK} {i : Int} : isiR [.int i, .ty "str"] M Q = Q (.bl false) M := by simp only [isi_1,z4o,z4e,Option.some.injEq,exists_eq_left',z2d,true_and]
theorem z22 {M : UHp} {Q : UK} {i : Int} : isiR [.int i, .ty "int"] M Q = Q (.bl true) M := by simp only [isi_1,z4o,z4d,Option.some.injEq,exists_eq_left',z2c,true_and]
theorem z18 {M : UHp} {Q : UK} {i : Int} : isiR [.int i, .ty "bool"] M Q = Q (.bl false) M := by simp only [isi_1,z4o,z3b,Option.some.injEq,exists_eq_left',z1r,true_and]
theorem z0p {M : UHp} {Q : UK} {i : Int} : isiR [.int i, .ty "tuple"] M Q = Q (.bl false) M := by simp only [isi_1,z4o,z2s,Option.some.injEq,exists_eq_left',z10,true_and]
theorem z1a {M : UHp} {Q : UK} {i : Int} : isiR [.int i, .ty "list"] M Q = Q (.bl false) M := by simp only [isi_1,z4o,z3d,Option.some.injEq,exists_eq_left',z1t,true_and]
theorem z19 {M : UHp} {Q : UK} {i : Int} : isiR [.int i, .ty "dict"] M Q = Q (.bl false) M := by simp only [isi_1,z4o,z3c,Option.some.injEq,exists_eq_left',z1s,true_and]
theorem z01 {M : UHp} {Q : UK} {i : Int} : isiR [.int i, .tup [.ty "tuple", .ty "list"]] M Q = Q (.bl false) M := by simp only [isi_2,z4o,z2s,z3d,Option.some.injEq,exists_eq_left',z10,z1t,true_and,Bool.or_true,Bool.or_false,Bool.true_or,Bool.false_or]
theorem z00 {M : UHp} {Q : UK} {i : Int} : isiR [.int i, .tup [.ty "list", .ty "tuple"]] M Q = Q (.bl false) M := by simp only [isi_2,z4o,z3d,z2s,Option.some.injEq,exists_eq_left',z1t,z10,true_and,Bool.or_true,Bool.or_false,Bool.true_or,Bool.false_or]
theorem z29 {M : UHp} {Q : UK} {z : Str} : isiR [.str z, .ty "str"] M Q = Q (.bl true) M := by simp only [isi_1,z4s,z4e,Option.some.injEq,exists_eq_left',z2f,true_and]
theorem z28 {M : UHp} {Q : UK} {z : Str} : isiR [.str z, .ty "int"] M Q = Q (.bl false) M := by simp only [isi_1,z4s,z4d,Option.some.injEq,exists_eq_left',z2e,true_and]
theorem z1h {M : UHp} {Q : UK} {z : Str} : isiR [.str z, .ty "bool"] M Q = Q (.bl false) M := by simp only [isi_1,z4s,z3b,Option.some.injEq,exists_eq_left',z1w,true_and]
theorem z0s {M : UHp} {Q : UK} {z : Str} : isiR [.str z, .ty "tuple"] M Q = Q (.bl false) M := by simp only [isi_1,z4s,z2s,Option.some.injEq,exists_eq_left',z14,true_and]
theorem z1j {M : UHp} {Q : UK} {z : Str} : isiR [.str z, .ty "list"] M Q = Q (.bl false) M := by simp only [isi_1,z4s,z3d,Option.some.injEq,exists_eq_left',z1y,true_and]
theorem z1i {M : UHp} {Q : UK} {z : Str} : isiR [.str z, .ty "dict"] M Q = Q (.bl false) M := by simp only [isi_1,z4s,z3c,Option.some.injEq,exists_eq_left',z1x,true_and]
theorem z07 {M : UHp} {Q : UK} {z : Str} : isiR [.str z, .tup [.ty "tuple", .ty "list"]] M Q = Q (.bl false) M := by simp only [isi_2,z4s,z2s,z3d,Option.some.injEq,exists_eq_left',z14,z1y,true_and,Bool.or_true,Bool.or_false,Bool.true_or,Bool.false_or]
theorem z06 {M : UHp} {Q : UK} {z : Str} : isiR [.str z, .tup [.ty "list", .ty "tuple"]] M Q = Q (.bl false) M := by simp only [isi_2,z4s,z3d,z2s,Option.some.injEq,exists_eq_left',z1y,z14,true_and,Bool.or_true,Bool.or_false,Bool.true_or,Bool.false_or]
theorem z2b {M : UHp} {Q : UK} {xs : List U} : isiR [.tup xs, .ty "str"] M Q = Q (.bl false) M := by simp only [isi_1,z4t,z4e,Option.some.injEq,exists_eq_left',z16,true_and]
theorem z2a {M : UHp} {Q : UK} {xs : List U} : isiR [.tup xs, .ty "int"] M Q = Q (.bl false) M := by simp only [isi_1,z4t,z4d,Option.some.injEq,exists_eq_left',z15,true_and]
theorem z1k {M : UHp} {Q : UK} {xs : List U} : isiR [.tup xs, .ty "bool"] M Q = Q (.bl false) M := by simp only [isi_1,z4t,z3b,Option.some.injEq,exists_eq_left',z0m,true_and]
theorem z0t {M : UHp} {Q : UK} {xs : List U} : isiR [.tup xs, .ty "tuple"] M Q = Q (.bl true) M := by simp only [isi_1,z4t,z2s,Option.some.injEq,exists_eq_left',z0i,true_and]
theorem z1m {M : UHp} {Q : UK} {xs : List U} : isiR [.tup xs, .ty "list"] M Q = Q (.bl false) M := by simp only [isi_1,z4t,z3d,Option.some.injEq,exists_eq_left',z0o,true_and]
theorem z1l {M : UHp} {Q : UK} {xs : List U} : isiR [.tup xs, .ty "dict"] M Q = Q (.bl false) M := by simp only [isi_1,z4t,z3c,Option.some.injEq,exists_eq_left',z0n,true_and]
theorem z09 {M : UHp} {Q : UK} {xs : List U} : isiR [.tup xs, .tup [.ty "tuple", .ty "list"]] M Q = Q (.bl true) M := by simp only [isi_2,z4t,z2s,z3d,Option.some.injEq,exists_eq_left',z0i,z0o,true_and,Bool.or_true,Bool.or_false,Bool.true_or,Bool.false_or]
theorem z08 {M : UHp} {Q : UK} {xs : List U} : isiR [.tup xs, .tup [.ty "list", .ty "tuple"]] M Q = Q (.bl true) M := by simp only [isi_2,z4t,z3d,z2s,Option.some.injEq,exists_eq_left',z0o,z0i,true_and,Bool.or_true,Bool.or_false,Bool.true_or,Bool.false_or]
theorem z25 {M : UHp} {Q : UK} {xs : List U} : isiR [.lst xs, .ty "str"] M Q = Q (.bl false) M := by simp only [isi_1,z4p,z4e,Option.some.injEq,exists_eq_left',z1v,true_and]
theorem z24 {M : UHp} {Q : UK} {xs : List U} : isiR [.lst xs, .ty "int"] M Q = Q (.bl false) M := by simp only [isi_1,z4p,z4d,Option.some.injEq,exists_eq_left',z1u,true_and]
theorem z1b {M : UHp} {Q : UK} {xs : List U} : isiR [.lst xs, .ty "bool"] M Q = Q (.bl false) M := by simp only [isi_1,z4p,z3b,Option.some.injEq,exists_eq_left',z11,true_and]
theorem z0q {M : UHp} {Q : UK} {xs : List U} : isiR [.lst xs, .ty "tuple"] M Q = Q (.bl false) M := by simp only [isi_1,z4p,z2s,Option.some.injEq,exists_eq_left',z0l,true_and]
theorem z1d {M : UHp} {Q : UK} {xs : List U} : isiR [.lst xs, .ty "list"] M Q = Q (.bl true) M := by simp only [isi_1,z4p,z3d,Option.some.injEq,exists_eq_left',z13,true_and]
theorem z1c {M : UHp} {Q : UK} {xs : List U} : isiR [.lst xs, .ty "dict"] M Q = Q (.bl false) M := by simp only [isi_1,z4p,z3c,Option.some.injEq,exists_eq_left',z12,true_and]
theorem z03 {M : UHp} {Q : UK} {xs : List U} : isiR [.lst xs, .tup [.ty "tuple", .ty "list"]] M Q = Q (.bl true) M := by simp only [isi_2,z4p,z2s,z3d,Option.some.injEq,exists_eq_left',z0l,z13,true_and,Bool.or_true,Bool.or_false,Bool.true_or,Bool.false_or]
theorem z02 {M : UHp} {Q : UK} {xs : List U} : isiR [.lst xs, .tup [.ty "list", .ty "tuple"]] M Q = Q (.bl true) M := by simp only [isi_2,z4p,z3d,z2s,Option.some.injEq,exists_eq_left',z13,z0l,true_and,Bool.or_true,Bool.or_false,Bool.true_or,Bool.false_or]
theorem z6m {te : UTE} {M : UHp} {Q : Bool → UHp → Prop} : uTru te σ M Q = te σ M (fun x M1 => truK x M1 Q) := rfl
theorem z8h {te : UTE} {M : UHp} {Q : Bool → UHp → Prop} : uB te σ M Q = te σ M (fun x M1 => blK x M1 Q) := rfl
theorem z4z {te : UTE} {M : UHp} {Q : Option Int → UHp → Prop} : uPart te σ M Q = te σ M (fun x M1 => partK x M1 Q) := rfl
theorem z6l {ta : UTA} {M : UHp} {R : UIt → UHp → Prop} : uRng1 ta σ M R = ta σ M (fun x M1 => rngK x M1 R) := rfl
theorem z6k {ta tb : UTE} {M : UHp} {Q : UK} : uOrV ta tb σ M Q = ta σ M (fun x M1 => truK x M1 fun k M1 => if k = true then Q x M1 else tb σ M1 Q) := rfl
theorem z4w {ta tb : UTE} {M : UHp} {Q : UK} : uAndV ta tb σ M Q = ta σ M (fun x M1 => truK x M1 fun k M1 => if k = true then tb σ M1 Q else Q x M1) := rfl
theorem z4y {ta : UTE} {M : UHp} {Q : UK} : uNotV ta σ M Q = ta σ M (fun x M1 => truK x M1 fun k M1 => Q (.bl (!k)) M1) := rfl
theorem z3s {r r2 : UR2} {ta tb tc : UTE} {M : UHp} {Q : UK} : uChain r r2 ta tb tc σ M Q = ta σ M (fun x M1 => tb σ M1 fun y M2 => r x y M2 fun z M3 => blK z M3 fun k M3 => if k = true then tc σ M3 fun w' M4 => r2 y w' M4 Q else Q (.bl false) M3) := rfl
theorem z6j {i : Nat} {te : UTE} {r : UR2} {D : UEnds} {M : UHp} : z8f i te r D σ M = uVar i σ M (fun x _ => te σ M fun y M1 => r x y M1 fun z M2 => D.nx (σ.set i (some z)) M2) := rfl
theorem z3p {M : UHp} {Q : Bool → UHp → Prop} : truK .non M Q = Q false M := by simp [truK, truU]
theorem z4f {M : UHp} {Q : Bool → UHp → Prop} {k : Bool} : truK (.bl k) M Q = Q k M := by simp only [truK,truU,Option.some.injEq,exists_eq_left']
theorem z3n {M : UHp} {Q : Bool → UHp → Prop} {i : Int} : truK (.int i) M Q = Q (i != 0) M := by simp only [truK,truU,Option.some.injEq,exists_eq_left']
theorem z3q {M : UHp} {Q : Bool → UHp → Prop} {z : Str} : truK (.str z) M Q = Q ((z.length : Int) != 0) M := by simp only [truK,truU,Option.some.injEq,exists_eq_left']
theorem z3r {M : UHp} {Q : Bool → UHp → Prop} {xs : List U} : truK (.tup xs) M Q = Q (!xs.isEmpty) M := by simp only [truK,truU,Option.some.injEq,exists_eq_left']
theorem z3o {M : UHp} {Q : Bool → UHp → Prop} {xs : List U} : truK (.lst xs) M Q = Q (!xs.isEmpty) M := by simp only [truK,truU,Option.some.injEq,exists_eq_left']
theorem z5p {M : UHp} {Q : Bool → UHp → Prop} {k : Bool} : blK (.bl k) M Q = Q k M := by simp only [blK,U.bl.injEq,exists_eq_left']
theorem z2t {M : UHp} {Q : Option Int → UHp → Prop} {i : Int} : partK (.int i) M Q = Q (some i) M := by simp only [partK,U.int.injEq,exists_eq_left']
theorem z3h {M : UHp} {R : UIt → UHp → Prop} {j : Int} : rngK [.int j] M R = (-(2 ^ 62) ≤ j ∧ j < 2 ^ 62 ∧ j.toNat ≤ sizeLine ∧ R ⟨rangeU 0 j.toNat, fun _ => True⟩ M) := by simp only [rngK,List.cons.injEq,U.int.injEq,and_true,exists_eq_left']
theorem z4n {M : UHp} {Q : UK} {xs : List U} : tupleR [.tup xs] M Q = Q (.tup xs) M := by simp [tupleR, seqU]
theorem z4l {M : UHp} {Q : UK} {xs : List U} : tupleR [.lst xs] M Q = Q (.tup xs) M := by simp [tupleR, seqU]
theorem z4a {M : UHp} {Q : UK} {p : Addr} : lenR [.ref p] M Q = (∃ n, (refL (M p)).map List.length = some n ∧ Q (.int (n : Nat)) M) := by simp only [len_1,z38]
theorem z66 {M : UHp} {Q : UK} {p : Addr} {k : Int} {m : Bool} : mulR m false (.ref p) (.int k) M Q = (∃ xs, M p = some (.lst xs) ∧ -(2 ^ 63) ≤ k ∧ k < 2 ^ 63 ∧ xs.length * k.toNat ≤ sizeLine ∧ newL m (List.replicate k.toNat xs).flatten M Q) := rfl
theorem z65 {M : UHp} {Q : UK} {p : Addr} {k : Int} {m : Bool} : mulR m true (.ref p) (.int k) M Q = (∃ xs, M p = some (.lst xs) ∧ -(2 ^ 63) ≤ k ∧ k < 2 ^ 63 ∧ xs.length * k.toNat ≤ sizeLine ∧ newL m (List.replicate k.toNat xs).flatten (delM M p) Q) := rfl
theorem z4m {M : UHp} {Q : UK} {p : Addr} : tupleR [.ref p] M Q = (∃ ys, refL (M p) = some ys ∧ Q (.tup ys) M) := by simp only [tuple_1,z3j]
theorem z60 {M : UHp} {Q : UK} {p : Addr} {m : Bool} : listR m [.ref p] M Q = (∃ ys, refL (M p) = some ys ∧ newL m ys M Q) := by simp only [list_1,z3j]
theorem z61 {M : UHp} {Q : UK} {xs : List U} {m : Bool} : listR m [.tup xs] M Q = newL m xs M Q := by simp [listR, seqU]
theorem z5z {M : UHp} {Q : UK} {xs : List U} {m : Bool} : listR m [.lst xs] M Q = newL m xs M Q := by simp [listR, seqU]
theorem z32 {a : U} {ys : List U} {M : UHp} {Q : UK} : ixR (.tup (a :: ys)) (.int 0) M Q = Q a M := by simp only [ix_t,z3k,Option.some.injEq,at0,exists_and_left,exists_eq_left']
theorem z2x {a : U} {ys : List U} {M : UHp} {Q : UK} : ixR (.lst (a :: ys)) (.int 0) M Q = Q a M := by simp only [ix_l,z3i,Option.some.injEq,at0,exists_and_left,exists_eq_left']
theorem z33 {x0 : U} {a : U} {ys : List U} {M : UHp} {Q : UK} : ixR (.tup (x0 :: a :: ys)) (.int 1) M Q = Q a M := by simp only [ix_t,z3k,Option.some.injEq,at1,exists_and_left,exists_eq_left']
theorem z2y {x0 : U} {a : U} {ys : List U} {M : UHp} {Q : UK} : ixR (.lst (x0 :: a :: ys)) (.int 1) M Q = Q a M := by simp only [ix_l,z3i,Option.some.injEq,at1,exists_and_left,exists_eq_left']
theorem z34 {x0 x1 : U} {a : U} {ys : List U} {M : UHp} {Q : UK} : ixR (.tup (x0 :: x1 :: a :: ys)) (.int 2) M Q = Q a M := by simp only [ix_t,z3k,Option.some.injEq,at2,exists_and_left,exists_eq_left']
theorem z2z {x0 x1 : U} {a : U} {ys : List U} {M : UHp} {Q : UK} : ixR (.lst (x0 :: x1 :: a :: ys)) (.int 2) M Q = Q a M := by simp only [ix_l,z3i,Option.some.injEq,at2,exists_and_left,exists_eq_left']
theorem z35 {x0 x1 x2 : U} {a : U} {ys : List U} {M : UHp} {Q : UK} : ixR (.tup (x0 :: x1 :: x2 :: a :: ys)) (.int 3) M Q = Q a M := by simp only [ix_t,z3k,Option.some.injEq,at3,exists_and_left,exists_eq_left']
theorem z30 {x0 x1 x2 : U} {a : U} {ys : List U} {M : UHp} {Q : UK} : ixR (.lst (x0 :: x1 :: x2 :: a :: ys)) (.int 3) M Q = Q a M := by simp only [ix_l,z3i,Option.some.injEq,at3,exists_and_left,exists_eq_left']
theorem z36 {x0 x1 x2 x3 : U} {a : U} {ys : List U} {M : UHp} {Q : UK} : ixR (.tup (x0 :: x1 :: x2 :: x3 :: a :: ys)) (.int 4) M Q = Q a M := by simp only [ix_t,z3k,Option.some.injEq,at4,exists_and_left,exists_eq_left']
theorem z31 {x0 x1 x2 x3 : U} {a : U} {ys : List U} {M : UHp} {Q : UK} : ixR (.lst (x0 :: x1 :: x2 :: x3 :: a :: ys)) (.int 4) M Q = Q a M := by simp only [ix_l,z3i,Option.some.injEq,at4,exists_and_left,exists_eq_left']
theorem z7h {xs : List U} {i : Int} {M : UHp} {Q : UK} : ixR (.tup xs) (.int i) M Q = (∃ v, atI xs i = some v ∧ Q v M) := by simp only [ix_t,z3k,Option.some.injEq,exists_and_left,exists_eq_left']
theorem z7g {xs : List U} {i : Int} {M : UHp} {Q : UK} : ixR (.lst xs) (.int i) M Q = (∃ v, atI xs i = some v ∧ Q v M) := by simp only [ix_l,z3i,Option.some.injEq,exists_and_left,exists_eq_left']
theorem z3u {M : UHp} {Q : UK} {xs ys : List U} {m : Bool} : addR m (.lst xs) (.lst ys) M Q = (xs.length + ys.length ≤ sizeLine ∧ newL m (xs ++ ys) M Q) := by simp only [add_ll,Option.some.injEq,exists_and_left,exists_eq_left']
theorem z5u {M : UHp} {Q : UK} {neg : Bool} {a b : Str} : inR neg (.str a) (.str b) M Q = Q (.bl (if neg then !inStr a b else inStr a b)) M := by simp only [in_ss,U.str.injEq,exists_eq_left']
theorem z3x {M : UHp} {R : UIt → UHp → Prop} {xs : List U} : anyI (.lst xs) M R = R ⟨xs, fun _ => True⟩ M := by simp only [anyI_l,Option.some.injEq,exists_eq_left']
theorem z7f {M : UHp} {Q : UK} {x : U} {neg : Bool} : isnR neg x .non M Q = Q (.bl (if neg then !isNon x else isNon x)) M := by simp only [isn_R,true_and]
theorem z5t {n : Nat} {t : UTGs} {xs : List U} {M : UHp} {Q : USt → UHp → Prop} : ugTup n t (.tup xs) σ M Q = (xs.length = n ∧ t xs σ M Q) := by simp only [ugTup,U.tup.injEq,exists_eq_left']
theorem z43 {g : UTG} {gs : UTGs} {v : U} {r : List U} {M : UHp} {Q : USt → UHp → Prop} : ugCons g gs (v :: r) σ M Q = g v σ M (fun s m => gs r s m Q) := propext ⟨fun ⟨_, _, e, h⟩ => by cases e; exact h, fun h => ⟨v, r, rfl, h⟩⟩
theorem z5s {M : UHp} {Q : USt → UHp → Prop} : ugNil [] σ M Q = Q σ M := by simp [ugNil]
theorem cle {n k : Nat} : (((n : Nat) : Int) ≤ (no_index (@OfNat.ofNat Int k _))) = (n ≤ @OfNat.ofNat Nat k _) := propext (show ((n : Int) ≤ (k : Int)) ↔ n ≤ k by omega)
theorem clt {n k : Nat} : (((n : Nat) : Int) < (no_index (@OfNat.ofNat Int k _))) = (n < @OfNat.ofNat Nat k _) := propext (show ((n : Int) < (k : Int)) ↔ n < k by omega)
theorem cge {n k : Nat} : ((no_index (@OfNat.ofNat Int k _)) ≤ ((n : Nat) : Int)) = (@OfNat.ofNat Nat k _ ≤ n) := propext (show ((k : Int) ≤ (n : Int)) ↔ k ≤ n by omega)
theorem cgt {n k : Nat} : ((no_index (@OfNat.ofNat Int k _)) < ((n : Nat) : Int)) = (@OfNat.ofNat Nat k _ < n) := propext (show ((k : Int) < (n : Int)) ↔ k < n by omega)
theorem ceq {n k : Nat} : ((((n : Nat) : Int)) == (no_index (@OfNat.ofNat Int k _))) = (n == @OfNat.ofNat Nat k _) := by
  show ((n : Int) == (k : Int)) = (n == k)
  by_cases h : n = k
  · subst h; simp
  · rw [beq_eq_false_iff_ne.mpr h, beq_eq_false_iff_ne.mpr (by omega)]
theorem cne {n k : Nat} : ((((n : Nat) : Int)) != (no_index (@OfNat.ofNat Int k _))) = (n != @OfNat.ofNat Nat k _) := by
  show (!((n : Int) == (k : Int))) = !(n == k)
  rw [show ((n : Int) == (k : Int)) = (n == k) from ceq]
end PU

set_option Elab.async false
set_option linter.all false
set_option maxRecDepth 100000
/-! UShow: when a written word is the text of a value. -/
namespace PU
open PySem PySem.Spec PyProof.Rows L2
open Builtin.Str

theorem fold_rep (q : Nat) : ∀ (l : List Nat) (out : Array Nat), (l.foldl (fun out c => out ++ (reprChar q c).toArray) out).toList = out.toList ++ l.flatMap (reprChar q)
  | [], out => by simp
  | c :: l, out => by
    rw [List.foldl_cons, fold_rep q l]
    simp [List.append_assoc]
theorem reprText_list (z : Str) : (reprText z).cps.toList = reprQuote z :: (z.cps.toList.flatMap (reprChar (reprQuote z)) ++ [reprQuote z]) := by
  unfold reprText
  rw [← Array.foldl_toList, Array.toList_push, fold_rep]
  rfl
theorem reprChar_one (q c : Nat) : reprChar q c = [c] ∨ ∃ r, reprChar q c = 92 :: r := by
  unfold reprChar
  dsimp only
  repeat' split
  all_goals first | exact .inl rfl | exact .inr ⟨_, rfl⟩
theorem flat_word {q : Nat} : ∀ (l w : List Nat), (∀ c ∈ w, 97 ≤ c ∧ c ≤ 122) → l.flatMap (reprChar q) = w → l = w
  | [], w, _, e => by simpa using e
  | c :: l, w, hw, e => by
    rw [List.flatMap_cons] at e
    rcases reprChar_one q c with h | ⟨r, h⟩
    · rw [h] at e
      cases w with
      | nil => cases e
      | cons d w =>
        have e2 := List.cons.inj e
        rw [e2.1, flat_word l w (fun c hc => hw c (List.mem_cons_of_mem _ hc)) e2.2]
    · rw [h] at e
      have := hw 92 (by rw [← e]; simp)
      omega
theorem textFrom_head : ∀ (ts : List Str) (k : Nat) (acc : Str), ∃ r, (textFrom k acc ts).cps.toList = acc.cps.toList ++ r
  | [], k, acc => ⟨[], by unfold textFrom; simp⟩
  | t :: ts, k, acc => by
    unfold textFrom
    obtain ⟨r, e⟩ := textFrom_head ts (k + 1) (acc ++ Str.ofString (if k > 0 then ", " else "") ++ t)
    refine ⟨((Str.ofString (if k > 0 then ", " else "")).cps.toList ++ t.cps.toList) ++ r, ?_⟩
    have h1 : ∀ a b : Str, (a ++ b).cps.toList = a.cps.toList ++ b.cps.toList := fun a b => Array.toList_append ..
    rw [e, h1, h1, List.append_assoc, List.append_assoc, List.append_assoc]
/-- the text of a value is a word in quotes: the value is that word -/
theorem rep_word {x : U} (ok : okR x) {w : List Nat} (hw : ∀ c ∈ w, 97 ≤ c ∧ c ≤ 122) (h : (rep x).cps.toList = 39 :: (w ++ [39])) : x = .str ⟨w.toArray⟩ := by
  cases x with
  | non =>
    have e : (rep .non).cps.toList = [78, 111, 110, 101] := by decide +kernel
    rw [e] at h; cases h
  | bl b =>
    cases b
    · have e : (rep (.bl false)).cps.toList = [70, 97, 108, 115, 101] := by decide +kernel
      rw [e] at h; cases h
    · have e : (rep (.bl true)).cps.toList = [84, 114, 117, 101] := by decide +kernel
      rw [e] at h; cases h
  | int i =>
    have e : rep (.int i) = ((toString i : String) : Str) := by simp only [rep,toD,PyData.shown]
    rw [e] at h
    have := int_text_free' 39 ⟨by decide, by decide⟩ i
    rw [h] at this
    exact absurd (by simp) this
  | str z =>
    have e : rep (.str z) = reprText z := by simp only [rep,toD,PyData.shown]
    rw [e, reprText_list] at h
    obtain ⟨h1, h2⟩ := List.cons.inj h
    rw [h1] at h2
    have h3 := flat_word _ _ hw (List.append_cancel_right h2)
    rw [← h3]
  | ref a => exact absurd ok.1 (by simp [isD])
  | ty n => exact absurd ok.1 (by simp [isD])
  | lst xs =>
    obtain ⟨ds, e, _⟩ := toDs_some xs (by simpa [isD] using ok.1)
    have e : rep (.lst xs) = textFrom 0 "[" (PyData.shownAll ds) ++ "]" := by simp only [rep,toD,e,Option.map,PyData.shown,listText]
    obtain ⟨r, e2⟩ := textFrom_head (PyData.shownAll ds) 0 "["
    rw [e] at h
    have h1 : (textFrom 0 "[" (PyData.shownAll ds) ++ ("]" : Str)).cps.toList = (textFrom 0 "[" (PyData.shownAll ds)).cps.toList ++ ("]" : Str).cps.toList := Array.toList_append ..
    rw [h1, e2] at h
    have h2 : ("[" : Str).cps.toList = [91] := by decide +kernel
    rw [h2] at h
    cases h
  | tup xs =>
    obtain ⟨ds, e, _⟩ := toDs_some xs (by simpa [isD] using ok.1)
    have e : rep (.tup xs) = tupleText (PyData.shownAll ds) := by simp only [rep,toD,e,Option.map,PyData.shown]
    rw [e] at h
    unfold tupleText at h
    have h1 : ∀ a b : Str, (a ++ b).cps.toList = a.cps.toList ++ b.cps.toList := fun a b => Array.toList_append ..
    rw [h1, h1] at h
    have h2 : ("(" : Str).cps.toList = [40] := by decide +kernel
    rw [h2] at h
    cases h
end PU

set_option Elab.async false
set_option linter.all false
set_option maxRecDepth 100000
/-! USet: sorted(set(texts)). -/
namespace PU
open PySem PySem.Spec PyProof.Rows L2

/-- the text of an entry -/
def txtOf (e : Int × Value) : Str := match e.2 with
  | .str z _ => z
  | _ => Str.empty
def EntS (w : World) (e : Int × Value) : Prop := ∃ z tk, e = (hashStr w z, Value.str z tk)
/-- a table that holds the texts zs, in some order, and can be walked -/
structure TabS (w : World) (es : Array (Int × Value)) (t : SetTable) (zs : List Str) : Prop where
  ent : ∀ e ∈ es.toList, EntS w e
  mem : (es.toList.map txtOf).Perm zs
  nd : zs.Nodup
  few : es.size < scanBound
  fit : t.fits es.size = true
  ris : Ris t.place.toList
  led : w.params.followText "set-order" = true ∨ t.led = true
def SetS (w : World) (h : Heap) (a : Addr) (zs : List Str) : Prop := ∃ o es ep t, h.get? a = some o ∧ o.ExactSet ∧ o.data = .set es ep t ∧ TabS w es t zs
section
variable {P : Program} {w : World} {A : Around} {E : Value → Shared → Prop} {s : Shared} {a : Addr} {zs : List Str}
theorem TabS.size {es : Array (Int × Value)} {t : SetTable} (T : TabS w es t zs) : es.size = zs.length := by
  have := T.mem.length_eq
  simpa using this
theorem EntS.is {e : Int × Value} (x : EntS w e) (z : Str) : (strKind P w).is z e.2 = true ↔ txtOf e = z := by
  obtain ⟨y, tk, rfl⟩ := x
  show ((y == z) = true) ↔ y = z
  exact beq_iff_eq
theorem TabS.elems {es : Array (Int × Value)} {t : SetTable} (T : TabS w es t zs) : ElemsOf (strKind P w) es.toList := fun e he => by
  obtain ⟨z, tk, rfl⟩ := T.ent e he
  exact ⟨⟨z, by show (z == z) = true; simp, rfl⟩, rfl⟩
/-- the rows are laid, and laid anew where the table is too full -/
theorem setS_lay {g : Bool → Sem Unit} (hg : ∀ (b : Bool) (s₁ : Shared) (Q' : Unit → Shared → Prop), Q' () s₁ → wpAny (model P w) A (g b) Q' E s₁) {o : Obj} {es : Array (Int × Value)} {ep : Nat} {t : SetTable} (ho : s.heap.get? a = some o) (hex : o.ExactSet)
    (hd : o.data = .set es ep t) {es1 : Array (Int × Value)} {t2 : SetTable} (T : TabS w es1 t2 zs) {wasDummy : Bool} {R : Option Bool → Shared → Prop} (hR : ∀ h', Heap.SameBut a s.heap h' → SetS w h' a zs → R (some true) { s with heap := h' }) :
    wpAny (model P w) A (do
        storeSet a es1 t2
        if (!wasDummy && t2.tooFull) = true then do
            g (relayAll t2 es1 (SetTable.grown es1.size)).2.2
            storeSet a (relayAll t2 es1 (SetTable.grown es1.size)).1 (relayAll t2 es1 (SetTable.grown es1.size)).2.1
            pure (some true)
          else pure (some true)) R E s := by
  have ho1 := store_at (es' := es1) (t' := t2) ho hd
  have same := Heap.SameBut.update s.heap a (Obj.putSet es1 t2)
  refine wpAny_bind (wpAny_storeSet_of ho hd ?_ (fits_of_scanBound T.few))
  split
  · have p1 := relayAll_perm t2 es1 (SetTable.grown es1.size)
    have p2 := relayAll_fits t2 es1 (SetTable.grown es1.size)
    have p3 := relayAll_ris t2 es1 (SetTable.grown es1.size)
    have p4 := relayAll_led t2 es1 (SetTable.grown es1.size)
    generalize relayAll t2 es1 (SetTable.grown es1.size) = Z at p1 p2 p3 p4 ⊢
    obtain ⟨es2, t3, gave⟩ := Z
    dsimp only at p1 p2 p3 p4 ⊢
    have z2 : es2.size = es1.size := by have := p1.length_eq; simpa using this
    have few2 : es2.size < scanBound := z2 ▸ T.few
    exact wpAny_bind (hg _ _ _ (wpAny_bind (wpAny_storeSet_of ho1 rfl (wpAny_pure (hR _ (same.trans (Heap.SameBut.update _ a _))
      ⟨_, es2, _, t3, store_at (es' := es2) (t' := t3) ho1 rfl, hex, rfl, ⟨fun e he => T.ent e (p1.mem_iff.mp he), (p1.map txtOf).trans T.mem, T.nd, few2, p2, p3, T.led.imp id fun z => by rw [p4]; exact z⟩⟩)) (fits_of_scanBound few2))))
  · exact wpAny_pure (hR _ same ⟨_, es1, _, t2, ho1, hex, rfl, T⟩)
/-- one text more -/
theorem setS_add {z : Str} {tk : Tok} {Q : Bool → Shared → Prop} (R : SetS w s.heap a zs) (room : zs.length + 1 < scanBound) (hQ : ∀ h' b zs', Heap.SameBut a s.heap h' → SetS w h' a zs' → (∀ y, y ∈ zs' ↔ y = z ∨ y ∈ zs) → zs'.length ≤ zs.length + 1 → Q b { s with heap := h' }) :
    wpAny (model P w) A (setAddHashed a (.str z tk) (hashStr w z)) Q E s := by
  obtain ⟨o, es, ep, t, ho, hex, hd, T⟩ := R
  have key : (strKind P w).is z (.str z tk) = true := by show (z == z) = true; simp
  have el := T.elems (P := P)
  show wpAny _ _ (setAddHashed a (.str z tk) ((strKind P w).hash z)) _ _ _
  unfold setAddHashed setAddHashedIn
  refine wpAny_holding (wpAny_bind (wpAny_setState_of ho hd T.fit ?_))
  dsimp only
  rw [byScan_of rfl T.few el]
  simp only [↓reduceIte]
  unfold setAddByScan
  refine wpAny_bind (wpAny_bind (wpAny_rule (wpAny_bind (wpAny_setScan_of key ho hd T.fit el ?_))))
  cases hit : List.findIdx? (fun e => (strKind P w).is z e.2) es.toList with
  | some j =>
    obtain ⟨hj, pj, _⟩ := List.findIdx?_eq_some_iff_getElem.mp hit
    have hz : z ∈ zs := T.mem.mem_iff.mp (List.mem_map.mpr ⟨es.toList[j], List.getElem_mem hj, ((T.ent _ (List.getElem_mem hj)).is (P := P) z).mp pj⟩)
    exact wpAny_pure (wpAny_pure (hQ s.heap _ zs (Heap.SameBut.refl a s.heap) ⟨o, es, ep, t, ho, hex, hd, T⟩ (fun y => ⟨.inr, fun h => h.elim (fun e => e ▸ hz) id⟩) (Nat.le_succ _)))
  | none =>
    have hz : z ∉ zs := fun h => by
      obtain ⟨e, he, q⟩ := List.mem_map.mp (T.mem.mem_iff.mpr h)
      have c := List.findIdx?_eq_none_iff.mp hit e he
      rw [((T.ent e he).is (P := P) z).mpr q] at c
      cases c
    have gw : ∀ (b : Bool) {s₁ : Shared} {Q' : Unit → Shared → Prop}, Q' () s₁ → wpAny (model P w) A (match b with | true => rule "set.scan.the-table-gave-way" | false => pure ()) Q' E s₁ := fun b s₁ Q' q => by cases b <;> first | exact wpAny_pure q | exact wpAny_rule q
    have p1 := layNew_perm t es ((strKind P w).hash z) (.str z tk)
    have p2 := layNew_fits t es ((strKind P w).hash z) (.str z tk)
    have p3 := layNew_ris t es ((strKind P w).hash z) (.str z tk) T.ris
    have p4 := layNew_led t es ((strKind P w).hash z) (.str z tk)
    dsimp only
    generalize layNew t es ((strKind P w).hash z) (.str z tk) = Z at p1 p2 p3 p4 ⊢
    obtain ⟨es1, t1, wasDummy, gave⟩ := Z
    dsimp only at p1 p2 p3 p4 ⊢
    rw [Array.toList_push] at p1
    have p5 : es1.toList.Perm (((strKind P w).hash z, Value.str z tk) :: es.toList) := p1.trans (List.perm_append_singleton _ _)
    have T1 : ∀ t' : SetTable, t'.fits es1.size = true → Ris t'.place.toList → t'.led = t1.led → TabS w es1 t' (z :: zs) := fun t' q1 q2 q3 => by
      refine ⟨fun e he => ?_, (p5.map txtOf).trans (List.Perm.cons z T.mem), List.nodup_cons.mpr ⟨hz, T.nd⟩, ?_, q1, q2, T.led.imp id fun h => by rw [q3, p4]; exact h⟩
      · rcases List.mem_cons.mp (p5.mem_iff.mp he) with h | h
        · exact ⟨z, tk, h⟩
        · exact T.ent e h
      · have : es1.size = es.size + 1 := by have := p5.length_eq; simpa using this
        rw [this, T.size]; exact room
    have fin : ∀ h', Heap.SameBut a s.heap h' → SetS w h' a (z :: zs) → ∀ b, Q b { s with heap := h' } := fun h' sb r b => hQ h' b _ sb r (fun y => List.mem_cons) (Nat.le_refl _)
    refine wpAny_bind (gw _ ?_)
    split
    · rw [hashByValue_scannable 8 (by rfl : (Value.str z tk).scannable = true)]
      refine wpAny_bind (wpAny_pure ?_)
      refine setS_lay (zs := z :: zs) ?_ ho hex hd ?_ ?_
      · intro b s₁ Q' q; cases b <;> first | exact wpAny_pure q | exact wpAny_rule q
      · split
        · exact T1 _ p2 p3 rfl
        · exact T1 _ (SetTable.fits_plain_off p2) p3 rfl
      · intro h' sb r; exact wpAny_pure (fin h' sb r _)
    · refine wpAny_bind (wpAny_pure ?_)
      simp only [↓reduceIte]
      refine setS_lay (zs := z :: zs) ?_ ho hex hd (T1 _ p2 p3 rfl) ?_
      · intro b s₁ Q' q; cases b <;> first | exact wpAny_pure q | exact wpAny_rule q
      · intro h' sb r; exact wpAny_pure (fin h' sb r _)
/-- set.update's loop over texts -/
theorem setS_loop {I : Addr} {fp wr : List Addr} {G : Array GenState → Array GenState → Prop} {n : Nat} {Pv : Nat → Value → Prop} {St : Nat → Shared → Prop} {R : Result → Shared → Prop} (W : WalksS P w A.in1 I fp wr G n Pv St) (S : Addr) (out : S ∉ fp) (xs : List Str)
    (val : ∀ i v, Pv i v → ∃ z tk, xs[i]? = some z ∧ v = .str z tk) (few : n + 1 < scanBound) :
    ∀ (k i : Nat) (s : Shared), n - i = k → i ≤ n → St i s → (∃ zs, SetS w s.heap S zs ∧ (∀ y, y ∈ zs ↔ y ∈ xs.take i) ∧ zs.length ≤ i) →
      (∀ s' zs, Moved (S :: wr) G s s' → SetS w s'.heap S zs → (∀ y, y ∈ zs ↔ y ∈ xs.take n) → zs.length ≤ n → R (.ok (.ret .none)) s') → codeAny (model P w) A (.builtin "set.update.loop" ⟨[.ref S, .ref I], []⟩) R s := by
  have off : S ∉ wr := fun h => out (W.sub _ h)
  have more : ∀ b ∈ wr, b ∈ S :: wr := fun b h => List.mem_cons_of_mem _ h
  have stays : ∀ {s s' : Shared} {zs : List Str}, Moved wr G s s' → SetS w s.heap S zs → SetS w s'.heap S zs := fun hm ⟨o, es, ep, t, ho, r⟩ => ⟨o, es, ep, t, hm.heap S _ off ho, r⟩
  intro k
  induction k with
  | zero =>
    intro i s hk hi st ⟨zs, hS, hz, hl⟩ hR
    obtain rfl : i = n := by omega
    refine codeAny_builtin F.entry_set_update_loop ?_
    rw [Around.under_plainId F.plain_set_update_loop _]
    show wpAny _ A.in1 (pyNext (.ref I) >>= _) _ _ s
    exact wpAny_bind (W.done s _ _ st fun s' hm => wpAny_pure (hR s' zs (hm.mono more) (stays hm hS) hz hl))
  | succ k ih =>
    intro i s hk hi st ⟨zs, hS, hz, hl⟩ hR
    have lt : i < n := by omega
    refine codeAny_builtin F.entry_set_update_loop ?_
    rw [Around.under_plainId F.plain_set_update_loop _]
    show wpAny _ A.in1 (pyNext (.ref I) >>= _) _ _ s
    refine wpAny_bind (W.item i s _ _ lt st fun v s' hP st' hm => ?_)
    obtain ⟨z, tk, hx, rfl⟩ := val i v hP
    show wpAny _ A.in1 (holding [Value.str z tk] (setAdd S (.str z tk)) >>= _) _ _ s'
    refine wpAny_bind (wpAny_holding ?_)
    unfold setAdd
    refine wpAny_holding (wpAny_bind ((strKind P w).pyHash (k := z) (by show (z == z) = true; simp) ?_))
    have hS1 : SetS w s'.heap S zs := stays hm hS
    refine setS_add (s := { s' with toks := s'.toks + 1 }) hS1 (by omega) fun h' b zs' same hS2 hz2 hl2 => ?_
    have at2 : ∀ y, y ∈ zs' ↔ y ∈ xs.take (i + 1) := fun y => by
      rw [hz2, hz, take_next hx, List.mem_append, List.mem_singleton]
      exact Or.comm
    have keep : ∀ b ≠ S, ∀ o, s'.heap.get? b = some o → h'.get? b = some o := fun b hb o e => (same.2 b hb).trans e
    refine wpAny_pure ⟨plainId_quiet F.plain_set_update_loop _, ih (i + 1) _ (by omega) lt (W.frame _ s' _ _ st' (Nat.le_succ _) fun b hb o e => keep b (fun h => out (h ▸ hb)) o e) ⟨zs', hS2, at2, by omega⟩ fun s2 zs2 hm2 r1 r2 r3 => ?_⟩
    exact hR s2 zs2 (Moved.trans W.gtrans ((hm.mono more).then_heap (Nat.le_succ _) fun b o hb e => keep b (fun h => hb (by rw [h]; exact List.mem_cons_self)) o e) hm2) r1 r2 r3
theorem setS_fresh {h : Heap} (ho : h.get? a = some { cls := .type "set", dict := none, data := .set #[] 0 (.fresh 0 0 (!w.params.followText "set-order")) }) : SetS w h a [] := by
  refine ⟨_, #[], 0, _, ho, ⟨rfl, rfl, rfl⟩, rfl, ⟨fun e he => (by cases he), List.Perm.refl _, List.nodup_nil, by show 0 < scanBound; unfold scanBound; omega, rfl, List.Pairwise.nil, ?_⟩⟩
  show _ ∨ (!w.params.followText "set-order") = true
  cases w.params.followText "set-order" <;> simp
abbrev set0 (w : World) : Obj := { cls := .type "set", dict := none, data := .set #[] 0 (.fresh 0 0 (!w.params.followText "set-order")) }
set_option maxRecDepth 100000 in
set_option maxHeartbeats 3200000 in
/-- set(a list of texts) -/
theorem setS_call {l : Addr} {its : Array Value} {xs : List Str} {Q : Value → Shared → Prop} (hh : A.handled = none) (hl : s.heap.IsList l its) (hx : StrsAre its.toList xs) (few : its.size + 1 < scanBound)
    (h : ∀ (h' : Heap) (tk : Nat) (zs : List Str), SetS w h' s.heap.objs.size zs → (∀ y, y ∈ zs ↔ y ∈ xs) → zs.length ≤ xs.length → (∀ b o, s.heap.get? b = some o → h'.get? b = some o) → Q (.ref s.heap.objs.size) { s with heap := h', toks := tk }) :
    wpAny (model P w) A (call (.type "set") [.ref l]) Q E s := by
  have len : its.size = xs.length := by have := hx.length; simpa using this
  obtain ⟨c, tl, e_mro⟩ := F.called_set.mro
  have e_made := F.called_set.made
  have e_sub := F.called_set.sub
  refine wpAny_call (codeAny_of_tree (show wpAny _ _ (callAny (.type "set") _) _ _ _ from wpAny_pure ⟨Code.quiet_builtin _ (by decide +kernel), codeAny_builtin F.entry_type_call ?_⟩))
  rw [Around.under_plain (weight_type_call_type "set" [.ref l] []) rfl]
  have e1 := F.called_set.notType
  have e2 := F.called_set.canCreate
  have e3 := F.typeCall_set_1 (.ref l)
  repeat (any_goals (first | assumption | wp_step))
  refine codeAny_mono (code_set_led1 (.ref l) (E := E) (Q₁ := fun obj s₁ => obj = .ref s.heap.objs.size ∧ s₁ = { s with heap := s.heap.push (set0 w) }) ⟨rfl, rfl⟩) fun r s₁ hr => ?_
  match r, hr with
  | .error e, hr => exact hr
  | .ok .next, hr => exact hr.elim
  | .ok .brk, hr => exact hr.elim
  | .ok .cont, hr => exact hr.elim
  | .ok (.ret obj), hr =>
    obtain ⟨rfl, rfl⟩ := hr
    have at0 : (s.heap.push (set0 w)).get? s.heap.objs.size = some (set0 w) := Heap.get?_push_size _ rfl
    have ty0 : Shared.TypeIs { s with heap := s.heap.push (set0 w) } (.ref s.heap.objs.size) "set" := ⟨_, at0, rfl⟩
    have e4 := F.called_set.init.lookup
    have e5 := F.called_set.init.bind (.ref s.heap.objs.size)
    repeat (any_goals (first | assumption | wp_step))
    refine codeAny_mono (codeAny_call_builtin (R := wants (fun r s₂ => r = .none ∧ ∃ h' tk zs, s₂ = { s with heap := h', toks := tk } ∧ SetS w h' s.heap.objs.size zs ∧ (∀ y, y ∈ zs ↔ y ∈ xs) ∧ zs.length ≤ xs.length ∧ (∀ b o, s.heap.get? b = some o → h'.get? b = some o)) E)
      F.called_set.init.plain F.entry_set_init (check_set_init_1 ty0 ?_)) fun r₂ s₂ hr₂ => ?_
    · obtain ⟨ol, hol, hcl, nl, hdl⟩ := hl
      obtain ⟨ocls, odict, odata, oslots⟩ := ol
      simp only at hcl hdl
      subst hcl; subst hdl
      have hol' : (s.heap.push (set0 w)).get? l = some { cls := .type "list", dict := odict, data := .seq its nl, slots := oslots } := Heap.get?_push_of_some _ hol
      have e6 := F.sub_list_set
      have e7 := F.sub_list_frozenset
      have e8 : (Value.type "list" == Value.type "dict") = false := by decide
      have hl1 : (s.heap.push (set0 w)).IsList l its := ⟨_, hol', rfl, nl, rfl⟩
      unfold Builtin.«set.__init__» noKeywords Builtin.Frozenset.updateFrom
      generalize hPI : pyIter = PI
      wp_walk
      subst hPI
      refine wpAny_pyIter_list hl1 (wpAny_bind (wpAny_runValue ?_))
      have lt : l < s.heap.objs.size := Heap.lt_size hol
      have hh3 : A.in1.in1.in1.handled = none := by simp [hh]
      have sz : (s.heap.push (set0 w)).objs.size = s.heap.objs.size + 1 := Heap.size_push ..
      have ne : l ≠ (s.heap.push (set0 w)).objs.size := by rw [sz]; exact Nat.ne_of_lt (Nat.lt_succ_of_lt lt)
      have out : s.heap.objs.size ∉ [(s.heap.push (set0 w)).objs.size, l] := by
        rw [sz]; simp only [List.mem_cons,List.not_mem_nil,or_false,not_or]; exact ⟨Nat.ne_of_lt (Nat.lt_succ_self _), Nat.ne_of_gt lt⟩
      have val : ∀ (i : Nat) (v : Value), its[i]? = some v → ∃ z tk, xs[i]? = some z ∧ v = .str z tk := fun i v hv => by
        obtain ⟨y, t, e, q⟩ := hx.item i v (by rw [Array.getElem?_toList]; exact hv)
        exact ⟨y, t, q, e⟩
      refine setS_loop ((Walks.list hh3 _ l ne its).toS) s.heap.objs.size out xs val few (its.size - 0) 0 _ (by omega) (Nat.zero_le _) ⟨⟨_, Heap.get?_push_size _ rfl, rfl, rfl⟩, (hl1.push _)⟩ ⟨[], setS_fresh (Heap.get?_push_of_some _ at0), fun y => by simp, Nat.le_refl _⟩ ?_
      intro s' zs hm hS hz hlen
      obtain ⟨h', g2, d', tk', os'⟩ := s'
      obtain rfl : g2 = s.gens := hm.gens
      obtain rfl : d' = s.drawn := hm.drawn
      obtain rfl : os' = s.os := hm.os
      show wpAny _ _ _ _ _ _
      refine wpAny_pure (show wpAny _ _ (ret Value.none) _ _ _ from wpAny_pure ⟨rfl, h', tk', zs, rfl, hS, fun y => by rw [hz, len, List.take_length], by omega, fun b o e => ?_⟩)
      have lb := Heap.lt_size e
      exact hm.heap b o (by rw [sz]; simp only [List.mem_cons,List.not_mem_nil,or_false,not_or]; exact ⟨Nat.ne_of_lt lb, Nat.ne_of_lt (Nat.lt_succ_of_lt lb)⟩) (Heap.get?_push_of_some _ (Heap.get?_push_of_some _ e))
    · match r₂, hr₂ with
      | .error e, hr₂ => exact hr₂
      | .ok .next, hr₂ => exact hr₂.elim
      | .ok .brk, hr₂ => exact hr₂.elim
      | .ok .cont, hr₂ => exact hr₂.elim
      | .ok (.ret r), hr₂ =>
        obtain ⟨rfl, h', tk, zs, rfl, hS, hz, hlen, hk⟩ := hr₂
        repeat (any_goals (first | assumption | wp_step))
        exact h _ _ _ hS hz hlen hk
theorem strs_of_list : ∀ (l : List Value), (∀ v ∈ l, ∃ z tk, v = Value.str z tk) → StrsAre l (l.map fun v => txtOf (0, v))
  | [], _ => .nil
  | v :: l, h => by
    obtain ⟨z, tk, rfl⟩ := h v List.mem_cons_self
    exact .cons z tk (strs_of_list l fun u hu => h u (List.mem_cons_of_mem _ hu))
/-- sorted(a set of texts) -/
theorem setS_sorted {Q : Value → Shared → Prop} (R : SetS w s.heap a zs) (hh : A.handled = none) (h64 : zs.length < 64)
    (hQ : ∀ s' p (out : Array Value) (c : Nat) (ys : List Str), (∀ b o, s.heap.get? b = some o → s'.heap.get? b = some o) → s'.gens = s.gens → s'.os = s.os → s.heap.objs.size ≤ p → s'.heap.get? p = some (seqObj "list" out c) → StrsAre out.toList ys → ys.Perm zs → sortedS ys = true → Q (.ref p) s') :
    wpAny (model P w) A (call (.builtin "sorted") [.ref a]) Q E s := by
  obtain ⟨o, es, ep, t, ho, hex, hd, T⟩ := R
  refine Calls.call_function_entry kind_sorted plain_sorted entry_sorted (args_sorted1 _) ?_
  unfold Builtin.«sorted»
  refine wpAny_bind (m := checkCount "sorted" 1 1 _) (wpAny_pure (wpAny_bind (collect_set (A := A.in1) hh ⟨o, ho, hex.1, hd⟩ T.fit T.few T.ris T.led fun s1 vs k1 hz g1 o1 pm => ?_)))
  have hvl : vs.length = zs.length := by rw [pm.length_eq, List.length_map, Array.length_toList]; exact T.size
  have hS : StrsAre vs (vs.map fun v => txtOf (0, v)) := strs_of_list vs fun v hv => by
    obtain ⟨e, he, q⟩ := List.mem_map.mp (pm.mem_iff.mp hv)
    obtain ⟨z, tk, rfl⟩ := T.ent e he
    exact ⟨z, tk, q.symm⟩
  have pk : (vs.map fun v => txtOf (0, v)).Perm zs := by
    have q := pm.map fun v => txtOf (0, v)
    rw [List.map_map] at q
    exact q.trans T.mem
  refine wpAny_bind (wpAny_newList ?_ (by rw [hvl, sizeLine_eq]; omega))
  have hoL : (s1.heap.push (seqObj "list" vs.toArray 0)).get? s1.heap.objs.size = some (seqObj "list" vs.toArray 0) := Heap.get?_push_size _ rfl
  refine wpAny_bind (wpAny_holding (wpAny_call_entry slot_list_sort ⟨_, hoL, rfl⟩ entry_list_sort (list_sort_treeK strKind_oneLt hoL hS.keysOf (fun v₁ v₂ rest e => keyKind_strs (by rw [← e]; exact hS)) (by rw [hvl]; exact h64) fun st' hp hs => ?_) (args_list_sort _)))
  obtain ⟨ys, b1, b2, b3⟩ := sorted_out_str hS hp hs
  obtain ⟨c, hc⟩ := sortedHeap_at (vs := vs) (out := (arrOf st').map (·.2)) hoL
  refine ⟨_, rfl, wpAny_pure ⟨_, rfl, hQ _ s1.heap.objs.size _ c ys (fun b u e => ?_) g1 o1 hz hc b1 (b2.trans pk) b3⟩⟩
  have q := k1 b u e
  have lt := Heap.lt_size q
  show (sortedHeap (s1.heap.push (seqObj "list" vs.toArray 0)) s1.heap.objs.size vs _).get? b = some u
  rw [sortedHeap_old (Nat.ne_of_lt lt) (by rw [size_push']; exact Nat.lt_succ_of_lt lt)]
  exact Heap.get?_push_of_some _ q
end

/-! ### over the layer -/
def SetSO (w : World) (a : Addr) (zs : List Str) : HO := .ext fun h => SetS w h a zs
section
variable {X : Cx}
theorem setSO_ok {w : World} {P : Program} {H : Hp} {h : Heap} {a : Addr} {zs : List Str} (R : SetS w h a zs) : ObjOk P w H h a (SetSO w a zs) := by
  have ⟨o, _, _, _, ho, _⟩ := R
  exact ⟨R, ⟨o, ho⟩, fun h1 h2 ⟨o, es, ep, t, ho, r⟩ k => ⟨o, es, ep, t, k o ho, r⟩⟩
def rSetTx (K : PySem.W.Frag) (w : World) : List V → Hp → VK → Prop := fun xs H Q => ∃ (l : Addr) (zs : List Str), xs = [V.ref l] ∧ SqL K H l (zs.map V.str) ∧ zs.length < 64 ∧
  ∀ (p : Addr) (ys : List Str), H p = none → (∀ y, y ∈ ys ↔ y ∈ zs) → ys.length ≤ zs.length → Q (.ref p) (upd H p (SetSO w p ys))
theorem cr_setTx (hc : X.calm = true) : CallR X (.type "set") (rSetTx X.K X.w) := by
  intro pins s σ H xs us Q I r h
  obtain ⟨l, zs, rfl, hs, h64, q⟩ := h
  obtain ⟨its, rv, hl, _⟩ := I.list hs
  rw [Vals.ref1 r]
  have hx := rv.strs
  have len : its.length = zs.length := by have := rv.length; simpa using this.symm
  refine setS_call (I.ok.hd hc) hl.isList (by simpa using hx) (by rw [List.size_toArray, len]; unfold scanBound; omega) fun h' tk ys R hy hlen keep => ?_
  have J : Inv X pins σ (upd H s.heap.objs.size (SetSO X.w s.heap.objs.size ys)) { s with heap := h', toks := tk } := I.laid keep (Nat.le_refl _) (setSO_ok R)
  exact ⟨.ref _, _, J, rfl, q _ ys (I.hok.fresh (Nat.le_refl _)) hy hlen⟩
def rSortedTx (w : World) : List V → Hp → VK → Prop := fun vs H Q => ∃ (a : Addr) (zs : List Str), vs = [V.ref a] ∧ H a = some (SetSO w a zs) ∧ zs.length < 64 ∧
  ∀ (ys : List Str) (p : Addr), ys.Perm zs → ys.Nodup → sortedS ys = true → H p = none → Q (.ref p) (upd H p (.lst (ys.map V.str)))
theorem cr_sortedTx (hc : X.calm = true) : CallR X (.builtin "sorted") (rSortedTx X.w) := by
  intro pins s σ H vs us Q I r h
  obtain ⟨a, zs, rfl, ha, h64, q⟩ := h
  have R : SetS X.w s.heap a zs := (I.hok a _ ha).1
  have nd : zs.Nodup := let ⟨_, _, _, _, _, _, _, T⟩ := R; T.nd
  rw [Vals.ref1 r]
  refine setS_sorted R (I.ok.hd hc) h64 fun s' p out c ys k g o hp hg hi pm hs => ?_
  have hn : H p = none := I.hok.fresh hp
  have len : (ys.map V.str).length ≤ sizeLine := by rw [List.length_map, pm.length_eq]; exact small64 h64
  have J : Inv X pins σ (upd H p (.lst (ys.map V.str))) { s with heap := s'.heap, gens := s'.gens, drawn := s'.drawn, toks := s'.toks } :=
    I.call (ch := []) (Un.laid k hp hn) (I.hok.laid k hp ⟨len, out.toList, c, vals_of_strs hi, hg⟩) (by rw [g]; exact I.bare) (fun _ z => nomatch z)
  obtain ⟨h', g', d', t', o'⟩ := s'
  obtain rfl : o' = s.os := o
  exact ⟨.ref p, _, J, rfl, q ys p pm (pm.nodup_iff.mpr nd) hs hn⟩
end

/-! ### the order of texts -/
abbrev slt (x y : Str) : Prop := x.cps.toList < y.cps.toList
theorem str_ext {x y : Str} (h : x.cps.toList = y.cps.toList) : x = y := by
  cases x; cases y
  simp only [Str.mk.injEq]
  exact Array.toList_inj.mp h
theorem slt_irrefl (x : Str) : ¬ slt x x := List.lt_irrefl _
theorem slt_trans {x y z : Str} (a : slt x y) (b : slt y z) : slt x z := List.lt_trans a b
theorem slt_of {x y : Str} (h : ¬ slt y x) (ne : x ≠ y) : slt x y := by
  rcases Classical.em (slt x y) with h1 | h1
  · exact h1
  · exact absurd (str_ext (List.le_antisymm (List.not_lt.mp h) (List.not_lt.mp h1))) ne
theorem rising_slt : ∀ (ys : List Str) (x : Str), risingS x ys = true → (x :: ys).Nodup → (x :: ys).Pairwise slt
  | [], x, _, _ => List.pairwise_singleton _ _
  | y :: ys, x, h, nd => by
    simp only [risingS,Bool.and_eq_true,Bool.not_eq_true',ltCps_eq,decide_eq_false_iff_not] at h
    obtain ⟨n1, n2⟩ := List.nodup_cons.mp nd
    have ih := rising_slt ys y h.2 n2
    have xy : slt x y := slt_of h.1 fun e => n1 (e ▸ List.mem_cons_self)
    refine List.pairwise_cons.mpr ⟨fun z hz => ?_, ih⟩
    rcases List.mem_cons.mp hz with rfl | hz
    · exact xy
    · exact slt_trans xy ((List.pairwise_cons.mp ih).1 z hz)
theorem sorted_slt {ys : List Str} (h : sortedS ys = true) (nd : ys.Nodup) : ys.Pairwise slt := by
  cases ys with
  | nil => exact List.Pairwise.nil
  | cons x ys => exact rising_slt ys x h nd
/-- an ascending list is told by its members -/
theorem asc_unique : ∀ {xs ys : List Str}, xs.Pairwise slt → ys.Pairwise slt → (∀ z, z ∈ xs ↔ z ∈ ys) → xs = ys
  | [], [], _, _, _ => rfl
  | [], y :: ys, _, _, h => by have := (h y).mpr List.mem_cons_self; cases this
  | x :: xs, [], _, _, h => by have := (h x).mp List.mem_cons_self; cases this
  | x :: xs, y :: ys, hx, hy, h => by
    obtain ⟨a1, a2⟩ := List.pairwise_cons.mp hx
    obtain ⟨b1, b2⟩ := List.pairwise_cons.mp hy
    have e : x = y := by
      rcases List.mem_cons.mp ((h x).mp List.mem_cons_self) with e | e
      · exact e
      · rcases List.mem_cons.mp ((h y).mpr List.mem_cons_self) with f | f
        · exact f.symm
        · exact absurd (slt_trans (b1 x e) (a1 y f)) (slt_irrefl y)
    subst e
    rw [asc_unique a2 b2 fun z => ?_]
    constructor
    · intro hz
      rcases List.mem_cons.mp ((h z).mp (List.mem_cons_of_mem _ hz)) with e | e
      · subst e; exact absurd (a1 z hz) (slt_irrefl z)
      · exact e
    · intro hz
      rcases List.mem_cons.mp ((h z).mpr (List.mem_cons_of_mem _ hz)) with e | e
      · subst e; exact absurd (b1 z hz) (slt_irrefl z)
      · exact e
section
variable {X : Cx} {e : Expr} {te : UTE} {p p2 q2 pos : Pos}
/-- sorted(set(e)), e a list of texts -/
def z3t (m : Bool) (te : UTE) (σ : USt) (M : UHp) (Q : UK) : Prop := te σ M fun x M1 => ∃ xs zs, listU M1 x = some xs ∧ strsU xs = some zs ∧ zs.length < 64 ∧ ∀ ys : List Str, ys.Pairwise slt → (∀ y, y ∈ ys ↔ y ∈ zs) → newL m (ys.map .str) M1 Q
theorem rel_strs {K : PySem.W.Frag} {H : Hp} : ∀ (ys : List Str), (∀ y ∈ ys, okS y = true) → RelUs K H (ys.map .str) (ys.map V.str)
  | [], _ => RelUs.nil
  | y :: ys, h => RelUs.cons ⟨rfl, h y List.mem_cons_self⟩ (rel_strs ys fun z hz => h z (List.mem_cons_of_mem _ hz))
theorem ue_sortSet (m : Bool) (hc : X.calm = true) (hg : Gl X "sorted") (hm : X.mg "sorted" = none) (hg2 : Gl X "set") (hm2 : X.mg "set" = none) (he : UE X e te)
    (h1 : starEach [Expr.Call (.Name "set" p2) [e] [] q2] X.env = (false, eval (.Call (.Name "set" p2) [e] [] q2) X.env) :: starEach [] X.env := by rfl) (h2 : (backTo pos (starEach [] X.env)).any (·.1) = false := by rfl)
    (h3 : starEach [e] X.env = (false, eval e X.env) :: starEach [] X.env := by rfl) (h4 : (backTo q2 (starEach [] X.env)).any (·.1) = false := by rfl) :
    UE X (.Call (.Name "sorted" p) [.Call (.Name "set" p2) [e] [] q2] [] pos) (z3t m te) :=
  PE.fz (pe_callB (cr_sortedTx hc) hg hm (by decide +kernel) (pa_cons (pe_callTy (cr_setTx hc) hg2 hm2 (by decide +kernel) (pa_cons he pa_nil (hs := h3)) (he := h3) (hpl := h4)) pa_nil (hs := h1)) (he := h1) (hpl := h2)) fun τ H Q h => by
    obtain ⟨σ, M, Qu, rs, rm, q, up⟩ := h
    refine ⟨σ, M, _, rs, rm, q, fun x M1 v H1 q1 s1 m1 r1 => ?_⟩
    obtain ⟨xs, zs, e1, e2, h64, q1⟩ := q1
    obtain ⟨l, vs, rfl, hl, t⟩ := list_dn m1 r1 e1
    obtain ⟨rfl, ok⟩ := strsU_rel e2 t
    refine ⟨l, zs, rfl, hl, h64, fun p ys hp hy hlen => ?_⟩
    refine ⟨p, ys, rfl, upd_same, by omega, fun ws b pm nd hs hb => ?_⟩
    have sp : Stab H1 (upd H1 p (SetSO X.w p ys)) := Stab.new hp
    have hws : ∀ y, y ∈ ws ↔ y ∈ zs := fun y => pm.mem_iff.trans (hy y)
    have okw : ∀ y ∈ ws, okS y = true := fun y h => ok y ((hws y).mp h)
    exact newL_dn (m1.beside hp) (up.from (s1.trans sp)) (rel_strs ws okw) (q1 ws (sorted_slt hs nd) hws) b hb
end
end PU

set_option Elab.async false
set_option linter.all false
set_option maxRecDepth 100000
/-! URev: x[::-1]; sorted(texts); int(bool); extend. -/
namespace PU
open PySem PySem.Spec PyProof.Rows L2 HT
section
variable {P : Program} {w : World} {A : Around} {E : Value → Shared → Prop} {s : Shared}
theorem adj_rev (n : Nat) : Builtin.Slice.sliceAdjust none none (-1) (n : Int) = ((n : Int) - 1, -1) := rfl
theorem places_rev (n : Nat) : Builtin.Slice.slicePlaces ((n : Int) - 1) (-1) (-1) = n := by
  unfold Builtin.Slice.slicePlaces
  rw [if_neg (by decide)]
  split
  · have : ((n : Int) - 1 - (-1) - 1) / (-(-1)) + 1 = (n : Int) := by
      rw [show (-(-1 : Int)) = 1 from rfl, Int.ediv_one]; omega
    rw [this]; exact Int.toNat_natCast n
  · show (0 : Int).toNat = n
    have : n = 0 := by omega
    rw [this]; rfl
theorem pick_rev (xs : Array Value) : ((List.range xs.size).filterMap fun (m : Nat) => xs[(((xs.size : Nat) : Int) - 1 + (m : Int) * (-1)).toNat]?).toArray = xs.toList.reverse.toArray := by
  congr 1
  have go : ∀ k, k ≤ xs.size → ((List.range k).filterMap fun (m : Nat) => xs[(((xs.size : Nat) : Int) - 1 + (m : Int) * (-1)).toNat]?) = (xs.toList.drop (xs.size - k)).reverse := by
    intro k
    induction k with
    | zero => intro _; rw [Nat.sub_zero, List.drop_eq_nil_of_le (by simp)]; rfl
    | succ k ih =>
      intro h
      have lt : xs.size - (k + 1) < xs.toList.length := by rw [Array.length_toList]; omega
      have e : (((xs.size : Nat) : Int) - 1 + (k : Int) * (-1)).toNat = xs.size - (k + 1) := by omega
      rw [List.range_succ, List.filterMap_append, ih (by omega), List.drop_eq_getElem_cons lt, List.reverse_cons, show xs.size - (k + 1) + 1 = xs.size - k by omega]
      congr 1
      simp only [List.filterMap_cons,List.filterMap_nil]
      rw [e, Array.getElem?_eq_getElem (by rw [Array.length_toList] at lt; exact lt)]
      simp
  have := go xs.size (Nat.le_refl _)
  rw [Nat.sub_self, List.drop_zero] at this
  exact this
theorem apply_rev {sl : Addr} {vs : Value} {n : Nat} {Q : Int × Int × Nat → Shared → Prop} (hs : s.heap.IsSliceOf sl .none .none vs) (ps : IsPart vs (some (-1))) (h : Q ((n : Int) - 1, -1, n) s) : wpAny (model P w) A (Builtin.Slice.sliceApplied (.ref sl) (pure (n : Int))) Q E s := by
  obtain ⟨os, hos, hcs, hds⟩ := id hs
  unfold Builtin.Slice.sliceApplied Builtin.Slice.sliceFields
  refine wpAny_bind (wpAny_bind (wpAny_field hos hds (x := .none) rfl (wpAny_bind (wpAny_field hos hds (x := .none) rfl (wpAny_bind (wpAny_field hos hds (x := vs) rfl (wpAny_pure ?_)))))))
  refine wpAny_bind (slicePart_ ps ?_)
  show wpAny _ _ (if ((-1 : Int) == 0) = true then _ else _) _ _ s
  rw [if_neg (by decide)]
  refine wpAny_bind (slicePart_none (wpAny_bind (slicePart_none (wpAny_bind (wpAny_pure ?_)))))
  show wpAny _ _ (match Builtin.Slice.sliceAdjust none none (-1) (n : Int) with | (lo, hi) => pure (lo, (-1 : Int), Builtin.Slice.slicePlaces lo hi (-1))) _ _ s
  rw [adj_rev]
  show wpAny _ _ (pure ((n : Int) - 1, (-1 : Int), Builtin.Slice.slicePlaces ((n : Int) - 1) (-1) (-1))) _ _ s
  rw [places_rev]
  exact wpAny_pure h
theorem item_rev {t sl : Addr} {its : Array Value} {vs : Value} {Q : Value → Shared → Prop} (ht : IsTup s.heap t its) (hs : s.heap.IsSliceOf sl .none .none vs) (ps : IsPart vs (some (-1))) (hz : its.size ≤ sizeLine)
    (h : Q (.ref s.heap.objs.size) { s with heap := s.heap.push { cls := .type "tuple", data := .seq its.toList.reverse.toArray } }) : wpAny (model P w) A (getItem (.ref t) (.ref sl)) Q E s := by
  have fits : sizeOk (.seq its.toList.reverse.toArray) := by
    show its.toList.reverse.toArray.size ≤ sizeLine
    rw [List.size_toArray, List.length_reverse, Array.length_toList]; exact hz
  obtain ⟨os, hos, hcs, hds⟩ := id hs
  have tys : s.TypeIs (.ref sl) "slice" := ⟨os, hos, hcs⟩
  unfold getItem
  try with_reducible refine wpAny_holding ?_
  first | refine wpAny_bind (wpAny_pure ?_) | skip
  refine wpAny_bind (wpAny_sequenceKey ht.typeIs (by decide) (wpAny_bind (wpAny_callSpecial?_slot (name := Str.ofString "__getitem__") ht.typeIs PyProof.Rows.slot_tuple_getitem (wpAny_call_entry PyProof.Rows.slot_tuple_getitem ht.typeIs entry_tuple_getitem ?_ (args_tuple_getitem _ _)))))
  show wpAny _ _ (Builtin.Tuple.tupleItemsOf (.ref t) >>= _) _ _ s
  refine wpAny_bind (tupleItemsOf_ ht (wpAny_bind (wpAny_typeOf tys ?_)))
  rw [if_pos (by decide)]
  refine wpAny_bind (apply_rev hs ps ?_)
  show wpAny _ _ (if ((((its.size : Nat) : Int) - 1) == 0 && (-1 : Int) == 1 && its.size == its.size) = true then _ else _) _ _ s
  rw [if_neg (by simp), pick_rev]
  first
    | exact wpAny_bind (m := Builtin.Tuple.tupleExact _) (wpAny_newObj_type (wpAny_pure ⟨_, rfl, wpAny_pure h⟩) fits)
    | exact wpAny_bind (m := Builtin.Tuple.tupleExact _) (wpAny_newObj_type (wpAny_bind (wpAny_pure (wpAny_pure ⟨_, rfl, wpAny_pure h⟩))) fits)
    | exact wpAny_bind (wpAny_bind (m := Builtin.Tuple.tupleExact _) (wpAny_newObj_type (wpAny_pure (wpAny_pure ⟨_, rfl, wpAny_pure h⟩)) fits))
    | exact wpAny_bind (wpAny_bind (m := Builtin.Tuple.tupleExact _) (wpAny_newObj_type (wpAny_pure ⟨_, rfl, wpAny_pure h⟩) fits))
end
section
variable {X : Cx} {e : Expr} {te : UTE}
/-- x[::-1] of a list or a tuple -/
def tRev (K : PySem.W.Frag) (te : TE) : TE := fun σ H Q => te σ H fun x H1 => ∃ a xs, x = .ref a ∧ ((SqL K H1 a xs ∧ ∀ p, H1 p = none → Q (.ref p) (upd H1 p (.lst xs.reverse))) ∨ (SqT K H1 a xs ∧ ∀ p o, H1 p = none → o.dict = none → Q (.ref p) (upd H1 p (.frz o (.tup xs.reverse)))))
theorem pe_rev {te : TE} {k : Nat} {p1 p2 p3 pos : Pos} (he : PE X e te) : PE X (.Subscript e (.Slice none none (some (.UnaryOp .USub (.Constant (.int 1) k p1) p2)) p3) pos) (tRev X.K te) := by
  refine ⟨fun pins s σ H Q I h => Subscript_ (thn (he.run pins s σ H _ I h) fun v s1 ⟨x, H1, I1, r1, a, xs, ex, q1⟩ => ?_)⟩
  subst ex
  cases r1
  have step : PO X (some (.UnaryOp .USub (.Constant (.int 1) k p1) p2)) (tPart (tUn (rU fun i => .int (-i)) (tC (.int 1)))) := po_some (pe_un un_neg pe_int)
  refine wpAny_Slice (thn (po_none.run pins s1 σ H1 (fun o H2 => o = none ∧ H2 = H1) I1 ⟨rfl, rfl⟩) fun vl s2 ⟨l, H2, I2, pl, el, e2⟩ => ?_)
  subst el e2
  refine thn (po_none.run pins s2 σ H2 (fun o H3 => o = none ∧ H3 = H2) I2 ⟨rfl, rfl⟩) fun vu s3 ⟨u, H3, I3, pu, eu, e3⟩ => ?_
  subst eu e3
  refine thn (step.run pins s3 σ H3 (fun o H4 => o = some (-1) ∧ H4 = H3) I3 ⟨1, rfl, -1, rfl, rfl, rfl⟩) fun vs s4 ⟨o, H4, I4, ps, eo, e4⟩ => ?_
  subst eo e4
  obtain rfl : vl = .none := by cases pl; rfl
  obtain rfl : vu = .none := by cases pu; rfl
  have I5 : Inv X pins σ H4 { s4 with heap := s4.heap.push { cls := .type "slice", data := .fields #[.none, .none, vs] } } := I4.kept (t' := s4.toks) fun b ob q => Heap.get?_push_of_some _ q
  show wpAny (model X.prog X.w) X.A (subscriptTail e (.Slice none none (some (.UnaryOp .USub (.Constant (.int 1) k p1) p2)) p3) (.ref a) (.ref s4.heap.objs.size)) (EP X pins σ Q) X.xe { s4 with heap := s4.heap.push { cls := .type "slice", data := .fields #[.none, .none, vs] } }
  rcases q1 with ⟨hx, q⟩ | ⟨hx, q⟩
  · obtain ⟨its, r, ht, hz⟩ := I5.list hx
    have len := r.length
    refine tail_any (ops := [.ref a, .ref s4.heap.objs.size]) ht.isList.typeIs (PySem.slot_list_getitem.lookup) ?_ (by with_unfolding_all rfl)
    refine wpAny_getItem_list_slice ht.isList (Heap.IsSliceOf.new _ .none .none vs) .none .none ps (by decide) ?_ (by rw [List.size_toArray]; omega)
    rw [PySem.W.krv_pick]
    exact ⟨.ref _, _, I5.laid (t' := s4.toks) (o := .lst xs.reverse) (fun b ob q => Heap.get?_push_of_some _ q) (Nat.le_refl _) ⟨by rw [List.length_reverse]; exact hz, _, 0, r.reverse, Heap.get?_push_size _ rfl⟩, rfl, q _ (I5.hok.fresh (Nat.le_refl _))⟩
  · obtain ⟨its, r, ht, hz⟩ := I5.tuple hx
    have len := r.length
    refine tail_any (ops := [.ref a, .ref s4.heap.objs.size]) ht.typeIs (PyProof.Rows.slot_tuple_getitem.lookup) ?_ (by with_unfolding_all rfl)
    refine item_rev ht (Heap.IsSliceOf.new _ .none .none vs) ps (by rw [List.size_toArray]; omega) ?_
    exact ⟨.ref _, _, I5.laid (t' := s4.toks) (o := .frz _ (.tup xs.reverse)) (fun b ob q => Heap.get?_push_of_some _ q) (Nat.le_refl _) ⟨Heap.get?_push_size _ rfl, by rw [List.length_reverse]; exact hz, _, r.reverse, IsTup.new _ _⟩, rfl, q _ _ (I5.hok.fresh (Nat.le_refl _)) rfl⟩
theorem RelUs.reverse {K : PySem.W.Frag} {H : Hp} : ∀ {xs : List U} {vs : List V}, RelUs K H xs vs → RelUs K H xs.reverse vs.reverse
  | [], _, h => by obtain rfl := h; exact RelUs.nil
  | x :: xs, _, h => by
    obtain ⟨v, r, rfl, q, t⟩ := h
    rw [List.reverse_cons, List.reverse_cons]
    exact (RelUs.reverse t).append (RelUs.cons q RelUs.nil)
def revR (m : Bool) (x : U) (M : UHp) (Q : UK) : Prop := match x with
  | .tup xs => Q (.tup xs.reverse) M
  | x => ∃ xs, listU M x = some xs ∧ newL m xs.reverse M Q
def z8p (m : Bool) (te : UTE) (σ : USt) (M : UHp) (Q : UK) : Prop := te σ M fun x M1 => revR m x M1 Q
theorem ue_rev (m : Bool) {k : Nat} {p1 p2 p3 pos : Pos} (he : UE X e te) : UE X (.Subscript e (.Slice none none (some (.UnaryOp .USub (.Constant (.int 1) k p1) p2)) p3) pos) (z8p m te) := PE.fz (pe_rev he) fun τ H Q h => by
  obtain ⟨σ, M, Qu, rs, rm, q, up⟩ := h
  refine ⟨σ, M, _, rs, rm, q, fun x M1 v H1 q1 s1 m1 r1 => ?_⟩
  have up := up.from s1
  unfold revR at q1
  split at q1
  · obtain ⟨a, vs, rfl, h1, h2⟩ := r1
    exact ⟨a, vs, rfl, .inr ⟨h1.t, fun p o hp ho => .inl (newT_dn m1 up h2.reverse q1 p o hp ho)⟩⟩
  · obtain ⟨xs, e, q1⟩ := q1
    obtain ⟨a, vs, rfl, h1, h2⟩ := list_dn m1 r1 e
    exact ⟨a, vs, rfl, .inl ⟨h1, newL_dn m1 up h2.reverse q1⟩⟩
/-! sorted(a list of texts) -/
def sortedR (m : Bool) (xs : List U) (M : UHp) (Q : UK) : Prop := match xs with
  | [x] => ∃ ys zs, listU M x = some ys ∧ strsU ys = some zs ∧ zs.length < 64 ∧ ∀ ws : List Str, ws.Perm zs → sortedS ws = true → newL m (ws.map .str) M Q
  | _ => False
theorem uc_sorted (m : Bool) : UCallR X (.builtin "sorted") (sortedR m) := CallR.fz cr_sortedS fun vs H Q h => by
  obtain ⟨xs, M, Qu, r, rm, q, up⟩ := h
  unfold sortedR at q
  split at q
  · obtain ⟨v, t, rfl, r1, rfl⟩ := r
    obtain ⟨ys, zs, e1, e2, h64, q⟩ := q
    obtain ⟨l, vs, rfl, hl, t⟩ := list_dn rm r1 e1
    obtain ⟨rfl, ok⟩ := strsU_rel e2 t
    exact ⟨l, zs, rfl, hl, h64, fun ws p pm hs hp => newL_dn rm up (rel_strs ws fun y hy => ok y (pm.mem_iff.mp hy)) (q ws pm hs) p hp⟩
  · exact q.elim
/-! int(a bool) too -/
def int2R (xs : List U) (M : UHp) (Q : UK) : Prop := match xs with
  | [.int i] => Q (.int i) M
  | [.bl b] => Q (.int (if b then 1 else 0)) M
  | _ => False
theorem uc_int2 : UCallR X (.type "int") int2R := CallR.mono call_int1 fun vs H Q h => by
  obtain ⟨xs, M, Qu, r, rm, q, up⟩ := h
  unfold int2R at q
  split at q
  · obtain ⟨v, w, rfl, rfl, rfl⟩ := r
    exact .inl ⟨_, rfl, up _ _ _ _ q (Stab.refl H) rm rfl⟩
  · obtain ⟨v, w, rfl, rfl, rfl⟩ := r
    exact .inr ⟨_, rfl, up _ _ _ _ q (Stab.refl H) rm rfl⟩
  · exact q.elim
/-! xs.extend(ys), ys by address, of no concern any more -/
def extR (x : U) (xs : List U) (M : UHp) (Q : UK) : Prop := match x, xs with
  | .ref a, [.ref b] => ∃ ys zs, M a = some (.lst ys) ∧ M b = some (.lst zs) ∧ ys.length + zs.length ≤ sizeLine ∧ Q .non (updM M a (.lst (ys ++ zs)))
  | _, _ => False
theorem um_extend : UMtR X "list.extend" extR := MtR.mono mt_extend fun v vs H Q h => by
  obtain ⟨x, xs, M, Qu, r1, r2, rm, q, up⟩ := h
  unfold extR at q
  split at q
  · rename_i a b
    obtain rfl := r1
    obtain ⟨w, t, rfl, rfl, rfl⟩ := r2
    obtain ⟨ys, zs, e1, e2, hz, q⟩ := q
    obtain ⟨vs, h1, t1⟩ := rm a _ e1
    obtain ⟨ws, h2, t2⟩ := rm b _ e2
    have s' : Stab H (upd H a (.lst (vs ++ ws))) := Stab.lst h1
    exact ⟨a, b, vs, ws, rfl, rfl, h1, h2, by rw [← t1.length, ← t2.length]; exact hz, up _ _ .non _ q s' (rm.write s' ⟨_, upd_same, (t1.append t2).stab s'⟩) rfl⟩
  · exact q.elim
end
def parK (i j : Nat) (D : UEnds) (σ : USt) : List U → UHp → Prop
  | [x, y], M => D.nx ((σ.set i (some x)).set j (some y)) M
  | _, _ => False
/-- a, b = x, y -/
def z8n (i j : Nat) (ta : UTA) (D : UEnds) (σ : USt) (M : UHp) : Prop := ta σ M (parK i j D σ)
section
variable {M : UHp} {Q : UK} {xs ys : List U} {m b : Bool} {i : Int} {a p : Addr}
theorem z7q : revR m (.tup xs) M Q = Q (.tup xs.reverse) M := rfl
theorem z7o : revR m (.lst xs) M Q = newL m xs.reverse M Q := by simp [revR, listU]
theorem z7p : revR m (.ref p) M Q = (∃ xs, refL (M p) = some xs ∧ newL m xs.reverse M Q) := by show (∃ xs, listU M (U.ref p) = some xs ∧ _) = _; rw [z2r]
theorem z7m {i j : Nat} {D : UEnds} {σ : USt} {x y : U} : parK i j D σ [x, y] M = D.nx ((σ.set i (some x)).set j (some y)) M := rfl
theorem z5w : int2R [.int i] M Q = Q (.int i) M := rfl
theorem z5v : int2R [.bl b] M Q = Q (.int (if b then 1 else 0)) M := rfl
theorem z7a : extR (.ref a) [.ref p] M Q = (∃ ys zs, M a = some (.lst ys) ∧ M p = some (.lst zs) ∧ ys.length + zs.length ≤ sizeLine ∧ Q .non (updM M a (.lst (ys ++ zs)))) := rfl
theorem z3l : sortedR m [.lst ys] M Q = (∃ zs, strsU ys = some zs ∧ zs.length < 64 ∧ ∀ ws : List Str, ws.Perm zs → sortedS ws = true → newL m (ws.map .str) M Q) := by simp [sortedR, listU]
theorem z3m : sortedR m [.ref p] M Q = (∃ ys zs, refL (M p) = some ys ∧ strsU ys = some zs ∧ zs.length < 64 ∧ ∀ ws : List Str, ws.Perm zs → sortedS ws = true → newL m (ws.map .str) M Q) := by
  show (∃ ys zs, listU M (U.ref p) = some ys ∧ _) = _
  rw [z2r]
end
end PU

set_option Elab.async false
set_option linter.all false
set_option maxRecDepth 100000
/-! UExc: what may raise. A reading takes the wish of an exception ahead of all. -/
namespace PU
open PySem PySem.Spec PyProof.Rows L2

abbrev UWX := Value → Option Addr → USt → UHp → Prop
def UpW (K : PySem.W.Frag) (H : Hp) (Wu : UWX) (W : WX) : Prop := ∀ c d σ' M' τ' H', Wu c d σ' M' → Stab H H' → RelM K H' M' → RelS K H' σ' τ' → W c d τ' H'
theorem UpW.from {K : PySem.W.Frag} {H H' : Hp} {Wu : UWX} {W : WX} (h : UpW K H Wu W) (s : Stab H H') : UpW K H' Wu W := fun c d σ' M' τ' H2 q s2 m r => h c d σ' M' τ' H2 q (s.trans s2) m r
def dxE (K : PySem.W.Frag) (W : WX) (t : UWX → UTE) : TE := fun τ H Q => ∃ σ M Qu Wu, RelS K H σ τ ∧ RelM K H M ∧ t Wu σ M Qu ∧ UpK K H Qu Q ∧ UpW K H Wu W
def dxA (K : PySem.W.Frag) (W : WX) (t : UWX → UTA) : TA := fun τ H Q => ∃ σ M Qu Wu, RelS K H σ τ ∧ RelM K H M ∧ t Wu σ M Qu ∧ UpA K H Qu Q ∧ UpW K H Wu W
def dxS (K : PySem.W.Frag) (W : WX) (t : UWX → UTS) : TS := fun D τ H => ∃ σ M Du Wu, RelS K H σ τ ∧ RelM K H M ∧ t Wu Du σ M ∧ UpD K H Du D ∧ UpW K H Wu W
abbrev XEx (X : Cx) (W : WX) (e : Expr) (t : UWX → UTE) : Prop := PE X e (dxE X.K W t)
abbrev XA (X : Cx) (W : WX) (es : List Expr) (t : UWX → UTA) : Prop := PA X es (dxA X.K W t)
abbrev XS (X : Cx) (W : WX) (st : Stmt) (t : UWX → UTS) : Prop := PS X st (dxS X.K W t)
abbrev XSs (X : Cx) (W : WX) (sts : List Stmt) (t : UWX → UTS) : Prop := PSs X sts (dxS X.K W t)
section
variable {X : Cx} {W : WX} {e : Expr} {es : List Expr} {st : Stmt} {sts : List Stmt} {pos : Pos}
theorem xe_of {t : UTE} (h : UE X e t) : XEx X W e (fun _ => t) := PE.mono h fun τ H Q ⟨σ, M, Qu, _, rs, rm, q, up, _⟩ => ⟨σ, M, Qu, rs, rm, q, up⟩
theorem xa_of {t : UTA} (h : UA X es t) : XA X W es (fun _ => t) := PA.mono h fun τ H Q ⟨σ, M, Qu, _, rs, rm, q, up, _⟩ => ⟨σ, M, Qu, rs, rm, q, up⟩
theorem xs_of {t : UTS} (h : US X st t) : XS X W st (fun _ => t) := PS.mono h fun D τ H ⟨σ, M, Du, _, rs, rm, q, up, _⟩ => ⟨σ, M, Du, rs, rm, q, up⟩
theorem xss_of {t : UTS} (h : USs X sts t) : XSs X W sts (fun _ => t) := PSs.mono h fun D τ H ⟨σ, M, Du, _, rs, rm, q, up, _⟩ => ⟨σ, M, Du, rs, rm, q, up⟩
/-! expressions -/
def z80 (te : UWX → UTE) (tr : UWX → UTA) (w : UWX) : UTA := z7t (te w) (tr w)
theorem xa_cons {te : UWX → UTE} {tr : UWX → UTA} (ha : XEx X W e te) (hr : XA X W es tr) (hs : starEach (e :: es) X.env = (false, eval e X.env) :: starEach es X.env := by rfl) : XA X W (e :: es) (z80 te tr) := PA.mono (pa_cons ha hr hs) fun τ H Q h => by
  obtain ⟨σ, M, Qu, Wu, rs, rm, q, up, ux⟩ := h
  refine ⟨σ, M, _, Wu, rs, rm, q, fun x M1 v H1 q1 s1 m1 r1 => ?_, ux⟩
  refine ⟨σ, M1, _, Wu, rs.stab s1, m1, q1, fun xs M2 vs H2 q2 s2 m2 r2 => ?_, ux.from s1⟩
  exact up _ M2 _ H2 q2 (s1.trans s2) m2 (RelUs.cons (r1.stab s2) r2)
def z8y (t : UWX → UTA) (w : UWX) : UTE := z8s (t w)
theorem xe_tup {x1} {t : UWX → UTA} (h : XA X W es t) : XEx X W (.Tuple es x1 pos) (z8y t) := PE.mono (pe_tupD h) fun τ H Q h => by
  obtain ⟨σ, M, Qu, Wu, rs, rm, q, up, ux⟩ := h
  exact ⟨σ, M, _, Wu, rs, rm, q, fun xs M1 vs H1 q1 s1 m1 r1 => ⟨by rw [← r1.length]; exact q1.1, newT_dn m1 (up.from s1) r1 q1.2⟩, ux⟩
/-! a call that may raise -/
def z7z (sp : USp) (dus : List U) (t : UWX → UTA) (w : UWX) (σ : USt) (M : UHp) (Q : UK) : Prop := t w σ M fun us M1 => sp (us ++ dus) M1 Q fun c d M2 => w c d σ M2
section
variable {k : Nat} {f : Addr} {fd : FuncData} {ps : List Str} {sp : USp} {x : Str} {p : Pos}
theorem run_ufnS {CX : CXT} {pins : List (Addr × Obj)} {τ : L2.St} {H : Hp} {s : Shared} {Q : VK} {E : XK} {ws : List Value} {vs : List V} {ds : List Value} {dvs : List V} (F : UFn X.prog X.w X.K X.mg X.base CX k f fd ps sp) (hr : Room k X.A) (hG : X.A.guards = some []) (hb : Binds X.K fd ps ds)
    (hd : Vals dvs ds) (hx : PassesAt CX X τ E) (I : Inv X pins τ H s) (rv : Vals vs ws) (h : dnP X.K sp (vs ++ dvs) H Q E) : wpAny (model X.prog X.w) X.A (call (.ref f) ws) (EP X pins τ Q) X.xe s := by
  have rr := rv.append hd
  have hl : (ws ++ ds).length = ps.length := by
    obtain ⟨us, M, Qu, Eu, r, _, q, _⟩ := h
    rw [← rr.length, ← r.length]; exact F.len _ _ _ _ q
  refine wpAny_call (codeAny_mono (F.go X.A X.stack s H _ _ _ Q E hr hG I.env0 (hb s ws I.kIn hl) rr h) fun r s' hq => ?_)
  match r, hq with
  | .error e, hq => exact hx pins H s e s' I hq
  | .ok (.ret u), hq => exact I.after hq
theorem xe_call {dus : List U} {dvs : List V} {ds : List Value} {t : UWX → UTA} (tk : Takes X W) (F : UFn X.prog X.w X.K X.mg X.base (L2.CX X.prog X.w) k f fd ps sp) (hr : Room k X.A) (hG : X.A.guards = some []) (hg : Gl X x) (hm : X.mg x = some (.ref f)) (hk : PySem.W.keepIn X.K (.ref f) = true)
    (hb : Binds X.K fd ps ds) (hd : Vals dvs ds) (hdu : ∀ H, RelUs X.K H dus dvs)
    (ha : XA X W (e :: es) t) (hdb : (x == ("__debug__" : Str)) = false := by decide) (he : starEach (e :: es) X.env = (false, eval e X.env) :: starEach es X.env := by rfl) (hpl : (backTo pos (starEach es X.env)).any (·.1) = false := by rfl) :
    XEx X W (.Call (.Name x p) (e :: es) [] pos) (z7z sp dus t) := by
  constructor
  intro pins s τ H Q I h
  obtain ⟨σ, M, Qu, Wu, rs, rm, q, up, ux⟩ := h
  refine wpAny_Call_Name_kw (ld_glob I hg hm ?_ hdb)
  refine PySem.W.callWith_K (h₀ := X.base) I.ok.mod.kin hk (thn (ha.run pos pins s τ H (fun vs H1 => dnP X.K sp (vs ++ dvs) H1 Q (WE W τ)) I ⟨σ, M, _, Wu, rs, rm, q, fun us M1 vs H1 q1 s1 m1 r1 => ?_, ux⟩) fun ws s1 ⟨vs, H1, I1, r, q⟩ => ⟨I1.kIn, ?_⟩) he hpl
  · exact ⟨us ++ dus, M1, Qu, fun c d M2 => Wu c d σ M2, r1.append (hdu H1), m1, q1, up.from s1, fun c d M' H' z s2 m2 => ux c d σ M' τ H' z (s1.trans s2) m2 (rs.stab (s1.trans s2))⟩
  · exact run_ufnS F hr hG hb hd (passAt tk τ) I1 r q
end
/-! statements -/
variable {te : UWX → UTE} {p q : UWX → UTS}
def z8u (te : UWX → UTE) (w : UWX) : UTS := z8o (te w)
def z81 (te : UWX → UTE) (w : UWX) : UTS := z7u (te w)
def z8w (te : UWX → UTE) (i : Nat) (w : UWX) : UTS := z8e (te w) (z7v i)
theorem xs_set {i : Nat} {x : Str} {pos' : Pos} (hN : X.N.Nodup) (hi : X.N[i]? = some x) (hx : Loc X.env.scope x) (he : XEx X W e te) (hs : swapsWith e (some (.Name x pos')) pos.line X.env = pure false := by rfl)
    (hf : X.fn x = true ∨ X.env.scope.names.lookup x = some .local := by first | exact .inl rfl | exact .inr rfl | assumption) : XS X W (.Assign [.Name x pos'] e pos) (z8w te i) := PS.mono (ps_set hN hi hx he hs hf) fun D τ H ⟨σ, M, Du, Wu, rs, rm, q, up, ux⟩ =>
  ⟨σ, M, _, Wu, rs, rm, q, fun x M1 v H1 q1 s1 m1 r1 => up.nx _ M1 _ H1 q1 s1 m1 ((rs.stab s1).set r1 i), ux⟩
def z8v (t u : UWX → UTS) (w : UWX) : UTS := z8q (t w) (u w)
theorem xss_cons (h1 : XS X W st p) (h2 : XSs X W sts q) : XSs X W (st :: sts) (z8v p q) := PSs.mono (pss_cons h1 h2) fun D τ H ⟨σ, M, Du, Wu, rs, rm, q, up, ux⟩ =>
  ⟨σ, M, _, Wu, rs, rm, q, ⟨fun σ1 M1 τ1 H1 q1 s1 m1 r1 => ⟨σ1, M1, Du, Wu, r1, m1, q1, up.from s1, ux.from s1⟩, up.rt, up.bk, up.ct⟩, ux⟩
theorem xss_one (h1 : XS X W st p) : XSs X W [st] p := pss_one h1
def xIf (c : UTT) (t u : UWX → UTS) (w : UWX) : UTS := z8i c (t w) (u w)
theorem xs_if {c : Expr} {tc : UTT} {as bs : List Stmt} (hc : UT X c tc) (ha : XSs X W as p) (hb : XSs X W bs q) : XS X W (.If c as bs pos) (xIf tc p q) := PS.mono (ps_if hc ha hb) fun D τ H h => by
  obtain ⟨σ, M, Du, Wu, rs, rm, q, up, ux⟩ := h
  refine ⟨σ, M, _, rs, rm, q, fun c M1 H1 q1 s1 m1 => ?_⟩
  cases c with
  | true =>
    simp only [if_true] at q1 ⊢
    exact ⟨σ, M1, _, Wu, rs.stab s1, m1, q1, up.from s1, ux.from s1⟩
  | false =>
    simp only [Bool.false_eq_true,if_false] at q1 ⊢
    exact ⟨σ, M1, _, Wu, rs.stab s1, m1, q1, up.from s1, ux.from s1⟩
/-- raise, the class told -/
def z74 (c : Value) (w : UWX) (_ : UEnds) (σ : USt) (M : UHp) : Prop := w c none σ M
theorem xs_raise {c : Value} (hc : X.calm = true) (tk : Takes X W) (he : PMk X e (fun _ H Q => Q c none H)) : XS X W (.Raise (some e) none pos) (z74 c) := PS.mono (ps_raise hc tk he) fun D τ H ⟨σ, M, Du, Wu, rs, rm, q, up, ux⟩ => ux c none σ M τ H q (Stab.refl H) rm rs
end
/-! own exceptions made with nothing -/
section
variable {X : Cx} {C : Addr} {bmB : List Value} {B newId initId : String}
theorem pmk_own0 {x : Str} {p pos : Pos} (F : ExcBaseFacts B newId initId bmB) (q : PySem.W.excIn X.K C bmB newId = true) (gC : X.mg x = some (.ref C)) (kC : PySem.W.keepIn X.K (.ref C) = true) (r : Raises X (.ref C)) (hg : Gl X x)
    (hdb : (x == ("__debug__" : Str)) = false := by decide) : PMk X (.Call (.Name x p) [] [] pos) (fun _ H Q => Q (.ref C) none H) := by
  intro pins s σ H Q I h
  refine wpAny_Call_Name_kw (ld_glob I hg gC ?_ hdb)
  refine PySem.W.callWith_K0 I.kIn kC ?_
  obtain ⟨bm, N, nm, qn, bs, hdct, sn, sub, ab, col, dd, k0, k1, k2, k3, k5, mN, hC, hN, hni, T⟩ := exc_obj I.kIn q
  exact wpAny_call_exc_subT F T hC hN hni (fun h' e hm => mk_of I hm r h (I.hok.gone hm.new)) (Nat.zero_le _)
end
/-! try .. except C: suite that raises nothing -/
section
variable {X : Cx} {W : WX} {st : Stmt} {pos : Pos}
def z8x (ex : Value → Option Bool) (t : UWX → UTS) (u : UTS) (w : UWX) (D : UEnds) (σ : USt) (M : UHp) : Prop :=
  t (fun c d σ' M' => ∃ b, ex c = some b ∧ (b = true → u D σ' M') ∧ (b = false → w c d σ' M')) D σ M
/-- .. as n: slot i is n's; behind the suite it is gone -/
def asD (i : Nat) (D : UEnds) : UEnds := { nx := fun s m => D.nx (s.set i none) m, rt := D.rt, bk := fun s m => D.bk (s.set i none) m, ct := fun s m => D.ct (s.set i none) m }
def z75 (ex : Value → Option Bool) (i : Nat) (t : UWX → UTS) (u : Addr → Value → Option Addr → UTS) (w : UWX) (D : UEnds) (σ : USt) (M : UHp) : Prop :=
  t (fun c d σ' M' => ∃ b, ex c = some b ∧ (b = true → ∀ a, M' a = none → u a c d (asD i D) (σ'.set i (some (.ref a))) M') ∧ (b = false → w c d σ' M')) D σ M
/-- nothing leaves -/
theorem us_ofx {t : UWX → UTS} (h : XS X (fun _ _ _ _ => False) st t) : US X st (t fun _ _ _ _ => False) := PS.mono h fun D τ H ⟨σ, M, Du, rs, rm, q, up⟩ => ⟨σ, M, Du, _, rs, rm, q, up, fun _ _ _ _ _ _ z _ _ _ => z.elim⟩
end
/-! a def that may raise -/
section
variable {P : Program} {w : World} {K : PySem.W.Frag} {mg : Str → Option Value} {base : Heap} {k : Nat} {f : Addr} {fd : FuncData} {N ps : List Str} {x qual : Str} {st : Stmt}
theorem ufn_okX {sp : USp} {t : UWX → UTS} (F : Fun K x qual st f fd) (S : FnScope N ps (defScope st)) (len : ∀ us M Q E, sp us M Q E → us.length = ps.length)
    (hbody : ∀ (cdv : Value) (A : Around) (outer : List Env) (s : Shared) (H : Hp) (E : XK), Room k (A.deeper (envOfC qual (defScope st) s.heap.objs.size f cdv)) → A.guards = some [] →
      XSs (cxOf (L2.CX P w) P w K mg base N qual (defScope st) f cdv A outer s H E) (fun cls d _ H => E cls d H) (defBody st) t)
    (pure : ∀ (us : List U) (M : UHp) (Q : UK) (E : UXK), sp us M Q E → t (fun c d _ M' => E c d M') { nx := fun _ M' => Q .non M', rt := ZQ Q } (z72 N us) M) : UFn P w K mg base (L2.CX P w) (k + 1) f fd ps sp := by
  obtain ⟨oc, od, kV, doc, pm, an, cdv, ct, osl, rfl, lk, hcd⟩ := F.ex
  refine ⟨len, fun A outer s H args ws vs Q E hr hg e0 hb rv hsp => ?_⟩
  obtain ⟨us, M, Qu, Eu, ru, rm, q0, upK, upX⟩ := hsp
  have hl : vs.length = ps.length := by rw [← ru.length]; exact len _ _ _ _ q0
  have inH : ∀ b o, base.get? b = some o → s.heap.get? b = some o := fun b o e => (e0.bs b o e).1
  have KH := e0.mod.kin.keeps inH
  have lim := e0.mod.nolimit.keeps inH
  refine codeAny_call_function hr.depth (KH _ _ lk) rfl S.co S.gen rfl (PySem.W.codeRec_of KH hcd) (hb _ _ _ _ ?_)
  refine wpAny_newFunctionEnv_cells S.kind (fun y hy => ?_) fun env he s1 x => ?_
  · rcases S.par y.1 (List.of_mem_zip (show (y.1, y.2) ∈ ps.zip ws from hy)).1 with z | z
    · exact .inl z
    · exact .inr ⟨z, PySem.W.cellsFrom_some _ _ _ (.inl z)⟩
  · subst he
    refine ⟨lim.keeps x.toInCall.keep, codeAny_func ?_⟩
    have I : Inv (cxOf (L2.CX P w) P w K mg base N qual (defScope st) f cdv A outer s H E) [] (L2.start N vs) H s1 := inv_start S hr.hd e0 hl rv x
    have wp := (hbody cdv A outer s H E (hr.deeper _) hg).run [] s1 (L2.start N vs) H { nx := fun _ H' => Q .non H', rt := FzQ Q, bk := fun _ _ => False, ct := fun _ _ => False } I
      ⟨z72 N us, M, _, _, rel_start ru, rm, pure us M Qu Eu q0, ⟨fun σ' M' τ' H' q' s' m' _ => upK .non M' .non H' q' s' m' rfl, zq_dn upK, fun _ _ _ _ z _ _ _ => z.elim, fun _ _ _ _ z _ _ _ => z.elim⟩, fun c d σ' M' τ' H' z s m _ => upX c d M' H' z s m⟩
    refine wpAny_mono wp (fun fl s' hs => ?_) fun e s' hs => hs
    cases fl with
    | ret u =>
      obtain ⟨v, σ', H', J, r1, q1⟩ := hs
      obtain ⟨v2, H2, J2, r2, q2⟩ := ep_fz (show EP _ [] σ' (FzQ Q) u s' from ⟨v, H', J, r1, q1⟩)
      exact ⟨v2, H2, J2.os, J2.bare, J2.base, J2.hok, r2, q2⟩
    | next =>
      obtain ⟨σ', H', J, q1⟩ := hs
      exact ⟨.non, H', J.os, J.bare, J.base, J.hok, rfl, q1⟩
    | brk => exact False.elim hs.choose_spec.choose_spec.2
    | cont => exact False.elim hs.choose_spec.choose_spec.2
end
end PU

set_option Elab.async false
set_option linter.all false
set_option maxRecDepth 100000
/-! UErr: errors with fields: made by an own __init__, raised, caught, their fields read; calls that surely raise nothing. -/
namespace PU
open PySem PySem.Spec PyProof.Rows L2

theorem takes0 {X : Cx} : Takes X (fun _ _ _ _ => False) := fun _ _ x => by
  obtain ⟨_, _, _, _, _, _, _, _, _, _, _, _, _, _, _, _, z⟩ := x
  exact z.elim
section
variable {X : Cx} {e : Expr} {es : List Expr} {pos : Pos}
section
variable {k : Nat} {f : Addr} {fd : FuncData} {ps : List Str} {sp : USp} {x : Str} {p : Pos}
end
end

/-! ### a caught error's field -/
theorem RelKs.lookup {K : PySem.W.Frag} {H : Hp} : ∀ {us : List (Str × U)} {vs : List (Str × V)} {f : Str} {x : U}, RelKs K H us vs → us.lookup f = some x → ∃ v, vs.lookup f = some v ∧ RelU K H x v
  | [], _, _, _, _, e => by simp at e
  | (k, y) :: xs, _, f, x, h, e => by
    obtain ⟨v, r, rfl, q, t⟩ := h
    rw [List.lookup_cons] at e ⊢
    by_cases hk : f = k
    · have hb : (f == k) = true := beq_iff_eq.mpr hk
      rw [hb] at e ⊢
      cases e
      exact ⟨v, rfl, q⟩
    · have hb : (f == k) = false := beq_eq_false_iff_ne.mpr hk
      rw [hb] at e ⊢
      exact RelKs.lookup t e
def uXf (a : Addr) (cls : Value) (d : Option Addr) (C : Addr) (f : Str) (te : UTE) (σ : USt) (M : UHp) (Q : UK) : Prop := te σ M fun x M1 => x = .ref a ∧ cls = .ref C ∧ ∃ dd fs v, d = some dd ∧ M1 dd = some (.xd fs) ∧ fs.lookup f = some v ∧ Q v M1
theorem ue_xf {X : Cx} {a C : Addr} {oe : Obj} {cls : Value} {d : Option Addr} {pn : List (Addr × Obj)} {e : Expr} {te : UTE} {pos : Pos} {n : Str} (T : XfC X.K C) (hno : PySem.W.findIn X.K (.ref C) n = some none)
    (hz : Zc cls d oe) (hf : ∃ vs, oe.data = .fields vs) (he : UE (X.suite a ((a, oe) :: pn)) e te) (hb : attributeBase e n X.env (eval e X.env) = eval e X.env := by rfl) :
    UE (X.suite a ((a, oe) :: pn)) (.Attribute e n pos) (uXf a cls d C n te) := PE.mono (pe_xf T hno hz hf he hb) fun τ H Q h => by
  obtain ⟨σ, M, Qu, rs, rm, q, up⟩ := h
  refine ⟨σ, M, _, rs, rm, q, fun x M1 v H1 q1 s1 m1 r1 => ?_⟩
  obtain ⟨rfl, ec, dd, fs, y, ed, em, l, q⟩ := q1
  obtain ⟨vs, eh, rk⟩ := m1 dd _ em
  obtain ⟨u, l2, ru⟩ := RelKs.lookup rk l
  exact ⟨r1, ec, dd, vs, u, ed, eh, l2, up _ _ _ _ q s1 m1 ru⟩

/-! ### isinstance of a caught error, no fields -/
/-! ### VariantError.__init__(self, ..) -/
/-- what the written part says of the errors' own base -/
structure VEc (K : PySem.W.Frag) (VE : Addr) : Prop where
  rd : PySem.W.readsIn K VE (.type "type") = true
  ga : PySem.W.specialIn K (.ref VE) "__getattribute__" = some (some (.builtin "type.__getattribute__"))
  at_ : PySem.W.findCls K (.ref VE) (.type "type") "__init__" = some (.val (.builtin "ValueError.__init__"))
section
variable {X : Cx} {o e : Expr} {es : List Expr} {to te : TE} {ta : TA} {f : Str} {p p' p1 p2 pos : Pos}
theorem pe_veown {pl : Sem Bool} {VE : Addr} {x : Str} (hg : Gl X x) (hm : X.mg x = some (.ref VE)) (T : VEc X.K VE) (ha : PA X (e :: es) ta)
    (hc : eval (.Call (.Attribute (.Name x p1) "__init__" p2) (e :: es) [] pos) X.env = (do
      let ov ← eval (.Name x p1) X.env
      standAt p2.atName
      let (f, first) ← holding [ov] (getMethod ov "__init__" pl)
      callWith pos f first (backTo pos (starEach (e :: es) X.env)) (backToKw pos (keywordEach [] X.env))) := by rfl)
    (hdb : (x == ("__debug__" : Str)) = false := by decide) (he : starEach (e :: es) X.env = (false, eval e X.env) :: starEach es X.env := by rfl) (hpl : (backTo pos (starEach es X.env)).any (·.1) = false := by rfl) :
    PE X (.Call (.Attribute (.Name x p1) "__init__" p2) (e :: es) [] pos) (tVeI X.K ta) := by
  refine ⟨fun pins s σ H Q I h => ?_⟩
  refine PySem.W.methodCall_KW (ld_glob I hg hm ?_ hdb) hc
  refine PySem.W.method_cls I.kIn T.ga ?_
  refine PySem.W.cls_value I.kIn T.rd T.at_ rfl ?_
  show wpAny _ _ (callWith pos (Value.builtin "ValueError.__init__") [] (backTo pos (starEach (e :: es) X.env)) []) _ _ _
  refine PyProof.Rows.callWith_method1 (thn (ha.run pos pins _ σ H _ (I.tok _) h) fun us s1 ⟨vs, H1, I1, r1, a, C, ws, ev, hl, T, ea, q⟩ => ?_) he hpl
  subst ev
  cases r1 with
  | @cons _ u0 _ ur ra rw' =>
    obtain rfl : u0 = Value.ref a := ra
    have hlen : ur.length ≤ sizeLine := by
      rw [← Paired.length rw', sizeLine_eq]
      omega
    exact oinit_ok T I1 ea hlen fun s' J => ⟨.non, H1, J, rfl, q⟩
end
section
variable {X : Cx} {o e : Expr} {es : List Expr} {to te : UTE} {ta : UTA} {f : Str} {p p' p1 p2 pos : Pos}
def uVeI (K : PySem.W.Frag) (ta : UTA) (σ : USt) (M : UHp) (Q : UK) : Prop := ta σ M fun us M1 => ∃ (a C : Addr) (ws : List U), us = .ref a :: ws ∧ ws.length ≤ 1000 ∧ OexC K C ∧ M1 a = some (.raw (exo a C none)) ∧ Q .non M1
theorem ue_veown {pl : Sem Bool} {VE : Addr} {x : Str} (hg : Gl X x) (hm : X.mg x = some (.ref VE)) (T : VEc X.K VE) (ha : UA X (e :: es) ta)
    (hc : eval (.Call (.Attribute (.Name x p1) "__init__" p2) (e :: es) [] pos) X.env = (do
      let ov ← eval (.Name x p1) X.env
      standAt p2.atName
      let (f, first) ← holding [ov] (getMethod ov "__init__" pl)
      callWith pos f first (backTo pos (starEach (e :: es) X.env)) (backToKw pos (keywordEach [] X.env))) := by rfl)
    (hdb : (x == ("__debug__" : Str)) = false := by decide) (he : starEach (e :: es) X.env = (false, eval e X.env) :: starEach es X.env := by rfl) (hpl : (backTo pos (starEach es X.env)).any (·.1) = false := by rfl) :
    UE X (.Call (.Attribute (.Name x p1) "__init__" p2) (e :: es) [] pos) (uVeI X.K ta) := PE.mono (pe_veown hg hm T ha hc hdb he hpl) fun τ H Q h => by
  obtain ⟨σ, M, Qu, rs, rm, q, up⟩ := h
  refine ⟨σ, M, _, rs, rm, q, fun us M1 vs H1 q1 s1 m1 r1 => ?_⟩
  obtain ⟨a, C, ws, rfl, hl, T, ea, q⟩ := q1
  obtain ⟨v, wv, rfl, r2, r3⟩ := r1
  obtain rfl := r2
  exact ⟨a, C, wv, rfl, by rw [← r3.length]; exact hl, T, m1 a _ ea, up _ _ _ _ q s1 m1 rfl⟩
/-- self.f = e -/
def uOst (K : PySem.W.Frag) (f : Str) (to te : UTE) (D : UEnds) (σ : USt) (M : UHp) : Prop := te σ M fun y M1 => to σ M1 fun x M2 => ∃ a C : Addr, x = .ref a ∧ OexC K C ∧ PySem.W.findIn K (.ref C) f = some none ∧
  ((M2 a = some (.raw (exo a C none)) ∧ ∀ dx, M2 dx = none → dx ≠ a → D.nx σ (updM (updM M2 dx (.exd [(f, y)])) a (.raw (exo a C (some dx))))) ∨
    ∃ (dx : Addr) (fs : List (Str × U)), M2 a = some (.raw (exo a C (some dx))) ∧ M2 dx = some (.exd fs) ∧ fs.length ≤ 900 ∧ D.nx σ (updM M2 dx (.exd ((f, y) :: fs))))
theorem RelKs.length {κ : Type} {K : PySem.W.Frag} {H : Hp} : ∀ {us : List (κ × U)} {vs : List (κ × V)}, RelKs K H us vs → us.length = vs.length
  | [], _, h => by obtain rfl := h; rfl
  | (k, x) :: xs, _, h => by
    obtain ⟨v, r, rfl, _, t⟩ := h
    simp [RelKs.length t]
theorem us_ost (ho : UE X o to) (he : UE X e te) (hs : swapsWith e (some (.Attribute o f p')) pos.line X.env = pure false := by rfl) : US X (.Assign [.Attribute o f p'] e pos) (uOst X.K f to te) := PS.mono (ps_ost ho he hs) fun D τ H h => by
  obtain ⟨σ, M, Du, rs, rm, q, up⟩ := h
  refine ⟨σ, M, _, rs, rm, q, fun y M1 v H1 q1 s1 m1 r1 => ?_⟩
  refine ⟨σ, M1, _, rs.stab s1, m1, q1, fun x M2 u H2 q2 s2 m2 r2 => ?_⟩
  obtain ⟨a, C, rfl, T, hno, q3⟩ := q2
  obtain rfl := r2
  refine ⟨a, C, rfl, T, hno, ?_⟩
  rcases q3 with ⟨ea, q3⟩ | ⟨dx, fs, ea, ed, hl, q3⟩
  · have ha := m2 a _ ea
    refine .inl ⟨ha, fun dx n ne => ?_⟩
    have n2 : M2 dx = none := m2.none n
    have sa : Stab H2 (upd H2 dx (exd dx [(f, v)])) := Stab.new n
    have m3 : RelM X.K (upd H2 dx (exd dx [(f, v)])) (updM M2 dx (.exd [(f, y)])) := m2.write sa ⟨[(f, v)], upd_same, v, [], rfl, (r1.stab s2).stab sa, rfl⟩
    have ha3 : upd H2 dx (exd dx [(f, v)]) a = some (exo a C none) := by rw [upd_ne (Ne.symm ne)]; exact ha
    have sb : Stab (upd H2 dx (exd dx [(f, v)])) (upd (upd H2 dx (exd dx [(f, v)])) a (exo a C (some dx))) := Stab.upd (fun xs z => by rw [ha3] at z; exact exo_tup (Option.some.inj z)) (fun ob u z => by rw [ha3] at z; exact exo_frz (Option.some.inj z))
    have m4 := m3.write sb (o := .raw (exo a C (some dx))) upd_same
    exact up.nx _ _ _ _ (q3 dx n2 ne) (((s1.trans s2).trans sa).trans sb) m4 ((((rs.stab s1).stab s2).stab sa).stab sb)
  · have ha := m2 a _ ea
    obtain ⟨vs, hd, rk⟩ := m2 dx _ ed
    refine .inr ⟨dx, vs, ha, hd, by rw [← rk.length]; exact hl, ?_⟩
    have sa : Stab H2 (upd H2 dx (exd dx ((f, v) :: vs))) := Stab.upd (fun xs z => by rw [hd] at z; exact exd_tup (Option.some.inj z)) (fun ob u z => by rw [hd] at z; cases z)
    have m3 := m2.write sa (o := .exd ((f, y) :: fs)) ⟨(f, v) :: vs, upd_same, v, vs, rfl, (r1.stab s2).stab sa, rk.stab sa⟩
    exact up.nx _ _ _ _ q3 ((s1.trans s2).trans sa) m3 (((rs.stab s1).stab s2).stab sa)

/-! ### raise C(e, ..), C with an own __init__ -/
/-- the promise of an __init__: mk says which fields come of which arguments -/
def spF (C : Addr) (mk : List U → List (Str × U) → Prop) : USp := fun us M Q _ => ∃ a xs fs, us = .ref a :: xs ∧ mk xs fs ∧ M a = some (.raw (exo a C none)) ∧ ∀ dx, M dx = none → dx ≠ a → Q .non (updM (updM M dx (.exd fs)) a (.raw (exo a C (some dx))))
def z8k (C : Addr) (mk : List U → List (Str × U) → Prop) (ta : UTA) (σ : USt) (M : UHp) (E : UXK) : Prop := ta σ M fun us M1 => us.length ≤ 1000 ∧ ∃ fs, mk us fs ∧ ∀ d, M1 d = none → E (.ref C) (some d) (updM M1 d (.xd fs))
theorem pmk_uex {x : Str} {C fI : Addr} {k : Nat} {fd : FuncData} {ps : List Str} {mk : List U → List (Str × U) → Prop} (T : OexC X.K C) (iC : PySem.W.findIn X.K (.ref C) "__init__" = some (some (.ref fI))) (tI : PySem.W.typeIn X.K (.ref fI) = some (.type "function"))
    (F1 : UFn X.prog X.w X.K X.mg X.base CX0 k fI fd ps (spF C mk)) (hr : Room (k + 1) X.A) (hG : X.A.guards = some []) (hb : Binds X.K fd ps []) (hg : Gl X x) (hm : X.mg x = some (.ref C)) (ha : UA X (e :: es) ta)
    (hdb : (x == ("__debug__" : Str)) = false := by decide) (he : starEach (e :: es) X.env = (false, eval e X.env) :: starEach es X.env := by rfl) (hpl : (backTo pos (starEach es X.env)).any (·.1) = false := by rfl) :
    PMk X (.Call (.Name x p) (e :: es) [] pos) (fun τ H Q => ∃ σ M Eu, RelS X.K H σ τ ∧ RelM X.K H M ∧ z8k C mk ta σ M Eu ∧ ∀ c d M' H', Eu c d M' → Stab H H' → RelM X.K H' M' → Q c d H') := by
  intro pins s τ H Q I h
  obtain ⟨σ, M, Eu, rs, rm, q0, up⟩ := h
  obtain ⟨nm, q, N, bs, bm, sn, sub, ab, col, dd, k0, k1, k2, k3, k5, hC, hbm⟩ := T.cls
  refine wpAny_Call_Name_kw (ld_glob I hg hm ?_ hdb)
  refine PySem.W.callWith_K (h₀ := X.base) I.ok.mod.kin T.kC (thn (ha.run pos pins s τ H (fun vs H1 => ∃ us M1, RelUs X.K H1 us vs ∧ RelM X.K H1 M1 ∧ Stab H H1 ∧ us.length ≤ 1000 ∧ ∃ fs, mk us fs ∧ ∀ d, M1 d = none → Eu (.ref C) (some d) (updM M1 d (.xd fs))) I
    ⟨σ, M, _, rs, rm, q0, fun us M1 vs H1 q1 s1 m1 r1 => ⟨us, M1, r1, m1, s1, q1⟩⟩) fun us s1 ⟨vs, H1, I1, r1, uu, M1, ru, m1, st1, hz, fs, hmk, q1⟩ => ⟨I1.kIn, ?_⟩) he hpl
  show wpAny _ _ (call (.ref C) us) _ _ _
  obtain ⟨hp, g, dr, tk, os⟩ := s1
  have hsz : hp.objs.size ≤ hp.objs.size + 1 := Nat.le_succ _
  have hn : H1 (hp.objs.size + 1) = none := I1.hok.fresh hsz
  generalize ea' : hp.objs.size + 1 = a at hn hsz
  have kk : ∀ b o, hp.get? b = some o → ((hp.push (PySem.W.kdv_tup us)).push (PySem.HandSPX.excO C hp.objs.size)).get? b = some o := fun b o e => Heap.get?_push_of_some _ (Heap.get?_push_of_some _ e)
  have hget : ((hp.push (PySem.W.kdv_tup us)).push (PySem.HandSPX.excO C hp.objs.size)).get? a = some (PySem.HandSPX.excO C hp.objs.size) := by rw [← ea']; heap_get
  have I2 : Inv X pins τ (upd H1 a (exo a C none)) ⟨(hp.push (PySem.W.kdv_tup us)).push (PySem.HandSPX.excO C hp.objs.size), g, dr, tk, os⟩ :=
    I1.laid (t' := tk) (a := a) (o := exo a C none) (h' := (hp.push (PySem.W.kdv_tup us)).push (PySem.HandSPX.excO C hp.objs.size)) kk hsz (exo_ok hget)
  have r2 : Vals (V.ref a :: vs) (Value.ref a :: us) := .cons rfl r1
  -- what is known of H1, all of it
  let N : UHp := fun b => match M1 b with | some o => some o | none => (H1 b).map .raw
  have nN : ∀ b, N b = none → H1 b = none := fun b z => by
    simp only [N] at z
    cases e1 : M1 b with
    | some o => rw [e1] at z; cases z
    | none => rw [e1] at z; simpa using z
  have nM : ∀ b o, M1 b = some o → N b = some o := fun b o z => by simp only [N,z]
  have rN : RelM X.K H1 N := fun b o z => by
    simp only [N] at z
    cases e1 : M1 b with
    | some o1 => rw [e1] at z; cases z; exact m1 b _ e1
    | none =>
      rw [e1] at z
      cases e2 : H1 b with
      | none => rw [e2] at z; cases z
      | some u => rw [e2] at z; cases z; exact e2
  have na : N a = none := rN.none hn
  have sa : Stab H1 (upd H1 a (exo a C none)) := Stab.new hn
  have rN2 : RelM X.K (upd H1 a (exo a C none)) (updM N a (.raw (exo a C none))) := rN.write sa upd_same
  have hl : (Value.ref a :: us).length = ps.length := by
    have e := F1.len (.ref a :: uu) (updM N a (.raw (exo a C none))) (fun _ _ => True) EU0 ⟨a, uu, fs, rfl, hmk, updM_same, fun _ _ _ => True.intro⟩
    rw [← e, List.length_cons, List.length_cons, ru.length, Paired.length r1]
  have hus : us.length ≤ sizeLine := by
    rw [← Paired.length r1, ← ru.length, sizeLine_eq]
    omega
  have hgo := fun (A : Around) (hrA : Room k A) (hGA : A.guards = some []) (e0A) (Q' : VK) (hq) => F1.go A X.stack ⟨(hp.push (PySem.W.kdv_tup us)).push (PySem.HandSPX.excO C hp.objs.size), g, dr, tk, os⟩ (upd H1 a (exo a C none)) ⟨Value.ref a :: us, []⟩ (Value.ref a :: us) (V.ref a :: vs) Q' (fun _ _ _ => False) hrA hGA e0A
    (by have z := hb ⟨(hp.push (PySem.W.kdv_tup us)).push (PySem.HandSPX.excO C hp.objs.size), g, dr, tk, os⟩ (Value.ref a :: us) I2.kIn (by simpa using hl); simpa using z) r2 hq
  refine wpAny_call (PySem.HandSPX.call_own F.excBase_ValueError (fun Y => PySem.HandSPX.refsVE_contains Y bm hbm) (I1.kIn _ _ hC) (PySem.W.looks_findIn I1.kIn iC) (fun self => PySem.W.bind_fn I1.kIn self tI) hus ?_)
  subst ea'
  refine (codeAny_mono (hgo _ (hr.make C us []) hG (I2.env0.make C us []) (fun v H2 => v = .non ∧ ∃ (d : Addr) (fs : List (Str × V)), H2 (hp.objs.size + 1) = some (exo (hp.objs.size + 1) C (some d)) ∧ H2 d = some (exd d fs) ∧ H1 d = none ∧ Q (.ref C) (some d) (upd (del H2 (hp.objs.size + 1)) d (.xd fs))) ?_) fun r s' hq' => ?_)
  · refine ⟨.ref (hp.objs.size + 1) :: uu, updM N (hp.objs.size + 1) (.raw (exo (hp.objs.size + 1) C none)), fun v M2 => v = .non ∧ ∃ dx, N dx = none ∧ dx ≠ (hp.objs.size + 1) ∧ M2 = updM (updM (updM N (hp.objs.size + 1) (.raw (exo (hp.objs.size + 1) C none))) dx (.exd fs)) (hp.objs.size + 1) (.raw (exo (hp.objs.size + 1) C (some dx))), EU0, RelUs.cons rfl (ru.stab sa), rN2,
      ⟨_, uu, fs, rfl, hmk, updM_same, fun dx h1 h2 => ⟨rfl, dx, by rw [updM_ne h2] at h1; exact h1, h2, rfl⟩⟩, fun v M2 u H2 qz s2 m2 r3 => ?_, fun _ _ _ _ z _ _ => z.elim⟩
    obtain ⟨rfl, dx, hdx, ne, rfl⟩ := qz
    have e1 : H2 (hp.objs.size + 1) = some (exo (hp.objs.size + 1) C (some dx)) := m2 _ _ updM_same
    obtain ⟨ws, e2, rk⟩ := m2 dx _ (show updM _ _ _ dx = some (.exd fs) by rw [updM_ne ne, updM_same])
    have hd1 := nN dx hdx
    refine ⟨r3, dx, ws, e1, e2, hd1, ?_⟩
    have s3 : Stab H1 (upd (del H2 (hp.objs.size + 1)) dx (.xd ws)) := by
      have s12 := sa.trans s2
      refine ⟨fun b xs z => ?_, fun b o u z => ?_⟩
      · have z2 := s12.tups b xs z
        rw [upd_ne (at_ne e2 z2 exd_tup), del_ne (at_ne e1 z2 exo_tup)]; exact z2
      · have z2 := s12.frzs b o u z
        rw [upd_ne (at_ne e2 z2 (fun q => by cases q)), del_ne (at_ne e1 z2 exo_frz)]; exact z2
    refine up _ _ _ _ (q1 dx (m1.none hd1)) (st1.trans s3) (fun b o z => ?_)
    by_cases hb2 : b = dx
    · subst hb2
      rw [updM_same] at z
      cases z
      have s23 : Stab H2 (upd (del H2 (hp.objs.size + 1)) b (.xd ws)) := ⟨fun c xs z => by rw [upd_ne (at_ne e2 z exd_tup), del_ne (at_ne e1 z exo_tup)]; exact z, fun c o u z => by rw [upd_ne (at_ne e2 z (fun q => by cases q)), del_ne (at_ne e1 z exo_frz)]; exact z⟩
      exact ⟨ws, upd_same, rk.stab s23⟩
    · rw [updM_ne hb2] at z
      have hba : b ≠ hp.objs.size + 1 := fun zz => by rw [zz] at z; rw [m1.none hn] at z; cases z
      have z2 : updM (updM (updM N (hp.objs.size + 1) (.raw (exo (hp.objs.size + 1) C none))) dx (.exd fs)) (hp.objs.size + 1) (.raw (exo (hp.objs.size + 1) C (some dx))) b = some o := by rw [updM_ne hba, updM_ne hb2, updM_ne hba]; exact nM b o z
      have s23 : Stab H2 (upd (del H2 (hp.objs.size + 1)) dx (.xd ws)) := ⟨fun c xs z => by rw [upd_ne (at_ne e2 z exd_tup), del_ne (at_ne e1 z exo_tup)]; exact z, fun c o u z => by rw [upd_ne (at_ne e2 z (fun q => by cases q)), del_ne (at_ne e1 z exo_frz)]; exact z⟩
      exact (m2 b o z2).at s23 (by rw [upd_ne hb2, del_ne hba])
  · cases r with
    | error er => exact (pass0 (X := X) pins τ _ _ er s' I2 hq')
    | ok fl =>
      cases fl with
      | ret u =>
        obtain ⟨v, H2, os2, bare2, un2, hok2, rv, ev, d, fs, ea, ed, hd1, q2⟩ := hq'
        subst ev
        obtain ⟨h2, g2, d2, t2, os'⟩ := s'
        exact ⟨rv, mk_end (raises_own T.exC T.tyC) I1 hsz kk un2 hok2 os2 bare2 ea ed hd1 q2⟩
      | next => exact False.elim hq'
      | brk => exact False.elim hq'
      | cont => exact False.elim hq'
def z5g (C : Addr) (mk : List U → List (Str × U) → Prop) (ta : UTA) (w : UWX) (_ : UEnds) (σ : USt) (M : UHp) : Prop := z8k C mk ta σ M fun c d M' => w c d σ M'
theorem xs_raiseF {W : WX} {x : Str} {C fI : Addr} {k : Nat} {fd : FuncData} {ps : List Str} {mk : List U → List (Str × U) → Prop} {pos2 : Pos} (hc : X.calm = true) (tk : Takes X W) (T : OexC X.K C) (iC : PySem.W.findIn X.K (.ref C) "__init__" = some (some (.ref fI))) (tI : PySem.W.typeIn X.K (.ref fI) = some (.type "function"))
    (F1 : UFn X.prog X.w X.K X.mg X.base CX0 k fI fd ps (spF C mk)) (hr : Room (k + 1) X.A) (hG : X.A.guards = some []) (hb : Binds X.K fd ps []) (hg : Gl X x) (hm : X.mg x = some (.ref C)) (ha : UA X (e :: es) ta)
    (hdb : (x == ("__debug__" : Str)) = false := by decide) (he : starEach (e :: es) X.env = (false, eval e X.env) :: starEach es X.env := by rfl) (hpl : (backTo pos (starEach es X.env)).any (·.1) = false := by rfl) :
    XS X W (.Raise (some (.Call (.Name x p) (e :: es) [] pos)) none pos2) (z5g C mk ta) := PS.mono (ps_raise hc tk (pmk_uex T iC tI F1 hr hG hb hg hm ha hdb he hpl)) fun D τ H ⟨σ, M, Du, Wu, rs, rm, q, up, ux⟩ =>
  ⟨σ, M, fun c d M' => Wu c d σ M', rs, rm, q, fun c d M' H' z s m => ux c d σ M' τ H' z s m (rs.stab s)⟩
end
end PU
namespace PU
open PySem PySem.Spec PyProof.Rows L2
/-- an __init__ of the text -/
structure Di (K : PySem.W.Frag) (q : Str) (st : Stmt) (f : Addr) (fd : FuncData) (ps : List Str) : Prop where
  F : Fun K "__init__" q st f fd
  b : Binds K fd ps []
end PU

set_option Elab.async false
set_option linter.all false
set_option maxRecDepth 100000
/-! UTxt: name += list; upper, str(int), text * int. -/
namespace PU
open PySem PySem.Spec PyProof.Rows L2
theorem UFn.lift {P : Program} {w : World} {K : PySem.W.Frag} {mg : Str → Option Value} {base : Heap} {CX : CXT} {k : Nat} {f : Addr} {fd : FuncData} {ps : List Str} {sp : USp} (F : UFn P w K mg base CX0 k f fd ps sp) : UFn P w K mg base CX k f fd ps sp :=
  ⟨F.len, fun A outer s H args ws vs Q E hr hg e0 hb rv h => codeAny_mono (F.go A outer s H args ws vs Q E hr hg e0 hb rv h) fun r s' q => by
    cases r with
    | error e => exact False.elim q
    | ok fl => cases fl <;> exact q⟩
section
variable {X : Cx}
/-! name += e, lists by address too -/
def augA (x : U) (y : U) (M : UHp) (Q : UK) : Prop := match x, y with
  | .int i, .int j => Q (.int (i + j)) M
  | .ref a, .ref b => ∃ xs ys, M a = some (.lst xs) ∧ M b = some (.lst ys) ∧ xs.length + ys.length ≤ sizeLine ∧ Q (.ref a) (updM M a (.lst (xs ++ ys)))
  | _, _ => False
theorem z5n {a b : Addr} {M : UHp} {Q : UK} : augA (.ref a) (.ref b) M Q = ∃ xs ys, M a = some (.lst xs) ∧ M b = some (.lst ys) ∧ xs.length + ys.length ≤ sizeLine ∧ Q (.ref a) (updM M a (.lst (xs ++ ys))) := rfl
/-! x.upper() -/
def upR (x : U) (xs : List U) (M : UHp) (Q : UK) : Prop := match x, xs with
  | .str z, [] => z.length ≤ 5000000 ∧ okS (Txt.upper z) = true ∧ Q (.str (Txt.upper z)) M
  | _, _ => False
theorem z7y {z : Str} {M : UHp} {Q : UK} : upR (.str z) [] M Q = (z.length ≤ 5000000 ∧ okS (Txt.upper z) = true ∧ Q (.str (Txt.upper z)) M) := rfl
/-! str(an int), str(a bool) -/
def strR (xs : List U) (M : UHp) (Q : UK) : Prop := match xs with
  | [.int i] => i.natAbs.log2 < 1920 ∧ okS (Str.ofString (toString i)) = true ∧ Q (.str (Str.ofString (toString i))) M
  | [.bl b] => Q (.str (if b then "True" else "False")) M
  | _ => False
theorem z6e {i : Int} {M : UHp} {Q : UK} : strR [.int i] M Q = (i.natAbs.log2 < 1920 ∧ okS (Str.ofString (toString i)) = true ∧ Q (.str (Str.ofString (toString i))) M) := rfl
theorem z6d {b : Bool} {M : UHp} {Q : UK} : strR [.bl b] M Q = Q (.str (if b then "True" else "False")) M := rfl
/-! -x, x a bool too -/
def negB (x : U) (M : UHp) (Q : UK) : Prop := match x with
  | .int i => Q (.int (-i)) M
  | .bl b => Q (.int (-(if b = true then 1 else 0))) M
  | _ => False
theorem z68 {i : Int} {M : UHp} {Q : UK} : negB (.int i) M Q = Q (.int (-i)) M := rfl
theorem z67 {b : Bool} {M : UHp} {Q : UK} : negB (.bl b) M Q = Q (.int (-(if b = true then 1 else 0))) M := rfl
/-! text * int -/
def repS (k : Nat) (z : Str) : Str := ⟨(List.replicate k z.cps).foldl (· ++ ·) #[]⟩
def mulS (x : U) (y : U) (M : UHp) (Q : UK) : Prop := match x, y with
  | .str z, .int k => 2 ≤ k ∧ k ≤ 100 ∧ z.length ≤ 100000 ∧ Q (.str (repS k.toNat z)) M
  | _, _ => False
theorem z63 {z : Str} {k : Int} {M : UHp} {Q : UK} : mulS (.str z) (.int k) M Q = (2 ≤ k ∧ k ≤ 100 ∧ z.length ≤ 100000 ∧ Q (.str (repS k.toNat z)) M) := rfl
end
end PU

set_option Elab.async false
set_option linter.all false
set_option maxRecDepth 100000
/-! UDict: dicts whose keys are tuples, nested, of texts and ints. -/
namespace PU
open PySem PySem.Spec PyProof.Rows L2

abbrev DPhi := Addr → List (NestedKey × Addr × V) → HO
abbrev NYs := List (NestedKey × Addr × Value)
def EqY : List (NestedKey × Addr × V) → NYs → Prop := Paired fun p q => p.1 = q.1 ∧ p.2.1 = q.2.1 ∧ RelV p.2.2 q.2.2
/-- the dict's own object -/
def RawN (P : Program) (w : World) (h : Heap) (a : Addr) (ys : NYs) : Prop := ∃ o es ep, h.get? a = some o ∧ o.ExactDict ∧ o.data = .dict es ep ∧ es.toList = ys.map (entryOfKey (nestedKind P w)) ∧ (ys.map (·.1)).Nodup
def DNo (P : Program) (w : World) : DPhi := fun a xs => .ext fun h => xs.length ≤ sizeLine ∧ (a == sysModules) = false ∧ ∃ ys, EqY xs ys ∧ RawN P w h a ys
theorem dno_ok {P : Program} {w : World} {H : Hp} {h : Heap} {a : Addr} {xs : List (NestedKey × Addr × V)} {ys : NYs} (hz : xs.length ≤ sizeLine) (hsm : (a == sysModules) = false) (r : EqY xs ys) (x : RawN P w h a ys) : ObjOk P w H h a (DNo P w a xs) := by
  refine ⟨⟨hz, hsm, ys, r, x⟩, ?_, fun h1 h2 q st => ?_⟩
  · obtain ⟨o, es, ep, ho, _⟩ := x
    exact ⟨o, ho⟩
  · obtain ⟨z1, z2, ys', r', o, es, ep, ho, x'⟩ := q
    exact ⟨z1, z2, ys', r', o, es, ep, st _ ho, x'⟩

/-- a key that may stand in such a dict -/
def kOk (k : U) : Prop := ∃ nk, nkU k = some nk ∧ nk.depth ≤ 8
def getN (kvs : List (U × U)) (k : U) : Option U := (kvs.find? fun kv => decide (nkU kv.1 = nkU k)).map (·.2)
def putN (kvs : List (U × U)) (k v : U) : List (U × U) := if (getN kvs k).isSome = true then kvs.map (fun kv => if nkU kv.1 = nkU k then (kv.1, v) else kv) else kvs ++ [(k, v)]
theorem putN_len (kvs : List (U × U)) (k v : U) : (putN kvs k v).length ≤ kvs.length + 1 := by
  unfold putN
  split
  · simp
  · simp
section
variable {X : Cx} {pins : List (Addr × Obj)} {τ : L2.St} {H : Hp} {s : Shared}
mutual
/-- a key by value is such a key in the heap -/
theorem nested_of (I : Inv X pins τ H s) : ∀ {k : U} {nk : NestedKey} {v : V} {u : Value}, RelU X.K H k v → nkU k = some nk → RelV v u → NestedIs s.heap nk u
  | .non, nk, v, u, r, e, rv => by
    obtain rfl := r; simp [nkU] at e; subst e
    obtain rfl : u = Value.none := rv
    exact .none
  | .int i, nk, v, u, r, e, rv => by
    obtain rfl := r; simp [nkU] at e; subst e
    obtain ⟨t, rfl⟩ := (show ∃ t, u = Value.int i t from rv)
    exact .int i t
  | .str x, nk, v, u, r, e, rv => by
    obtain ⟨rfl, _⟩ := r; simp [nkU] at e; subst e
    obtain ⟨t, rfl⟩ := (show ∃ t, u = Value.str x t from rv)
    exact .text x t
  | .tup xs, nk, v, u, r, e, rv => by
    obtain ⟨a, vs, rfl, q, t⟩ := r
    obtain rfl : u = Value.ref a := rv
    obtain ⟨its, rr, ⟨⟨cls, dd, data, sl⟩, ho, hc, n, hd⟩, hs⟩ := I.tuple q.t
    simp only at hc hd
    simp only [nkU,Option.map_eq_some_iff] at e
    obtain ⟨ks, e1, rfl⟩ := e
    refine .tup ho hc hd ?_
    have := nesteds_of I t e1 rr
    simpa using this
  | .bl _, _, _, _, _, e, _ => by simp [nkU] at e
  | .ref _, _, _, _, _, e, _ => by simp [nkU] at e
  | .ty _, _, _, _, _, e, _ => by simp [nkU] at e
  | .lst _, _, _, _, _, e, _ => by simp [nkU] at e
theorem nesteds_of (I : Inv X pins τ H s) : ∀ {ks : List U} {nks : List NestedKey} {vs : List V} {us : List Value}, RelUs X.K H ks vs → nkUs ks = some nks → Vals vs us → NestedAll s.heap nks us
  | [], nks, vs, us, r, e, rv => by
    obtain rfl := r; simp [nkUs] at e; subst e
    cases rv; exact .nil
  | k :: ks, nks, vs, us, r, e, rv => by
    obtain ⟨v, t, rfl, q, tt⟩ := r
    cases rv with
    | cons r1 r2 =>
      simp only [nkUs] at e
      cases e1 : nkU k with
      | none => rw [e1] at e; simp at e
      | some nk =>
        cases e2 : nkUs ks with
        | none => rw [e1, e2] at e; simp at e
        | some nks2 =>
          rw [e1, e2] at e; simp at e; subst e
          exact .cons (nested_of I q e1 r1) (nesteds_of I tt e2 r2)
end
/-- both at once: the pairs by value, and the entries -/
inductive RelY (K : PySem.W.Frag) (H : Hp) : List (U × U) → NYs → Prop
  | nil : RelY K H [] []
  | cons {k x nk b v u r ys} : nkU k = some nk → nk.depth ≤ 8 → RelU K H k (.ref b) → RelU K H x v → RelV v u → RelY K H r ys → RelY K H ((k, x) :: r) ((nk, b, u) :: ys)
theorem relY_of {K : PySem.W.Frag} : ∀ {kvs : List (U × U)} {xs : List (NestedKey × Addr × V)} {ys : NYs}, RelDs K H kvs xs → EqY xs ys → RelY K H kvs ys
  | [], xs, ys, h, e => by
    obtain rfl := h
    cases e; exact .nil
  | (k, x) :: r, xs, ys, h, e => by
    obtain ⟨nk, b, v, r', rfl, h1, h2, h3, h4, h5⟩ := h
    cases e with
    | @cons p q ps qs hh tt =>
      obtain ⟨e1, e2, e3⟩ := hh
      obtain ⟨q1, q2, q3⟩ := q
      dsimp only at e1 e2 e3
      subst e1 e2
      exact .cons h1 h2 h3 h4 e3 (relY_of h5 tt)
theorem relY_ds {K : PySem.W.Frag} {kvs : List (U × U)} {ys : NYs} (h : RelY K H kvs ys) : ∃ xs, RelDs K H kvs xs ∧ EqY xs ys := by
  induction h with
  | nil => exact ⟨[], rfl, .nil⟩
  | @cons k x nk b v u r ys h1 h2 h3 h4 h5 _ ih =>
    obtain ⟨xs, q1, q2⟩ := ih
    exact ⟨(nk, b, v) :: xs, ⟨nk, b, v, xs, rfl, h1, h2, h3, h4, q1⟩, .cons ⟨rfl, rfl, h5⟩ q2⟩
theorem RelY.stab {K : PySem.W.Frag} {H' : Hp} (s : Stab H H') {kvs : List (U × U)} {ys : NYs} (h : RelY K H kvs ys) : RelY K H' kvs ys := by
  induction h with
  | nil => exact .nil
  | cons h1 h2 h3 h4 h5 _ ih => exact .cons h1 h2 (h3.stab s) (h4.stab s) h5 ih
theorem RelY.length {K : PySem.W.Frag} {kvs : List (U × U)} {ys : NYs} (h : RelY K H kvs ys) : kvs.length = ys.length := by
  induction h with
  | nil => rfl
  | cons _ _ _ _ _ _ ih => simp [ih]
theorem RelY.get {K : PySem.W.Frag} {kvs : List (U × U)} {ys : NYs} (h : RelY K H kvs ys) {k : U} {nk : NestedKey} (e : nkU k = some nk) :
    (∃ x p v, getN kvs k = some x ∧ atKey ys nk = some p ∧ RelU K H x v ∧ RelV v p.2) ∨ (getN kvs k = none ∧ atKey ys nk = none) := by
  induction h with
  | nil => exact .inr ⟨rfl, rfl⟩
  | @cons k' x nk' b v u r ys h1 h2 h3 h4 h5 _ ih =>
    by_cases hk : nk' = nk
    · subst hk
      refine .inl ⟨x, (b, u), v, ?_, ?_, h4, h5⟩
      · simp [getN, h1, e]
      · simp [atKey]
    · have e1 : ¬ nkU k' = nkU k := by rw [h1, e]; exact fun z => hk (Option.some.inj z)
      have g1 : getN ((k', x) :: r) k = getN r k := by simp [getN, e1]
      have g2 : atKey ((nk', b, u) :: ys) nk = atKey ys nk := by simp [atKey, hk]
      rw [g1, g2]
      exact ih
theorem RelY.map {K : PySem.W.Frag} {kvs : List (U × U)} {ys : NYs} (h : RelY K H kvs ys) {k y : U} {nk : NestedKey} {v : V} {u : Value} (e : nkU k = some nk) (ry : RelU K H y v) (rv : RelV v u) :
    RelY K H (kvs.map (fun kv => if nkU kv.1 = nkU k then (kv.1, y) else kv)) (ys.map (putAt nk u)) := by
  induction h with
  | nil => exact .nil
  | @cons k' x nk' b v' u' r ys h1 h2 h3 h4 h5 _ ih =>
    rw [List.map_cons, List.map_cons]
    by_cases hk : nk' = nk
    · subst hk
      rw [if_pos (h1.trans e.symm), putAt, if_pos rfl]
      exact .cons h1 h2 h3 ry rv ih
    · rw [if_neg (fun z => hk (Option.some.inj (by rw [← h1, ← e]; exact z))), putAt, if_neg hk]
      exact .cons h1 h2 h3 h4 h5 ih
theorem RelY.snoc {K : PySem.W.Frag} {kvs : List (U × U)} {ys : NYs} (h : RelY K H kvs ys) {k y : U} {nk : NestedKey} {b : Addr} {v : V} {u : Value} (e : nkU k = some nk) (hd : nk.depth ≤ 8) (rk : RelU K H k (.ref b)) (ry : RelU K H y v) (rv : RelV v u) :
    RelY K H (kvs ++ [(k, y)]) (ys ++ [(nk, b, u)]) := by
  induction h with
  | nil => exact .cons e hd rk ry rv .nil
  | cons h1 h2 h3 h4 h5 _ ih => exact .cons h1 h2 h3 h4 h5 ih
theorem RelY.put {K : PySem.W.Frag} {kvs : List (U × U)} {ys : NYs} (h : RelY K H kvs ys) {k y : U} {nk : NestedKey} {b : Addr} {v : V} {u : Value} (e : nkU k = some nk) (hd : nk.depth ≤ 8) (rk : RelU K H k (.ref b)) (ry : RelU K H y v) (rv : RelV v u) :
    RelY K H (putN kvs k y) (storedH ys nk b u) := by
  unfold putN storedH
  rcases h.get e with ⟨x, p, w, e1, e2, _⟩ | ⟨e1, e2⟩
  · rw [e1, e2]; exact h.map e ry rv
  · rw [e1, e2]; exact h.snoc e hd rk ry rv
/-- all that is known of such a dict -/
theorem dn_at (I : Inv X pins τ H s) {M : UHp} (rm : RelM X.K H M) {a : Addr} {kvs : List (U × U)} (e : M a = some (.dN (DNo X.prog X.w) kvs)) :
    ∃ xs ys, H a = some (DNo X.prog X.w a xs) ∧ RelDs X.K H kvs xs ∧ EqY xs ys ∧ RelY X.K H kvs ys ∧ kvs.length ≤ sizeLine ∧ (a == sysModules) = false ∧ s.heap.DictOfH (nestedKind X.prog X.w) a ys := by
  obtain ⟨xs, hH, rd⟩ := rm a _ e
  obtain ⟨hz, hsm, ys, ey, o, es, ep, ho, hc, hd, he, hn⟩ := (show ObjOk X.prog X.w H s.heap a (DNo X.prog X.w a xs) from I.hok a _ hH).1
  have ry := relY_of rd ey
  refine ⟨xs, ys, hH, rd, ey, ry, ?_, hsm, o, es, ep, ho, hc, hd, he, ?_, hn⟩
  · rw [ry.length, ← Paired.length ey]; exact hz
  · have all : ∀ {kvs : List (U × U)} {ys : NYs}, RelY X.K H kvs ys → ∀ x ∈ ys, (nestedKind X.prog X.w).is s.heap x.1 x.2.1 := by
      intro kvs ys h
      induction h with
      | nil => intro x hx; cases hx
      | cons h1 h2 h3 h4 h5 _ ih =>
        intro x hx
        rcases List.mem_cons.mp hx with rfl | hx
        · exact ⟨nested_of I h3 h1 rfl, h2⟩
        · exact ih x hx
    exact all ry
theorem key_is (I : Inv X pins τ H s) {k : U} {v : V} {u : Value} (h : kOk k) (r : RelU X.K H k v) (rv : RelV v u) (ht : ∃ xs, k = .tup xs) : ∃ b nk, u = .ref b ∧ v = .ref b ∧ nkU k = some nk ∧ nk.depth ≤ 8 ∧ (nestedKind X.prog X.w).is s.heap nk b := by
  obtain ⟨nk, e, hd⟩ := h
  obtain ⟨xs, rfl⟩ := ht
  have r' := r
  obtain ⟨a, vs, rfl, q, t⟩ := r'
  obtain rfl : u = Value.ref a := rv
  exact ⟨a, nk, rfl, rfl, e, hd, nested_of I r e rfl, hd⟩
end

/-! ### the rules -/
section
variable {X : Cx} {φ : DPhi}
/-- {} -/
def uDNew (φ : DPhi) (_ : USt) (M : UHp) (Q : UK) : Prop := ∀ p, M p = none → Q (.ref p) (updM M p (.dN φ []))
/-- d[k] = v -/
def setN (φ : DPhi) (o i v : U) (M : UHp) (Q : UHp → Prop) : Prop := ∃ a kvs xs, o = .ref a ∧ i = .tup xs ∧ M a = some (.dN φ kvs) ∧ kOk i ∧ kvs.length < sizeLine ∧ Q (updM M a (.dN φ (putN kvs i v)))
/-- d[k] -/
def uDGet (φ : DPhi) (td ty : UTE) (σ : USt) (M : UHp) (Q : UK) : Prop := td σ M fun o M1 => ty σ M1 fun y M2 => ∃ a kvs xs v, o = .ref a ∧ y = .tup xs ∧ M2 a = some (.dN φ kvs) ∧ kOk y ∧ getN kvs y = some v ∧ Q v M2
theorem ue_dget {o i : Expr} {pos : Pos} {td ty : UTE} (hφ : DNo X.prog X.w = φ) (hu : X.A.units + 200 < cLine) (ho : UE X o td) (hi : UE X i ty) (hs : NoSl i) : UE X (.Subscript o i pos) (uDGet φ td ty) := by
  subst hφ
  refine ⟨fun pins s τ H Q I h => ?_⟩
  obtain ⟨σ, M, Qu, rs, rm, q, up⟩ := h
  refine subD_of PySem.F.slot_dict_getitem.lookup hs (thn (ho.run pins s τ H (fun v1 H1 => ∃ x M1, RelU X.K H1 x v1 ∧ RelM X.K H1 M1 ∧ Stab H H1 ∧ ty σ M1 (fun y M2 => ∃ a kvs xs v, x = .ref a ∧ y = .tup xs ∧ M2 a = some (.dN (DNo X.prog X.w) kvs) ∧ kOk y ∧ getN kvs y = some v ∧ Qu v M2)) I
    ⟨σ, M, _, rs, rm, q, fun x M1 v1 H1 q1 s1 m1 r1 => ⟨x, M1, r1, m1, s1, q1⟩⟩) fun u s1 ⟨v1, H1, I1, rx, x, M1, r1, m1, st1, q1⟩ => ?_)
  refine thn (hi.run pins s1 τ H1 (fun v2 H2 => ∃ y M2, RelU X.K H2 y v2 ∧ RelM X.K H2 M2 ∧ Stab H1 H2 ∧ ∃ a kvs xs v, x = .ref a ∧ y = .tup xs ∧ M2 a = some (.dN (DNo X.prog X.w) kvs) ∧ kOk y ∧ getN kvs y = some v ∧ Qu v M2) I1
    ⟨σ, M1, _, rs.stab st1, m1, q1, fun y M2 v2 H2 q2 s2 m2 r2 => ⟨y, M2, r2, m2, s2, q2⟩⟩) fun iv s2 ⟨v2, H2, I2, ry, y, M2, r2, m2, st2, a, kvs, xs, v, e1, e2, e3, hk, hg, q2⟩ => ?_
  subst e1 e2
  obtain rfl := r1
  obtain rfl : u = Value.ref a := rx
  obtain ⟨xs0, ys, hH, rd, ey, ryy, hz, hsm, dd⟩ := dn_at I2 m2 e3
  obtain ⟨b, nk, rfl, rfl, e1, hd, his⟩ := key_is I2 hk r2 ry ⟨xs, rfl⟩
  rcases ryy.get e1 with ⟨x, p, w, g1, g2, g3, g4⟩ | ⟨g1, _⟩
  · rw [hg] at g1
    cases g1
    exact ⟨dd.typeIs, wpAny_getItem_heap (by show X.A.in1.units + 8 < cLine; have : X.A.in1.units = X.A.units + 1 := rfl; omega) his dd g2 ⟨w, H2, I2.tok _, g4, up _ _ _ _ q2 (st1.trans st2) m2 g3⟩⟩
  · rw [hg] at g1; cases g1
/-- k in d, k not in d -/
def inN (φ : DPhi) (neg : Bool) (y o : U) (M : UHp) (Q : UK) : Prop := ∃ a kvs xs, o = .ref a ∧ y = .tup xs ∧ M a = some (.dN φ kvs) ∧ kOk y ∧ Q (.bl (if neg = true then !(getN kvs y).isSome else (getN kvs y).isSome)) M
theorem uo_notinN (hφ : DNo X.prog X.w = φ) (hu : X.A.units + 200 < cLine) : UOpR X (compareOp .NotIn) (inN φ true) := by
  subst hφ
  refine fun pins s τ H vy vo u o Q I ry ro h => ?_
  obtain ⟨y, x, M, Qu, r1, r2, rm, q, up⟩ := h
  obtain ⟨a, kvs, xs, rfl, rfl, e, hk, q⟩ := q
  obtain rfl := r2
  obtain rfl : o = Value.ref a := ro
  obtain ⟨xs0, ys, hH, rd, ey, ryy, hz, hsm, dd⟩ := dn_at I rm e
  obtain ⟨b, nk, rfl, rfl, e1, hd, his⟩ := key_is I hk r1 ry ⟨xs, rfl⟩
  refine wpAny_notIn_heap (by show X.A.in1.units + 8 < cLine; have : X.A.in1.units = X.A.units + 1 := rfl; omega) his hsm dd ?_
  have es : (atKey ys nk).isSome = (getN kvs (.tup xs)).isSome := by
    rcases ryy.get e1 with ⟨x, p, w, g1, g2, _⟩ | ⟨g1, g2⟩
    · rw [g1, g2]; rfl
    · rw [g1, g2]; rfl
  rw [es]
  exact ⟨.bl _, H, I.tok _, rfl, up _ _ _ _ q (Stab.refl H) rm rfl⟩
end
end PU

set_option Elab.async false
set_option linter.all false
set_option maxRecDepth 100000
/-! USort: sorted, of tuples: a dict's keys, a list. -/
namespace PU
open PySem PySem.Spec PyProof.Rows L2

def encU (x : U) : PyData := (toD x).getD .none
def kleU : U → U → Bool := PySem.W.dataLe false encU
def srtU (ks : List U) : List U := ks.mergeSort kleU
/-- what can be sorted: tuples, none empty, that can be compared with one another -/
structure SrtK (ks : List U) : Prop where
  d : ∀ k ∈ ks, isD k = true ∧ dep k ≤ 100
  t : ∀ k ∈ ks, ∃ x r, k = .tup (x :: r)
  a : ∀ a ∈ ks, ∀ b ∈ ks, PySem.W.alike (encU a) (encU b) = true
section
variable {X : Cx} {pins : List (Addr × Obj)} {τ : L2.St} {H : Hp} {s : Shared}
abbrev RelVU (K : PySem.W.Frag) (H : Hp) (v : Value) (k : U) : Prop := ∃ vv, RelU K H k vv ∧ RelV vv v
theorem each_of {K : PySem.W.Frag} : ∀ {ks : List U} {vs : List V} {us : List Value}, RelUs K H ks vs → Vals vs us → PySem.W.EachIs (RelVU K H) us ks
  | [], vs, us, r, rv => by obtain rfl := r; cases rv; exact .nil
  | k :: ks, vs, us, r, rv => by
    obtain ⟨v, t, rfl, q, tt⟩ := r
    cases rv with
    | cons r1 r2 => exact .cons ⟨v, q, r1⟩ (each_of tt r2)
theorem each_back {K : PySem.W.Frag} {ks : List U} {us : List Value} (h : PySem.W.EachIs (RelVU K H) us ks) : ∃ vs, RelUs K H ks vs ∧ Vals vs us := by
  induction h with
  | nil => exact ⟨[], rfl, .nil⟩
  | cons h1 _ ih =>
    obtain ⟨v, q1, q2⟩ := h1
    obtain ⟨vs, q3, q4⟩ := ih
    exact ⟨v :: vs, RelUs.cons q1 q3, .cons q2 q4⟩
theorem encU_of {k : U} (h : isD k = true) : toD k = some (encU k) := by
  obtain ⟨d, e, _⟩ := toD_some k h
  unfold encU
  rw [e]; rfl
theorem reads_of (I : Inv X pins τ H s) {k : U} {u : Value} (h : isD k = true) (r : RelVU X.K H u k) : ∃ as, Reads s.heap u (encU k) as := by
  obtain ⟨v, r1, r2⟩ := r
  exact Dp.reads I _ v u (dp_of k v _ r1 (encU_of h)) r2
theorem each_reads (I : Inv X pins τ H s) {ks : List U} {us : List Value} (h : PySem.W.EachIs (RelVU X.K H) us ks) (hd : ∀ k ∈ ks, isD k = true) : PySem.W.EachIs (fun v k => ∃ as, Reads s.heap v (encU k) as) us ks := by
  induction h with
  | nil => exact .nil
  | cons h1 _ ih => exact .cons (reads_of I (hd _ (by simp)) h1) (ih fun k hk => hd k (by simp [hk]))
theorem SrtK.alike {ks : List U} (h : SrtK ks) : PySem.W.AllAlike (ks.map encU) := fun d hd d' hd' => by
  obtain ⟨a, ha, rfl⟩ := List.mem_map.mp hd
  obtain ⟨b, hb, rfl⟩ := List.mem_map.mp hd'
  exact h.a a ha b hb
end
section
variable {X : Cx} {φ : DPhi}
def sortN (φ : DPhi) (m : Bool) (xs : List U) (M : UHp) (Q : UK) : Prop := match xs with
  | [.ref a] => ∃ kvs, M a = some (.dN φ kvs) ∧ SrtK (kvs.map (·.1)) ∧ newL m (srtU (kvs.map (·.1))) M Q
  | _ => False
theorem each_keys {K : PySem.W.Frag} {H : Hp} {kvs : List (U × U)} {ys : NYs} (h : RelY K H kvs ys) : PySem.W.EachIs (RelVU K H) (ys.map fun y => Value.ref y.2.1) (kvs.map (·.1)) := by
  induction h with
  | nil => exact .nil
  | cons h1 h2 h3 h4 h5 _ ih => exact .cons ⟨_, h3, rfl⟩ ih
end
end PU

set_option Elab.async false
set_option linter.all false
set_option maxRecDepth 100000
/-! USortK: sorted(list, key=own def). -/
namespace PU
open PySem PySem.Spec PyProof.Rows L2

/-- the keys by which a list is sorted: alike, comparable -/
structure SrtA (ks : List U) : Prop where
  d : ∀ k ∈ ks, isD k = true ∧ dep k ≤ 100
  a : PySem.W.AllAlike (ks.map encU)
  s : PySem.W.Sortable (ks.map encU)
/-- in the order of the keys, stably -/
def srtKey (kf : U → U) (ks : List U) : List U := ks.mergeSort (PySem.W.dataLe false fun k => encU (kf k))
section
variable {X : Cx} {pins : List (Addr × Obj)} {τ : L2.St} {H : Hp} {s : Shared}
end
section
variable {X : Cx}
def sortK (m : Bool) (sp : USp) (xs : List U) (M : UHp) (Q : UK) : Prop := ∃ x ks kf, xs = [x] ∧ listU M x = some ks ∧ ks.length ≤ sizeLine ∧ (∀ y ∈ ks, ∀ Q' : UK, Q' (kf y) M → sp [y] M Q' EU0) ∧ SrtA (ks.map kf) ∧ newL m (srtKey kf ks) M Q
def uSortK (m : Bool) (sp : USp) (t : UTA) (σ : USt) (M : UHp) (Q : UK) : Prop := t σ M fun xs M1 => sortK m sp xs M1 Q
end
end PU

set_option Elab.async false
set_option linter.all false
set_option maxRecDepth 100000
/-! UTry: try with several clauses, each with a name or without; for with a body that may raise. -/
namespace L2
open PySem PySem.Spec PyProof.Rows
abbrev HCls := Value × Option Nat × (Addr → Value → Option Addr → TS)
/-- behind a suite whose name is slot i's -/
def offE (i : Nat) (D : Ends) : Ends := { nx := fun σ H => D.nx (σ.set i none) H, rt := D.rt, bk := fun σ H => D.bk (σ.set i none) H, ct := fun σ H => D.ct (σ.set i none) H }
def wMix (K : PySem.W.Frag) (Wout : WX) (D : Ends) : List HCls → WX
  | [] => Wout
  | (c, o, ts) :: r => fun cls d σ H => ∃ b, PySem.W.exmOne K cls c = some b ∧
      (b = true → ∀ a, H a = none → match o with | none => ts a cls d D σ H | some i => ts a cls d (offE i D) (σ.set i (some (.ref a))) H) ∧ (b = false → wMix K Wout D r cls d σ H)
inductive HdsMix (X : Cx) : List ExceptHandler → List HCls → Prop
  | nil : HdsMix X [] []
  | bare {x : Str} {c : Value} {ts : Addr → Value → Option Addr → TS} {b₀ : Stmt} {suite : List Stmt} {np pos' : Pos} {hds : List ExceptHandler} {l : List HCls} (hc : Names X x c)
      (hsu : ∀ (a : Addr) (oe : Obj) (cls : Value) (d : Option Addr) (pn : List (Addr × Obj)), Zc cls d oe → (∃ vs, oe.data = .fields vs) → PSs (X.suite a ((a, oe) :: pn)) (b₀ :: suite) (ts a cls d)) (r : HdsMix X hds l) :
      HdsMix X (.ExceptHandler (some (.Name x np)) none (b₀ :: suite) pos' :: hds) ((c, none, ts) :: l)
  | named {x n : Str} {i : Nat} {c : Value} {ts : Addr → Value → Option Addr → TS} {b₀ : Stmt} {suite : List Stmt} {np pos' : Pos} {hds : List ExceptHandler} {l : List HCls} (hc : Names X x c) (hN : X.N.Nodup) (hi : X.N[i]? = some n) (hln : X.env.kindOf n = some .local)
      (hsu : ∀ (a : Addr) (oe : Obj) (cls : Value) (d : Option Addr) (pn : List (Addr × Obj)), Zc cls d oe → (∃ vs, oe.data = .fields vs) → PSs (X.suite a ((a, oe) :: pn)) (b₀ :: suite) (ts a cls d)) (r : HdsMix X hds l) :
      HdsMix X (.ExceptHandler (some (.Name x np)) (some n) (b₀ :: suite) pos' :: hds) ((c, some i, ts) :: l)
section
variable {X : Cx} {body : List Stmt} {h₀ : ExceptHandler} {hds : List ExceptHandler} {l : List HCls} {pos : Pos} {tb : WX → TS} {Wout : WX}
theorem ps_try_mix (hs : X.stack = X.env :: X.outer) (hf : X.env.frame = some X.env.locals) (tk : Takes X Wout)
    (hb : ∀ (W : WX) (pn : List (Addr × Obj)) (xe : Value → Shared → Prop), Takes (X.tr pn xe) W → PassesOwn (model X.prog X.w) X.A X.env xe → PSs (X.tr pn xe) body (tb W))
    (hh : HdsMix X (h₀ :: hds) l) : PS X (.Try body (h₀ :: hds) [] [] pos) (fun D σ H => tb (wMix X.K Wout D l) D σ H) := by
  refine ⟨fun pins s σ H D I h => ?_⟩
  have ok := I.ok
  have hfr : X.A.frames = some (X.env :: X.outer) := by rw [ok.frames, hs]
  refine wpAny_Try_except ?_
  refine wpAny_mono ((hb (wMix X.K Wout D l) (X.pn ++ pins) (fun e s₁ => wpAny (model X.prog X.w) X.A (noteFrame e X.env) (fun _ s₂ => wpAny (model X.prog X.w) X.A (setFlight e none) (fun _ s₃ =>
    wpAny (model X.prog X.w) X.A (handleBy e X.env (h₀ :: hds)) (SP X pins D) X.xe s₃) X.xe s₂) X.xe s₁) (fun u s' xx => ?_) PassesOwn.looking).run [] s σ H D (I.toTry _) h) (fun f s1 hsp => ?_) (fun e s1 he => he)
  · obtain ⟨a, B, sI, pins', σ', H', cls, d, rfl, J', nb, up, sky, na, os, ag, w⟩ := xx
    have J : Inv X pins σ' H' sI := J'.ofTry ok
    have sky' : Sky B (X.env :: X.outer) a (Zc cls d) X.env.locals s'.heap := by rw [← hs]; exact sky
    show wpAny (model X.prog X.w) X.A (noteFrame (.ref a) X.env) _ _ _
    refine Sky.land Zc.steady hfr hf sky' fun h3 fl3 up3 => ?_
    have J3 : Inv X pins σ' H' { s' with heap := h3 } := J.landed nb fl3.1 (up.trans up3) os ag
    obtain ⟨oe3, vs3, he3, hz3, hd3⟩ := fl3.there
    have nfr : a ∉ frs (X.env :: X.outer) := fun hm => by
      obtain ⟨_, o', e', hnf⟩ := fl3.2.2.1.mem hm
      rw [he3] at e'; cases e'
      exact hnf _ hd3
    have nL : a ≠ X.env.locals := fun z => nfr (List.mem_filterMap.mpr ⟨X.env, List.mem_cons_self, by rw [hf, z]⟩)
    have nF : a ∉ X.fs := fun hm => by
      obtain ⟨e, he, q⟩ := List.mem_filterMap.mp hm
      exact nfr (List.mem_filterMap.mpr ⟨e, List.mem_cons_of_mem _ he, q⟩)
    have S3 := J3.suite he3 hd3 na nL nF
    have LT : PySem.W.Looks (model X.prog X.w) h3 (typeOf (.ref a)) cls := fun A Q E s k q => wpAny_typeOf_ref (k _ _ he3) (by rw [hz3.1]; exact q)
    have test : ∀ {x : Str} {c : Value} {np : Pos} {Q : Value → Shared → Prop} {E : Value → Shared → Prop}, Names X x c → Q c { s' with heap := h3 } → wpAny (model X.prog X.w) (X.A.mark (some (.ref a))) (eval (.Name x np) X.env) Q E { s' with heap := h3 } := fun {x c np Q E} hc q => by
      obtain ⟨hg, hdbg, hm | ⟨hm, hv, hnn⟩⟩ := hc
      · exact ld_glob (X := X.suite a ((a, oe3) :: (X.pn ++ pins))) S3 hg hm q hdbg
      · exact ld_blt (X := X.suite a ((a, oe3) :: (X.pn ++ pins))) S3 hg hm hv q hnn hdbg
    have go : ∀ {hds' : List ExceptHandler} {l' : List HCls}, HdsMix X hds' l' → wMix X.K Wout D l' cls d σ' H' →
        wpAny (model X.prog X.w) X.A (handleBy (.ref a) X.env hds') (SP X pins D) X.xe { s' with heap := h3 } := by
      intro hds' l' hk
      induction hk with
      | nil =>
        intro w
        refine wpAny_handleBy_nil ?_
        obtain ⟨_, _, _, oe, vs, T, _, _, he, _, hd, h1, _⟩ := id fl3
        unfold PySem.passOn
        refine wpAny_bind (wpAny_field he hd h1 ?_)
        rw [if_neg (show ¬ ((Value.ref T == Value.none) = true) from by simp)]
        have fin : wpAny (model X.prog X.w) X.A (setFlight (.ref a) X.env.frame) (fun _ s4 => wpAny (model X.prog X.w) X.A (throw (.ref a) : Sem Flow) (SP X pins D) X.xe s4) X.xe { s' with heap := h3 } := by
          rw [hf]
          refine HandSPX.setFlight_upZ fl3 fun h4 hh4 up4 => wpAny_throw (tk _ _ ?_)
          exact ⟨a, B, sI, pins, σ', H', cls, d, rfl, J, nb, (up.trans up3).trans up4, .inr (.inr (by rw [hs]; exact hh4)), na, os, ag, w⟩
        first
          | exact wpAny_bind (wpAny_pure (wpAny_bind fin))
          | exact wpAny_bind fin
      | bare hc hsu r ih =>
        intro w
        obtain ⟨b, hb1, hyes, hno⟩ := w
        refine wpAny_handleBy_cons (codeAny_handlers_test ?_) (by intro q; cases q)
        have LM := PySem.W.exm_one (M := model X.prog X.w) (J3.kIn) LT hb1
        refine test hc (LM.here ?_)
        cases b with
        | false => exact ih (hno rfl)
        | true =>
          refine codeAny_handlers_suite ?_
          refine HandSPX.lands_againZ fl3 fun h4 fl4 up4 => ?_
          have J4 : Inv X pins σ' H' { s' with heap := h4 } := J.landed nb fl4.1 ((up.trans up3).trans up4) os ag
          obtain ⟨oe4, vs4, he4, hz4, hd4⟩ := fl4.there
          have S4 := J4.suite he4 hd4 na nL nF
          refine wpAny_mono ((hsu a _ cls d (X.pn ++ pins) hz4 ⟨_, hd4⟩).run [] _ _ H' _ S4 (hyes rfl a na)) (fun f s6 hsp => ?_) (fun _ _ z => False.elim z)
          cases f with
          | ret u =>
            obtain ⟨v6, σ6, H6, S6, r6, q6⟩ := hsp
            exact ⟨_, _, _, S6.unsuite ok, r6, q6⟩
          | _ =>
            obtain ⟨σ6, H6, S6, q6⟩ := hsp
            exact ⟨_, _, S6.unsuite ok, q6⟩
      | named hc hN hi hln hsu r ih =>
        rename_i n i c ts b₀ suite np pos' hds2 l2
        intro w
        obtain ⟨b, hb1, hyes, hno⟩ := w
        refine wpAny_handleBy_cons (codeAny_handlers_test ?_) (by intro q; cases q)
        have LM := PySem.W.exm_one (M := model X.prog X.w) (J3.kIn) LT hb1
        refine test hc (LM.here ?_)
        cases b with
        | false => exact ih (hno rfl)
        | true =>
          refine codeAny_handlers_suite_as ?_
          refine HandSPX.lands_againZ fl3 fun h4 fl4 up4 => ?_
          have J4 : Inv X pins σ' H' { s' with heap := h4 } := J.landed nb fl4.1 ((up.trans up3).trans up4) os ag
          obtain ⟨oe4, vs4, he4, hz4, hd4⟩ := fl4.there
          have S4 := J4.suite he4 hd4 na nL nF
          refine store_ok (X := X.suite a ((a, oe4) :: (X.pn ++ pins))) (v := .ref a) S4 hN hi (.inl hln) rfl (fun s5 S5 => ?_) (.inr hln)
          refine wpAny_mono ((hsu a oe4 cls d (X.pn ++ pins) hz4 ⟨_, hd4⟩).run [] s5 _ H' _ S5 (hyes rfl a na)) (fun f s6 hsp => ?_) (fun _ _ z => False.elim z)
          have end_ : ∀ {σ6 : St} {H6 : Hp} {Q : Shared → Prop}, Inv (X.suite a ((a, oe4) :: (X.pn ++ pins))) [] σ6 H6 s6 → (∀ s7, Inv X pins (σ6.set i none) H6 s7 → Q s7) →
              wpAny (model X.prog X.w) X.A (do bindName X.env n .none; unbindBehindTheSuite X.env n pos') (fun _ s7 => Q s7) X.xe s6 := fun {σ6 H6 Q} S6 hq => gone_ok (S6.unsuite ok) hN hi hln hq
          cases f with
          | ret u =>
            obtain ⟨v6, σ6, H6, S6, r6, q6⟩ := hsp
            exact end_ S6 fun s7 J7 => ⟨_, _, _, J7, r6, q6⟩
          | _ =>
            obtain ⟨σ6, H6, S6, q6⟩ := hsp
            exact end_ S6 fun s7 J7 => ⟨_, _, J7, q6⟩
    exact go hh w
  · cases f with
    | next =>
      obtain ⟨σ', H', J', q⟩ := hsp
      exact wpAny_execs_nil ⟨σ', H', J'.ofTry ok, q⟩
    | ret u =>
      obtain ⟨v, σ', H', J', r, q⟩ := hsp
      exact ⟨v, σ', H', J'.ofTry ok, r, q⟩
    | brk =>
      obtain ⟨σ', H', J', q⟩ := hsp
      exact ⟨σ', H', J'.ofTry ok, q⟩
    | cont =>
      obtain ⟨σ', H', J', q⟩ := hsp
      exact ⟨σ', H', J'.ofTry ok, q⟩
end
end L2
namespace PU
open PySem PySem.Spec PyProof.Rows L2
abbrev UCls := Value × Option Nat × (Addr → Value → Option Addr → UTS)
/-- what the clauses wish -/
def uMix (ex : Value → Value → Option Bool) (w : UWX) (D : UEnds) : List UCls → UWX
  | [] => w
  | (c, o, u) :: r => fun cls d σ M => ∃ b, ex cls c = some b ∧
      (b = true → ∀ a, M a = none → match o with | none => u a cls d D σ M | some i => u a cls d (asD i D) (σ.set i (some (.ref a))) M) ∧ (b = false → uMix ex w D r cls d σ M)
def xTryM (ex : Value → Value → Option Bool) (l : List UCls) (t : UWX → UTS) (w : UWX) (D : UEnds) (σ : USt) (M : UHp) : Prop := t (uMix ex w D l) D σ M
inductive UHds (X : Cx) (K : PySem.W.Frag) : List ExceptHandler → List UCls → Prop
  | nil : UHds X K [] []
  | bare {x : Str} {c : Value} {u : Addr → Value → Option Addr → UTS} {b₀ : Stmt} {suite : List Stmt} {np pos' : Pos} {hds : List ExceptHandler} {l : List UCls} (hc : Names X x c)
      (hsu : ∀ (a : Addr) (oe : Obj) (cls : Value) (d : Option Addr) (pn : List (Addr × Obj)), Zc cls d oe → (∃ vs, oe.data = .fields vs) → USs (X.suite a ((a, oe) :: pn)) (b₀ :: suite) (u a cls d)) (r : UHds X K hds l) :
      UHds X K (.ExceptHandler (some (.Name x np)) none (b₀ :: suite) pos' :: hds) ((c, none, u) :: l)
  | named {x n : Str} {i : Nat} {c : Value} {u : Addr → Value → Option Addr → UTS} {b₀ : Stmt} {suite : List Stmt} {np pos' : Pos} {hds : List ExceptHandler} {l : List UCls} (hc : Names X x c) (hN : X.N.Nodup) (hi : X.N[i]? = some n) (hln : X.env.kindOf n = some .local)
      (hsu : ∀ (a : Addr) (oe : Obj) (cls : Value) (d : Option Addr) (pn : List (Addr × Obj)), Zc cls d oe → (∃ vs, oe.data = .fields vs) → USs (X.suite a ((a, oe) :: pn)) (b₀ :: suite) (u a cls d)) (r : UHds X K hds l) :
      UHds X K (.ExceptHandler (some (.Name x np)) (some n) (b₀ :: suite) pos' :: hds) ((c, some i, u) :: l)
def dnCls (K : PySem.W.Frag) (q : UCls) : HCls := (q.1, q.2.1, fun a cls d => dnS K (q.2.2 a cls d))
theorem UHds.mix {X : Cx} {hds : List ExceptHandler} {l : List UCls} (h : UHds X X.K hds l) : HdsMix X hds (l.map (dnCls X.K)) := by
  induction h with
  | nil => exact .nil
  | bare hc hsu _ ih => exact .bare hc hsu ih
  | named hc hN hi hln hsu _ ih => exact .named hc hN hi hln hsu ih
section
variable {X : Cx} {W : WX} {pos : Pos}
theorem upW_mix {K : PySem.W.Frag} {H : Hp} {Wu : UWX} {Du : UEnds} {D : Ends} (up : UpD K H Du D) (ux : UpW K H Wu W) : ∀ l : List UCls, UpW K H (uMix (PySem.W.exmOne K) Wu Du l) (wMix K W D (l.map (dnCls K)))
  | [] => ux
  | (c, o, u) :: r => fun cls d σ' M' τ' H' z s m rr => by
    obtain ⟨b, e1, e2, e3⟩ := z
    refine ⟨b, e1, fun hb a ha => ?_, fun hb => upW_mix up ux r cls d σ' M' τ' H' (e3 hb) s m rr⟩
    have e2' := e2 hb a (m.none ha)
    cases o with
    | none => exact ⟨σ', M', Du, rr, m, e2', up.from s⟩
    | some i =>
      refine ⟨_, M', asD i Du, rr.set (show RelU K H' (.ref a) (.ref a) from rfl) i, m, e2', ?_⟩
      have u2 := up.from s
      exact ⟨fun σ2 M2 τ2 H2 q2 s2 m2 r2 => u2.nx _ _ _ _ q2 s2 m2 (r2.unset i none), u2.rt, fun σ2 M2 τ2 H2 q2 s2 m2 r2 => u2.bk _ _ _ _ q2 s2 m2 (r2.unset i none), fun σ2 M2 τ2 H2 q2 s2 m2 r2 => u2.ct _ _ _ _ q2 s2 m2 (r2.unset i none)⟩
theorem xs_tryM {body : List Stmt} {h₀ : ExceptHandler} {hds : List ExceptHandler} {t : UWX → UTS} {l : List UCls} {K : PySem.W.Frag} (hK : X.K = K) (hs : X.stack = X.env :: X.outer) (hf : X.env.frame = some X.env.locals) (tk : Takes X W)
    (hb : ∀ (W' : WX) (pn : List (Addr × Obj)) (xe : Value → Shared → Prop), Takes (X.tr pn xe) W' → PassesOwn (model X.prog X.w) X.A X.env xe → XSs (X.tr pn xe) W' body t)
    (hh : UHds X K (h₀ :: hds) l) : XS X W (.Try body (h₀ :: hds) [] [] pos) (xTryM (PySem.W.exmOne K) l t) := by
  subst hK
  exact PS.mono (ps_try_mix (tb := fun W' => dxS X.K W' t) hs hf tk hb hh.mix) fun D τ H h => by
    obtain ⟨σ, M, Du, Wu, rs, rm, q, up, ux⟩ := h
    exact ⟨σ, M, Du, _, rs, rm, q, up, upW_mix up ux l⟩
/-! for, the body may raise -/
def xFor (wi : UTI) (g : UTG) (tb : UWX → UTS) (wx : UWX) : UTS := uFor wi g (tb wx)
end
end PU

set_option Elab.async false
set_option linter.all false
set_option maxRecDepth 100000
/-! UEnum: enumerate, zip as what is walked; < of tuples. -/
namespace PU
open PySem PySem.Spec PyProof.Rows L2 RZ

def enumF : Nat → List U → List U
  | _, [] => []
  | i, x :: r => .tup [.int (i : Nat), x] :: enumF (i + 1) r
def zipF : List U → List U → List U
  | x :: xs, y :: ys => .tup [x, y] :: zipF xs ys
  | _, _ => []
section
variable {K : PySem.W.Frag} {H : Hp}
/-! a walk whose tuples are new pairs, to be taken apart at once -/
end
section
variable {X : Cx} {elt tg iter : Expr} {ifs : List Expr} {scope : Scope} {own : List (Str × Nat)} {pos : Pos} {w : UTI} {ts : List NT} {tt : UTT} {te : UTE}
end
section
variable {K : PySem.W.Frag} {H : Hp}
end
section
variable {X : Cx} {e e2 : Expr} {ta : UTA} {p pos tpos : Pos} {elts : List Expr} {kk : Nat}
def uEnum (ta : UTA) (σ : USt) (M : UHp) (R : UIt → UHp → Prop) : Prop := ta σ M fun us M1 => ∃ x xs, us = [x] ∧ listU M1 x = some xs ∧ xs.length ≤ sizeLine ∧ R ⟨enumF 0 xs, fun M' => listU M' x = some xs⟩ M1
def uZip (ta : UTA) (σ : USt) (M : UHp) (R : UIt → UHp → Prop) : Prop := ta σ M fun us M1 => match us with
  | [.tup xs, .tup ys] => xs.length ≤ sizeLine ∧ R ⟨zipF xs ys, fun _ => True⟩ M1
  | [x, y] => ∃ xs ys, listU M1 x = some xs ∧ listU M1 y = some ys ∧ xs.length ≤ sizeLine ∧ R ⟨zipF xs ys, fun M' => listU M' x = some xs ∧ listU M' y = some ys⟩ M1
  | _ => False
/-! x < y -/
def ltT (x y : U) (M : UHp) (Q : UK) : Prop := isD x = true ∧ isD y = true ∧ dep x ≤ 64 ∧ PySem.W.alike (encU x) (encU y) = true ∧ encU x ≠ .none ∧ Q (.bl (PySem.W.dataLt (encU x) (encU y))) M
end
end PU

set_option Elab.async false
set_option linter.all false
set_option maxRecDepth 100000
/-! UDct: more of dicts with nested tuple keys: len. -/
namespace PU
open PySem PySem.Spec PyProof.Rows L2
section
variable {X : Cx} {φ : DPhi}
def lenN (φ : DPhi) (xs : List U) (M : UHp) (Q : UK) : Prop := match xs with
  | [.ref a] => ∃ kvs, M a = some (.dN φ kvs) ∧ Q (.int (kvs.length : Nat)) M
  | _ => False
end
end PU

set_option Elab.async false
set_option linter.all false
set_option maxRecDepth 100000
/-! UDs: dicts whose keys are texts, over U. -/
namespace PU
open PySem PySem.Spec PyProof.Rows L2

/-! ### tables of pairs -/
def getS (kvs : List (Str × U)) (z : Str) : Option U := (kvs.find? fun p => decide (p.1 = z)).map (·.2)
def putS (kvs : List (Str × U)) (z : Str) (v : U) : List (Str × U) := if (getS kvs z).isSome = true then kvs.map (fun p => if p.1 = z then (p.1, v) else p) else kvs ++ [(z, v)]
def dropS (kvs : List (Str × U)) (z : Str) : List (Str × U) := kvs.filter fun p => decide (p.1 ≠ z)
theorem getS_cons (p : Str × U) (r : List (Str × U)) (z : Str) : getS (p :: r) z = if p.1 = z then some p.2 else getS r z := by
  unfold getS
  by_cases h : p.1 = z
  · simp [h]
  · simp [h]
section
variable {K : PySem.W.Frag} {H : Hp}
abbrev RelSs (K : PySem.W.Frag) (H : Hp) (kvs : List (Str × U)) (vs : List (Key × V)) : Prop := RelKs K H (kvs.map skp) vs
theorem rs_get {z : Str} : ∀ {kvs : List (Str × U)} {vs : List (Key × V)}, RelSs K H kvs vs → (∃ x v, getS kvs z = some x ∧ valV vs (Sum.inr z) = some v ∧ RelU K H x v) ∨ (getS kvs z = none ∧ valV vs (Sum.inr z) = none)
  | [], vs, h => by obtain rfl := h; exact .inr ⟨rfl, rfl⟩
  | (k, x) :: r, vs, h => by
    obtain ⟨v, w, rfl, q, t⟩ := h
    rw [getS_cons]
    by_cases e : k = z
    · rw [if_pos e, valV_pos (p := (Sum.inr k, v)) (by rw [e])]
      exact .inl ⟨x, v, rfl, rfl, q⟩
    · rw [if_neg e, valV_neg (p := (Sum.inr k, v)) (fun h => e (Sum.inr.inj h))]
      exact rs_get t
theorem rs_map {z : Str} {y : U} {w : V} (ry : RelU K H y w) : ∀ {kvs : List (Str × U)} {vs : List (Key × V)}, RelSs K H kvs vs → RelSs K H (kvs.map fun p => if p.1 = z then (p.1, y) else p) (vs.map fun kv => if kv.1 = Sum.inr z then (kv.1, w) else kv)
  | [], vs, h => by obtain rfl := h; exact rfl
  | (k, x) :: r, vs, h => by
    obtain ⟨v, t, rfl, q, tt⟩ := h
    have ih := rs_map (z := z) ry tt
    by_cases e : k = z
    · subst e
      simp only [List.map_cons,if_true]
      exact ⟨w, _, rfl, ry, ih⟩
    · have e2 : ¬ (Sum.inr k : Key) = Sum.inr z := fun h => e (Sum.inr.inj h)
      simp only [List.map_cons,if_neg e,if_neg e2,skp]
      exact ⟨v, _, rfl, q, ih⟩
theorem rs_snoc {z : Str} {y : U} {w : V} (ry : RelU K H y w) : ∀ {kvs : List (Str × U)} {vs : List (Key × V)}, RelSs K H kvs vs → RelSs K H (kvs ++ [(z, y)]) (vs ++ [(Sum.inr z, w)])
  | [], vs, h => by obtain rfl := h; exact ⟨w, [], rfl, ry, rfl⟩
  | (k, x) :: r, vs, h => by
    obtain ⟨v, t, rfl, q, tt⟩ := h
    exact ⟨v, _, rfl, q, rs_snoc ry tt⟩
theorem rs_put {z : Str} {y : U} {w : V} (ry : RelU K H y w) {kvs : List (Str × U)} {vs : List (Key × V)} (h : RelSs K H kvs vs) : RelSs K H (putS kvs z y) (putK vs (Sum.inr z) w) := by
  unfold putS putK
  rw [valV_any]
  rcases rs_get (z := z) h with ⟨x, v, e1, e2, _⟩ | ⟨e1, e2⟩
  · rw [e1, e2]; exact rs_map ry h
  · rw [e1, e2]; exact rs_snoc ry h
end
/-- free, or locked -/
def SOk (φ : List (Key × V) → HO) : Prop := φ = HO.dK ∨ ∃ o, φ = fun vs => .frz o (.dK vs)
theorem sok : SOk HO.dK := .inl rfl
theorem SOk.rd {φ : List (Key × V) → HO} (h : SOk φ) {H : Hp} {a : Addr} {vs : List (Key × V)} (e : H a = some (φ vs)) : Rd H a (.dK vs) := by
  rcases h with rfl | ⟨o, rfl⟩
  · exact .inl e
  · exact .inr ⟨o, e⟩
section
variable {X : Cx} {o i e f : Expr} {pos apos cpos : Pos} {td ty : UTE}
theorem hu1 {A : Around} (hu : A.units + 200 < cLine) : A.units + 1 < cLine := by omega
/-- {} -/
def uDNewS (_ : USt) (M : UHp) (Q : UK) : Prop := ∀ p, M p = none → Q (.ref p) (updM M p (.sD HO.dK []))
/-- d[k] = v -/
def setS (o i v : U) (M : UHp) (Q : UHp → Prop) : Prop := ∃ a kvs z, o = .ref a ∧ i = .str z ∧ M a = some (.sD HO.dK kvs) ∧ kvs.length < sizeLine ∧ Q (updM M a (.sD HO.dK (putS kvs z v)))
/-- d[k] -/
def uDGetS (td ty : UTE) (σ : USt) (M : UHp) (Q : UK) : Prop := td σ M fun o M1 => ty σ M1 fun y M2 => ∃ a φ kvs z v, o = .ref a ∧ y = .str z ∧ M2 a = some (.sD φ kvs) ∧ SOk φ ∧ getS kvs z = some v ∧ Q v M2
theorem ue_dgetS (hu : X.A.units + 200 < cLine) (ho : UE X o td) (hi : UE X i ty) (hs : NoSl i) : UE X (.Subscript o i pos) (uDGetS td ty) := PE.mono (pe_dget (hu1 hu) ho hi hs) fun τ H Q h => by
  obtain ⟨σ, M, Qu, rs, rm, q, up⟩ := h
  refine ⟨σ, M, _, rs, rm, q, fun x M1 v1 H1 q1 s1 m1 r1 => ?_⟩
  refine ⟨σ, M1, _, rs.stab s1, m1, q1, fun y M2 v2 H2 q2 s2 m2 r2 => ?_⟩
  obtain ⟨a, φ, kvs, z, v, rfl, rfl, e, ok, hg, q⟩ := q2
  obtain rfl := r1
  obtain ⟨rfl, _⟩ := r2
  obtain ⟨vs, hH, rk⟩ := m2 a _ e
  rcases rs_get (z := z) rk with ⟨x, w, e1, e2, r⟩ | ⟨e1, e2⟩
  · rw [hg] at e1; cases e1
    exact ⟨a, w, rfl, .inl ⟨vs, Sum.inr z, ok.rd hH, rfl, e2.symm⟩, up _ _ _ _ q (s1.trans s2) m2 r⟩
  · rw [hg] at e1; cases e1
/-- k in d, k not in d -/
def inS (neg : Bool) (y o : U) (M : UHp) (Q : UK) : Prop := ∃ a φ kvs z, o = .ref a ∧ y = .str z ∧ M a = some (.sD φ kvs) ∧ SOk φ ∧ Q (.bl (if neg = true then !(getS kvs z).isSome else (getS kvs z).isSome)) M
theorem uo_notinS (hu : X.A.units + 200 < cLine) : UOpR X (compareOp .NotIn) (inS true) := fun pins s τ H vy vo u o Q I ry ro h => by
  obtain ⟨y, x, M, Qu, r1, r2, rm, ⟨a, φ, kvs, z, rfl, rfl, e, ok, q⟩, up⟩ := h
  obtain rfl := r2
  obtain rfl : o = Value.ref a := ro
  obtain ⟨rfl, _⟩ := r1
  obtain ⟨vs, hH, rk⟩ := rm a _ e
  refine d_notIn (hu1 hu) I (.inl ⟨vs, Sum.inr z, ok.rd hH, rfl, rfl⟩) ry fun s' J => ?_
  have es : (valV vs (Sum.inr z)).isSome = (getS kvs z).isSome := by
    rcases rs_get (z := z) rk with ⟨x, w, e1, e2, r⟩ | ⟨e1, e2⟩ <;> rw [e1, e2] <;> rfl
  rw [es]
  exact ⟨.bl _, H, J, rfl, up _ _ _ _ q (Stab.refl H) rm rfl⟩
/-! ### methods of dicts -/
/-- x is a dict, as a method's owner -/
def DictV (X : Cx) (x : V) (H : Hp) : Prop := ∃ a, x = .ref a ∧ ∀ (pins : List (Addr × Obj)) (τ : L2.St) (s : Shared), Inv X pins τ H s → s.TypeIs (.ref a) "dict" ∧ ∃ ob, s.heap.get? a = some ob ∧ ob.dict = none
def tDm (X : Cx) (r : V → List V → Hp → VK → Prop) (to : TE) (t : TA) : TE := fun σ H Q => to σ H fun x H1 => DictV X x H1 ∧ t σ H1 fun xs H2 => r x xs H2 Q
theorem pe_dm {name : Str} {id : String} {r : V → List V → Hp → VK → Prop} {es : List Expr} {to : TE} {t : TA} (slot : Slot "dict" name id) (hty : typeOf (.builtin id) = pure (.type "method_descriptor")) (hm : MtR X id r) (ho : PE X o to) (ha : PA X (e :: es) t)
    (hbase : attributeBase o name X.env (eval o X.env) = eval o X.env := by rfl)
    (hfew : ((backTo cpos (starEach (e :: es) X.env)).all (fun x => !x.1) && (backToKw cpos (keywordEach [] X.env)).all (fun x => x.1.isSome)
      && decide ((e :: es).length + ([] : List Keyword).length + (if ([] : List Keyword).isEmpty then 0 else 1) < 30)) = true := by rfl)
    (hline : (apos.endLine == cpos.line) = true := by rfl) (hs : starEach (e :: es) X.env = (false, eval e X.env) :: starEach es X.env := by rfl) (hplain : (backTo cpos (starEach es X.env)).any (·.1) = false := by rfl) :
    PE X (.Call (.Attribute o name apos) (e :: es) [] cpos) (tDm X r to t) := by
  constructor
  intro pins s σ H Q I h
  refine wpAny_Call_method_late hbase hfew hline rfl (thn (ho.run pins s σ H _ I h) fun v s1 h1 => ?_)
  obtain ⟨x, H1, I1, r1, ⟨a, rfl, ty⟩, q1⟩ := h1
  obtain rfl : v = Value.ref a := r1
  obtain ⟨t1, ob, t2, t3⟩ := ty _ _ _ I1
  refine ⟨"dict", id, PySem.F.plainAttrs_dict, slot, hty, t1, fun b eb => by cases eb; exact ⟨ob, t2, t3⟩, ?_⟩
  have hA := ha.run cpos pins s1 σ H1 _ I1 q1
  rw [hs] at hA ⊢
  have hpl : (starEach (e :: es) X.env).any (·.1) = (starEach (e :: es) X.env).any (·.1) := rfl
  refine Calls.callWith_builtin (by show (false || (backTo cpos (starEach es X.env)).any (·.1)) = false; rw [hplain]; rfl) (Calls.evalArgs_plain ?_)
  refine thn hA fun us s2 h2 => ?_
  obtain ⟨vs, H2, I2, r2, q2⟩ := h2
  exact hm pins s2 σ H2 (.ref a) vs _ us Q I2 rfl r2 q2
theorem dictV_s {a : Addr} {φ : List (Key × V) → HO} {vs : List (Key × V)} {H : Hp} (ok : SOk φ) (e : H a = some (φ vs)) : DictV X (.ref a) H := ⟨a, rfl, fun pins τ s I => by
  obtain ⟨t1, t2, _⟩ := isD_at I (.inl ⟨vs, ok.rd e⟩)
  exact ⟨t1, t2 a rfl⟩⟩
theorem dictV_n {a : Addr} {φ : DPhi} {kvs : List (U × U)} {H : Hp} {M : UHp} (hφ : DNo X.prog X.w = φ) (rm : RelM X.K H M) (e : M a = some (.dN φ kvs)) : DictV X (.ref a) H := ⟨a, rfl, fun pins τ s I => by
  subst hφ
  obtain ⟨xs, ys, hH, rd, ey, ry, hz, hsm, dd⟩ := dn_at I rm e
  refine ⟨dd.typeIs, ?_⟩
  obtain ⟨ob, es, ep, ho, hc, _⟩ := dd
  exact ⟨ob, ho, hc.2.1⟩⟩
def isDm (φ : DPhi) (M : UHp) (x : U) : Prop := ∃ a, x = .ref a ∧ ((∃ ψ kvs, M a = some (.sD ψ kvs) ∧ SOk ψ) ∨ ∃ kvs, M a = some (.dN φ kvs))
def uDm (φ : DPhi) (r : U → List U → UHp → UK → Prop) (to : UTE) (t : UTA) (σ : USt) (M : UHp) (Q : UK) : Prop := to σ M fun x M1 => isDm φ M1 x ∧ t σ M1 fun xs M2 => r x xs M2 Q
theorem ue_dm {φ : DPhi} {name : Str} {id : String} {rm : U → List U → UHp → UK → Prop} {es : List Expr} {to : UTE} {t : UTA} (hφ : DNo X.prog X.w = φ) (slot : Slot "dict" name id) (hty : typeOf (.builtin id) = pure (.type "method_descriptor")) (hm : UMtR X id rm) (ho : UE X o to) (ha : UA X (e :: es) t)
    (hbase : attributeBase o name X.env (eval o X.env) = eval o X.env := by rfl)
    (hfew : ((backTo cpos (starEach (e :: es) X.env)).all (fun x => !x.1) && (backToKw cpos (keywordEach [] X.env)).all (fun x => x.1.isSome)
      && decide ((e :: es).length + ([] : List Keyword).length + (if ([] : List Keyword).isEmpty then 0 else 1) < 30)) = true := by rfl)
    (hline : (apos.endLine == cpos.line) = true := by rfl) (hs : starEach (e :: es) X.env = (false, eval e X.env) :: starEach es X.env := by rfl) (hplain : (backTo cpos (starEach es X.env)).any (·.1) = false := by rfl) :
    UE X (.Call (.Attribute o name apos) (e :: es) [] cpos) (uDm φ rm to t) := PE.mono (pe_dm slot hty hm ho ha hbase hfew hline hs hplain) fun τ H Q h => by
  obtain ⟨σ, M, Qu, rs, m0, q, up⟩ := h
  refine ⟨σ, M, _, rs, m0, q, fun x M1 v H1 q1 s1 m1 r1 => ?_⟩
  obtain ⟨⟨a, rfl, hd⟩, q1⟩ := q1
  obtain rfl := r1
  refine ⟨?_, σ, M1, _, rs.stab s1, m1, q1, fun xs M2 vs H2 q2 s2 m2 r2 => ⟨.ref a, xs, M2, Qu, rfl, r2, m2, q2, up.from (s1.trans s2)⟩⟩
  rcases hd with ⟨ψ, kvs, e, ok⟩ | ⟨kvs, e⟩
  · obtain ⟨vs, hH, _⟩ := m1 a _ e
    exact dictV_s ok hH
  · exact dictV_n hφ m1 e
def getR (x : U) (xs : List U) (M : UHp) (Q : UK) : Prop := ∃ a φ kvs z, x = .ref a ∧ M a = some (.sD φ kvs) ∧ SOk φ ∧ ((xs = [.str z] ∧ Q ((getS kvs z).getD .non) M) ∨ ∃ d, xs = [.str z, d] ∧ Q ((getS kvs z).getD d) M)
theorem um_getS (hu : X.A.units + 200 < cLine) : UMtR X "dict.get" getR := fun pins s σ H v vs u us Q I rv rvs h => by
  obtain ⟨x, xs, M, Qu, r1, r2, rm, ⟨a, φ, kvs, z, rfl, e, ok, q⟩, up⟩ := h
  obtain rfl := r1
  obtain rfl : u = Value.ref a := rv
  obtain ⟨ws, hH, rk⟩ := rm a _ e
  have hd : DGet H a (kV (Sum.inr z)) (valV ws (Sum.inr z)) := .inl ⟨ws, Sum.inr z, ok.rd hH, rfl, rfl⟩
  rcases q with ⟨rfl, q⟩ | ⟨d, rfl, q⟩
  · obtain ⟨v1, t, rfl, ⟨rfl, _⟩, rfl⟩ := r2
    cases rvs with
    | cons k1 k2 =>
      cases k2
      refine d_get1 (hu1 hu) I hd k1 fun w' s' J rw' => ⟨_, H, J, rw', ?_⟩
      rcases rs_get (z := z) rk with ⟨x, w, e1, e2, r⟩ | ⟨e1, e2⟩
      · rw [e2]; rw [e1] at q; exact up _ _ _ _ q (Stab.refl H) rm r
      · rw [e2]; rw [e1] at q; exact up _ _ _ _ q (Stab.refl H) rm rfl
  · obtain ⟨v1, t, rfl, ⟨rfl, _⟩, v2, t2, rfl, r3, rfl⟩ := r2
    cases rvs with
    | cons k1 k2 =>
      cases k2 with
      | cons k2 k3 =>
        cases k3
        refine d_get2 (hu1 hu) I hd k1 k2 fun w' s' J rw' => ⟨_, H, J, rw', ?_⟩
        rcases rs_get (z := z) rk with ⟨x, w, e1, e2, r⟩ | ⟨e1, e2⟩
        · rw [e2]; rw [e1] at q; exact up _ _ _ _ q (Stab.refl H) rm r
        · rw [e2]; rw [e1] at q; exact up _ _ _ _ q (Stab.refl H) rm r3
def popS (x : U) (xs : List U) (M : UHp) (Q : UK) : Prop := ∃ a kvs z d, x = .ref a ∧ M a = some (.sD HO.dK kvs) ∧ xs = [.str z, d] ∧ (∀ v, getS kvs z = some v → Q v (updM M a (.sD HO.dK (dropS kvs z)))) ∧ (getS kvs z = none → Q d M)
def setdS (x : U) (xs : List U) (M : UHp) (Q : UK) : Prop := ∃ a kvs z d, x = .ref a ∧ M a = some (.sD HO.dK kvs) ∧ xs = [.str z, d] ∧ kvs.length < sizeLine ∧ (∀ v, getS kvs z = some v → Q v M) ∧ (getS kvs z = none → Q d (updM M a (.sD HO.dK (putS kvs z d))))
/-- len(d) -/
def lenS (xs : List U) (M : UHp) (Q : UK) : Prop := ∃ a φ kvs, xs = [.ref a] ∧ M a = some (.sD φ kvs) ∧ SOk φ ∧ Q (.int (kvs.length : Nat)) M
end
end PU

set_option Elab.async false
set_option linter.all false
set_option maxRecDepth 100000
/-! UDw: dict(pairs), with text keys and with tuple keys; methods of dicts with tuple keys. -/
namespace PU
open PySem PySem.Spec PyProof.Rows L2

def pairsU : List U → Option (List (Str × U))
  | [] => some []
  | .tup [.str z, v] :: r => (pairsU r).map ((z, v) :: ·)
  | _ => none
def mergeS (kvs more : List (Str × U)) : List (Str × U) := more.foldl (fun acc p => putS acc p.1 p.2) kvs
section
variable {K : PySem.W.Frag} {H : Hp}
theorem rs_merge : ∀ {more : List (Str × U)} {ws : List (Key × V)} {kvs : List (Str × U)} {vs : List (Key × V)}, RelSs K H more ws → RelSs K H kvs vs → RelSs K H (mergeS kvs more) (mergeK vs ws)
  | [], ws, kvs, vs, h, k => by obtain rfl := h; exact k
  | (z, x) :: r, ws, kvs, vs, h, k => by
    obtain ⟨v, t, rfl, q, tt⟩ := h
    show RelSs K H (mergeS (putS kvs z x) r) (mergeK (putK vs (Sum.inr z) v) t)
    exact rs_merge (more := r) tt (rs_put q k)
theorem rel_pairs : ∀ {ps : List U} {kvs : List (Str × U)} {vs : List V}, RelUs K H ps vs → pairsU ps = some kvs → ∃ (as : List Addr) (kv : List (Key × V)), vs = as.map V.ref ∧ Paired (fun p kv => SqT K H p [kV kv.1, kv.2]) as kv ∧ RelSs K H kvs kv
  | [], kvs, vs, r, e => by
    obtain rfl := r
    simp only [pairsU,Option.some.injEq] at e; subst e
    exact ⟨[], [], rfl, .nil, rfl⟩
  | x :: r, kvs, vs, h, e => by
    unfold pairsU at e
    split at e
    · rename_i h0
      cases h0
    · rename_i z v r' h0
      cases h0
      obtain ⟨w, t, rfl, q, tt⟩ := h
      simp only [Option.map_eq_some_iff] at e
      obtain ⟨kr, e1, rfl⟩ := e
      obtain ⟨as, kv, rfl, p, rs⟩ := rel_pairs tt e1
      obtain ⟨a, ws, rfl, sq, w1, t1, rfl, q1, w2, t2, rfl, q2, rfl⟩ := q
      obtain ⟨rfl, _⟩ := q1
      exact ⟨a :: as, (Sum.inr z, w2) :: kv, rfl, .cons sq.t p, w2, kv, rfl, q2, rs⟩
    · cases e
/-- a tuple of references has no dict -/
theorem SqX.d {a : Addr} {as : List Addr} (h : SqX K H a (as.map V.ref)) : SqD K H a (as.map V.ref) := by
  rcases h with h | ⟨_, h⟩
  · exact h
  · cases as with
    | nil => cases h
    | cons b r => cases h
end
section
variable {X : Cx} {pins : List (Addr × Obj)} {τ : L2.St} {H : Hp} {s : Shared}
/-- the tuple's own object -/
theorem sqd_obj (I : Inv X pins τ H s) {a : Addr} {xs : List V} (h : SqD X.K H a xs) : ∃ its : List Value, Vals xs its ∧ PlainSeq "tuple" s.heap a its.toArray ∧ xs.length ≤ sizeLine := by
  rcases h with ⟨o, h, hd⟩ | ⟨o, its, n, h1, h2, h3, h4, h5, h6⟩
  · obtain ⟨e, z, its, r, o', e', hc, n, hdat⟩ := (show ObjOk X.prog X.w H s.heap a (.frz o (.tup xs)) from I.hok a _ h)
    rw [e] at e'; cases e'
    exact ⟨its, r, ⟨o, n, e, hc, hd, hdat⟩, z⟩
  · exact ⟨its.toList, h6, ⟨o, n, I.kIn a o h1, h2, h3, by simpa using h4⟩, by rw [h6.length]; simpa using h5⟩
/-- dict(xs), xs pairs with texts -/
def dictS (xs : List U) (M : UHp) (Q : UK) : Prop := ∃ x ps kvs, xs = [x] ∧ (x = .tup ps ∨ listU M x = some ps) ∧ pairsU ps = some kvs ∧ ∀ p, M p = none → Q (.ref p) (updM M p (.sD HO.dK (mergeS [] kvs)))
theorem uc_dictS (hc : X.calm = true) : UCallR X (.type "dict") dictS := fun pins s τ H vs us Q I rv h => by
  obtain ⟨xs, M, Qu, r, rm, ⟨x, ps, kvs, rfl, hx, e, q⟩, up⟩ := h
  obtain ⟨v, t, rfl, rx, rfl⟩ := r
  have fin : ∀ (p : Addr) (kv : List (Key × V)), RelSs X.K H kvs kv → H p = none → Q (.ref p) (upd H p (.dK (mergeK [] kv))) := fun p kv rk hp => by
    have st : Stab H (upd H p (.dK (mergeK [] kv))) := Stab.new hp
    exact up _ _ _ _ (q p (rm.none hp)) st (rm.write st (o := .sD HO.dK (mergeS [] kvs)) ⟨_, upd_same, (rs_merge rk (kvs := []) (vs := []) rfl).stab st⟩) rfl
  rcases hx with rfl | hx
  · obtain ⟨a, ws, rfl, sq, rs⟩ := rx
    obtain ⟨as, kv, rfl, hp, rk⟩ := rel_pairs rs e
    obtain ⟨its, r1, pl, hz⟩ := sqd_obj I sq.d
    obtain rfl := refs_at r1
    rw [List.length_map] at hz
    cases rv with
    | cons ra rb =>
      cases rb
      cases ra
      obtain ⟨prs, rel, hl, hpr⟩ := pairs_of I hp
      have hlen : (mergeK [] kv).length ≤ sizeLine := by
        refine Nat.le_trans (length_mergeK kv []) ?_
        rw [List.length_nil, Nat.zero_add, rel.length, hl]
        exact hz
      have hm : (s.heap.objs.size == sysModules) = false := beq_eq_false_iff_ne.mpr (Nat.ne_of_gt I.big)
      -- the pairs' keys as values
      have keys : ∃ us : List Value, us.length = prs.length ∧ ∀ (j : Nat) (q : Key × Value), prs[j]? = some q → ∃ (b : Addr) (u : Value), as[j]? = some b ∧ us[j]? = some u ∧ IsTup s.heap b #[u, q.2] ∧ keyIs q.1 u = true := by
        clear rel hlen fin rk hp pl r1 sq rs e q
        induction prs generalizing as with
        | nil => exact ⟨[], rfl, fun j q e => by simp at e⟩
        | cons p r ih =>
          cases as with
          | nil => simp at hl
          | cons a0 ar =>
            obtain ⟨us, h1, h2⟩ := ih (as := ar) (by rw [List.length_cons] at hz; omega) (by simpa using hl) (fun j q e => by
              obtain ⟨b, u, e1, e2, e3⟩ := hpr (j + 1) q (by simpa using e)
              exact ⟨b, u, by simpa using e1, e2, e3⟩)
            obtain ⟨b, u, e1, e2, e3⟩ := hpr 0 p rfl
            refine ⟨u :: us, by simp [h1], fun j q e => ?_⟩
            cases j with
            | zero =>
              simp at e; subst e
              exact ⟨b, u, e1, rfl, e2, e3⟩
            | succ j =>
              obtain ⟨b, u, e1, e2, e3⟩ := h2 j q (by simpa using e)
              exact ⟨b, u, by simpa using e1, by simpa using e2, e3⟩
      obtain ⟨ks, hks, hpr2⟩ := keys
      have lz : (ks.zip (prs.map (·.2))).length = as.length := by rw [List.length_zip, List.length_map, hks, hl, Nat.min_self]
      have hh := I.ok.hd hc
      have key : ∀ (i : Nat) (k w : Value), (ks.zip (prs.map (·.2)))[i]? = some (k, w) → ∃ q, prs[i]? = some q ∧ ks[i]? = some k ∧ q.2 = w := fun i k w hi => by
        obtain ⟨h1, h2⟩ := List.getElem?_zip_eq_some.mp hi
        rw [List.getElem?_map] at h2
        obtain ⟨q, h3, h4⟩ := Option.map_eq_some_iff.mp h2
        exact ⟨q, h3, h1, h4⟩
      refine PySem.call_dict_pairs (A := X.A) (knd := mixKind X.prog X.w) (kvs := prs) (PairArg.tuple a (as.map Value.ref).toArray (fun j => (as[j]?).getD 0) (ks.zip (prs.map (·.2)))) hh ⟨pl, ?_, fun j k w hj => ?_⟩ ⟨by rw [lz, hl], fun i k w hi => ?_⟩ (by rw [lz]; exact hz) fun h' tk hd' hk => ?_
      · rw [List.size_toArray, List.length_map, lz]
      · obtain ⟨q, h1, h2, h3⟩ := key j k w hj
        obtain ⟨b, u, e1, e2, e3, e4⟩ := hpr2 j q h1
        rw [h2] at e2; cases e2
        subst h3
        refine ⟨by simp [e1], .inl ?_⟩
        show s.heap.IsTuple ((as[j]?).getD 0) #[k, q.2]
        rw [e1]
        exact e3
      · obtain ⟨q, h1, h2, h3⟩ := key i k w hi
        obtain ⟨b, u, e1, e2, e3, e4⟩ := hpr2 i q h1
        rw [h2] at e2; cases e2
        subst h3
        exact ⟨q.1, h1, e4⟩
      · refine ⟨.ref s.heap.objs.size, upd H s.heap.objs.size (.dK (mergeK [] kv)), I.laid (t' := tk) (fun b o z => hk b o (by simp) z) (Nat.le_refl _) (show ObjOk X.prog X.w _ _ _ (.dK (mergeK [] kv)) from ⟨hlen, hm, merged [] prs, KV.merge rel .nil, hd'⟩), rfl, fin _ kv rk (I.hok.fresh (Nat.le_refl _))⟩
  · obtain ⟨a, ws, rfl, sq, rs⟩ := list_dn rm rx hx
    obtain ⟨as, kv, rfl, hp, rk⟩ := rel_pairs rs e
    exact call_dictP hc pins s τ H _ us Q I rv ⟨a, as, kv, rfl, sq, hp, fun p hp => fin p kv rk hp⟩
end
end PU

set_option Elab.async false
set_option linter.all false
set_option maxRecDepth 100000
/-! UDm: methods of dicts with tuple keys: get, setdefault, pop; locked dicts of both kinds. -/
namespace PU
open PySem PySem.Spec PyProof.Rows L2

def dropN (kvs : List (U × U)) (k : U) : List (U × U) := kvs.filter fun kv => decide (nkU kv.1 ≠ nkU k)
section
variable {X : Cx} {φ : DPhi}
theorem room8 {A : Around} (hu : A.units + 200 < cLine) : A.in1.units + 8 < cLine := by
  have e : A.in1.units = A.units + 1 := rfl
  omega
theorem RelY.drop {K : PySem.W.Frag} {H : Hp} {kvs : List (U × U)} {ys : NYs} (h : RelY K H kvs ys) {k : U} {nk : NestedKey} (e : nkU k = some nk) : RelY K H (dropN kvs k) (withoutH ys nk) := by
  induction h with
  | nil => exact .nil
  | @cons k' x nk' b v u r ys h1 h2 h3 h4 h5 _ ih =>
    unfold dropN withoutH at ih ⊢
    by_cases hk : nk' = nk
    · subst hk
      have e1 : nkU k' = nkU k := h1.trans e.symm
      simp only [List.filter_cons,e1,ne_eq,not_true_eq_false,decide_false,Bool.false_eq_true,if_false]
      simpa using ih
    · have e1 : ¬ nkU k' = nkU k := by rw [h1, e]; exact fun z => hk (Option.some.inj z)
      simp only [List.filter_cons,e1,ne_eq,not_false_eq_true,decide_true,if_true]
      simp only [hk,decide_true,decide_false,not_false_eq_true,ne_eq,if_true,if_false,Bool.not_false]
      exact .cons h1 h2 h3 h4 h5 ih
/-- a new state of such a dict -/
theorem dn_put {pins : List (Addr × Obj)} {τ : L2.St} {H : Hp} {s : Shared} {M : UHp} {a : Addr} {kvs kvs' : List (U × U)} {ys' : NYs} {h' : Heap} {tk : Nat} (I : Inv X pins τ H s) (rm : RelM X.K H M) (e : M a = some (.dN (DNo X.prog X.w) kvs)) (hz : kvs'.length ≤ sizeLine) (ny : RelY X.K H kvs' ys')
    (dd : h'.DictOfH (nestedKind X.prog X.w) a ys') (sb : Heap.SameBut a s.heap h') : ∃ xs1, Inv X pins τ (upd H a (DNo X.prog X.w a xs1)) { s with heap := h', toks := tk } ∧ Stab H (upd H a (DNo X.prog X.w a xs1)) ∧ RelM X.K (upd H a (DNo X.prog X.w a xs1)) (updM M a (.dN (DNo X.prog X.w) kvs')) := by
  obtain ⟨xs0, ys, hH, rd, ey, ry, _, hsm, _⟩ := dn_at I rm e
  obtain ⟨xs1, rd1, ey1⟩ := relY_ds ny
  obtain ⟨o2, es2, ep2, ho2, hc2, hd2, he2, _, hn2⟩ := dd
  have lz : xs1.length ≤ sizeLine := by rw [Paired.length ey1, ← ny.length]; exact hz
  have st : Stab H (upd H a (DNo X.prog X.w a xs1)) := Stab.upd (fun ys' z => by rw [hH] at z; cases Option.some.inj z) (fun ob w' z => by rw [hH] at z; cases Option.some.inj z)
  exact ⟨xs1, d_write I (by rw [hH]; exact True.intro) sb ⟨o2, ho2⟩ (dno_ok lz hsm ey1 ⟨o2, es2, ep2, ho2, hc2, hd2, he2, hn2⟩), st, rm.write st ⟨xs1, upd_same, rd1.stab st⟩⟩
/-- d.get(k), d.get(k, x) -/
def getNR (φ : DPhi) (x : U) (us : List U) (M : UHp) (Q : UK) : Prop := ∃ a kvs ks, x = .ref a ∧ M a = some (.dN φ kvs) ∧ kOk (.tup ks) ∧ ((us = [.tup ks] ∧ Q ((getN kvs (.tup ks)).getD .non) M) ∨ ∃ d, us = [.tup ks, d] ∧ Q ((getN kvs (.tup ks)).getD d) M)
/-- d.setdefault(k, x) -/
def setdN (φ : DPhi) (x : U) (us : List U) (M : UHp) (Q : UK) : Prop := ∃ a kvs ks d, x = .ref a ∧ M a = some (.dN φ kvs) ∧ kOk (.tup ks) ∧ us = [.tup ks, d] ∧ kvs.length < sizeLine ∧ (∀ v, getN kvs (.tup ks) = some v → Q v M) ∧ (getN kvs (.tup ks) = none → Q d (updM M a (.dN φ (putN kvs (.tup ks) d))))
/-- d.pop(k), d.pop(k, x), the key there; d.pop(k, x), not there -/
def popNR (φ : DPhi) (x : U) (us : List U) (M : UHp) (Q : UK) : Prop := ∃ a kvs ks, x = .ref a ∧ M a = some (.dN φ kvs) ∧ kOk (.tup ks) ∧ ∃ v, us = [.tup ks] ∧ getN kvs (.tup ks) = some v ∧ Q v (updM M a (.dN φ (dropN kvs (.tup ks))))
end
end PU

set_option Elab.async false
set_option linter.all false
set_option maxRecDepth 100000
/-! UIn: instances of own classes over U: C(..), o.f, o.f = e. -/
namespace PU
open PySem PySem.Spec PyProof.Rows L2

def putFU (f : Str) (y : U) : List (Str × U) → List (Str × U)
  | [] => [(f, y)]
  | (g, x) :: r => if g = f then (g, y) :: r else (g, x) :: putFU f y r
section
variable {X : Cx} {o e : Expr} {es : List Expr} {ta te : UTE} {f : Str} {p pos pos' : Pos}
/-- o.f -/
def uFld (K : PySem.W.Frag) (ta : UTE) (f : Str) (σ : USt) (M : UHp) (Q : UK) : Prop := ta σ M fun x M1 => ∃ a C dx fs v, x = .ref a ∧ M1 a = some (.ins C dx fs) ∧ Cls K C ∧ NoAttr K C f ∧ fs.lookup f = some v ∧ Q v M1
/-- o.f = e -/
def uFst (K : PySem.W.Frag) (f : Str) (to te : UTE) (D : UEnds) (σ : USt) (M : UHp) : Prop := te σ M fun y M1 => to σ M1 fun x M2 => ∃ a C dx fs, x = .ref a ∧ M2 a = some (.ins C dx fs) ∧ Cls K C ∧ NoAttr K C f ∧ fs.length < 1000 ∧ D.nx σ (updM M2 a (.ins C dx (putFU f y fs)))
/-- C(e, ..) -/
def uMake (C : Addr) (sp : USp) (t : UTA) (σ : USt) (M : UHp) (Q : UK) : Prop := t σ M fun us M1 => ∀ x dx, M1 x = none → M1 dx = none → dx ≠ x → sp (.ref x :: us) (updM M1 x (.ins C dx [])) (fun v M2 => v = .non ∧ Q (.ref x) M2) EU0
end
end PU

set_option Elab.async false
set_option linter.all false
set_option maxRecDepth 100000
/-! ULk: a dict that stays as it is while it is walked; the walk of its keys. -/
namespace PU
open PySem PySem.Spec PyProof.Rows L2

section
variable {K : PySem.W.Frag} {H H' : Hp}
end
/-- no tuple, no list, nothing frozen -/
def Plain (u : HO) : Prop := (∀ xs, u ≠ .tup xs) ∧ (∀ xs, u ≠ .lst xs) ∧ (∀ o w, u ≠ .frz o w) ∧ ∀ x, u ≠ .own x
/-- what is known of a thing at mo stays known while it is locked -/
structure LockOk (K : PySem.W.Frag) (mo : MO) (ml : Obj → MO) : Prop where
  ok : ∀ H d, RelO K H d mo → ∃ u, H d = some u ∧ Mut (some u) ∧ Plain u ∧ ∀ H'', Stab H H'' → (H'' d = some u → RelO K H'' d mo) ∧ ∀ od, H'' d = some (.frz od u) → RelO K H'' d (ml od)
def lkS (od : Obj) : List (Key × V) → HO := fun vs => .frz od (.dK vs)
def lkN (od : Obj) (φ : DPhi) : DPhi := fun a vs => .frz od (φ a vs)
def unlD (d : Addr) (mo : MO) (D : UEnds) : UEnds := ⟨fun σ M => D.nx σ (updM M d mo), fun v M => D.rt v (updM M d mo), fun σ M => D.bk σ (updM M d mo), fun σ M => D.ct σ (updM M d mo)⟩
section
variable {K : PySem.W.Frag} {H H' : Hp} {d : Addr} {u : HO} {od : Obj}
end
section
variable {X : Cx}
def uLock (K : PySem.W.Frag) (t : UTS) (D : UEnds) (σ : USt) (M : UHp) : Prop := ∃ d mo ml, LockOk K mo ml ∧ M d = some mo ∧ ∀ od, t (unlD d mo D) σ (updM M d (ml od))
def uLockE (K : PySem.W.Frag) (t : UTE) (σ : USt) (M : UHp) (Q : UK) : Prop := ∃ d mo ml, LockOk K mo ml ∧ M d = some mo ∧ ∀ od, t σ (updM M d (ml od)) fun v M' => Q v (updM M' d mo)
end
/-! ### the walk over the keys -/
section
variable {X : Cx} {pins : List (Addr × Obj)} {τ : L2.St} {H : Hp} {s : Shared} {d : Addr} {o : Obj}
end
section
variable {X : Cx} {tg e : Expr} {td : UTE} {φ : DPhi}
def uKeys (φ : DPhi) (td : UTE) (σ : USt) (M : UHp) (R : UIt → UHp → Prop) : Prop := td σ M fun x M1 => ∃ d od, x = .ref d ∧
  ((∃ kvs, M1 d = some (.sD (lkS od) kvs) ∧ (∀ p ∈ kvs, okS p.1 = true) ∧ R ⟨kvs.map fun p => .str p.1, fun _ => True⟩ M1) ∨ ∃ kvs, M1 d = some (.dN (lkN od φ) kvs) ∧ R ⟨kvs.map (·.1), fun _ => True⟩ M1)
end
end PU

set_option Elab.async false
set_option linter.all false
set_option maxRecDepth 100000
/-! UDc: dict comprehensions over U, text keys and tuple keys. -/
namespace PU
open PySem PySem.Spec PyProof.Rows L2

section
variable {X : Cx} {kx vx tg iter : Expr} {ifs : List Expr} {scope : Scope} {own : List (Str × Nat)} {pos : Pos} {wi : TI} {g : TG} {tt : TT} {tk tv : TE} {u0 : Addr → HO} {St : Addr → V → V → Hp → (Hp → Prop) → Prop}
end
/-! ### over U: tuple keys -/
section
variable {X : Cx} {kx vx tg iter : Expr} {ifs : List Expr} {scope : Scope} {own : List (Str × Nat)} {pos : Pos} {w : UTI} {n : NT} {tt : UTT} {tk tv : UTE} {φ : DPhi}
end
/-! ### text keys -/
section
variable {X : Cx} {kx vx tg iter : Expr} {ifs : List Expr} {scope : Scope} {own : List (Str × Nat)} {pos : Pos} {w : UTI} {n : NT} {tt : UTT} {tk tv : UTE}
end
end PU

set_option Elab.async false
set_option linter.all false
set_option maxRecDepth 100000
/-! USit: sorted(d.items()), d with text keys: by the texts alone. -/
namespace PU
open PySem PySem.Spec PyProof.Rows L2

def nmU : U → Str
  | .tup (.str z :: _) => z
  | _ => ⟨#[]⟩
def prU (p : Str × U) : U := .tup [.str p.1, p.2]
def itLe : U → U → Bool := PySem.W.dataLe false fun p => .str (nmU p)
/-- the pairs, by their texts -/
def itemsU (kvs : List (Str × U)) : List U := (kvs.map prU).mergeSort itLe
/-! ### the kind of these keys -/
/-- a pair with a text -/
def PairOf (h : Heap) (v : Value) (z : Str) : Prop := ∃ (a : Addr) (t : Tok) (x : Value) (o : Obj) (n : Nat), v = .ref a ∧ h.get? a = some o ∧ o.cls = .type "tuple" ∧ o.data = .seq #[.str z t, x] n
section
variable {prog : Program} {w : World} {A : Around} {s : Shared} {us : List Value} {zs : List Str}
end
/-! ### tuples already laid are tracked, with their objects -/
/-! ### the sort -/
section
variable {X : Cx} {pins : List (Addr × Obj)} {τ : L2.St} {H : Hp} {s : Shared}
end
/-! ### d.items(), and its sort -/
section
variable {X : Cx} {o : Expr} {apos cpos : Pos}
def itemsR (x : U) (xs : List U) (M : UHp) (Q : UK) : Prop := ∃ a φ kvs, x = .ref a ∧ xs = [] ∧ M a = some (.sD φ kvs) ∧ SOk φ ∧ ∀ p, M p = none → Q (.ref p) (updM M p (.raw (DX.itemsO p a)))
def uDm0 (φ : DPhi) (r : U → List U → UHp → UK → Prop) (to : UTE) (σ : USt) (M : UHp) (Q : UK) : Prop := to σ M fun x M1 => isDm φ M1 x ∧ r x [] M1 Q
/-- a pair laid for an entry -/
def ItP (K : PySem.W.Frag) (H : Hp) (h' : Heap) (e : Addr × List V × Obj) (q : Str × U) : Prop :=
  ∃ v t u, e.2.1 = [.str q.1, v] ∧ RelU K H q.2 v ∧ RelV v u ∧ h'.get? e.1 = some e.2.2 ∧ e.2.2 = { cls := .type "tuple", data := .seq #[.str q.1 t, u] }
theorem ItP.pair {K : PySem.W.Frag} {H : Hp} {h' : Heap} {e : Addr × List V × Obj} {q : Str × U} (h : ItP K H h' e q) : PairOf h' (.ref e.1) q.1 := by
  obtain ⟨v, t, u, h1, h2, h3, h4, h5⟩ := h
  rw [h5] at h4
  exact ⟨e.1, t, u, _, 0, rfl, h4, rfl, rfl⟩
def sortItR (m : Bool) (xs : List U) (M : UHp) (Q : UK) : Prop := ∃ p a φ kvs, xs = [.ref p] ∧ M p = some (.raw (DX.itemsO p a)) ∧ M a = some (.sD φ kvs) ∧ SOk φ ∧ (∀ q ∈ kvs, okS q.1 = true) ∧ newL m (itemsU kvs) M Q
end
end PU

set_option Elab.async false
set_option linter.all false
set_option maxRecDepth 100000
/-! USrtE: sorted, of tuples of which the first one is empty. -/
namespace PU
open PySem PySem.Spec PyProof.Rows L2 PySem.W
section
variable {prog : Program} {w : World} {A : Around} {E : Value → Shared → Prop} {s : Shared}
end
/-- tuples that can be compared, the first one empty -/
structure SrtE (ks : List U) : Prop where
  d : ∀ k ∈ ks, isD k = true ∧ dep k ≤ 100
  t : ∀ k ∈ ks, ∃ xs, k = .tup xs
  a : ∀ a ∈ ks, ∀ b ∈ ks, PySem.W.alike (encU a) (encU b) = true
  h : ks.head? = some (.tup [])
theorem SrtE.alike {ks : List U} (h : SrtE ks) : PySem.W.AllAlike (ks.map encU) := fun d hd d' hd' => by
  obtain ⟨a, ha, rfl⟩ := List.mem_map.mp hd
  obtain ⟨b, hb, rfl⟩ := List.mem_map.mp hd'
  exact h.a a ha b hb
theorem SrtE.tups {ks : List U} (h : SrtE ks) : ∀ d ∈ ks.map encU, ∃ xs, d = PyData.tuple xs := fun d hd => by
  obtain ⟨k, hk, rfl⟩ := List.mem_map.mp hd
  obtain ⟨xs, rfl⟩ := h.t k hk
  have h1 := encU_of (h.d _ hk).1
  simp only [toD] at h1
  cases e1 : toDs xs with
  | none => rw [e1] at h1; cases h1
  | some ds => rw [e1] at h1; exact ⟨ds, (Option.some.inj h1).symm⟩
theorem SrtE.first {ks : List U} (h : SrtE ks) : (ks.map encU).head? = some (.tuple []) := by
  rw [List.head?_map, h.h]; rfl
section
variable {X : Cx} {pins : List (Addr × Obj)} {τ : L2.St} {H : Hp} {s : Shared}
end
section
variable {X : Cx} {φ : DPhi}
def sortE (φ : DPhi) (m : Bool) (xs : List U) (M : UHp) (Q : UK) : Prop := match xs with
  | [.ref a] => ∃ kvs, M a = some (.dN φ kvs) ∧ SrtE (kvs.map (·.1)) ∧ newL m (srtU (kvs.map (·.1))) M Q
  | _ => False
end
end PU

set_option Elab.async false
set_option linter.all false
set_option maxRecDepth 100000
/-! USrtL: sorted, of a list of tuples, none empty, that can be compared with one another. -/
namespace PU
open PySem PySem.Spec PyProof.Rows L2
section
variable {X : Cx}
def sortL (m : Bool) (xs : List U) (M : UHp) (Q : UK) : Prop := ∃ x ks, xs = [x] ∧ listU M x = some ks ∧ ks.length ≤ sizeLine ∧ SrtA ks ∧ newL m (srtU ks) M Q
theorem uc_sortedL (m : Bool) (hu : X.A.units + 200 < cLine) : UCallR X (.builtin "sorted") (sortL m) := by
  refine fun pins s τ H vs us Q I rv h => ?_
  refine thn (Q := EP X pins τ (FzQ Q)) ?_ fun _ _ => ep_fz
  obtain ⟨xs, M, Qu, rx, rm, ⟨x, ks, rfl, e, hL, hK, q⟩, up⟩ := h
  obtain ⟨v, t, rfl, r1, rfl⟩ := rx
  obtain ⟨l, vs, rfl, hl, rs⟩ := list_dn rm r1 e
  obtain rfl := Vals.ref1 rv
  obtain ⟨its, rv, hpl, hz⟩ := I.list hl
  have ek : PySem.W.EachIs (RelVU X.K H) its ks := each_of rs rv
  refine PySem.W.sorted_data (enc := encU) (R := RelVU X.K H) hpl.isList ek (each_reads I ek fun k hk => (hK.d k hk).1) hK.a hK.s hL (fun k hk => ?_) fun out ho eo => ?_
  · have h2 := (hK.d k hk).2
    rw [← dep_toD k _ (encU_of (hK.d k hk).1)] at h2
    omega
  · obtain ⟨vs, r1, r2⟩ := each_back (show PySem.W.EachIs (RelVU X.K H) out (srtU ks) from eo)
    obtain ⟨ep, he'⟩ := PyProof.Rows.sortedAll_at s.heap its out.toArray
    have hlen : vs.length ≤ sizeLine := by
      rw [← r1.length]
      show (ks.mergeSort kleU).length ≤ _
      rw [List.length_mergeSort]; exact hL
    exact ⟨.ref _, upd H (s.heap.objs.size + 1) (.lst vs), I.laid (t' := s.toks) (fun _ _ => PyProof.Rows.sortedAll_old) (Nat.le_succ _) (show ObjOk X.prog X.w _ _ _ (.lst vs) from ⟨hlen, out, ep, r2, he'⟩), rfl, newL_dn rm up r1 q _ (I.hok.fresh (Nat.le_succ _))⟩
end
/-! e[i], where e may raise -/
section
variable {X : Cx} {W : WX} {pos : Pos}
def xOp (r : UR2) (ta tb : UWX → UTE) (w : UWX) : UTE := uOp r (ta w) (tb w)
theorem xe_ix {a b : Expr} {ta tb : UWX → UTE} (ha : XEx X W a ta) (hb : XEx X W b tb) (hs : PlainIx b := by exact fun _ _ => rfl) : XEx X W (.Subscript a b pos) (xOp ixR ta tb) := PE.mono (pe_ix ui_ix ha hb hs) fun τ H Q h => by
  obtain ⟨σ, M, Qu, Wu, rs, rm, q, up, ux⟩ := h
  refine ⟨σ, M, _, Wu, rs, rm, q, fun x M1 v H1 q1 s1 m1 r1 => ?_, ux⟩
  refine ⟨σ, M1, _, Wu, rs.stab s1, m1, q1, fun y M2 w H2 q2 s2 m2 r2 => ?_, ux.from s1⟩
  exact ⟨_, _, M2, _, r1.stab s2, r2, m2, q2, up.from (s1.trans s2)⟩
end
/-- a number and a text -/
def irU (p : Int × Str) : U := .tup [.int p.1, .str p.2]
theorem irU_srt {ps : List (Int × Str)} (h : ∀ p ∈ ps, isD (irU p) = true) : SrtA (ps.map irU) := by
  have en : ∀ p ∈ ps, encU (irU p) = .tuple [.int p.1, .str p.2] := fun p _ => rfl
  refine ⟨fun k hk => ?_, fun d hd d' hd' => ?_, .inl fun d hd => ?_⟩
  · obtain ⟨p, hp, rfl⟩ := List.mem_map.mp hk
    exact ⟨h p hp, by simp only [irU,dep,deps]; decide⟩
  · obtain ⟨k, hk, rfl⟩ := List.mem_map.mp hd
    obtain ⟨p, hp, rfl⟩ := List.mem_map.mp hk
    obtain ⟨k', hk', rfl⟩ := List.mem_map.mp hd'
    obtain ⟨p', hp', rfl⟩ := List.mem_map.mp hk'
    rw [en p hp, en p' hp']
    simp [PySem.W.alike, PySem.W.alikeAll]
  · obtain ⟨k, hk, rfl⟩ := List.mem_map.mp hd
    obtain ⟨p, hp, rfl⟩ := List.mem_map.mp hk
    exact ⟨_, _, en p hp⟩
end PU

set_option Elab.async false
set_option linter.all false
set_option maxRecDepth 100000
/-! UReT: repr of a tuple in which lists stand by address; list of a dict with tuple keys. -/
namespace PU
open PySem PySem.Spec PyProof.Rows L2
/-- a value, lists by address also one step inside a tuple -/
def valT (M : UHp) : U → U
  | .tup xs => .tup (xs.map (val M))
  | x => val M x
theorem dps_val {K : PySem.W.Frag} {H : Hp} {M : UHp} (rm : RelM K H M) : ∀ (xs : List U) (vs : List V) (ds : List PyData), RelUs K H xs vs → toDs (xs.map (val M)) = some ds → DpAll K H vs ds
  | [], _, _, r, h => by obtain rfl := r; simp [toDs] at h; subst h; exact .nil
  | x :: xs, vs, ds, r, h => by
    simp only [List.map_cons,toDs] at h
    obtain ⟨v, w, rfl, r1, r2⟩ := r
    cases e : toD (val M x) <;> cases e2 : toDs (xs.map (val M)) <;> rw [e, e2] at h <;> simp at h
    subst h
    exact .cons (dp_val rm r1 e) (dps_val rm xs w _ r2 e2)
theorem dp_valT {K : PySem.W.Frag} {H : Hp} {M : UHp} {x : U} {v : V} {d : PyData} (rm : RelM K H M) (r : RelU K H x v) (h : toD (valT M x) = some d) : Dp K H v d := by
  cases x with
  | tup xs =>
    simp only [valT,toD,Option.map_eq_some_iff] at h
    obtain ⟨ds, e, rfl⟩ := h
    obtain ⟨a, vs, rfl, q, t⟩ := r
    exact .tup q (dps_val rm xs vs ds t e)
  | _ => exact dp_val rm r h
def reprT (xs : List U) (M : UHp) (Q : UK) : Prop := match xs with
  | [x] => okR (valT M x) ∧ Q (.str (rep (valT M x))) M
  | _ => False
theorem reprT_1 {M : UHp} {Q : UK} {x : U} : reprT [x] M Q = (okR (valT M x) ∧ Q (.str (rep (valT M x))) M) := rfl
theorem valT_isD {M : UHp} {x : U} (h : isD x = true) : valT M x = x := by
  cases x with
  | tup xs =>
    simp only [isD] at h
    have : xs.map (val M) = xs := by
      conv => rhs; rw [← List.map_id xs]
      exact List.map_congr_left fun y hy => val_isD (isDs_iff.mp h y hy)
    simp only [valT,this]
  | _ => exact val_isD (M := M) h
section
variable {X : Cx}
theorem uc_reprT (hg : X.A.guards = some []) (hu : X.A.units + 200 < cLine) : CallR X (.builtin "repr") (dnC X.K reprT) := by
  intro pins s σ H vs us Q I rv h
  obtain ⟨xs, M, Qu, r, rm, q, up⟩ := h
  unfold reprT at q
  split at q
  · rename_i x
    obtain ⟨v, w, rfl, r1, rfl⟩ := r
    obtain ⟨u, rfl, ru⟩ := vals1 rv
    obtain ⟨ok, q⟩ := q
    have oks := rep_ok ok
    obtain ⟨h1, h2, h3, h4⟩ := ok
    obtain ⟨d, e, cl⟩ := toD_some _ h1
    have er : rep (valT M x) = d.shown := by unfold rep; rw [e]
    have hd := dep_toD _ _ e
    have hz : d.shown.length ≤ sizeLine := by rw [← er]; exact okS.len oks
    obtain ⟨as, rd⟩ := Dp.reads I d v u (dp_valT rm r1 e) ru
    have fin := up _ _ (.str (rep (valT M x))) H q (Stab.refl H) rm ⟨rfl, oks⟩
    have hs := shw_toD _ _ e h2
    rw [er] at fin
    cases d with
    | none =>
      cases rd
      exact PySem.P.repr_of_none (by simp only [PyData.shown] at fin; exact ⟨.str "None", H, I.tok _, ⟨_, rfl⟩, fin⟩)
    | bool b =>
      cases rd
      exact PySem.P.repr_of_bool (by simp only [PyData.shown] at fin; exact ⟨.str _, H, I.tok _, ⟨_, rfl⟩, fin⟩)
    | int i =>
      cases rd
      exact PySem.P.repr_of_int (by simpa [PyData.showable] using hs) (by simp only [PyData.shown] at fin; exact ⟨.str _, H, I.tok _, ⟨_, rfl⟩, fin⟩)
    | str z =>
      cases rd
      exact PySem.P.repr_of_str (by simp only [PyData.shown] at fin; exact ⟨.str _, H, I.tok _, ⟨_, rfl⟩, fin⟩) (by simpa only [PyData.shown] using hz)
    | list ds =>
      have : ∃ a, u = .ref a := by cases rd; exact ⟨_, rfl⟩
      obtain ⟨a, rfl⟩ := this
      exact repr_of_reads' rd hs (PyData.noDict_hsm (noDict_of_canLay cl)) hg (by omega) (fun _ _ e => e) (fun h' u' tk hk => ⟨.str _, H, I.kept hk, ⟨_, rfl⟩, fin⟩) hz
    | tuple ds =>
      have : ∃ a, u = .ref a := by cases rd; exact ⟨_, rfl⟩
      obtain ⟨a, rfl⟩ := this
      exact repr_of_reads' rd hs (PyData.noDict_hsm (noDict_of_canLay cl)) hg (by omega) (fun _ _ e => e) (fun h' u' tk hk => ⟨.str _, H, I.kept hk, ⟨_, rfl⟩, fin⟩) hz
    | dict kvs => simp [PyData.canLay0] at cl
  · exact q.elim
end
section
variable {X : Cx} {φ : DPhi}
/-- list(d) -/
def listN (φ : DPhi) (m : Bool) (xs : List U) (M : UHp) (Q : UK) : Prop := ∃ a kvs, xs = [.ref a] ∧ M a = some (.dN φ kvs) ∧ newL m (kvs.map fun q => q.1) M Q
theorem uc_listN (hφ : DNo X.prog X.w = φ) (m : Bool) (hc : X.calm = true) : UCallR X (.type "list") (listN φ m) := by
  subst hφ
  refine fun pins s τ H vs us Q I rv h => ?_
  refine thn (Q := EP X pins τ (FzQ Q)) ?_ fun _ _ => ep_fz
  obtain ⟨xs, M, Qu, r, rm, ⟨a, kvs, rfl, ea, q⟩, up⟩ := h
  obtain ⟨v, t, rfl, rfl, rfl⟩ := r
  cases rv with
  | cons r1 r2 =>
    cases r2
    cases r1
    obtain ⟨xs0, ys, hH, rd, ey, ry, hz, hsm, o, es, ep, ho, hcx, hd, he, his, hn⟩ := dn_at I rm ea
    have hes : es.size = ys.length := by rw [← Array.length_toList, he, List.length_map]
    refine PySem.W.kdl_call (PySem.KdlSrc.rawDict (es := es) (ep := ep) hsm) (I.ok.hd hc) ⟨o, ho, hcx, hd⟩ (by rw [hes, ← ry.length]; exact hz) fun h' tk acc c' hk hD hacc => ?_
    have hal : acc.toList = ys.map fun y => Value.ref y.2.1 := by
      refine List.ext_getElem? fun j => ?_
      by_cases hj : j < ys.length
      · have hj2 : j < acc.size := by rw [hacc.1, hes]; exact hj
        obtain ⟨hi, ev⟩ := hacc.2 j acc[j] (Array.getElem?_eq_getElem hj2)
        rw [Array.getElem?_toList, Array.getElem?_eq_getElem hj2, ev, List.getElem?_map, List.getElem?_eq_getElem hj]
        have e2 : es.toList[j]? = (ys.map (entryOfKey (nestedKind X.prog X.w)))[j]? := by rw [he]
        rw [Array.getElem?_toList, Array.getElem?_eq_getElem hi, List.getElem?_map, List.getElem?_eq_getElem hj] at e2
        have e3 := Option.some.inj e2
        rw [e3]; rfl
      · rw [List.getElem?_eq_none (by rw [Array.length_toList, hacc.1, hes]; omega), List.getElem?_eq_none (by rw [List.length_map]; omega)]
    have ek := each_keys ry
    rw [← hal] at ek
    obtain ⟨vs, k1, k2⟩ := each_back (show PySem.W.EachIs (RelVU X.K H) acc.toList (kvs.map fun q => q.1) from ek)
    have hn := I.hok.fresh (Nat.le_refl s.heap.objs.size)
    have hlen : vs.length ≤ sizeLine := by rw [← k1.length, List.length_map]; exact hz
    exact ⟨.ref s.heap.objs.size, upd H s.heap.objs.size (.lst vs), I.laid (t' := tk) (fun b u z => hk b u z) (Nat.le_refl _) (show ObjOk X.prog X.w _ _ _ (.lst vs) from ⟨hlen, acc.toList, c', k2, by simpa using hD⟩), rfl, newL_dn rm up k1 q _ hn⟩
end
end PU

set_option Elab.async false
set_option linter.all false
set_option maxRecDepth 100000
/-! UTmul: a tuple times 1, times 0 (under way: the two walks of tuple.__mul__). -/
namespace PU
open PySem PySem.Spec PyProof.Rows L2
theorem tuple_mul1 (l : Addr) (items : Array Value) (n : Nat) (dd : Option Addr) (sl : Array (Option Value)) (x : Int) (u : Tok) (c0 : (decide (x < -(2 ^ 63)) || decide (x ≥ 2 ^ 63)) = false) (c1 : (items.isEmpty || x == 1) = true) :
    Meets (Builtin.«tuple.__mul__» ⟨[.ref l, .int x u], []⟩) (fun _ R s => s.heap.get? l = some { cls := .type "tuple", dict := dd, data := .seq items n, slots := sl } ∧
      R (.ok (.ret (Value.ref l))) s) :=
  .of_wp fun prog w A R s h => by
    obtain ⟨hp, g, d, tk, os⟩ := s
    obtain ⟨hl, h⟩ := h
    have f1 := AutoSeq1.idx_int
    wp_walk using wpAny_loadPart' hl
    repeat (first
      | (refine wpAny_ite_false (decide_eq_false (by rw [c0]; exact Bool.false_ne_true)) ?_; wp_walk using wpAny_loadPart' hl)
      | (refine wpAny_ite_true (decide_eq_true c1) ?_; wp_walk using wpAny_loadPart' hl))
    exact ⟨_, rfl, h⟩
theorem tuple_mul0 (l : Addr) (items : Array Value) (n : Nat) (dd : Option Addr) (sl : Array (Option Value)) (x : Int) (u : Tok) (c0 : (decide (x < -(2 ^ 63)) || decide (x ≥ 2 ^ 63)) = false) (c1 : (items.isEmpty || x == 1) = false) (c2 : (decide (x ≤ 0) || items.isEmpty) = true) :
    Meets (Builtin.«tuple.__mul__» ⟨[.ref l, .int x u], []⟩) (fun _ R s => s.heap.get? l = some { cls := .type "tuple", dict := dd, data := .seq items n, slots := sl } ∧
      R (.ok (.ret (Value.ref s.heap.objs.size))) { s with heap := s.heap.push { cls := Value.type "tuple", data := Data.seq #[] }, toks := s.toks }) :=
  .of_wp fun prog w A R s h => by
    obtain ⟨hp, g, d, tk, os⟩ := s
    obtain ⟨hl, h⟩ := h
    have f1 := AutoSeq1.idx_int
    wp_walk using wpAny_loadPart' hl
    repeat (first
      | (refine wpAny_ite_false (decide_eq_false (by rw [c0]; exact Bool.false_ne_true)) ?_; wp_walk using wpAny_loadPart' hl)
      | (refine wpAny_ite_false (decide_eq_false (by rw [c1]; exact Bool.false_ne_true)) ?_; wp_walk using wpAny_loadPart' hl)
      | (refine wpAny_ite_true (decide_eq_true c2) ?_; wp_walk using wpAny_loadPart' hl))
    exact ⟨_, rfl, h⟩
section
variable {X : Cx}
def mulT (x y : U) (M : UHp) (Q : UK) : Prop := ∃ xs k, x = .tup xs ∧ y = .int k ∧ xs ≠ [] ∧ (k = 0 ∨ k = 1) ∧ Q (.tup (List.replicate k.toNat xs).flatten) M
theorem uo_mulT : UOpR X (binaryOp .Mult) mulT := by
  intro pins s σ H x y v u Q I rx ry h
  refine thn (Q := EP X pins σ (FzQ Q)) ?_ fun _ _ => ep_fz
  obtain ⟨x', y', M, Qu, r1, r2, rm, ⟨xs, k, rfl, rfl, hne, hk, q⟩, up⟩ := h
  have r1' := r1
  obtain ⟨l, vs, rfl, sq, t⟩ := r1
  obtain rfl := r2
  cases rx
  obtain ⟨tk, rfl⟩ := ry
  obtain ⟨its, r, ⟨⟨cls, dd, data, sl⟩, ho, hc, n, hd⟩, hs⟩ := I.tuple sq.t
  simp only at hc hd
  subst hc hd
  have hi : its.toArray.isEmpty = false := by
    cases its with
    | nil =>
      have h1 := r.length
      have h2 := t.length
      exact absurd (List.eq_nil_of_length_eq_zero (by simpa [h1] using h2)) hne
    | cons a b => rfl
  rcases hk with rfl | rfl
  · refine wpAny_binaryOp_repeat_ref (T := "tuple") (U := "int") (by decide) ⟨_, ho, rfl⟩ (fun s' => typeIs_int s' 0 tk) noFill_tuple_mul F.fills_int_mul F.slot_int_rmul repeat_tuple F.slot_int_index.lookup
      (call_meets F.slot_int_rmul (typeIs_int s 0 tk) F.entry_int_rmul (F.args_int_rmul_2 _ _) (int_rmul_tuple 0 tk l its.toArray n dd sl)
        ⟨ho, rfl, ⟨_, ho, rfl⟩, call_meets F.slot_tuple_mul ⟨_, ho, rfl⟩ F.entry_tuple_mul (F.args_tuple_mul_2 _ _) (tuple_mul0 l its.toArray n dd sl 0 tk (by decide) (by rw [hi]; rfl) (by rw [hi]; rfl)) ⟨ho, ?_⟩⟩)
    exact ⟨.ref _, _, I.laid (t' := s.toks) (o := .frz _ (.tup [])) (fun b ob q => Heap.get?_push_of_some _ q) (Nat.le_refl _) ⟨Heap.get?_push_size _ rfl, Nat.zero_le _, _, .nil, IsTup.new _ _⟩, rfl, .inl (newT_dn rm up (xs := []) RelUs.nil q _ _ (I.hok.fresh (Nat.le_refl _)) rfl)⟩
  · refine wpAny_binaryOp_repeat_ref (T := "tuple") (U := "int") (by decide) ⟨_, ho, rfl⟩ (fun s' => typeIs_int s' 1 tk) noFill_tuple_mul F.fills_int_mul F.slot_int_rmul repeat_tuple F.slot_int_index.lookup
      (call_meets F.slot_int_rmul (typeIs_int s 1 tk) F.entry_int_rmul (F.args_int_rmul_2 _ _) (int_rmul_tuple 1 tk l its.toArray n dd sl)
        ⟨ho, rfl, ⟨_, ho, rfl⟩, call_meets F.slot_tuple_mul ⟨_, ho, rfl⟩ F.entry_tuple_mul (F.args_tuple_mul_2 _ _) (tuple_mul1 l its.toArray n dd sl 1 tk (by decide) (by rw [hi]; rfl)) ⟨ho, ?_⟩⟩)
    have q2 : Qu (.tup xs) M := by simpa using q
    exact ⟨.ref l, H, I, rfl, .inl (up _ _ _ _ q2 (Stab.refl H) rm r1')⟩
end
end PU

set_option Elab.async false
set_option linter.all false
set_option maxRecDepth 100000
/-! USum: sum, min, max; sorted(d) and d.pop(k), d with text keys. -/
namespace PU
open PySem PySem.Spec PyProof.Rows L2

def intsU : List U → Option (List Int)
  | [] => some []
  | .int i :: r => (intsU r).map (i :: ·)
  | _ => none
section
variable {X : Cx}
def sumR (xs : List U) (M : UHp) (Q : UK) : Prop := ∃ x ys ns, xs = [x] ∧ listU M x = some ys ∧ intsU ys = some ns ∧ Q (.int ns.sum) M
def minR (xs : List U) (M : UHp) (Q : UK) : Prop := ∃ i j : Int, xs = [.int i, .int j] ∧ Q (.int (if j < i then j else i)) M
def maxR (xs : List U) (M : UHp) (Q : UK) : Prop := ∃ i j : Int, xs = [.int i, .int j] ∧ Q (.int (if j > i then j else i)) M
theorem uc_max (hc : X.calm = true) : UCallR X (.builtin "max") maxR := CallR.mono (call_max2 hc) fun vs H Q h => by
  obtain ⟨xs, M, Qu, r, rm, ⟨i, j, rfl, q⟩, up⟩ := h
  obtain ⟨v, w, rfl, rfl, v2, w2, rfl, rfl, rfl⟩ := r
  exact ⟨i, j, rfl, up _ _ _ _ q (Stab.refl H) rm rfl⟩
/-- sorted(d), d with text keys -/
def sortSD (m : Bool) (xs : List U) (M : UHp) (Q : UK) : Prop := ∃ a φ kvs, xs = [.ref a] ∧ M a = some (.sD φ kvs) ∧ SOk φ ∧ kvs.length < 64 ∧ (∀ q ∈ kvs, okS q.1 = true) ∧ ∀ ys : List Str, ys.Perm (kvs.map (·.1)) → sortedS ys = true → newL m (ys.map .str) M Q
/-- d.pop(k), k there -/
def pop1S (x : U) (xs : List U) (M : UHp) (Q : UK) : Prop := ∃ a kvs z v, x = .ref a ∧ M a = some (.sD HO.dK kvs) ∧ xs = [.str z] ∧ getS kvs z = some v ∧ Q v (updM M a (.sD HO.dK (dropS kvs z)))
end
/-! a, b = a list -/
section
variable {X : Cx} {pos : Pos}
def ugLst (n : Nat) (t : UTGs) (v : U) (σ : USt) (M : UHp) (Q : USt → UHp → Prop) : Prop := ∃ xs, listU M v = some xs ∧ xs.length = n ∧ t xs σ M Q
theorem gLst_l {n : Nat} {t : UTGs} {xs : List U} {σ : USt} {M : UHp} {Q : USt → UHp → Prop} : ugLst n t (.lst xs) σ M Q = (xs.length = n ∧ t xs σ M Q) := propext ⟨fun ⟨ys, e, h⟩ => by cases e; exact h, fun h => ⟨xs, rfl, h⟩⟩
theorem gLst_r {n : Nat} {t : UTGs} {p : Addr} {σ : USt} {M : UHp} {Q : USt → UHp → Prop} : ugLst n t (.ref p) σ M Q = (∃ xs, refL (M p) = some xs ∧ xs.length = n ∧ t xs σ M Q) := by unfold ugLst; rw [z2r]
end
section
variable {M : UHp} {Q : UK} {xs : List U} {p : Addr} {i j : Int}
theorem sum_l : sumR [.lst xs] M Q = (∃ ns, intsU xs = some ns ∧ Q (.int ns.sum) M) := propext ⟨fun ⟨_, _, ns, e, h1, h2, q⟩ => by
  cases e
  cases h1
  exact ⟨ns, h2, q⟩, fun ⟨ns, h2, q⟩ => ⟨_, _, ns, rfl, rfl, h2, q⟩⟩
theorem sum_r : sumR [.ref p] M Q = (∃ ys ns, refL (M p) = some ys ∧ intsU ys = some ns ∧ Q (.int ns.sum) M) := propext ⟨fun ⟨_, ys, ns, e, h1, h2, q⟩ => by
  cases e
  exact ⟨ys, ns, by rw [← z2r]; exact h1, h2, q⟩, fun ⟨ys, ns, h1, h2, q⟩ => ⟨_, ys, ns, rfl, by rw [z2r]; exact h1, h2, q⟩⟩
theorem min_ii : minR [.int i, .int j] M Q = Q (.int (if j < i then j else i)) M := propext ⟨fun ⟨_, _, e, q⟩ => by cases e; exact q, fun q => ⟨_, _, rfl, q⟩⟩
theorem max_ii : maxR [.int i, .int j] M Q = Q (.int (if j > i then j else i)) M := propext ⟨fun ⟨_, _, e, q⟩ => by cases e; exact q, fun q => ⟨_, _, rfl, q⟩⟩
theorem bt_max : bootBuiltins "max" = some (.builtin "max") := by decide +kernel
end
end PU

set_option Elab.async false
set_option linter.all false
set_option maxRecDepth 100000
/-! UDp: dict(pairs), the keys tuples. -/
namespace PU
open PySem PySem.Spec PyProof.Rows L2

def pairsN : List U → Option (List (U × U))
  | [] => some []
  | .tup [.tup ks, v] :: r => (pairsN r).map ((.tup ks, v) :: ·)
  | _ => none
def mergeN (kvs more : List (U × U)) : List (U × U) := more.foldl (fun acc p => putN acc p.1 p.2) kvs
theorem mergeN_len : ∀ (more kvs : List (U × U)), (mergeN kvs more).length ≤ kvs.length + more.length
  | [], kvs => Nat.le_refl _
  | p :: more, kvs => by
    have h1 := mergeN_len more (putN kvs p.1 p.2)
    have h2 := putN_len kvs p.1 p.2
    show (mergeN (putN kvs p.1 p.2) more).length ≤ _
    rw [List.length_cons]; omega
section
variable {K : PySem.W.Frag} {H : Hp}
theorem relY_merge {more : List (U × U)} {prs : NYs} (h : RelY K H more prs) : ∀ {kvs : List (U × U)} {ys : NYs}, RelY K H kvs ys → RelY K H (mergeN kvs more) (PySem.storedAllH ys prs) := by
  induction h with
  | nil => intro kvs ys k; exact k
  | cons h1 h2 h3 h4 h5 _ ih =>
    intro kvs ys k
    exact ih (k.put h1 h2 h3 h4 h5)
end
section
variable {X : Cx} {pins : List (Addr × Obj)} {τ : L2.St} {H : Hp} {s : Shared}
end
section
variable {X : Cx} {φ : DPhi}
/-- dict(xs), xs pairs with tuples -/
def dictN (φ : DPhi) (xs : List U) (M : UHp) (Q : UK) : Prop := ∃ x ps kvs, xs = [x] ∧ listU M x = some ps ∧ pairsN ps = some kvs ∧ (∀ q ∈ kvs, kOk q.1) ∧ ∀ p, M p = none → Q (.ref p) (updM M p (.dN φ (mergeN [] kvs)))
end
end PU

set_option Elab.async false
set_option linter.all false
set_option maxRecDepth 100000
/-! UUpd: d.update(d2), both with tuple keys. -/
namespace PU
open PySem PySem.Spec PyProof.Rows L2

section
variable {X : Cx} {φ : DPhi}
/-- d.update(d2), d not empty -/
def updN (φ : DPhi) (x : U) (us : List U) (M : UHp) (Q : UK) : Prop := ∃ a b kvs more, x = .ref a ∧ us = [.ref b] ∧ a ≠ b ∧ M a = some (.dN φ kvs) ∧ M b = some (.dN φ more) ∧ kvs ≠ [] ∧ kvs.length + more.length ≤ sizeLine ∧ Q .non (updM M a (.dN φ (mergeN kvs more)))
theorem um_updN (hφ : DNo X.prog X.w = φ) (hu : X.A.units + 200 < cLine) : UMtR X "dict.update" (updN φ) := by
  subst hφ
  refine fun pins s τ H v vs u us Q I rv rvs h => ?_
  obtain ⟨x, xs, M, Qu, r1, r2, rm, ⟨a, b, kvs, more, rfl, rfl, hab, e, e2, hne, hl, q⟩, up⟩ := h
  obtain rfl := r1
  obtain rfl : u = Value.ref a := rv
  obtain ⟨xs0, ys, hH, rd, ey, ryy, hz, hsm, dd⟩ := dn_at I rm e
  obtain ⟨xs2, ys2, hH2, rd2, ey2, ryy2, hz2, hsm2, dd2⟩ := dn_at I rm e2
  obtain ⟨v1, t, rfl, rk, rfl⟩ := r2
  obtain rfl := rk
  cases rvs with
  | cons k1 k2 =>
    cases k2
    cases k1
    have hne2 : ys ≠ [] := fun z => hne (List.length_eq_zero_iff.mp (by rw [ryy.length, z]; rfl))
    refine PySem.call_update_dictH (knd := nestedKind X.prog X.w) (room8 hu) hab hsm2 dd dd2 (.inl hne2) (by rw [← ryy.length, ← ryy2.length]; exact hl) fun h' dd' _ sb => ?_
    have l1 := mergeN_len more kvs
    obtain ⟨xs1, J, st, rm'⟩ := dn_put (tk := s.toks) I rm e (kvs' := mergeN kvs more) (by omega) (relY_merge ryy2 ryy) dd' sb
    exact ⟨.non, _, J, rfl, up _ _ _ _ q st rm' rfl⟩
theorem type_dict_update : typeOf (.builtin "dict.update") = pure (.type "method_descriptor") := by show builtinType _ = _; rw [builtinType_eq_fast]; kernel_rfl
theorem disp_raw {prog : Program} {w : World} {K : Type} [DecidableEq K] {knd : HeapKind prog w K} {A : Around} {E : Value → Shared → Prop} {s : Shared} {env : Env} {keys : List (Option Expr)} {values : List Expr} {pos : Pos} {pairs : List (Sem Value × Sem Value)} {Q : Value → Shared → Prop} (hu : knd.room A)
    (hshape : (evalEachOpt keys env).zip ((evalEach values env).map fun v => do let x ← v; standAt pos; pure x) = pairs.map fun p => (some p.1, p.2)) (h0 : pairs ≠ []) (hlen : pairs.length ≤ 15)
    (h : wpAny (model prog w) A (evalPairs pairs) (fun vs s₁ => ∃ ps, CarriesH knd s₁.heap vs ps ∧ s₁.heap.DictOfH knd s.heap.objs.size [] ∧
      ∀ h' tk, h'.DictOfH knd s.heap.objs.size (storedAllH [] ps) → Heap.SameBut s.heap.objs.size s₁.heap h' → Q (.ref s.heap.objs.size) { s₁ with heap := h', toks := tk }) E
      { s with heap := s.heap.push { cls := .type "dict", data := .dict #[] } }) :
    wpAny (model prog w) A (eval (.Dict keys values pos) env) Q E s := by
  rw [arm_eval_Dict, hshape, dictDisplay_pairs pairs h0 (by omega)]
  exact wpAny_bind (wpAny_standAt (wpAny_bind (wpAny_subDictH (knd := knd) (Q := fun d s' => wpAny (model prog w) A (pure (Value.ref d)) Q E s') hu hlen
    (wpAny_mono h (fun vs s₁ h₁ => by obtain ⟨ps, hc, hm, hq⟩ := h₁; exact ⟨ps, hc, hm, fun h' tk a b => wpAny_pure (hq h' tk a b)⟩) fun _ _ e => e))))
/-- {k: v}, k a tuple -/
def uD1 (φ : DPhi) (tk tv : UTE) : UTE := fun σ M Q => ∀ p, M p = none → tk σ (updM M p (.dN φ [])) fun k M1 => tv σ M1 fun v M2 => ∃ xs, k = .tup xs ∧ kOk k ∧ M2 p = some (.dN φ []) ∧ Q (.ref p) (updM M2 p (.dN φ [(k, v)]))
theorem ue_disp1 {pos : Pos} {ke ve : Expr} {tk tv : UTE} (hφ : DNo X.prog X.w = φ) (hu : X.A.units + 200 < cLine) (hk : UE X ke tk) (hv : UE X ve tv) : UE X (.Dict [some ke] [ve] pos) (uD1 φ tk tv) := by
  subst hφ
  refine ⟨fun pins s τ H Q I h => ?_⟩
  obtain ⟨σ, M, Qu, rs, rm, q, up⟩ := h
  have hn := I.hok.fresh (Nat.le_refl s.heap.objs.size)
  have st : Stab H (upd H s.heap.objs.size (DNo X.prog X.w s.heap.objs.size [])) := Stab.new hn
  have I1 : Inv X pins τ (upd H s.heap.objs.size (DNo X.prog X.w s.heap.objs.size [])) { s with heap := s.heap.push { cls := .type "dict", data := .dict #[] } } := I.laid (a := s.heap.objs.size) (o := DNo X.prog X.w s.heap.objs.size []) (t' := s.toks) (fun _ _ q => Heap.get?_push_of_some _ q) (Nat.le_refl _)
    (dno_ok (ys := []) (Nat.zero_le _) (beq_eq_false_iff_ne.mpr (Ne.symm (Nat.ne_of_lt I.big))) .nil ⟨_, #[], 0, Heap.get?_push_size _ rfl, ⟨rfl, rfl, rfl⟩, rfl, rfl, List.nodup_nil⟩)
  have rm1 := rm.write st (o := .dN (DNo X.prog X.w) []) ⟨[], upd_same, rfl⟩
  refine disp_raw (knd := nestedKind X.prog X.w) (by show X.A.units + 8 < cLine; omega) (zip_pairTrees [some ke] [ve] X.env pos rfl rfl) (by simp [pairTrees]) (by simp [pairTrees]) ?_
  refine pairTrees_cons_walk (thn (hk.run pins _ τ _ (fun v H' => ∃ x M', (tv σ M' fun v M2 => ∃ xs, x = .tup xs ∧ kOk x ∧ M2 s.heap.objs.size = some (.dN (DNo X.prog X.w) []) ∧ Qu (.ref s.heap.objs.size) (updM M2 s.heap.objs.size (.dN (DNo X.prog X.w) [(x, v)]))) ∧ Stab (upd H s.heap.objs.size (DNo X.prog X.w s.heap.objs.size [])) H' ∧ RelM X.K H' M' ∧ RelU X.K H' x v) I1 ⟨σ, _, _, rs.stab st, rm1, q _ (rm.none hn), fun x M' v H' a b c d => ⟨x, M', a, b, c, d⟩⟩) ?_)
  rintro u s1 ⟨kv, H1, I2, rk, x, M1, q1, st1, rmA, rx⟩
  refine thn (hv.run pins _ τ _ (fun v H' => ∃ y M', (∃ xs, x = .tup xs ∧ kOk x ∧ M' s.heap.objs.size = some (.dN (DNo X.prog X.w) []) ∧ Qu (.ref s.heap.objs.size) (updM M' s.heap.objs.size (.dN (DNo X.prog X.w) [(x, y)]))) ∧ Stab H1 H' ∧ RelM X.K H' M' ∧ RelU X.K H' y v) I2 ⟨σ, _, _, (rs.stab st).stab st1, rmA, q1, fun x M' v H' a b c d => ⟨x, M', a, b, c, d⟩⟩) ?_
  rintro u2 s2 ⟨vv, H2, I3, rv, y, M2, ⟨xs, rfl, hkk, e, q2⟩, st2, rmB, ry⟩
  refine pairTrees_nil_walk ?_
  obtain ⟨b, nk, rfl, rfl, e1, hd, his⟩ := key_is I3 hkk (rx.stab st2) rk ⟨xs, rfl⟩
  obtain ⟨xs0, ys, hH, rd, ey, ryy, hz, hsm, dd⟩ := dn_at I3 rmB e
  cases ryy
  refine ⟨[(nk, b, u2)], ⟨rfl, rfl, his, True.intro⟩, dd, fun h' tk dd' sb => ?_⟩
  obtain ⟨xs1, J, st3, rm'⟩ := dn_put (tk := tk) I3 rmB e (kvs' := [(.tup xs, y)]) (by show 1 ≤ sizeLine; rw [sizeLine_eq]; omega) (.cons e1 hd (rx.stab st2) ry rv .nil) dd' sb
  exact ⟨.ref s.heap.objs.size, _, J, rfl, up _ _ _ _ q2 (((st.trans st1).trans st2).trans st3) rm' rfl⟩
end
end PU

set_option Elab.async false
set_option linter.all false
set_option maxRecDepth 100000
/-! ULaw: from a def's promise to the law's row. -/
namespace PU
open PySem PySem.Spec PyProof.Rows L2

theorem rel_ints {K : PySem.W.Frag} {H : Hp} : ∀ ns : List Int, RelUs K H (ns.map .int) (ns.map V.int)
  | [] => RelUs.nil
  | _ :: ns => RelUs.cons rfl (rel_ints ns)
/-- what a law's def promises of the script -/
abbrev LawSp (sp : USp) (m : Nat) : Prop := ∀ (ns : List Int), ns.length ≤ m → ∀ Q : UK, (∀ M, Q (.bl true) M) → sp [.lst (ns.map .int)] (fun _ => none) Q EU0
theorem call_law {P : Program} {w : World} {K : PySem.W.Frag} {mg mb : Str → Option Value} {k m : Nat} {fa a : Addr} {fd : FuncData} {x : Str} {sp : USp} {s₁ : Shared} {vs : List Value} {ns : List Int}
    (KX : K.In s₁.heap) (hns : s₁.heap.Ns mainGlobals mg) (hb : s₁.heap.Ns builtinsNs mb) (hbb : ∀ x : Str, x ≠ "__name__" → mb x = bootBuiltins x) (hlim : s₁.heap.NoLimit) (hg : s₁.gens = #[])
    (ha : s₁.heap.get? a = some { cls := .type "list", data := .seq vs.toArray }) (hi : IntsAre vs ns) (hm : ns.length ≤ m) (hl : m ≤ sizeLine) (hr : Room k callerA) (hG : callerA.guards = some [])
    (F : ∀ base : Heap, K.In base → base.Ns mainGlobals mg → UFn P w K mg base CX0 k fa fd [x] sp) (hbind : ∀ (s : Shared) (u : Value), BindsTo s fd ⟨[u], []⟩ [(x, u)]) (hsp : LawSp sp m) :
    codeAny (model P w) callerA (.call (.ref fa) ⟨[.ref a], []⟩) (fun r s' => r = .ok (.ret (.bool true)) ∧ OldK s₁.heap s'.heap ∧ s'.os = s₁.os ∧ AllBare s'.gens) s₁ := by
  have rv := vals_ints hi
  have lenV := hi.length
  have one : ∀ H : Hp, FzL K H a (ns.map V.int) → HOk P w H s₁.heap → (∀ b, H b = none ∨ (b = a ∧ K.lookup a = none ∧ ∃ o, H b = some (.frz o (.lst (ns.map V.int))))) →
      codeAny (model P w) callerA (.call (.ref fa) ⟨[.ref a], []⟩) (fun r s' => r = .ok (.ret (.bool true)) ∧ OldK s₁.heap s'.heap ∧ s'.os = s₁.os ∧ AllBare s'.gens) s₁ := by
    intro H hF hok hA
    have free : ∀ {b : Addr} {o : Obj}, s₁.heap.get? b = some o → (b = a → K.lookup a = none → False) → (hidT s₁.heap H).get? b = some o := fun {b o} e n => by
      rcases hA b with z | ⟨rfl, z, _⟩
      · exact hidT_get e z
      · exact (n rfl z).elim
    have space : ∀ {b : Addr} {f : Str → Option Value}, s₁.heap.Ns b f → (hidT s₁.heap H).Ns b f := fun {b f} ⟨o, es, ep, e, d, r⟩ => ⟨o, es, ep, free e fun h _ => (by
      subst h
      rw [ha] at e
      cases e
      have d' : Data.seq vs.toArray _ = Data.dict es ep := d
      cases d'), d, r⟩
    have kin : K.In (hidT s₁.heap H) := fun b o e => free (KX b o e) fun h z => (by subst h; rw [z] at e; cases e)
    have md : Mod K mg (hidT s₁.heap H) := ⟨kin, space hns, ⟨mb, space hb, hbb⟩, let ⟨mc, h1, h2⟩ := hlim; ⟨mc, space h1, h2⟩⟩
    have e0 : Env0 P w K mg (hidT s₁.heap H) callerA [] s₁ H := ⟨rfl, md, fun b o e => of_hidT e, Nat.le_of_eq (hidT_size _ _), trivial, fun b hb => absurd (show b ∈ ([] : List Addr) from hb) (by simp), hok, .of_eq hg⟩
    have prom : dnP K sp [.ref a] H (fun v _ => v = .bl true) (fun _ _ _ => False) := by
      refine ⟨[.lst (ns.map .int)], fun _ => none, fun y _ => y = .bl true, EU0, ⟨.ref a, [], rfl, ⟨a, _, rfl, hF, rel_ints ns⟩, rfl⟩, (fun b o e => by cases e), hsp ns hm _ (fun _ => rfl), (fun y M' v H' q _ _ r => ?_), fun _ _ _ _ z _ _ => z.elim⟩
      subst q
      exact r
    refine codeAny_mono ((F _ kin (space hns)).go callerA [] s₁ H ⟨[.ref a], []⟩ [.ref a] [.ref a] _ _ hr hG e0 (hbind s₁ (.ref a)) (.cons rfl .nil) prom) fun r s' h => ?_
    match r, h with
    | .error e, h => exact False.elim h
    | .ok .next, h => exact False.elim h
    | .ok .brk, h => exact False.elim h
    | .ok .cont, h => exact False.elim h
    | .ok (.ret u), h =>
      obtain ⟨v, H', os, bare, un, hok', r', q⟩ := h
      have q' : v = .bl true := q
      subst q'
      obtain rfl : u = Value.bool true := r'
      refine ⟨rfl, OldK.of_keep fun b o e => ?_, os, bare⟩
      rcases hA b with z | ⟨_, _, ob, z⟩
      · exact un.keep b o e z (by intro z; exact absurd (show b ∈ ([] : List Addr) from z) (by simp)) (by simp)
      · have z2 := un.frzs b ob _ z
        obtain ⟨e1, _⟩ := hok b _ z
        obtain ⟨e2, _⟩ := hok' b _ z2
        rw [e] at e1; cases e1
        exact e2
  cases hk : K.lookup a with
  | some o =>
    have e := KX a o hk
    rw [ha] at e
    cases e
    exact one (fun _ => none) (.inr ⟨_, vs.toArray, _, hk, rfl, rfl, rfl, by rw [List.size_toArray, lenV]; omega, by simpa using rv⟩) (fun b u z => by have z' : (none : Option HO) = some u := z; cases z') fun _ => .inl rfl
  | none =>
    have at_a : (fun b => if b = a then some (HO.frz { cls := .type "list", data := .seq vs.toArray } (.lst (ns.map V.int))) else none) a = some (HO.frz { cls := .type "list", data := .seq vs.toArray } (.lst (ns.map V.int))) := if_pos rfl
    refine one (fun b => if b = a then some (.frz { cls := .type "list", data := .seq vs.toArray } (.lst (ns.map V.int))) else none) (.inl ⟨_, at_a⟩) (fun b u z => ?_) fun b => ?_
    · by_cases h : b = a
      · subst h
        have z' := at_a.symm.trans z
        cases z'
        exact ⟨ha, by rw [List.length_map]; omega, vs, _, rv, ha⟩
      · have z' := (if_neg h).symm.trans z
        cases z'
    · by_cases h : b = a
      · exact .inr ⟨h, hk, _, if_pos h⟩
      · exact .inl (if_neg h)
theorem law_walk {l : PySem.W.OpenLaw} {n k : Nat} {q : Program} {loose : List Str} {XP : (Str → Option Value) → Heap → Prop} {YP : World → Heap → Prop} {d : DefRec} {K : Params → PySem.W.Frag} {sp : USp} {x : Str}
    (hn : l.most = some n) (hn2 : n ≤ sizeLine) (hdf : d.params.defaults = []) (hr : Room k callerA) (hG : callerA.guards = some []) (hY : ∀ (w : World) (h : Heap), YP w h → (K w.params).In h) (hsp : LawSp sp n)
    (F : ∀ (w : World) (mg : Str → Option Value) (fa : Addr) (h : Heap), (K w.params).In h → h.Ns mainGlobals mg → mg d.name = some (.ref fa) →
      ∃ fd : FuncData, (∀ (s : Shared) (u : Value), BindsTo s fd ⟨[u], []⟩ [(x, u)]) ∧ ∀ base : Heap, (K w.params).In base → base.Ns mainGlobals mg → UFn l.prog w (K w.params) mg base CX0 k fa fd [x] sp) :
    PySem.W.WalkO q loose XP YP l.row.toRowW d [] (fun f vs => PySem.call f vs) := by
  refine Att.attach_call hn hdf fun w s₀ s₁ mg mb fa o pm cd doc a vs ns G Y ho hd hcd hmg hobj hints hlen hg => ?_
  have KX := hY w _ Y
  obtain ⟨fd, hb, hF⟩ := F w mg fa _ KX G.T.g hmg
  exact call_law KX G.T.g G.T.b G.T.builtins G.T.nolimit hg hobj hints hlen hn2 hr hG hF hb hsp
end PU

set_option Elab.async false
set_option linter.all false
set_option maxRecDepth 100000
namespace PU
open PySem PySem.Spec PyProof.Rows L2
def inCl (s : Stmt) (j : Nat) : Stmt := match s with
  | .ClassDef _ _ _ body _ _ _ _ _ _ _ => body.getD j (.Pass ⟨0, 0, 0, 0⟩)
  | s => s
def topS (i : Nat) : Stmt := PySem.Challenge.pw_variantnest_k08_children_in_order.main.body.getD i (.Pass ⟨0, 0, 0, 0⟩)

/-! as_tuples -/
abbrev s_as_tuples : Stmt := topS 3
theorem sc_as_tuples : FnScope ["thing", "part"] ["thing"] (defScope s_as_tuples) := ⟨rfl, rfl, rfl, by decide +kernel, rfl, by decide +kernel, by decide +kernel⟩

/-! is_name -/
abbrev s_is_name : Stmt := topS 4
theorem sc_is_name : FnScope ["value", "letter"] ["value"] (defScope s_is_name) := ⟨rfl, rfl, rfl, by decide +kernel, rfl, by decide +kernel, by decide +kernel⟩

/-! is_integer -/
abbrev s_is_integer : Stmt := topS 5
theorem sc_is_integer : FnScope ["value"] ["value"] (defScope s_is_integer) := ⟨rfl, rfl, rfl, by decide +kernel, rfl, by decide +kernel, by decide +kernel⟩

/-! is_path -/
abbrev s_is_path : Stmt := topS 6
theorem sc_is_path : FnScope ["value", "part"] ["value"] (defScope s_is_path) := ⟨rfl, rfl, rfl, by decide +kernel, rfl, by decide +kernel, by decide +kernel⟩

/-! is_link -/
abbrev s_is_link : Stmt := topS 7
theorem sc_is_link : FnScope ["value"] ["value"] (defScope s_is_link) := ⟨rfl, rfl, rfl, by decide +kernel, rfl, by decide +kernel, by decide +kernel⟩

/-! is_value -/
abbrev s_is_value : Stmt := topS 8
theorem sc_is_value : FnScope ["value"] ["value"] (defScope s_is_value) := ⟨rfl, rfl, rfl, by decide +kernel, rfl, by decide +kernel, by decide +kernel⟩

/-! are_named -/
abbrev s_are_named : Stmt := topS 14
theorem sc_are_named : FnScope ["pairs", "pair"] ["pairs"] (defScope s_are_named) := ⟨rfl, rfl, rfl, by decide +kernel, rfl, by decide +kernel, by decide +kernel⟩

/-! is_ascending -/
abbrev s_is_ascending : Stmt := topS 15
theorem sc_is_ascending : FnScope ["pairs", "names", "pair"] ["pairs"] (defScope s_is_ascending) := ⟨rfl, rfl, rfl, by decide +kernel, rfl, by decide +kernel, by decide +kernel⟩

/-! is_tree_of -/
abbrev s_is_tree_of : Stmt := topS 16
theorem sc_is_tree_of : FnScope ["value", "levels", "pair", "pairs"] ["value", "levels"] (defScope s_is_tree_of) := ⟨rfl, rfl, rfl, by decide +kernel, rfl, by decide +kernel, by decide +kernel⟩

/-! is_tree -/
abbrev s_is_tree : Stmt := topS 17
theorem sc_is_tree : FnScope ["value"] ["value"] (defScope s_is_tree) := ⟨rfl, rfl, rfl, by decide +kernel, rfl, by decide +kernel, by decide +kernel⟩

/-! checked_tree -/
abbrev s_checked_tree : Stmt := topS 18
theorem sc_checked_tree : FnScope ["value", "found"] ["value"] (defScope s_checked_tree) := ⟨rfl, rfl, rfl, by decide +kernel, rfl, by decide +kernel, by decide +kernel⟩

/-! part_at -/
abbrev s_part_at : Stmt := topS 19
theorem sc_part_at : FnScope ["part", "path", "name", "children"] ["part", "path"] (defScope s_part_at) := ⟨rfl, rfl, rfl, by decide +kernel, rfl, by decide +kernel, by decide +kernel⟩

/-! ini_NoNode -/
abbrev s_ini_NoNode : Stmt := inCl (topS 12) 0
theorem sc_ini_NoNode : FnScope ["self", "path"] ["self", "path"] (defScope s_ini_NoNode) := ⟨rfl, rfl, rfl, by decide +kernel, rfl, by decide +kernel, by decide +kernel⟩

/-! node -/
abbrev s_node : Stmt := topS 20
theorem sc_node : FnScope ["tree", "path", "found"] ["tree", "path"] (defScope s_node) := ⟨rfl, rfl, rfl, by decide +kernel, rfl, by decide +kernel, by decide +kernel⟩

/-! rank_of -/
abbrev s_rank_of : Stmt := topS 21
theorem sc_rank_of : FnScope ["part", "value"] ["part"] (defScope s_rank_of) := ⟨rfl, rfl, rfl, by decide +kernel, rfl, by decide +kernel, by decide +kernel⟩

/-! in_order -/
abbrev s_in_order : Stmt := topS 22
theorem sc_in_order : FnScope ["tree", "path", "children", "rank", "name", "child"] ["tree", "path"] (defScope s_in_order) := ⟨rfl, rfl, rfl, by decide +kernel, rfl, by decide +kernel, by decide +kernel⟩

/-! _law_draw -/
abbrev s__law_draw : Stmt := topS 24
theorem sc__law_draw : FnScope ["_law_stream", "_law_many", "_law_mixed_here", "_law_digit"] ["_law_stream", "_law_many"] (defScope s__law_draw) := ⟨rfl, rfl, rfl, by decide +kernel, rfl, by decide +kernel, by decide +kernel⟩

/-! _law_same -/
abbrev s__law_same : Stmt := topS 25
theorem sc__law_same : FnScope ["_law_found", "_law_due"] ["_law_found", "_law_due"] (defScope s__law_same) := ⟨rfl, rfl, rfl, by decide +kernel, rfl, by decide +kernel, by decide +kernel⟩

/-! _law_mixed -/
abbrev s__law_mixed : Stmt := topS 26
theorem sc__law_mixed : FnScope ["_law_stream", "_law_some", "_law_left", "_law_k"] ["_law_stream", "_law_some"] (defScope s__law_mixed) := ⟨rfl, rfl, rfl, by decide +kernel, rfl, by decide +kernel, by decide +kernel⟩

/-! _law_path -/
abbrev s__law_path : Stmt := topS 27
theorem sc__law_path : FnScope ["_law_stream", "_law_most", "_law_k"] ["_law_stream", "_law_most"] (defScope s__law_path) := ⟨rfl, rfl, rfl, by decide +kernel, rfl, by decide +kernel, by decide +kernel⟩

/-! _law_value -/
abbrev s__law_value : Stmt := topS 28
theorem sc__law_value : FnScope ["_law_stream", "_law_way"] ["_law_stream"] (defScope s__law_value) := ⟨rfl, rfl, rfl, by decide +kernel, rfl, by decide +kernel, by decide +kernel⟩

/-! _law_listed -/
abbrev s__law_listed : Stmt := topS 29
theorem sc__law_listed : FnScope ["_law_stream", "_law_thing_here", "_law_parts_here", "_law_part"] ["_law_stream", "_law_thing_here"] (defScope s__law_listed) := ⟨rfl, rfl, rfl, by decide +kernel, rfl, by decide +kernel, by decide +kernel⟩

/-! _law_is_name -/
abbrev s__law_is_name : Stmt := topS 30
theorem sc__law_is_name : FnScope ["_law_thing_here", "_law_sign"] ["_law_thing_here"] (defScope s__law_is_name) := ⟨rfl, rfl, rfl, by decide +kernel, rfl, by decide +kernel, by decide +kernel⟩

/-! _law_is_path -/
abbrev s__law_is_path : Stmt := topS 31
theorem sc__law_is_path : FnScope ["_law_thing_here", "_law_one"] ["_law_thing_here"] (defScope s__law_is_path) := ⟨rfl, rfl, rfl, by decide +kernel, rfl, by decide +kernel, by decide +kernel⟩

/-! _law_is_value -/
abbrev s__law_is_value : Stmt := topS 32
theorem sc__law_is_value : FnScope ["_law_thing_here"] ["_law_thing_here"] (defScope s__law_is_value) := ⟨rfl, rfl, rfl, by decide +kernel, rfl, by decide +kernel, by decide +kernel⟩

/-! _law_letters -/
abbrev s__law_letters : Stmt := topS 33
theorem sc__law_letters : FnScope ["_law_stream", "_law_many", "_law_letters_here", "_law_k"] ["_law_stream", "_law_many"] (defScope s__law_letters) := ⟨rfl, rfl, rfl, by decide +kernel, rfl, by decide +kernel, by decide +kernel⟩

/-! _law_near_name -/
abbrev s__law_near_name : Stmt := topS 34
theorem sc__law_near_name : FnScope ["_law_stream", "_law_found", "_law_at", "_law_sign"] ["_law_stream"] (defScope s__law_near_name) := ⟨rfl, rfl, rfl, by decide +kernel, rfl, by decide +kernel, by decide +kernel⟩

/-! _law_thing -/
abbrev s__law_thing : Stmt := topS 35
theorem sc__law_thing : FnScope ["_law_stream", "_law_deep", "_law_some", "_law_parts_here", "_law_k"] ["_law_stream", "_law_deep"] (defScope s__law_thing) := ⟨rfl, rfl, rfl, by decide +kernel, rfl, by decide +kernel, by decide +kernel⟩

/-! _law_near_path -/
abbrev s__law_near_path : Stmt := topS 36
theorem sc__law_near_path : FnScope ["_law_stream", "_law_many", "_law_parts_here", "_law_odd", "_law_k"] ["_law_stream"] (defScope s__law_near_path) := ⟨rfl, rfl, rfl, by decide +kernel, rfl, by decide +kernel, by decide +kernel⟩

/-! _law_near_value -/
abbrev s__law_near_value : Stmt := topS 37
theorem sc__law_near_value : FnScope ["_law_stream", "_law_way", "_law_parts_here"] ["_law_stream"] (defScope s__law_near_value) := ⟨rfl, rfl, rfl, by decide +kernel, rfl, by decide +kernel, by decide +kernel⟩

/-! _law_some_names -/
abbrev s__law_some_names : Stmt := topS 38
theorem sc__law_some_names : FnScope ["_law_stream", "_law_many", "_law_found", "_law_k", "_law_name"] ["_law_stream", "_law_many"] (defScope s__law_some_names) := ⟨rfl, rfl, rfl, by decide +kernel, rfl, by decide +kernel, by decide +kernel⟩

/-! _law_is_tree -/
abbrev s__law_is_tree : Stmt := topS 39
theorem sc__law_is_tree : FnScope ["_law_thing_here", "_law_levels", "_law_pairs", "_law_last", "_law_pair"] ["_law_thing_here", "_law_levels"] (defScope s__law_is_tree) := ⟨rfl, rfl, rfl, by decide +kernel, rfl, by decide +kernel, by decide +kernel⟩

/-! _law_bent_pairs -/
abbrev s__law_bent_pairs : Stmt := topS 40
theorem sc__law_bent_pairs : FnScope ["_law_stream", "_law_pairs", "_law_at", "_law_name", "_law_value_here", "_law_some", "_law_one"] ["_law_stream", "_law_pairs"] (defScope s__law_bent_pairs) := ⟨rfl, rfl, rfl, by decide +kernel, rfl, by decide +kernel, by decide +kernel⟩

/-! _law_bent_tree -/
abbrev s__law_bent_tree : Stmt := topS 41
theorem sc__law_bent_tree : FnScope ["_law_stream", "_law_part", "_law_way", "_law_parts_here", "_law_at", "_law_name", "_law_child"] ["_law_stream", "_law_part"] (defScope s__law_bent_tree) := ⟨rfl, rfl, rfl, by decide +kernel, rfl, by decide +kernel, by decide +kernel⟩

/-! _law_tupled -/
abbrev s__law_tupled : Stmt := topS 42
theorem sc__law_tupled : FnScope ["_law_thing_here", "_law_part"] ["_law_thing_here"] (defScope s__law_tupled) := ⟨rfl, rfl, rfl, by decide +kernel, rfl, by decide +kernel, by decide +kernel⟩

/-! _law_parts -/
abbrev s__law_parts : Stmt := topS 43
theorem sc__law_parts : FnScope ["_law_part", "_law_path_here", "_law_found", "_law_name", "_law_child"] ["_law_part", "_law_path_here"] (defScope s__law_parts) := ⟨rfl, rfl, rfl, by decide +kernel, rfl, by decide +kernel, by decide +kernel⟩

/-! _law_ranked -/
abbrev s__law_ranked : Stmt := topS 44
theorem sc__law_ranked : FnScope ["_law_stream", "_law_deep", "_law_children", "_law_many", "_law_name", "_law_some", "_law_child", "_law_rank", "_law_more"] ["_law_stream", "_law_deep"] (defScope s__law_ranked) := ⟨rfl, rfl, rfl, by decide +kernel, rfl, by decide +kernel, by decide +kernel⟩

/-! _law_order -/
abbrev s__law_order : Stmt := topS 45
theorem sc__law_order : FnScope ["_law_part", "_law_found", "_law_name", "_law_child", "_law_rank"] ["_law_part"] (defScope s__law_order) := ⟨rfl, rfl, rfl, by decide +kernel, rfl, by decide +kernel, by decide +kernel⟩

/-! _law_order_told -/
abbrev s__law_order_told : Stmt := topS 46
theorem sc__law_order_told : FnScope ["_law_thing_here", "_law_path_here", "_law_found", "e"] ["_law_thing_here", "_law_path_here"] (defScope s__law_order_told) := ⟨rfl, rfl, rfl, by decide +kernel, rfl, by decide +kernel, by decide +kernel⟩

/-! law -/
abbrev s_law : Stmt := topS 47
theorem sc_law : FnScope ["_law_script", "_law_stream", "_law_turn", "_law_part", "_law_parts_here", "_law_handed", "_law_kept", "_law_path_here", "_law_right", "_law_odd", "_law_again", "_law_found"] ["_law_script"] (defScope s_law) := ⟨rfl, rfl, rfl, by decide +kernel, rfl, by decide +kernel, by decide +kernel⟩

structure Lw (K : PySem.W.Frag) (mg : Str → Option Value) where
  f_as_tuples : Addr
  fd_as_tuples : FuncData
  D_as_tuples : Df K mg "as_tuples" s_as_tuples f_as_tuples fd_as_tuples ["thing"]
  f_is_name : Addr
  fd_is_name : FuncData
  D_is_name : Df K mg "is_name" s_is_name f_is_name fd_is_name ["value"]
  f_is_integer : Addr
  fd_is_integer : FuncData
  D_is_integer : Df K mg "is_integer" s_is_integer f_is_integer fd_is_integer ["value"]
  f_is_path : Addr
  fd_is_path : FuncData
  D_is_path : Df K mg "is_path" s_is_path f_is_path fd_is_path ["value"]
  f_is_link : Addr
  fd_is_link : FuncData
  D_is_link : Df K mg "is_link" s_is_link f_is_link fd_is_link ["value"]
  f_is_value : Addr
  fd_is_value : FuncData
  D_is_value : Df K mg "is_value" s_is_value f_is_value fd_is_value ["value"]
  f_are_named : Addr
  fd_are_named : FuncData
  D_are_named : Df K mg "are_named" s_are_named f_are_named fd_are_named ["pairs"]
  f_is_ascending : Addr
  fd_is_ascending : FuncData
  D_is_ascending : Df K mg "is_ascending" s_is_ascending f_is_ascending fd_is_ascending ["pairs"]
  f_is_tree_of : Addr
  fd_is_tree_of : FuncData
  D_is_tree_of : Df K mg "is_tree_of" s_is_tree_of f_is_tree_of fd_is_tree_of ["value", "levels"]
  f_is_tree : Addr
  fd_is_tree : FuncData
  D_is_tree : Df K mg "is_tree" s_is_tree f_is_tree fd_is_tree ["value"]
  f_checked_tree : Addr
  fd_checked_tree : FuncData
  D_checked_tree : Df K mg "checked_tree" s_checked_tree f_checked_tree fd_checked_tree ["value"]
  f_part_at : Addr
  fd_part_at : FuncData
  D_part_at : Df K mg "part_at" s_part_at f_part_at fd_part_at ["part", "path"]
  f_ini_NoNode : Addr
  fd_ini_NoNode : FuncData
  D_ini_NoNode : Di K "NoNode.__init__" s_ini_NoNode f_ini_NoNode fd_ini_NoNode ["self", "path"]
  f_node : Addr
  fd_node : FuncData
  D_node : Df K mg "node" s_node f_node fd_node ["tree", "path"]
  f_rank_of : Addr
  fd_rank_of : FuncData
  D_rank_of : Df K mg "rank_of" s_rank_of f_rank_of fd_rank_of ["part"]
  f_in_order : Addr
  fd_in_order : FuncData
  D_in_order : Df K mg "in_order" s_in_order f_in_order fd_in_order ["tree", "path"]
  f__law_draw : Addr
  fd__law_draw : FuncData
  D__law_draw : Df K mg "_law_draw" s__law_draw f__law_draw fd__law_draw ["_law_stream", "_law_many"]
  f__law_same : Addr
  fd__law_same : FuncData
  D__law_same : Df K mg "_law_same" s__law_same f__law_same fd__law_same ["_law_found", "_law_due"]
  f__law_mixed : Addr
  fd__law_mixed : FuncData
  D__law_mixed : Df K mg "_law_mixed" s__law_mixed f__law_mixed fd__law_mixed ["_law_stream", "_law_some"]
  f__law_path : Addr
  fd__law_path : FuncData
  D__law_path : Df K mg "_law_path" s__law_path f__law_path fd__law_path ["_law_stream", "_law_most"]
  f__law_value : Addr
  fd__law_value : FuncData
  D__law_value : Df K mg "_law_value" s__law_value f__law_value fd__law_value ["_law_stream"]
  f__law_listed : Addr
  fd__law_listed : FuncData
  D__law_listed : Df K mg "_law_listed" s__law_listed f__law_listed fd__law_listed ["_law_stream", "_law_thing_here"]
  f__law_is_name : Addr
  fd__law_is_name : FuncData
  D__law_is_name : Df K mg "_law_is_name" s__law_is_name f__law_is_name fd__law_is_name ["_law_thing_here"]
  f__law_is_path : Addr
  fd__law_is_path : FuncData
  D__law_is_path : Df K mg "_law_is_path" s__law_is_path f__law_is_path fd__law_is_path ["_law_thing_here"]
  f__law_is_value : Addr
  fd__law_is_value : FuncData
  D__law_is_value : Df K mg "_law_is_value" s__law_is_value f__law_is_value fd__law_is_value ["_law_thing_here"]
  f__law_letters : Addr
  fd__law_letters : FuncData
  D__law_letters : Df K mg "_law_letters" s__law_letters f__law_letters fd__law_letters ["_law_stream", "_law_many"]
  f__law_near_name : Addr
  fd__law_near_name : FuncData
  D__law_near_name : Df K mg "_law_near_name" s__law_near_name f__law_near_name fd__law_near_name ["_law_stream"]
  f__law_thing : Addr
  fd__law_thing : FuncData
  D__law_thing : Df K mg "_law_thing" s__law_thing f__law_thing fd__law_thing ["_law_stream", "_law_deep"]
  f__law_near_path : Addr
  fd__law_near_path : FuncData
  D__law_near_path : Df K mg "_law_near_path" s__law_near_path f__law_near_path fd__law_near_path ["_law_stream"]
  f__law_near_value : Addr
  fd__law_near_value : FuncData
  D__law_near_value : Df K mg "_law_near_value" s__law_near_value f__law_near_value fd__law_near_value ["_law_stream"]
  f__law_some_names : Addr
  fd__law_some_names : FuncData
  D__law_some_names : Df K mg "_law_some_names" s__law_some_names f__law_some_names fd__law_some_names ["_law_stream", "_law_many"]
  f__law_is_tree : Addr
  fd__law_is_tree : FuncData
  D__law_is_tree : Df K mg "_law_is_tree" s__law_is_tree f__law_is_tree fd__law_is_tree ["_law_thing_here", "_law_levels"]
  f__law_bent_pairs : Addr
  fd__law_bent_pairs : FuncData
  D__law_bent_pairs : Df K mg "_law_bent_pairs" s__law_bent_pairs f__law_bent_pairs fd__law_bent_pairs ["_law_stream", "_law_pairs"]
  f__law_bent_tree : Addr
  fd__law_bent_tree : FuncData
  D__law_bent_tree : Df K mg "_law_bent_tree" s__law_bent_tree f__law_bent_tree fd__law_bent_tree ["_law_stream", "_law_part"]
  f__law_tupled : Addr
  fd__law_tupled : FuncData
  D__law_tupled : Df K mg "_law_tupled" s__law_tupled f__law_tupled fd__law_tupled ["_law_thing_here"]
  f__law_parts : Addr
  fd__law_parts : FuncData
  D__law_parts : Df K mg "_law_parts" s__law_parts f__law_parts fd__law_parts ["_law_part", "_law_path_here"]
  f__law_ranked : Addr
  fd__law_ranked : FuncData
  D__law_ranked : Df K mg "_law_ranked" s__law_ranked f__law_ranked fd__law_ranked ["_law_stream", "_law_deep"]
  f__law_order : Addr
  fd__law_order : FuncData
  D__law_order : Df K mg "_law_order" s__law_order f__law_order fd__law_order ["_law_part"]
  f__law_order_told : Addr
  fd__law_order_told : FuncData
  D__law_order_told : Df K mg "_law_order_told" s__law_order_told f__law_order_told fd__law_order_told ["_law_thing_here", "_law_path_here"]
  f_law : Addr
  fd_law : FuncData
  D_law : Df K mg "law" s_law f_law fd_law ["_law_script"]
  t_LETTERS : Tok
  g_LETTERS : mg "LETTERS" = some (.str "abcdefghijklmnopqrstuvwxyz" t_LETTERS)
  t_MOST : Tok
  g_MOST : mg "MOST" = some (.int 8 t_MOST)
  n_all : mg "all" = none
  n_bool : mg "bool" = none
  n_dict : mg "dict" = none
  n_int : mg "int" = none
  n_isinstance : mg "isinstance" = none
  n_len : mg "len" = none
  n_list : mg "list" = none
  n_max : mg "max" = none
  n_range : mg "range" = none
  n_repr : mg "repr" = none
  n_set : mg "set" = none
  n_sorted : mg "sorted" = none
  n_str : mg "str" = none
  n_tuple : mg "tuple" = none
  C_VariantError : Addr
  C_BadTree : Addr
  C_NoNode : Addr
  g_VariantError : mg "VariantError" = some (.ref C_VariantError)
  ve_VariantError : VEc K C_VariantError
  g_BadTree : mg "BadTree" = some (.ref C_BadTree)
  x_BadTree : PySem.W.excIn K C_BadTree [.type "ValueError", .type "Exception", .type "BaseException", .type "object"] "ValueError.__new__" = true
  k_BadTree : PySem.W.keepIn K (.ref C_BadTree) = true
  b_BadTree : PySem.W.subIn K (.ref C_BadTree) (.type "BaseException") = some true
  t_BadTree : PySem.W.typeIn K (.ref C_BadTree) = some (.type "type")
  m_BadTree : PySem.W.exmOne K (.ref C_BadTree) (.ref C_BadTree) = some true
  g_NoNode : mg "NoNode" = some (.ref C_NoNode)
  o_NoNode : OexC K C_NoNode
  iC_NoNode : PySem.W.findIn K (.ref C_NoNode) "__init__" = some (some (.ref f_ini_NoNode))
  tI_NoNode : PySem.W.typeIn K (.ref f_ini_NoNode) = some (.type "function")
  xf_NoNode : XfC K C_NoNode
  no_NoNode_path : PySem.W.findIn K (.ref C_NoNode) "path" = some none
  m_NoNode : PySem.W.exmOne K (.ref C_NoNode) (.ref C_NoNode) = some true
  mm_BadTree_NoNode : PySem.W.exmOne K (.ref C_BadTree) (.ref C_NoNode) = some false
  mm_NoNode_BadTree : PySem.W.exmOne K (.ref C_NoNode) (.ref C_BadTree) = some false

section
variable {P : Program} {w : World} {K : PySem.W.Frag} {mg : Str → Option Value} {base : Heap}

/-! ### as_tuples -/
mutual
/-- lists become tuples -/
def tupU : U → U
  | .tup xs => .tup (tupUs xs)
  | .lst xs => .tup (tupUs xs)
  | .non => .non
  | .bl b => .bl b
  | .int i => .int i
  | .str z => .str z
  | .ref a => .ref a
  | .ty n => .ty n
def tupUs : List U → List U
  | [] => []
  | x :: xs => tupU x :: tupUs xs
end
theorem tupUs_map : ∀ xs : List U, tupUs xs = xs.map tupU
  | [] => rfl
  | x :: xs => by simp [tupUs, tupUs_map xs]
def sp_as_tuples (k : Nat) : USp := fun us M Q _ => ∃ x, us = [x] ∧ isD x = true ∧ dep x ≤ k ∧ Q (tupU x) M
local macro_rules | `(tactic| walk_at "q2") => `(tactic| simp only [uLc,z8i,uOr,z8d,z8m,uCB,z7t,z8l,uC,z8o,z7w,uOp,uUn,z8s,z8j,uIf,z8e,z7v,z7u,z7s,uBM,z8g,uSl,z4x,z8r,z72,z8q,z7x,List.append_nil,z8t,z80,z8y,z7z,z8u,z81,z8w,z8v,xIf,z74,z8x,z8p,z3t,z8n,z7m,z7q,z7o,z7p,z5w,z5v,z7a,z3l,z3m,z75,z5g,z8k,asD,uXf,z8f,z5n,z7y,z6e,z6d,z68,z67,z63,z5h,z5i,z5j,z3v,z3w,z6f,z64,z62,z5r,z6b,z7j,z7k,z7i,z7c,z7b,z7l,z7e,z5o,z2m,z2w,z2k,z2o,z2p,z2l,z2n,z5c,z73,z5a,z5e,z5f,z5b,z3g,z5d,z3e,z2q,z2r,z3i,z3k,z3j,z39,z3a,z37,z38,z4q,z6h,z4o,z4s,z4t,z4p,z3f,z4r,z4e,z4d,z3b,z2s,z3d,z3c,z0h,z0g,z0d,z0a,z0f,z0e,z1o,z1n,z0u,z0j,z0w,z0v,z2d,z2c,z1r,z10,z1t,z1s,z2f,z2e,z1w,z14,z1y,z1x,z16,z15,z0m,z0i,z0o,z0n,z1v,z1u,z11,z0l,z13,z12,z1q,z1p,z0x,z0k,z0z,z0y,z4i,z6g,z4g,z4j,z4k,z4h,z82,z88,z46,z5x,z44,z47,z48,z45,z2v,z2j,z40,z5q,z3y,z41,z42,z3z,z2u,z2i,z6y,z70,z6x,z71,z6z,z59,z56,z57,z58,z87,z86,z7r,z79,z7n,z7d,z5y,z76,z77,z6c,z69,z6a,z8b,z8c,z89,z8a,z85,z83,z84,z4v,z4u,z6i,z78,z5m,z5l,z5k,z6n,z6o,z6p,z6q,z6r,z6s,z6t,z6u,z6v,z6w,z50,z51,z52,z53,z54,z55,z4b,z4c,z49,z27,z26,z1e,z0r,z1g,z1f,z05,z04,z2h,z2g,z1z,z17,z21,z20,z0c,z0b,z23,z22,z18,z0p,z1a,z19,z01,z00,z29,z28,z1h,z0s,z1j,z1i,z07,z06,z2b,z2a,z1k,z0t,z1m,z1l,z09,z08,z25,z24,z1b,z0q,z1d,z1c,z03,z02,z6m,z8h,z4z,z6l,z6k,z4w,z4y,z3s,z6j,z3p,z4f,z3n,z3q,z3r,z3o,z5p,z2t,z3h,z4n,z4l,z4a,z66,z65,z4m,z60,z61,z5z,z32,z2x,z33,z2y,z34,z2z,z35,z30,z36,z31,z7h,z7g,z3u,z5u,z3x,z7f,z5t,z43,z5s,cle,clt,cge,cgt,ceq,cne,lenN,xFor,xTryM,uMix,uEnum,uZip,ltT,uSortK,sortK,sortN,uDNew,uDGet,inN,setN,uDNewS,uDGetS,inS,setS,uDm,uDm0,getR,popS,setdS,getNR,setdN,popNR,itemsR,lenS,dictS,sortItR,uFld,uFst,uMake,uLock,uLockE,uKeys,sortE,sortL,xOp,reprT_1,listN,mulT,gLst_l,gLst_r,sum_l,sum_r,min_ii,max_ii,sortSD,pop1S,dictN,uD1,updN,exists_eq_left',exists_eq_left,Option.some.injEq,U.int.injEq,U.bl.injEq,U.str.injEq,U.ref.injEq,U.tup.injEq,U.lst.injEq,U.ty.injEq,List.cons.injEq,and_true,true_and,and_self,List.map_cons,List.map_nil,List.length_cons,List.length_nil,List.cons_append,List.nil_append,List.append_nil,List.getElem?_cons_zero,List.getElem?_cons_succ,List.set_cons_zero,List.set_cons_succ,List.replicate,↓reduceIte,Bool.false_eq_true,Bool.not_true,Bool.not_false,reduceCtorEq,Nat.reduceAdd,Nat.reduceSub,Nat.reduceLeDiff,Nat.reduceEqDiff,decide_true,decide_false,at0,at1,at2,at3,at4,ix0,ix1,ix2,ix3,ix4,updM_same,beq_self_eq_true,Option.bind,Option.map,wipeU,NT.put,puts,MO.lst.injEq,exists_and_left,decide_eq_true_eq,Bool.and_eq_true,Bool.or_eq_true,exists_eq',Nat.zero_le,true_or,or_true])
local macro_rules | `(tactic| walk_at "q5") => `(tactic| simp only [z8i,uOr,z8d,z8m,uCB,z7t,z8l,uC,z8o,z7w,uOp,uUn,z8s,z8j,uIf,z8e,z7v,z7u,z7s,uBM,z8g,uSl,z4x,z8r,z72,z8q,z7x,List.append_nil,z8t,z80,z8y,z7z,z8u,z81,z8w,z8v,xIf,z74,z8x,z8p,z3t,z8n,z7m,z7q,z7o,z7p,z5w,z5v,z7a,z3l,z3m,z75,z5g,z8k,asD,uXf,z8f,z5n,z7y,z6e,z6d,z68,z67,z63,z5h,z5i,z5j,z3v,z3w,z6f,z64,z62,z5r,z6b,z7j,z7k,z7i,z7c,z7b,z7l,z7e,z5o,z2m,z2w,z2k,z2o,z2p,z2l,z2n,z5c,z73,z5a,z5e,z5f,z5b,z3g,z5d,z3e,z2q,z2r,z3i,z3k,z3j,z39,z3a,z37,z38,z4q,z6h,z4o,z4s,z4t,z4p,z3f,z4r,z4e,z4d,z3b,z2s,z3d,z3c,z0h,z0g,z0d,z0a,z0f,z0e,z1o,z1n,z0u,z0j,z0w,z0v,z2d,z2c,z1r,z10,z1t,z1s,z2f,z2e,z1w,z14,z1y,z1x,z16,z15,z0m,z0i,z0o,z0n,z1v,z1u,z11,z0l,z13,z12,z1q,z1p,z0x,z0k,z0z,z0y,z4i,z6g,z4g,z4j,z4k,z4h,z82,z88,z46,z5x,z44,z47,z48,z45,z2v,z2j,z40,z5q,z3y,z41,z42,z3z,z2u,z2i,z6y,z70,z6x,z71,z6z,z59,z56,z57,z58,z87,z86,z7r,z79,z7n,z7d,z5y,z76,z77,z6c,z69,z6a,z8b,z8c,z89,z8a,z85,z83,z84,z4v,z4u,z6i,z78,z5m,z5l,z5k,z6n,z6o,z6p,z6q,z6r,z6s,z6t,z6u,z6v,z6w,z50,z51,z52,z53,z54,z55,z4b,z4c,z49,z27,z26,z1e,z0r,z1g,z1f,z05,z04,z2h,z2g,z1z,z17,z21,z20,z0c,z0b,z23,z22,z18,z0p,z1a,z19,z01,z00,z29,z28,z1h,z0s,z1j,z1i,z07,z06,z2b,z2a,z1k,z0t,z1m,z1l,z09,z08,z25,z24,z1b,z0q,z1d,z1c,z03,z02,z6m,z8h,z4z,z6l,z6k,z4w,z4y,z3s,z6j,z3p,z4f,z3n,z3q,z3r,z3o,z5p,z2t,z3h,z4n,z4l,z4a,z66,z65,z4m,z60,z61,z5z,z32,z2x,z33,z2y,z34,z2z,z35,z30,z36,z31,z7h,z7g,z3u,z5u,z3x,z7f,z5t,z43,z5s,cle,clt,cge,cgt,ceq,cne,lenN,xFor,xTryM,uMix,uEnum,uZip,ltT,uSortK,sortK,sortN,uDNew,uDGet,inN,setN,uDNewS,uDGetS,inS,setS,uDm,uDm0,getR,popS,setdS,getNR,setdN,popNR,itemsR,lenS,dictS,sortItR,uFld,uFst,uMake,uLock,uLockE,uKeys,sortE,sortL,xOp,reprT_1,listN,mulT,gLst_l,gLst_r,sum_l,sum_r,min_ii,max_ii,sortSD,pop1S,dictN,uD1,updN,exists_eq_left',exists_eq_left,Option.some.injEq,U.int.injEq,U.bl.injEq,U.str.injEq,U.ref.injEq,U.tup.injEq,U.lst.injEq,U.ty.injEq,List.cons.injEq,and_true,true_and,and_self,List.map_cons,List.map_nil,List.length_cons,List.length_nil,List.cons_append,List.nil_append,List.append_nil,List.getElem?_cons_zero,List.getElem?_cons_succ,List.set_cons_zero,List.set_cons_succ,List.replicate,↓reduceIte,Bool.false_eq_true,Bool.not_true,Bool.not_false,reduceCtorEq,Nat.reduceAdd,Nat.reduceSub,Nat.reduceLeDiff,Nat.reduceEqDiff,decide_true,decide_false,at0,at1,at2,at3,at4,ix0,ix1,ix2,ix3,ix4,updM_same,beq_self_eq_true,Option.bind,Option.map,wipeU,NT.put,puts,MO.lst.injEq,exists_and_left,decide_eq_true_eq,Bool.and_eq_true,Bool.or_eq_true,exists_eq',Nat.zero_le,true_or,or_true,sp_as_tuples])
local macro_rules | `(tactic| walk_at "q0") => `(tactic| simp only [z8i,uOr,z8d,z8m,uCB,z7t,z8l,uC,z8o,z7w,uOp,uUn,z8s,z8j,uIf,z8e,z7v,z7u,z7s,uBM,z8g,uSl,z4x,z8r,z72,z8q,z7x,List.append_nil,z8t,z80,z8y,z7z,z8u,z81,z8w,z8v,xIf,z74,z8x,z8p,z3t,z8n,z7m,z7q,z7o,z7p,z5w,z5v,z7a,z3l,z3m,z75,z5g,z8k,asD,uXf,z8f,z5n,z7y,z6e,z6d,z68,z67,z63,z5h,z5i,z5j,z3v,z3w,z6f,z64,z62,z5r,z6b,z7j,z7k,z7i,z7c,z7b,z7l,z7e,z5o,z2m,z2w,z2k,z2o,z2p,z2l,z2n,z5c,z73,z5a,z5e,z5f,z5b,z3g,z5d,z3e,z2q,z2r,z3i,z3k,z3j,z39,z3a,z37,z38,z4q,z6h,z4o,z4s,z4t,z4p,z3f,z4r,z4e,z4d,z3b,z2s,z3d,z3c,z0h,z0g,z0d,z0a,z0f,z0e,z1o,z1n,z0u,z0j,z0w,z0v,z2d,z2c,z1r,z10,z1t,z1s,z2f,z2e,z1w,z14,z1y,z1x,z16,z15,z0m,z0i,z0o,z0n,z1v,z1u,z11,z0l,z13,z12,z1q,z1p,z0x,z0k,z0z,z0y,z4i,z6g,z4g,z4j,z4k,z4h,z82,z88,z46,z5x,z44,z47,z48,z45,z2v,z2j,z40,z5q,z3y,z41,z42,z3z,z2u,z2i,z6y,z70,z6x,z71,z6z,z59,z56,z57,z58,z87,z86,z7r,z79,z7n,z7d,z5y,z76,z77,z6c,z69,z6a,z8b,z8c,z89,z8a,z85,z83,z84,z4v,z4u,z6i,z78,z5m,z5l,z5k,z6n,z6o,z6p,z6q,z6r,z6s,z6t,z6u,z6v,z6w,z50,z51,z52,z53,z54,z55,z4b,z4c,z49,z27,z26,z1e,z0r,z1g,z1f,z05,z04,z2h,z2g,z1z,z17,z21,z20,z0c,z0b,z23,z22,z18,z0p,z1a,z19,z01,z00,z29,z28,z1h,z0s,z1j,z1i,z07,z06,z2b,z2a,z1k,z0t,z1m,z1l,z09,z08,z25,z24,z1b,z0q,z1d,z1c,z03,z02,z6m,z8h,z4z,z6l,z6k,z4w,z4y,z3s,z6j,z3p,z4f,z3n,z3q,z3r,z3o,z5p,z2t,z3h,z4n,z4l,z4a,z66,z65,z4m,z60,z61,z5z,z32,z2x,z33,z2y,z34,z2z,z35,z30,z36,z31,z7h,z7g,z3u,z5u,z3x,z7f,z5t,z43,z5s,cle,clt,cge,cgt,ceq,cne,lenN,xFor,xTryM,uMix,uEnum,uZip,ltT,uSortK,sortK,sortN,uDNew,uDGet,inN,setN,uDNewS,uDGetS,inS,setS,uDm,uDm0,getR,popS,setdS,getNR,setdN,popNR,itemsR,lenS,dictS,sortItR,uFld,uFst,uMake,uLock,uLockE,uKeys,sortE,sortL,xOp,reprT_1,listN,mulT,gLst_l,gLst_r,sum_l,sum_r,min_ii,max_ii,sortSD,pop1S,dictN,uD1,updN,exists_eq_left',exists_eq_left,Option.some.injEq,U.int.injEq,U.bl.injEq,U.str.injEq,U.ref.injEq,U.tup.injEq,U.lst.injEq,U.ty.injEq,List.cons.injEq,and_true,true_and,and_self,List.map_cons,List.map_nil,List.length_cons,List.length_nil,List.cons_append,List.nil_append,List.append_nil,List.getElem?_cons_zero,List.getElem?_cons_succ,List.set_cons_zero,List.set_cons_succ,List.replicate,↓reduceIte,Bool.false_eq_true,Bool.not_true,Bool.not_false,reduceCtorEq,Nat.reduceAdd,Nat.reduceSub,Nat.reduceLeDiff,Nat.reduceEqDiff,decide_true,decide_false,at0,at1,at2,at3,at4,ix0,ix1,ix2,ix3,ix4,updM_same,beq_self_eq_true,Option.bind,Option.map,wipeU,NT.put,puts,MO.lst.injEq,exists_and_left,decide_eq_true_eq,Bool.and_eq_true,Bool.or_eq_true,exists_eq',Nat.zero_le,true_or,or_true])
theorem step_as_tuples (L : Lw K mg) {k : Nat} {sp' : USp} (k0 : Nat) (G : UFn P w K mg base CX0 (1 + k) L.f_as_tuples L.fd_as_tuples ["thing"] sp') (hsp : ∀ k', k0 = k' + 1 → sp' = sp_as_tuples k') : UFn P w K mg base CX0 (1 + k + 1) L.f_as_tuples L.fd_as_tuples ["thing"] (sp_as_tuples k0) := by
  refine ufn_ok L.D_as_tuples.F sc_as_tuples (fun us M Q E h => ?_) (fun cdv A outer s H E hr hG =>
      (uss_cons (us_if (ut_val (ue_callB uc_isi (by rfl) L.n_isinstance bt_isi (ua_cons (uv 0) (ua_cons (ue_tup (ua_cons (ue_bltn (by rfl) L.n_tuple bt_tuple) (ua_cons (ue_bltn (by rfl) L.n_list bt_list) ua_nil))) ua_nil)))) (uss_one (us_ret (ue_callTy uc_tuple (by rfl) L.n_tuple bt_tuple (ua_cons (ue_lc (own := [("part", 1)]) (n := (.one 1)) false rfl sc_as_tuples.nd (ui_any (uv 0)) (blkOk_by (own := [("part", 1)]) (N := ["thing", "part"]) (sc := defScope s_as_tuples) (by decide +kernel)) (by decide) (fun _ _ _ _ _ => (pg_nt sc_as_tuples.nd rfl (.inl rfl))) (fun _ _ _ _ _ => uts_nil) (fun _ _ _ _ _ => (ue_call G (hr.mono (by omega)) hG rfl L.D_as_tuples.g L.D_as_tuples.F.kp L.D_as_tuples.b .nil (fun _ => RelUs.nil) (ua_cons (uv 1) ua_nil)))) ua_nil)))) uss_nil)
      (uss_one (us_ret (uv 0))))) (fun us M Q E h => ?_)
  · obtain ⟨x, rfl, _⟩ := h
    rfl
  · obtain ⟨x, rfl, hx, hk, q⟩ := h
    have q : ZQ Q (tupU x) M := .inl q
    have go : ∀ xs : List U, (x = .tup xs ∨ x = .lst xs) → ∃ k', k0 = k' + 1 ∧ isDs xs = true ∧ deps xs ≤ k' ∧ tupU x = .tup (xs.map tupU) := fun xs h => by
      rcases h with rfl | rfl
      · simp only [isD,dep] at hx hk
        exact ⟨k0 - 1, by omega, hx, by omega, by simp only [tupU,tupUs_map]⟩
      · simp only [isD,dep] at hx hk
        exact ⟨k0 - 1, by omega, hx, by omega, by simp only [tupU,tupUs_map]⟩
    cases x with
    | tup xs =>
      obtain ⟨k', e, h1, h2, h3⟩ := go xs (.inl rfl)
      obtain rfl := hsp k' e
      rw [h3] at q
      walk_at "q2"
      refine ⟨line_le, ?_⟩
      refine lc_map tupU (fun _ _ _ => True.intro) (fun D acc hD x hx => ⟨_, rfl, fun Q q => ?_⟩) ?_
      · walk_at "q5"
        exact ⟨isDs_iff.mp h1 x hx, deps_le.mp h2 x hx, q⟩
      · walk_at "q0"
        exact q
    | lst xs =>
      obtain ⟨k', e, h1, h2, h3⟩ := go xs (.inr rfl)
      obtain rfl := hsp k' e
      rw [h3] at q
      walk_at "q2"
      refine ⟨line_le, ?_⟩
      refine lc_map tupU (fun _ _ _ => True.intro) (fun D acc hD x hx => ⟨_, rfl, fun Q q => ?_⟩) ?_
      · walk_at "q5"
        exact ⟨isDs_iff.mp h1 x hx, deps_le.mp h2 x hx, q⟩
      · walk_at "q0"
        exact q
    | ref a => simp [isD] at hx
    | ty n => simp [isD] at hx
    | _ =>
      simp only [z8i,uOr,z8d,z8m,uCB,z7t,z8l,uC,z8o,z7w,uOp,uUn,z8s,z8j,uIf,z8e,z7v,z7u,z7s,uBM,z8g,uSl,z4x,z8r,z72,z8q,z7x,List.append_nil,z8t,z80,z8y,z7z,z8u,z81,z8w,z8v,xIf,z74,z8x,z8p,z3t,z8n,z7m,z7q,z7o,z7p,z5w,z5v,z7a,z3l,z3m,z75,z5g,z8k,asD,uXf,z8f,z5n,z7y,z6e,z6d,z68,z67,z63,z5h,z5i,z5j,z3v,z3w,z6f,z64,z62,z5r,z6b,z7j,z7k,z7i,z7c,z7b,z7l,z7e,z5o,z2m,z2w,z2k,z2o,z2p,z2l,z2n,z5c,z73,z5a,z5e,z5f,z5b,z3g,z5d,z3e,z2q,z2r,z3i,z3k,z3j,z39,z3a,z37,z38,z4q,z6h,z4o,z4s,z4t,z4p,z3f,z4r,z4e,z4d,z3b,z2s,z3d,z3c,z0h,z0g,z0d,z0a,z0f,z0e,z1o,z1n,z0u,z0j,z0w,z0v,z2d,z2c,z1r,z10,z1t,z1s,z2f,z2e,z1w,z14,z1y,z1x,z16,z15,z0m,z0i,z0o,z0n,z1v,z1u,z11,z0l,z13,z12,z1q,z1p,z0x,z0k,z0z,z0y,z4i,z6g,z4g,z4j,z4k,z4h,z82,z88,z46,z5x,z44,z47,z48,z45,z2v,z2j,z40,z5q,z3y,z41,z42,z3z,z2u,z2i,z6y,z70,z6x,z71,z6z,z59,z56,z57,z58,z87,z86,z7r,z79,z7n,z7d,z5y,z76,z77,z6c,z69,z6a,z8b,z8c,z89,z8a,z85,z83,z84,z4v,z4u,z6i,z78,z5m,z5l,z5k,z6n,z6o,z6p,z6q,z6r,z6s,z6t,z6u,z6v,z6w,z50,z51,z52,z53,z54,z55,z4b,z4c,z49,z27,z26,z1e,z0r,z1g,z1f,z05,z04,z2h,z2g,z1z,z17,z21,z20,z0c,z0b,z23,z22,z18,z0p,z1a,z19,z01,z00,z29,z28,z1h,z0s,z1j,z1i,z07,z06,z2b,z2a,z1k,z0t,z1m,z1l,z09,z08,z25,z24,z1b,z0q,z1d,z1c,z03,z02,z6m,z8h,z4z,z6l,z6k,z4w,z4y,z3s,z6j,z3p,z4f,z3n,z3q,z3r,z3o,z5p,z2t,z3h,z4n,z4l,z4a,z66,z65,z4m,z60,z61,z5z,z32,z2x,z33,z2y,z34,z2z,z35,z30,z36,z31,z7h,z7g,z3u,z5u,z3x,z7f,z5t,z43,z5s,cle,clt,cge,cgt,ceq,cne,lenN,xFor,xTryM,uMix,uEnum,uZip,ltT,uSortK,sortK,sortN,uDNew,uDGet,inN,setN,uDNewS,uDGetS,inS,setS,uDm,uDm0,getR,popS,setdS,getNR,setdN,popNR,itemsR,lenS,dictS,sortItR,uFld,uFst,uMake,uLock,uLockE,uKeys,sortE,sortL,xOp,reprT_1,listN,mulT,gLst_l,gLst_r,sum_l,sum_r,min_ii,max_ii,sortSD,pop1S,dictN,uD1,updN,exists_eq_left',exists_eq_left,Option.some.injEq,U.int.injEq,U.bl.injEq,U.str.injEq,U.ref.injEq,U.tup.injEq,U.lst.injEq,U.ty.injEq,List.cons.injEq,and_true,true_and,and_self,List.map_cons,List.map_nil,List.length_cons,List.length_nil,List.cons_append,List.nil_append,List.append_nil,List.getElem?_cons_zero,List.getElem?_cons_succ,List.set_cons_zero,List.set_cons_succ,List.replicate,↓reduceIte,Bool.false_eq_true,Bool.not_true,Bool.not_false,reduceCtorEq,Nat.reduceAdd,Nat.reduceSub,Nat.reduceLeDiff,Nat.reduceEqDiff,decide_true,decide_false,at0,at1,at2,at3,at4,ix0,ix1,ix2,ix3,ix4,updM_same,beq_self_eq_true,Option.bind,Option.map,wipeU,NT.put,puts,MO.lst.injEq,exists_and_left,decide_eq_true_eq,Bool.and_eq_true,Bool.or_eq_true,exists_eq',Nat.zero_le,true_or,or_true,tupU] at q ⊢
      exact ⟨line_le, q⟩

theorem ok_as_tuples (L : Lw K mg) : ∀ k : Nat, UFn P w K mg base CX0 (1 + k + 1) L.f_as_tuples L.fd_as_tuples ["thing"] (sp_as_tuples k)
  | 0 => step_as_tuples L (k := 0) (sp' := fun _ _ _ _ => False) 0 ufn_none (fun k' h => by cases h)
  | k + 1 => step_as_tuples L (k := k + 1) (sp' := sp_as_tuples k) (k + 1) (ok_as_tuples L k) (fun k' h => by cases h; rfl)
/-! ### is_name -/
def isLow (c : Nat) : Bool := inStr ⟨#[c]⟩ "abcdefghijklmnopqrstuvwxyz"
def isNameU : U → Bool
  | .str z => decide (1 ≤ z.length) && (decide (z.length ≤ 8) && z.cps.toList.all isLow)
  | _ => false
def sp_is_name : USp := fun us M Q _ => ∃ x, us = [x] ∧ isD x = true ∧ Q (.bl (isNameU x)) M
theorem ok_is_name (L : Lw K mg) : UFn P w K mg base CX0 1 L.f_is_name L.fd_is_name ["value"] (sp_is_name) := by
  refine ufn_ok L.D_is_name.F sc_is_name (fun us M Q E h => ?_) (fun cdv A outer s H E hr hG =>
      (uss_cons (us_if (PW.pt (uw_or (ut_not (ut_val (ue_callB uc_isi (by rfl) L.n_isinstance bt_isi (ua_cons (uv 0) (ua_cons (ue_bltn (by rfl) L.n_str bt_str) ua_nil))))) (uw_or1 (ut_not (ut_chain uo_le uo_le ue_int (ue_callB uc_len (by rfl) L.n_len bt_len (ua_cons (uv 0) ua_nil)) (ue_gint (by rfl) L.g_MOST)))))) (uss_one (us_ret ue_bl)) uss_nil)
      (uss_one (us_ret (ue_callB (uc_all rfl) (by rfl) L.n_all bt_all (ua_cons (ue_lc (own := [("letter", 1)]) (n := (.one 1)) false rfl sc_is_name.nd (ui_any (uv 0)) (blkOk_by (own := [("letter", 1)]) (N := ["value", "letter"]) (sc := defScope s_is_name) (by decide +kernel)) (by decide) (fun _ _ _ _ _ => (pg_nt sc_is_name.nd rfl (.inl rfl))) (fun _ _ _ _ _ => uts_nil) (fun _ _ _ _ _ => (ue_cmp (uo_in (hu2 hr)) (uv 1) (ue_gstr (by rfl) L.g_LETTERS) (by rfl)))) ua_nil)))))) (fun us M Q E h => ?_)
  · obtain ⟨x, rfl, _⟩ := h
    rfl
  · obtain ⟨x, rfl, hx, q⟩ := h
    have q : ZQ Q (.bl (isNameU x)) M := .inl q
    cases x with
    | str z =>
      simp only [isNameU] at q
      walk_at "q0"
      by_cases h1 : 1 ≤ z.length
      · by_cases h2 : z.length ≤ 8
        · have h0 : 0 < z.length := h1
          have h3 : z.length < 9 := by omega
          simp only [z8i,uOr,z8d,z8m,uCB,z7t,z8l,uC,z8o,z7w,uOp,uUn,z8s,z8j,uIf,z8e,z7v,z7u,z7s,uBM,z8g,uSl,z4x,z8r,z72,z8q,z7x,List.append_nil,z8t,z80,z8y,z7z,z8u,z81,z8w,z8v,xIf,z74,z8x,z8p,z3t,z8n,z7m,z7q,z7o,z7p,z5w,z5v,z7a,z3l,z3m,z75,z5g,z8k,asD,uXf,z8f,z5n,z7y,z6e,z6d,z68,z67,z63,z5h,z5i,z5j,z3v,z3w,z6f,z64,z62,z5r,z6b,z7j,z7k,z7i,z7c,z7b,z7l,z7e,z5o,z2m,z2w,z2k,z2o,z2p,z2l,z2n,z5c,z73,z5a,z5e,z5f,z5b,z3g,z5d,z3e,z2q,z2r,z3i,z3k,z3j,z39,z3a,z37,z38,z4q,z6h,z4o,z4s,z4t,z4p,z3f,z4r,z4e,z4d,z3b,z2s,z3d,z3c,z0h,z0g,z0d,z0a,z0f,z0e,z1o,z1n,z0u,z0j,z0w,z0v,z2d,z2c,z1r,z10,z1t,z1s,z2f,z2e,z1w,z14,z1y,z1x,z16,z15,z0m,z0i,z0o,z0n,z1v,z1u,z11,z0l,z13,z12,z1q,z1p,z0x,z0k,z0z,z0y,z4i,z6g,z4g,z4j,z4k,z4h,z82,z88,z46,z5x,z44,z47,z48,z45,z2v,z2j,z40,z5q,z3y,z41,z42,z3z,z2u,z2i,z6y,z70,z6x,z71,z6z,z59,z56,z57,z58,z87,z86,z7r,z79,z7n,z7d,z5y,z76,z77,z6c,z69,z6a,z8b,z8c,z89,z8a,z85,z83,z84,z4v,z4u,z6i,z78,z5m,z5l,z5k,z6n,z6o,z6p,z6q,z6r,z6s,z6t,z6u,z6v,z6w,z50,z51,z52,z53,z54,z55,z4b,z4c,z49,z27,z26,z1e,z0r,z1g,z1f,z05,z04,z2h,z2g,z1z,z17,z21,z20,z0c,z0b,z23,z22,z18,z0p,z1a,z19,z01,z00,z29,z28,z1h,z0s,z1j,z1i,z07,z06,z2b,z2a,z1k,z0t,z1m,z1l,z09,z08,z25,z24,z1b,z0q,z1d,z1c,z03,z02,z6m,z8h,z4z,z6l,z6k,z4w,z4y,z3s,z6j,z3p,z4f,z3n,z3q,z3r,z3o,z5p,z2t,z3h,z4n,z4l,z4a,z66,z65,z4m,z60,z61,z5z,z32,z2x,z33,z2y,z34,z2z,z35,z30,z36,z31,z7h,z7g,z3u,z5u,z3x,z7f,z5t,z43,z5s,cle,clt,cge,cgt,ceq,cne,lenN,xFor,xTryM,uMix,uEnum,uZip,ltT,uSortK,sortK,sortN,uDNew,uDGet,inN,setN,uDNewS,uDGetS,inS,setS,uDm,uDm0,getR,popS,setdS,getNR,setdN,popNR,itemsR,lenS,dictS,sortItR,uFld,uFst,uMake,uLock,uLockE,uKeys,sortE,sortL,xOp,reprT_1,listN,mulT,gLst_l,gLst_r,sum_l,sum_r,min_ii,max_ii,sortSD,pop1S,dictN,uD1,updN,exists_eq_left',exists_eq_left,Option.some.injEq,U.int.injEq,U.bl.injEq,U.str.injEq,U.ref.injEq,U.tup.injEq,U.lst.injEq,U.ty.injEq,List.cons.injEq,and_true,true_and,and_self,List.map_cons,List.map_nil,List.length_cons,List.length_nil,List.cons_append,List.nil_append,List.append_nil,List.getElem?_cons_zero,List.getElem?_cons_succ,List.set_cons_zero,List.set_cons_succ,List.replicate,↓reduceIte,Bool.false_eq_true,Bool.not_true,Bool.not_false,reduceCtorEq,Nat.reduceAdd,Nat.reduceSub,Nat.reduceLeDiff,Nat.reduceEqDiff,decide_true,decide_false,at0,at1,at2,at3,at4,ix0,ix1,ix2,ix3,ix4,updM_same,beq_self_eq_true,Option.bind,Option.map,wipeU,NT.put,puts,MO.lst.injEq,exists_and_left,decide_eq_true_eq,Bool.and_eq_true,Bool.or_eq_true,exists_eq',Nat.zero_le,true_or,or_true,h0,h1,h2,h3] at q ⊢
          walk_at "q2"
          refine lc_of z.cps.toList (fun c => .str ⟨#[c]⟩) (fun c => .bl (isLow c)) (fun _ _ _ => True.intro) (fun D acc hD c hc => ⟨_, rfl, fun Q q => ?_⟩) ?_
          · walk_at "q0"
            exact q
          · simp only [z8i,uOr,z8d,z8m,uCB,z7t,z8l,uC,z8o,z7w,uOp,uUn,z8s,z8j,uIf,z8e,z7v,z7u,z7s,uBM,z8g,uSl,z4x,z8r,z72,z8q,z7x,List.append_nil,z8t,z80,z8y,z7z,z8u,z81,z8w,z8v,xIf,z74,z8x,z8p,z3t,z8n,z7m,z7q,z7o,z7p,z5w,z5v,z7a,z3l,z3m,z75,z5g,z8k,asD,uXf,z8f,z5n,z7y,z6e,z6d,z68,z67,z63,z5h,z5i,z5j,z3v,z3w,z6f,z64,z62,z5r,z6b,z7j,z7k,z7i,z7c,z7b,z7l,z7e,z5o,z2m,z2w,z2k,z2o,z2p,z2l,z2n,z5c,z73,z5a,z5e,z5f,z5b,z3g,z5d,z3e,z2q,z2r,z3i,z3k,z3j,z39,z3a,z37,z38,z4q,z6h,z4o,z4s,z4t,z4p,z3f,z4r,z4e,z4d,z3b,z2s,z3d,z3c,z0h,z0g,z0d,z0a,z0f,z0e,z1o,z1n,z0u,z0j,z0w,z0v,z2d,z2c,z1r,z10,z1t,z1s,z2f,z2e,z1w,z14,z1y,z1x,z16,z15,z0m,z0i,z0o,z0n,z1v,z1u,z11,z0l,z13,z12,z1q,z1p,z0x,z0k,z0z,z0y,z4i,z6g,z4g,z4j,z4k,z4h,z82,z88,z46,z5x,z44,z47,z48,z45,z2v,z2j,z40,z5q,z3y,z41,z42,z3z,z2u,z2i,z6y,z70,z6x,z71,z6z,z59,z56,z57,z58,z87,z86,z7r,z79,z7n,z7d,z5y,z76,z77,z6c,z69,z6a,z8b,z8c,z89,z8a,z85,z83,z84,z4v,z4u,z6i,z78,z5m,z5l,z5k,z6n,z6o,z6p,z6q,z6r,z6s,z6t,z6u,z6v,z6w,z50,z51,z52,z53,z54,z55,z4b,z4c,z49,z27,z26,z1e,z0r,z1g,z1f,z05,z04,z2h,z2g,z1z,z17,z21,z20,z0c,z0b,z23,z22,z18,z0p,z1a,z19,z01,z00,z29,z28,z1h,z0s,z1j,z1i,z07,z06,z2b,z2a,z1k,z0t,z1m,z1l,z09,z08,z25,z24,z1b,z0q,z1d,z1c,z03,z02,z6m,z8h,z4z,z6l,z6k,z4w,z4y,z3s,z6j,z3p,z4f,z3n,z3q,z3r,z3o,z5p,z2t,z3h,z4n,z4l,z4a,z66,z65,z4m,z60,z61,z5z,z32,z2x,z33,z2y,z34,z2z,z35,z30,z36,z31,z7h,z7g,z3u,z5u,z3x,z7f,z5t,z43,z5s,cle,clt,cge,cgt,ceq,cne,lenN,xFor,xTryM,uMix,uEnum,uZip,ltT,uSortK,sortK,sortN,uDNew,uDGet,inN,setN,uDNewS,uDGetS,inS,setS,uDm,uDm0,getR,popS,setdS,getNR,setdN,popNR,itemsR,lenS,dictS,sortItR,uFld,uFst,uMake,uLock,uLockE,uKeys,sortE,sortL,xOp,reprT_1,listN,mulT,gLst_l,gLst_r,sum_l,sum_r,min_ii,max_ii,sortSD,pop1S,dictN,uD1,updN,exists_eq_left',exists_eq_left,Option.some.injEq,U.int.injEq,U.bl.injEq,U.str.injEq,U.ref.injEq,U.tup.injEq,U.lst.injEq,U.ty.injEq,List.cons.injEq,and_true,true_and,and_self,List.map_cons,List.map_nil,List.length_cons,List.length_nil,List.cons_append,List.nil_append,List.append_nil,List.getElem?_cons_zero,List.getElem?_cons_succ,List.set_cons_zero,List.set_cons_succ,List.replicate,↓reduceIte,Bool.false_eq_true,Bool.not_true,Bool.not_false,reduceCtorEq,Nat.reduceAdd,Nat.reduceSub,Nat.reduceLeDiff,Nat.reduceEqDiff,decide_true,decide_false,at0,at1,at2,at3,at4,ix0,ix1,ix2,ix3,ix4,updM_same,beq_self_eq_true,Option.bind,Option.map,wipeU,NT.put,puts,MO.lst.injEq,exists_and_left,decide_eq_true_eq,Bool.and_eq_true,Bool.or_eq_true,exists_eq',Nat.zero_le,true_or,or_true,allU_map,Bool.true_and] at q ⊢
            exact q
        · have h3 : ¬ z.length < 9 := by omega
          have h0 : 0 < z.length := h1
          simp only [z8i,uOr,z8d,z8m,uCB,z7t,z8l,uC,z8o,z7w,uOp,uUn,z8s,z8j,uIf,z8e,z7v,z7u,z7s,uBM,z8g,uSl,z4x,z8r,z72,z8q,z7x,List.append_nil,z8t,z80,z8y,z7z,z8u,z81,z8w,z8v,xIf,z74,z8x,z8p,z3t,z8n,z7m,z7q,z7o,z7p,z5w,z5v,z7a,z3l,z3m,z75,z5g,z8k,asD,uXf,z8f,z5n,z7y,z6e,z6d,z68,z67,z63,z5h,z5i,z5j,z3v,z3w,z6f,z64,z62,z5r,z6b,z7j,z7k,z7i,z7c,z7b,z7l,z7e,z5o,z2m,z2w,z2k,z2o,z2p,z2l,z2n,z5c,z73,z5a,z5e,z5f,z5b,z3g,z5d,z3e,z2q,z2r,z3i,z3k,z3j,z39,z3a,z37,z38,z4q,z6h,z4o,z4s,z4t,z4p,z3f,z4r,z4e,z4d,z3b,z2s,z3d,z3c,z0h,z0g,z0d,z0a,z0f,z0e,z1o,z1n,z0u,z0j,z0w,z0v,z2d,z2c,z1r,z10,z1t,z1s,z2f,z2e,z1w,z14,z1y,z1x,z16,z15,z0m,z0i,z0o,z0n,z1v,z1u,z11,z0l,z13,z12,z1q,z1p,z0x,z0k,z0z,z0y,z4i,z6g,z4g,z4j,z4k,z4h,z82,z88,z46,z5x,z44,z47,z48,z45,z2v,z2j,z40,z5q,z3y,z41,z42,z3z,z2u,z2i,z6y,z70,z6x,z71,z6z,z59,z56,z57,z58,z87,z86,z7r,z79,z7n,z7d,z5y,z76,z77,z6c,z69,z6a,z8b,z8c,z89,z8a,z85,z83,z84,z4v,z4u,z6i,z78,z5m,z5l,z5k,z6n,z6o,z6p,z6q,z6r,z6s,z6t,z6u,z6v,z6w,z50,z51,z52,z53,z54,z55,z4b,z4c,z49,z27,z26,z1e,z0r,z1g,z1f,z05,z04,z2h,z2g,z1z,z17,z21,z20,z0c,z0b,z23,z22,z18,z0p,z1a,z19,z01,z00,z29,z28,z1h,z0s,z1j,z1i,z07,z06,z2b,z2a,z1k,z0t,z1m,z1l,z09,z08,z25,z24,z1b,z0q,z1d,z1c,z03,z02,z6m,z8h,z4z,z6l,z6k,z4w,z4y,z3s,z6j,z3p,z4f,z3n,z3q,z3r,z3o,z5p,z2t,z3h,z4n,z4l,z4a,z66,z65,z4m,z60,z61,z5z,z32,z2x,z33,z2y,z34,z2z,z35,z30,z36,z31,z7h,z7g,z3u,z5u,z3x,z7f,z5t,z43,z5s,cle,clt,cge,cgt,ceq,cne,lenN,xFor,xTryM,uMix,uEnum,uZip,ltT,uSortK,sortK,sortN,uDNew,uDGet,inN,setN,uDNewS,uDGetS,inS,setS,uDm,uDm0,getR,popS,setdS,getNR,setdN,popNR,itemsR,lenS,dictS,sortItR,uFld,uFst,uMake,uLock,uLockE,uKeys,sortE,sortL,xOp,reprT_1,listN,mulT,gLst_l,gLst_r,sum_l,sum_r,min_ii,max_ii,sortSD,pop1S,dictN,uD1,updN,exists_eq_left',exists_eq_left,Option.some.injEq,U.int.injEq,U.bl.injEq,U.str.injEq,U.ref.injEq,U.tup.injEq,U.lst.injEq,U.ty.injEq,List.cons.injEq,and_true,true_and,and_self,List.map_cons,List.map_nil,List.length_cons,List.length_nil,List.cons_append,List.nil_append,List.append_nil,List.getElem?_cons_zero,List.getElem?_cons_succ,List.set_cons_zero,List.set_cons_succ,List.replicate,↓reduceIte,Bool.false_eq_true,Bool.not_true,Bool.not_false,reduceCtorEq,Nat.reduceAdd,Nat.reduceSub,Nat.reduceLeDiff,Nat.reduceEqDiff,decide_true,decide_false,at0,at1,at2,at3,at4,ix0,ix1,ix2,ix3,ix4,updM_same,beq_self_eq_true,Option.bind,Option.map,wipeU,NT.put,puts,MO.lst.injEq,exists_and_left,decide_eq_true_eq,Bool.and_eq_true,Bool.or_eq_true,exists_eq',Nat.zero_le,true_or,or_true,h0,h1,h2,h3,Bool.true_and,Bool.false_and] at q ⊢
          exact q
      · have h0 : ¬ 0 < z.length := h1
        simp only [z8i,uOr,z8d,z8m,uCB,z7t,z8l,uC,z8o,z7w,uOp,uUn,z8s,z8j,uIf,z8e,z7v,z7u,z7s,uBM,z8g,uSl,z4x,z8r,z72,z8q,z7x,List.append_nil,z8t,z80,z8y,z7z,z8u,z81,z8w,z8v,xIf,z74,z8x,z8p,z3t,z8n,z7m,z7q,z7o,z7p,z5w,z5v,z7a,z3l,z3m,z75,z5g,z8k,asD,uXf,z8f,z5n,z7y,z6e,z6d,z68,z67,z63,z5h,z5i,z5j,z3v,z3w,z6f,z64,z62,z5r,z6b,z7j,z7k,z7i,z7c,z7b,z7l,z7e,z5o,z2m,z2w,z2k,z2o,z2p,z2l,z2n,z5c,z73,z5a,z5e,z5f,z5b,z3g,z5d,z3e,z2q,z2r,z3i,z3k,z3j,z39,z3a,z37,z38,z4q,z6h,z4o,z4s,z4t,z4p,z3f,z4r,z4e,z4d,z3b,z2s,z3d,z3c,z0h,z0g,z0d,z0a,z0f,z0e,z1o,z1n,z0u,z0j,z0w,z0v,z2d,z2c,z1r,z10,z1t,z1s,z2f,z2e,z1w,z14,z1y,z1x,z16,z15,z0m,z0i,z0o,z0n,z1v,z1u,z11,z0l,z13,z12,z1q,z1p,z0x,z0k,z0z,z0y,z4i,z6g,z4g,z4j,z4k,z4h,z82,z88,z46,z5x,z44,z47,z48,z45,z2v,z2j,z40,z5q,z3y,z41,z42,z3z,z2u,z2i,z6y,z70,z6x,z71,z6z,z59,z56,z57,z58,z87,z86,z7r,z79,z7n,z7d,z5y,z76,z77,z6c,z69,z6a,z8b,z8c,z89,z8a,z85,z83,z84,z4v,z4u,z6i,z78,z5m,z5l,z5k,z6n,z6o,z6p,z6q,z6r,z6s,z6t,z6u,z6v,z6w,z50,z51,z52,z53,z54,z55,z4b,z4c,z49,z27,z26,z1e,z0r,z1g,z1f,z05,z04,z2h,z2g,z1z,z17,z21,z20,z0c,z0b,z23,z22,z18,z0p,z1a,z19,z01,z00,z29,z28,z1h,z0s,z1j,z1i,z07,z06,z2b,z2a,z1k,z0t,z1m,z1l,z09,z08,z25,z24,z1b,z0q,z1d,z1c,z03,z02,z6m,z8h,z4z,z6l,z6k,z4w,z4y,z3s,z6j,z3p,z4f,z3n,z3q,z3r,z3o,z5p,z2t,z3h,z4n,z4l,z4a,z66,z65,z4m,z60,z61,z5z,z32,z2x,z33,z2y,z34,z2z,z35,z30,z36,z31,z7h,z7g,z3u,z5u,z3x,z7f,z5t,z43,z5s,cle,clt,cge,cgt,ceq,cne,lenN,xFor,xTryM,uMix,uEnum,uZip,ltT,uSortK,sortK,sortN,uDNew,uDGet,inN,setN,uDNewS,uDGetS,inS,setS,uDm,uDm0,getR,popS,setdS,getNR,setdN,popNR,itemsR,lenS,dictS,sortItR,uFld,uFst,uMake,uLock,uLockE,uKeys,sortE,sortL,xOp,reprT_1,listN,mulT,gLst_l,gLst_r,sum_l,sum_r,min_ii,max_ii,sortSD,pop1S,dictN,uD1,updN,exists_eq_left',exists_eq_left,Option.some.injEq,U.int.injEq,U.bl.injEq,U.str.injEq,U.ref.injEq,U.tup.injEq,U.lst.injEq,U.ty.injEq,List.cons.injEq,and_true,true_and,and_self,List.map_cons,List.map_nil,List.length_cons,List.length_nil,List.cons_append,List.nil_append,List.append_nil,List.getElem?_cons_zero,List.getElem?_cons_succ,List.set_cons_zero,List.set_cons_succ,List.replicate,↓reduceIte,Bool.false_eq_true,Bool.not_true,Bool.not_false,reduceCtorEq,Nat.reduceAdd,Nat.reduceSub,Nat.reduceLeDiff,Nat.reduceEqDiff,decide_true,decide_false,at0,at1,at2,at3,at4,ix0,ix1,ix2,ix3,ix4,updM_same,beq_self_eq_true,Option.bind,Option.map,wipeU,NT.put,puts,MO.lst.injEq,exists_and_left,decide_eq_true_eq,Bool.and_eq_true,Bool.or_eq_true,exists_eq',Nat.zero_le,true_or,or_true,h0,h1,Bool.true_and,Bool.false_and] at q ⊢
        exact q
    | ref a => simp [isD] at hx
    | ty n => simp [isD] at hx
    | _ =>
      simp only [isNameU] at q
      walk_at "q0"
      exact q

/-! ### is_integer -/
def isIntU : U → Bool
  | .int _ => true
  | _ => false
def sp_is_integer : USp := fun us M Q _ => ∃ x, us = [x] ∧ isD x = true ∧ Q (.bl (isIntU x)) M
theorem ok_is_integer (L : Lw K mg) : UFn P w K mg base CX0 1 L.f_is_integer L.fd_is_integer ["value"] (sp_is_integer) := by
  refine ufn_ok L.D_is_integer.F sc_is_integer (fun us M Q E h => ?_) (fun cdv A outer s H E hr hG =>
      (uss_one (us_ret (ue_and (ue_callB uc_isi (by rfl) L.n_isinstance bt_isi (ua_cons (uv 0) (ua_cons (ue_bltn (by rfl) L.n_int bt_int) ua_nil))) (ue_one (ue_not (ue_callB uc_isi (by rfl) L.n_isinstance bt_isi (ua_cons (uv 0) (ua_cons (ue_bltn (by rfl) L.n_bool bt_bool) ua_nil))))))))) (fun us M Q E h => ?_)
  · obtain ⟨x, rfl, _⟩ := h
    rfl
  · obtain ⟨x, rfl, hx, q⟩ := h
    have q : ZQ Q (.bl (isIntU x)) M := .inl q
    cases x with
    | ref a => simp [isD] at hx
    | ty n => simp [isD] at hx
    | _ =>
      simp only [z8i,uOr,z8d,z8m,uCB,z7t,z8l,uC,z8o,z7w,uOp,uUn,z8s,z8j,uIf,z8e,z7v,z7u,z7s,uBM,z8g,uSl,z4x,z8r,z72,z8q,z7x,List.append_nil,z8t,z80,z8y,z7z,z8u,z81,z8w,z8v,xIf,z74,z8x,z8p,z3t,z8n,z7m,z7q,z7o,z7p,z5w,z5v,z7a,z3l,z3m,z75,z5g,z8k,asD,uXf,z8f,z5n,z7y,z6e,z6d,z68,z67,z63,z5h,z5i,z5j,z3v,z3w,z6f,z64,z62,z5r,z6b,z7j,z7k,z7i,z7c,z7b,z7l,z7e,z5o,z2m,z2w,z2k,z2o,z2p,z2l,z2n,z5c,z73,z5a,z5e,z5f,z5b,z3g,z5d,z3e,z2q,z2r,z3i,z3k,z3j,z39,z3a,z37,z38,z4q,z6h,z4o,z4s,z4t,z4p,z3f,z4r,z4e,z4d,z3b,z2s,z3d,z3c,z0h,z0g,z0d,z0a,z0f,z0e,z1o,z1n,z0u,z0j,z0w,z0v,z2d,z2c,z1r,z10,z1t,z1s,z2f,z2e,z1w,z14,z1y,z1x,z16,z15,z0m,z0i,z0o,z0n,z1v,z1u,z11,z0l,z13,z12,z1q,z1p,z0x,z0k,z0z,z0y,z4i,z6g,z4g,z4j,z4k,z4h,z82,z88,z46,z5x,z44,z47,z48,z45,z2v,z2j,z40,z5q,z3y,z41,z42,z3z,z2u,z2i,z6y,z70,z6x,z71,z6z,z59,z56,z57,z58,z87,z86,z7r,z79,z7n,z7d,z5y,z76,z77,z6c,z69,z6a,z8b,z8c,z89,z8a,z85,z83,z84,z4v,z4u,z6i,z78,z5m,z5l,z5k,z6n,z6o,z6p,z6q,z6r,z6s,z6t,z6u,z6v,z6w,z50,z51,z52,z53,z54,z55,z4b,z4c,z49,z27,z26,z1e,z0r,z1g,z1f,z05,z04,z2h,z2g,z1z,z17,z21,z20,z0c,z0b,z23,z22,z18,z0p,z1a,z19,z01,z00,z29,z28,z1h,z0s,z1j,z1i,z07,z06,z2b,z2a,z1k,z0t,z1m,z1l,z09,z08,z25,z24,z1b,z0q,z1d,z1c,z03,z02,z6m,z8h,z4z,z6l,z6k,z4w,z4y,z3s,z6j,z3p,z4f,z3n,z3q,z3r,z3o,z5p,z2t,z3h,z4n,z4l,z4a,z66,z65,z4m,z60,z61,z5z,z32,z2x,z33,z2y,z34,z2z,z35,z30,z36,z31,z7h,z7g,z3u,z5u,z3x,z7f,z5t,z43,z5s,cle,clt,cge,cgt,ceq,cne,lenN,xFor,xTryM,uMix,uEnum,uZip,ltT,uSortK,sortK,sortN,uDNew,uDGet,inN,setN,uDNewS,uDGetS,inS,setS,uDm,uDm0,getR,popS,setdS,getNR,setdN,popNR,itemsR,lenS,dictS,sortItR,uFld,uFst,uMake,uLock,uLockE,uKeys,sortE,sortL,xOp,reprT_1,listN,mulT,gLst_l,gLst_r,sum_l,sum_r,min_ii,max_ii,sortSD,pop1S,dictN,uD1,updN,exists_eq_left',exists_eq_left,Option.some.injEq,U.int.injEq,U.bl.injEq,U.str.injEq,U.ref.injEq,U.tup.injEq,U.lst.injEq,U.ty.injEq,List.cons.injEq,and_true,true_and,and_self,List.map_cons,List.map_nil,List.length_cons,List.length_nil,List.cons_append,List.nil_append,List.append_nil,List.getElem?_cons_zero,List.getElem?_cons_succ,List.set_cons_zero,List.set_cons_succ,List.replicate,↓reduceIte,Bool.false_eq_true,Bool.not_true,Bool.not_false,reduceCtorEq,Nat.reduceAdd,Nat.reduceSub,Nat.reduceLeDiff,Nat.reduceEqDiff,decide_true,decide_false,at0,at1,at2,at3,at4,ix0,ix1,ix2,ix3,ix4,updM_same,beq_self_eq_true,Option.bind,Option.map,wipeU,NT.put,puts,MO.lst.injEq,exists_and_left,decide_eq_true_eq,Bool.and_eq_true,Bool.or_eq_true,exists_eq',Nat.zero_le,true_or,or_true,isIntU] at q ⊢
      exact q

/-! ### is_path -/
def isPathU : U → Bool
  | .tup xs => decide (xs.length ≤ 8) && xs.all isNameU
  | _ => false
def sp_is_path : USp := fun us M Q _ => ∃ x, us = [x] ∧ isD x = true ∧ Q (.bl (isPathU x)) M
theorem ok_is_path (L : Lw K mg) : UFn P w K mg base CX0 2 L.f_is_path L.fd_is_path ["value"] (sp_is_path) := by
  refine ufn_ok L.D_is_path.F sc_is_path (fun us M Q E h => ?_) (fun cdv A outer s H E hr hG =>
      (uss_one (us_ret (ue_and (ue_callB uc_isi (by rfl) L.n_isinstance bt_isi (ua_cons (uv 0) (ua_cons (ue_bltn (by rfl) L.n_tuple bt_tuple) ua_nil))) (ue_and (ue_cmp uo_le (ue_callB uc_len (by rfl) L.n_len bt_len (ua_cons (uv 0) ua_nil)) (ue_gint (by rfl) L.g_MOST) (nomark _)) (ue_one (ue_callB (uc_all rfl) (by rfl) L.n_all bt_all (ua_cons (ue_lc (own := [("part", 1)]) (n := (.one 1)) false rfl sc_is_path.nd (ui_any (uv 0)) (blkOk_by (own := [("part", 1)]) (N := ["value", "part"]) (sc := defScope s_is_path) (by decide +kernel)) (by decide) (fun _ _ _ _ _ => (pg_nt sc_is_path.nd rfl (.inl rfl))) (fun _ _ _ _ _ => uts_nil) (fun _ _ _ _ _ => (ue_call (ok_is_name L) (hr.mono (by decide)) hG rfl L.D_is_name.g L.D_is_name.F.kp L.D_is_name.b .nil (fun _ => RelUs.nil) (ua_cons (uv 1) ua_nil)))) ua_nil)))))))) (fun us M Q E h => ?_)
  · obtain ⟨x, rfl, _⟩ := h
    rfl
  · obtain ⟨x, rfl, hx, q⟩ := h
    have q : ZQ Q (.bl (isPathU x)) M := .inl q
    cases x with
    | tup xs =>
      have hxs := isDs_iff.mp (by simpa [isD] using hx)
      simp only [z8i,uOr,z8d,z8m,uCB,z7t,z8l,uC,z8o,z7w,uOp,uUn,z8s,z8j,uIf,z8e,z7v,z7u,z7s,uBM,z8g,uSl,z4x,z8r,z72,z8q,z7x,List.append_nil,z8t,z80,z8y,z7z,z8u,z81,z8w,z8v,xIf,z74,z8x,z8p,z3t,z8n,z7m,z7q,z7o,z7p,z5w,z5v,z7a,z3l,z3m,z75,z5g,z8k,asD,uXf,z8f,z5n,z7y,z6e,z6d,z68,z67,z63,z5h,z5i,z5j,z3v,z3w,z6f,z64,z62,z5r,z6b,z7j,z7k,z7i,z7c,z7b,z7l,z7e,z5o,z2m,z2w,z2k,z2o,z2p,z2l,z2n,z5c,z73,z5a,z5e,z5f,z5b,z3g,z5d,z3e,z2q,z2r,z3i,z3k,z3j,z39,z3a,z37,z38,z4q,z6h,z4o,z4s,z4t,z4p,z3f,z4r,z4e,z4d,z3b,z2s,z3d,z3c,z0h,z0g,z0d,z0a,z0f,z0e,z1o,z1n,z0u,z0j,z0w,z0v,z2d,z2c,z1r,z10,z1t,z1s,z2f,z2e,z1w,z14,z1y,z1x,z16,z15,z0m,z0i,z0o,z0n,z1v,z1u,z11,z0l,z13,z12,z1q,z1p,z0x,z0k,z0z,z0y,z4i,z6g,z4g,z4j,z4k,z4h,z82,z88,z46,z5x,z44,z47,z48,z45,z2v,z2j,z40,z5q,z3y,z41,z42,z3z,z2u,z2i,z6y,z70,z6x,z71,z6z,z59,z56,z57,z58,z87,z86,z7r,z79,z7n,z7d,z5y,z76,z77,z6c,z69,z6a,z8b,z8c,z89,z8a,z85,z83,z84,z4v,z4u,z6i,z78,z5m,z5l,z5k,z6n,z6o,z6p,z6q,z6r,z6s,z6t,z6u,z6v,z6w,z50,z51,z52,z53,z54,z55,z4b,z4c,z49,z27,z26,z1e,z0r,z1g,z1f,z05,z04,z2h,z2g,z1z,z17,z21,z20,z0c,z0b,z23,z22,z18,z0p,z1a,z19,z01,z00,z29,z28,z1h,z0s,z1j,z1i,z07,z06,z2b,z2a,z1k,z0t,z1m,z1l,z09,z08,z25,z24,z1b,z0q,z1d,z1c,z03,z02,z6m,z8h,z4z,z6l,z6k,z4w,z4y,z3s,z6j,z3p,z4f,z3n,z3q,z3r,z3o,z5p,z2t,z3h,z4n,z4l,z4a,z66,z65,z4m,z60,z61,z5z,z32,z2x,z33,z2y,z34,z2z,z35,z30,z36,z31,z7h,z7g,z3u,z5u,z3x,z7f,z5t,z43,z5s,cle,clt,cge,cgt,ceq,cne,lenN,xFor,xTryM,uMix,uEnum,uZip,ltT,uSortK,sortK,sortN,uDNew,uDGet,inN,setN,uDNewS,uDGetS,inS,setS,uDm,uDm0,getR,popS,setdS,getNR,setdN,popNR,itemsR,lenS,dictS,sortItR,uFld,uFst,uMake,uLock,uLockE,uKeys,sortE,sortL,xOp,reprT_1,listN,mulT,gLst_l,gLst_r,sum_l,sum_r,min_ii,max_ii,sortSD,pop1S,dictN,uD1,updN,exists_eq_left',exists_eq_left,Option.some.injEq,U.int.injEq,U.bl.injEq,U.str.injEq,U.ref.injEq,U.tup.injEq,U.lst.injEq,U.ty.injEq,List.cons.injEq,and_true,true_and,and_self,List.map_cons,List.map_nil,List.length_cons,List.length_nil,List.cons_append,List.nil_append,List.append_nil,List.getElem?_cons_zero,List.getElem?_cons_succ,List.set_cons_zero,List.set_cons_succ,List.replicate,↓reduceIte,Bool.false_eq_true,Bool.not_true,Bool.not_false,reduceCtorEq,Nat.reduceAdd,Nat.reduceSub,Nat.reduceLeDiff,Nat.reduceEqDiff,decide_true,decide_false,at0,at1,at2,at3,at4,ix0,ix1,ix2,ix3,ix4,updM_same,beq_self_eq_true,Option.bind,Option.map,wipeU,NT.put,puts,MO.lst.injEq,exists_and_left,decide_eq_true_eq,Bool.and_eq_true,Bool.or_eq_true,exists_eq',Nat.zero_le,true_or,or_true,isPathU] at q ⊢
      by_cases h1 : xs.length ≤ 8
      · have h3 : xs.length < 9 := by omega
        simp only [z8i,uOr,z8d,z8m,uCB,z7t,z8l,uC,z8o,z7w,uOp,uUn,z8s,z8j,uIf,z8e,z7v,z7u,z7s,uBM,z8g,uSl,z4x,z8r,z72,z8q,z7x,List.append_nil,z8t,z80,z8y,z7z,z8u,z81,z8w,z8v,xIf,z74,z8x,z8p,z3t,z8n,z7m,z7q,z7o,z7p,z5w,z5v,z7a,z3l,z3m,z75,z5g,z8k,asD,uXf,z8f,z5n,z7y,z6e,z6d,z68,z67,z63,z5h,z5i,z5j,z3v,z3w,z6f,z64,z62,z5r,z6b,z7j,z7k,z7i,z7c,z7b,z7l,z7e,z5o,z2m,z2w,z2k,z2o,z2p,z2l,z2n,z5c,z73,z5a,z5e,z5f,z5b,z3g,z5d,z3e,z2q,z2r,z3i,z3k,z3j,z39,z3a,z37,z38,z4q,z6h,z4o,z4s,z4t,z4p,z3f,z4r,z4e,z4d,z3b,z2s,z3d,z3c,z0h,z0g,z0d,z0a,z0f,z0e,z1o,z1n,z0u,z0j,z0w,z0v,z2d,z2c,z1r,z10,z1t,z1s,z2f,z2e,z1w,z14,z1y,z1x,z16,z15,z0m,z0i,z0o,z0n,z1v,z1u,z11,z0l,z13,z12,z1q,z1p,z0x,z0k,z0z,z0y,z4i,z6g,z4g,z4j,z4k,z4h,z82,z88,z46,z5x,z44,z47,z48,z45,z2v,z2j,z40,z5q,z3y,z41,z42,z3z,z2u,z2i,z6y,z70,z6x,z71,z6z,z59,z56,z57,z58,z87,z86,z7r,z79,z7n,z7d,z5y,z76,z77,z6c,z69,z6a,z8b,z8c,z89,z8a,z85,z83,z84,z4v,z4u,z6i,z78,z5m,z5l,z5k,z6n,z6o,z6p,z6q,z6r,z6s,z6t,z6u,z6v,z6w,z50,z51,z52,z53,z54,z55,z4b,z4c,z49,z27,z26,z1e,z0r,z1g,z1f,z05,z04,z2h,z2g,z1z,z17,z21,z20,z0c,z0b,z23,z22,z18,z0p,z1a,z19,z01,z00,z29,z28,z1h,z0s,z1j,z1i,z07,z06,z2b,z2a,z1k,z0t,z1m,z1l,z09,z08,z25,z24,z1b,z0q,z1d,z1c,z03,z02,z6m,z8h,z4z,z6l,z6k,z4w,z4y,z3s,z6j,z3p,z4f,z3n,z3q,z3r,z3o,z5p,z2t,z3h,z4n,z4l,z4a,z66,z65,z4m,z60,z61,z5z,z32,z2x,z33,z2y,z34,z2z,z35,z30,z36,z31,z7h,z7g,z3u,z5u,z3x,z7f,z5t,z43,z5s,cle,clt,cge,cgt,ceq,cne,lenN,xFor,xTryM,uMix,uEnum,uZip,ltT,uSortK,sortK,sortN,uDNew,uDGet,inN,setN,uDNewS,uDGetS,inS,setS,uDm,uDm0,getR,popS,setdS,getNR,setdN,popNR,itemsR,lenS,dictS,sortItR,uFld,uFst,uMake,uLock,uLockE,uKeys,sortE,sortL,xOp,reprT_1,listN,mulT,gLst_l,gLst_r,sum_l,sum_r,min_ii,max_ii,sortSD,pop1S,dictN,uD1,updN,exists_eq_left',exists_eq_left,Option.some.injEq,U.int.injEq,U.bl.injEq,U.str.injEq,U.ref.injEq,U.tup.injEq,U.lst.injEq,U.ty.injEq,List.cons.injEq,and_true,true_and,and_self,List.map_cons,List.map_nil,List.length_cons,List.length_nil,List.cons_append,List.nil_append,List.append_nil,List.getElem?_cons_zero,List.getElem?_cons_succ,List.set_cons_zero,List.set_cons_succ,List.replicate,↓reduceIte,Bool.false_eq_true,Bool.not_true,Bool.not_false,reduceCtorEq,Nat.reduceAdd,Nat.reduceSub,Nat.reduceLeDiff,Nat.reduceEqDiff,decide_true,decide_false,at0,at1,at2,at3,at4,ix0,ix1,ix2,ix3,ix4,updM_same,beq_self_eq_true,Option.bind,Option.map,wipeU,NT.put,puts,MO.lst.injEq,exists_and_left,decide_eq_true_eq,Bool.and_eq_true,Bool.or_eq_true,exists_eq',Nat.zero_le,true_or,or_true,h1,h3] at q ⊢
        walk_at "q2"
        refine lc_map (fun x => .bl (isNameU x)) (fun _ _ _ => True.intro) (fun D acc hD x hx => ⟨_, rfl, fun Q q => ?_⟩) ?_
        · simp only [z8i,uOr,z8d,z8m,uCB,z7t,z8l,uC,z8o,z7w,uOp,uUn,z8s,z8j,uIf,z8e,z7v,z7u,z7s,uBM,z8g,uSl,z4x,z8r,z72,z8q,z7x,List.append_nil,z8t,z80,z8y,z7z,z8u,z81,z8w,z8v,xIf,z74,z8x,z8p,z3t,z8n,z7m,z7q,z7o,z7p,z5w,z5v,z7a,z3l,z3m,z75,z5g,z8k,asD,uXf,z8f,z5n,z7y,z6e,z6d,z68,z67,z63,z5h,z5i,z5j,z3v,z3w,z6f,z64,z62,z5r,z6b,z7j,z7k,z7i,z7c,z7b,z7l,z7e,z5o,z2m,z2w,z2k,z2o,z2p,z2l,z2n,z5c,z73,z5a,z5e,z5f,z5b,z3g,z5d,z3e,z2q,z2r,z3i,z3k,z3j,z39,z3a,z37,z38,z4q,z6h,z4o,z4s,z4t,z4p,z3f,z4r,z4e,z4d,z3b,z2s,z3d,z3c,z0h,z0g,z0d,z0a,z0f,z0e,z1o,z1n,z0u,z0j,z0w,z0v,z2d,z2c,z1r,z10,z1t,z1s,z2f,z2e,z1w,z14,z1y,z1x,z16,z15,z0m,z0i,z0o,z0n,z1v,z1u,z11,z0l,z13,z12,z1q,z1p,z0x,z0k,z0z,z0y,z4i,z6g,z4g,z4j,z4k,z4h,z82,z88,z46,z5x,z44,z47,z48,z45,z2v,z2j,z40,z5q,z3y,z41,z42,z3z,z2u,z2i,z6y,z70,z6x,z71,z6z,z59,z56,z57,z58,z87,z86,z7r,z79,z7n,z7d,z5y,z76,z77,z6c,z69,z6a,z8b,z8c,z89,z8a,z85,z83,z84,z4v,z4u,z6i,z78,z5m,z5l,z5k,z6n,z6o,z6p,z6q,z6r,z6s,z6t,z6u,z6v,z6w,z50,z51,z52,z53,z54,z55,z4b,z4c,z49,z27,z26,z1e,z0r,z1g,z1f,z05,z04,z2h,z2g,z1z,z17,z21,z20,z0c,z0b,z23,z22,z18,z0p,z1a,z19,z01,z00,z29,z28,z1h,z0s,z1j,z1i,z07,z06,z2b,z2a,z1k,z0t,z1m,z1l,z09,z08,z25,z24,z1b,z0q,z1d,z1c,z03,z02,z6m,z8h,z4z,z6l,z6k,z4w,z4y,z3s,z6j,z3p,z4f,z3n,z3q,z3r,z3o,z5p,z2t,z3h,z4n,z4l,z4a,z66,z65,z4m,z60,z61,z5z,z32,z2x,z33,z2y,z34,z2z,z35,z30,z36,z31,z7h,z7g,z3u,z5u,z3x,z7f,z5t,z43,z5s,cle,clt,cge,cgt,ceq,cne,lenN,xFor,xTryM,uMix,uEnum,uZip,ltT,uSortK,sortK,sortN,uDNew,uDGet,inN,setN,uDNewS,uDGetS,inS,setS,uDm,uDm0,getR,popS,setdS,getNR,setdN,popNR,itemsR,lenS,dictS,sortItR,uFld,uFst,uMake,uLock,uLockE,uKeys,sortE,sortL,xOp,reprT_1,listN,mulT,gLst_l,gLst_r,sum_l,sum_r,min_ii,max_ii,sortSD,pop1S,dictN,uD1,updN,exists_eq_left',exists_eq_left,Option.some.injEq,U.int.injEq,U.bl.injEq,U.str.injEq,U.ref.injEq,U.tup.injEq,U.lst.injEq,U.ty.injEq,List.cons.injEq,and_true,true_and,and_self,List.map_cons,List.map_nil,List.length_cons,List.length_nil,List.cons_append,List.nil_append,List.append_nil,List.getElem?_cons_zero,List.getElem?_cons_succ,List.set_cons_zero,List.set_cons_succ,List.replicate,↓reduceIte,Bool.false_eq_true,Bool.not_true,Bool.not_false,reduceCtorEq,Nat.reduceAdd,Nat.reduceSub,Nat.reduceLeDiff,Nat.reduceEqDiff,decide_true,decide_false,at0,at1,at2,at3,at4,ix0,ix1,ix2,ix3,ix4,updM_same,beq_self_eq_true,Option.bind,Option.map,wipeU,NT.put,puts,MO.lst.injEq,exists_and_left,decide_eq_true_eq,Bool.and_eq_true,Bool.or_eq_true,exists_eq',Nat.zero_le,true_or,or_true,sp_is_name]
          exact ⟨hxs x hx, q⟩
        · simp only [z8i,uOr,z8d,z8m,uCB,z7t,z8l,uC,z8o,z7w,uOp,uUn,z8s,z8j,uIf,z8e,z7v,z7u,z7s,uBM,z8g,uSl,z4x,z8r,z72,z8q,z7x,List.append_nil,z8t,z80,z8y,z7z,z8u,z81,z8w,z8v,xIf,z74,z8x,z8p,z3t,z8n,z7m,z7q,z7o,z7p,z5w,z5v,z7a,z3l,z3m,z75,z5g,z8k,asD,uXf,z8f,z5n,z7y,z6e,z6d,z68,z67,z63,z5h,z5i,z5j,z3v,z3w,z6f,z64,z62,z5r,z6b,z7j,z7k,z7i,z7c,z7b,z7l,z7e,z5o,z2m,z2w,z2k,z2o,z2p,z2l,z2n,z5c,z73,z5a,z5e,z5f,z5b,z3g,z5d,z3e,z2q,z2r,z3i,z3k,z3j,z39,z3a,z37,z38,z4q,z6h,z4o,z4s,z4t,z4p,z3f,z4r,z4e,z4d,z3b,z2s,z3d,z3c,z0h,z0g,z0d,z0a,z0f,z0e,z1o,z1n,z0u,z0j,z0w,z0v,z2d,z2c,z1r,z10,z1t,z1s,z2f,z2e,z1w,z14,z1y,z1x,z16,z15,z0m,z0i,z0o,z0n,z1v,z1u,z11,z0l,z13,z12,z1q,z1p,z0x,z0k,z0z,z0y,z4i,z6g,z4g,z4j,z4k,z4h,z82,z88,z46,z5x,z44,z47,z48,z45,z2v,z2j,z40,z5q,z3y,z41,z42,z3z,z2u,z2i,z6y,z70,z6x,z71,z6z,z59,z56,z57,z58,z87,z86,z7r,z79,z7n,z7d,z5y,z76,z77,z6c,z69,z6a,z8b,z8c,z89,z8a,z85,z83,z84,z4v,z4u,z6i,z78,z5m,z5l,z5k,z6n,z6o,z6p,z6q,z6r,z6s,z6t,z6u,z6v,z6w,z50,z51,z52,z53,z54,z55,z4b,z4c,z49,z27,z26,z1e,z0r,z1g,z1f,z05,z04,z2h,z2g,z1z,z17,z21,z20,z0c,z0b,z23,z22,z18,z0p,z1a,z19,z01,z00,z29,z28,z1h,z0s,z1j,z1i,z07,z06,z2b,z2a,z1k,z0t,z1m,z1l,z09,z08,z25,z24,z1b,z0q,z1d,z1c,z03,z02,z6m,z8h,z4z,z6l,z6k,z4w,z4y,z3s,z6j,z3p,z4f,z3n,z3q,z3r,z3o,z5p,z2t,z3h,z4n,z4l,z4a,z66,z65,z4m,z60,z61,z5z,z32,z2x,z33,z2y,z34,z2z,z35,z30,z36,z31,z7h,z7g,z3u,z5u,z3x,z7f,z5t,z43,z5s,cle,clt,cge,cgt,ceq,cne,lenN,xFor,xTryM,uMix,uEnum,uZip,ltT,uSortK,sortK,sortN,uDNew,uDGet,inN,setN,uDNewS,uDGetS,inS,setS,uDm,uDm0,getR,popS,setdS,getNR,setdN,popNR,itemsR,lenS,dictS,sortItR,uFld,uFst,uMake,uLock,uLockE,uKeys,sortE,sortL,xOp,reprT_1,listN,mulT,gLst_l,gLst_r,sum_l,sum_r,min_ii,max_ii,sortSD,pop1S,dictN,uD1,updN,exists_eq_left',exists_eq_left,Option.some.injEq,U.int.injEq,U.bl.injEq,U.str.injEq,U.ref.injEq,U.tup.injEq,U.lst.injEq,U.ty.injEq,List.cons.injEq,and_true,true_and,and_self,List.map_cons,List.map_nil,List.length_cons,List.length_nil,List.cons_append,List.nil_append,List.append_nil,List.getElem?_cons_zero,List.getElem?_cons_succ,List.set_cons_zero,List.set_cons_succ,List.replicate,↓reduceIte,Bool.false_eq_true,Bool.not_true,Bool.not_false,reduceCtorEq,Nat.reduceAdd,Nat.reduceSub,Nat.reduceLeDiff,Nat.reduceEqDiff,decide_true,decide_false,at0,at1,at2,at3,at4,ix0,ix1,ix2,ix3,ix4,updM_same,beq_self_eq_true,Option.bind,Option.map,wipeU,NT.put,puts,MO.lst.injEq,exists_and_left,decide_eq_true_eq,Bool.and_eq_true,Bool.or_eq_true,exists_eq',Nat.zero_le,true_or,or_true,allU_map,Bool.true_and] at q ⊢
          exact q
      · have h3 : ¬ xs.length < 9 := by omega
        simp only [z8i,uOr,z8d,z8m,uCB,z7t,z8l,uC,z8o,z7w,uOp,uUn,z8s,z8j,uIf,z8e,z7v,z7u,z7s,uBM,z8g,uSl,z4x,z8r,z72,z8q,z7x,List.append_nil,z8t,z80,z8y,z7z,z8u,z81,z8w,z8v,xIf,z74,z8x,z8p,z3t,z8n,z7m,z7q,z7o,z7p,z5w,z5v,z7a,z3l,z3m,z75,z5g,z8k,asD,uXf,z8f,z5n,z7y,z6e,z6d,z68,z67,z63,z5h,z5i,z5j,z3v,z3w,z6f,z64,z62,z5r,z6b,z7j,z7k,z7i,z7c,z7b,z7l,z7e,z5o,z2m,z2w,z2k,z2o,z2p,z2l,z2n,z5c,z73,z5a,z5e,z5f,z5b,z3g,z5d,z3e,z2q,z2r,z3i,z3k,z3j,z39,z3a,z37,z38,z4q,z6h,z4o,z4s,z4t,z4p,z3f,z4r,z4e,z4d,z3b,z2s,z3d,z3c,z0h,z0g,z0d,z0a,z0f,z0e,z1o,z1n,z0u,z0j,z0w,z0v,z2d,z2c,z1r,z10,z1t,z1s,z2f,z2e,z1w,z14,z1y,z1x,z16,z15,z0m,z0i,z0o,z0n,z1v,z1u,z11,z0l,z13,z12,z1q,z1p,z0x,z0k,z0z,z0y,z4i,z6g,z4g,z4j,z4k,z4h,z82,z88,z46,z5x,z44,z47,z48,z45,z2v,z2j,z40,z5q,z3y,z41,z42,z3z,z2u,z2i,z6y,z70,z6x,z71,z6z,z59,z56,z57,z58,z87,z86,z7r,z79,z7n,z7d,z5y,z76,z77,z6c,z69,z6a,z8b,z8c,z89,z8a,z85,z83,z84,z4v,z4u,z6i,z78,z5m,z5l,z5k,z6n,z6o,z6p,z6q,z6r,z6s,z6t,z6u,z6v,z6w,z50,z51,z52,z53,z54,z55,z4b,z4c,z49,z27,z26,z1e,z0r,z1g,z1f,z05,z04,z2h,z2g,z1z,z17,z21,z20,z0c,z0b,z23,z22,z18,z0p,z1a,z19,z01,z00,z29,z28,z1h,z0s,z1j,z1i,z07,z06,z2b,z2a,z1k,z0t,z1m,z1l,z09,z08,z25,z24,z1b,z0q,z1d,z1c,z03,z02,z6m,z8h,z4z,z6l,z6k,z4w,z4y,z3s,z6j,z3p,z4f,z3n,z3q,z3r,z3o,z5p,z2t,z3h,z4n,z4l,z4a,z66,z65,z4m,z60,z61,z5z,z32,z2x,z33,z2y,z34,z2z,z35,z30,z36,z31,z7h,z7g,z3u,z5u,z3x,z7f,z5t,z43,z5s,cle,clt,cge,cgt,ceq,cne,lenN,xFor,xTryM,uMix,uEnum,uZip,ltT,uSortK,sortK,sortN,uDNew,uDGet,inN,setN,uDNewS,uDGetS,inS,setS,uDm,uDm0,getR,popS,setdS,getNR,setdN,popNR,itemsR,lenS,dictS,sortItR,uFld,uFst,uMake,uLock,uLockE,uKeys,sortE,sortL,xOp,reprT_1,listN,mulT,gLst_l,gLst_r,sum_l,sum_r,min_ii,max_ii,sortSD,pop1S,dictN,uD1,updN,exists_eq_left',exists_eq_left,Option.some.injEq,U.int.injEq,U.bl.injEq,U.str.injEq,U.ref.injEq,U.tup.injEq,U.lst.injEq,U.ty.injEq,List.cons.injEq,and_true,true_and,and_self,List.map_cons,List.map_nil,List.length_cons,List.length_nil,List.cons_append,List.nil_append,List.append_nil,List.getElem?_cons_zero,List.getElem?_cons_succ,List.set_cons_zero,List.set_cons_succ,List.replicate,↓reduceIte,Bool.false_eq_true,Bool.not_true,Bool.not_false,reduceCtorEq,Nat.reduceAdd,Nat.reduceSub,Nat.reduceLeDiff,Nat.reduceEqDiff,decide_true,decide_false,at0,at1,at2,at3,at4,ix0,ix1,ix2,ix3,ix4,updM_same,beq_self_eq_true,Option.bind,Option.map,wipeU,NT.put,puts,MO.lst.injEq,exists_and_left,decide_eq_true_eq,Bool.and_eq_true,Bool.or_eq_true,exists_eq',Nat.zero_le,true_or,or_true,h1,h3,Bool.false_and] at q ⊢
        exact q
    | ref a => simp [isD] at hx
    | ty n => simp [isD] at hx
    | _ =>
      simp only [z8i,uOr,z8d,z8m,uCB,z7t,z8l,uC,z8o,z7w,uOp,uUn,z8s,z8j,uIf,z8e,z7v,z7u,z7s,uBM,z8g,uSl,z4x,z8r,z72,z8q,z7x,List.append_nil,z8t,z80,z8y,z7z,z8u,z81,z8w,z8v,xIf,z74,z8x,z8p,z3t,z8n,z7m,z7q,z7o,z7p,z5w,z5v,z7a,z3l,z3m,z75,z5g,z8k,asD,uXf,z8f,z5n,z7y,z6e,z6d,z68,z67,z63,z5h,z5i,z5j,z3v,z3w,z6f,z64,z62,z5r,z6b,z7j,z7k,z7i,z7c,z7b,z7l,z7e,z5o,z2m,z2w,z2k,z2o,z2p,z2l,z2n,z5c,z73,z5a,z5e,z5f,z5b,z3g,z5d,z3e,z2q,z2r,z3i,z3k,z3j,z39,z3a,z37,z38,z4q,z6h,z4o,z4s,z4t,z4p,z3f,z4r,z4e,z4d,z3b,z2s,z3d,z3c,z0h,z0g,z0d,z0a,z0f,z0e,z1o,z1n,z0u,z0j,z0w,z0v,z2d,z2c,z1r,z10,z1t,z1s,z2f,z2e,z1w,z14,z1y,z1x,z16,z15,z0m,z0i,z0o,z0n,z1v,z1u,z11,z0l,z13,z12,z1q,z1p,z0x,z0k,z0z,z0y,z4i,z6g,z4g,z4j,z4k,z4h,z82,z88,z46,z5x,z44,z47,z48,z45,z2v,z2j,z40,z5q,z3y,z41,z42,z3z,z2u,z2i,z6y,z70,z6x,z71,z6z,z59,z56,z57,z58,z87,z86,z7r,z79,z7n,z7d,z5y,z76,z77,z6c,z69,z6a,z8b,z8c,z89,z8a,z85,z83,z84,z4v,z4u,z6i,z78,z5m,z5l,z5k,z6n,z6o,z6p,z6q,z6r,z6s,z6t,z6u,z6v,z6w,z50,z51,z52,z53,z54,z55,z4b,z4c,z49,z27,z26,z1e,z0r,z1g,z1f,z05,z04,z2h,z2g,z1z,z17,z21,z20,z0c,z0b,z23,z22,z18,z0p,z1a,z19,z01,z00,z29,z28,z1h,z0s,z1j,z1i,z07,z06,z2b,z2a,z1k,z0t,z1m,z1l,z09,z08,z25,z24,z1b,z0q,z1d,z1c,z03,z02,z6m,z8h,z4z,z6l,z6k,z4w,z4y,z3s,z6j,z3p,z4f,z3n,z3q,z3r,z3o,z5p,z2t,z3h,z4n,z4l,z4a,z66,z65,z4m,z60,z61,z5z,z32,z2x,z33,z2y,z34,z2z,z35,z30,z36,z31,z7h,z7g,z3u,z5u,z3x,z7f,z5t,z43,z5s,cle,clt,cge,cgt,ceq,cne,lenN,xFor,xTryM,uMix,uEnum,uZip,ltT,uSortK,sortK,sortN,uDNew,uDGet,inN,setN,uDNewS,uDGetS,inS,setS,uDm,uDm0,getR,popS,setdS,getNR,setdN,popNR,itemsR,lenS,dictS,sortItR,uFld,uFst,uMake,uLock,uLockE,uKeys,sortE,sortL,xOp,reprT_1,listN,mulT,gLst_l,gLst_r,sum_l,sum_r,min_ii,max_ii,sortSD,pop1S,dictN,uD1,updN,exists_eq_left',exists_eq_left,Option.some.injEq,U.int.injEq,U.bl.injEq,U.str.injEq,U.ref.injEq,U.tup.injEq,U.lst.injEq,U.ty.injEq,List.cons.injEq,and_true,true_and,and_self,List.map_cons,List.map_nil,List.length_cons,List.length_nil,List.cons_append,List.nil_append,List.append_nil,List.getElem?_cons_zero,List.getElem?_cons_succ,List.set_cons_zero,List.set_cons_succ,List.replicate,↓reduceIte,Bool.false_eq_true,Bool.not_true,Bool.not_false,reduceCtorEq,Nat.reduceAdd,Nat.reduceSub,Nat.reduceLeDiff,Nat.reduceEqDiff,decide_true,decide_false,at0,at1,at2,at3,at4,ix0,ix1,ix2,ix3,ix4,updM_same,beq_self_eq_true,Option.bind,Option.map,wipeU,NT.put,puts,MO.lst.injEq,exists_and_left,decide_eq_true_eq,Bool.and_eq_true,Bool.or_eq_true,exists_eq',Nat.zero_le,true_or,or_true,isPathU] at q ⊢
      exact q

/-! ### is_link -/
def isLinkU : U → Bool
  | .tup [a, b] => ueq a (.str "link") && isPathU b
  | _ => false
theorem isLinkU_len {xs : List U} (h : xs.length ≠ 2) : isLinkU (.tup xs) = false := by
  match xs, h with
  | [], _ => rfl
  | [_], _ => rfl
  | _ :: _ :: _ :: _, _ => rfl
  | [_, _], h => exact absurd rfl h
def sp_is_link : USp := fun us M Q _ => ∃ x, us = [x] ∧ isD x = true ∧ Q (.bl (isLinkU x)) M
theorem ok_is_link (L : Lw K mg) : UFn P w K mg base CX0 3 L.f_is_link L.fd_is_link ["value"] (sp_is_link) := by
  refine ufn_ok L.D_is_link.F sc_is_link (fun us M Q E h => ?_) (fun cdv A outer s H E hr hG =>
      (uss_one (us_ret (ue_and (ue_callB uc_isi (by rfl) L.n_isinstance bt_isi (ua_cons (uv 0) (ua_cons (ue_bltn (by rfl) L.n_tuple bt_tuple) ua_nil))) (ue_and (ue_cmp (uo_eq (hu6 hr)) (ue_callB uc_len (by rfl) L.n_len bt_len (ua_cons (uv 0) ua_nil)) ue_int (nomark _)) (ue_and (ue_cmp (uo_eq (hu6 hr)) (ue_ix (uv 0) ue_int) ue_str (nomark _)) (ue_one (ue_call (ok_is_path L) (hr.mono (by decide)) hG rfl L.D_is_path.g L.D_is_path.F.kp L.D_is_path.b .nil (fun _ => RelUs.nil) (ua_cons (ue_ix (uv 0) ue_int) ua_nil))))))))) (fun us M Q E h => ?_)
  · obtain ⟨x, rfl, _⟩ := h
    rfl
  · obtain ⟨x, rfl, hx, q⟩ := h
    have q : ZQ Q (.bl (isLinkU x)) M := .inl q
    cases x with
    | tup xs =>
      have hxs := isDs_iff.mp (by simpa [isD] using hx)
      by_cases h2 : xs.length = 2
      · match xs, h2 with
        | [a, b], _ =>
          have ha : isD a = true := hxs a (by simp)
          have hb : isD b = true := hxs b (by simp)
          simp only [z8i,uOr,z8d,z8m,uCB,z7t,z8l,uC,z8o,z7w,uOp,uUn,z8s,z8j,uIf,z8e,z7v,z7u,z7s,uBM,z8g,uSl,z4x,z8r,z72,z8q,z7x,List.append_nil,z8t,z80,z8y,z7z,z8u,z81,z8w,z8v,xIf,z74,z8x,z8p,z3t,z8n,z7m,z7q,z7o,z7p,z5w,z5v,z7a,z3l,z3m,z75,z5g,z8k,asD,uXf,z8f,z5n,z7y,z6e,z6d,z68,z67,z63,z5h,z5i,z5j,z3v,z3w,z6f,z64,z62,z5r,z6b,z7j,z7k,z7i,z7c,z7b,z7l,z7e,z5o,z2m,z2w,z2k,z2o,z2p,z2l,z2n,z5c,z73,z5a,z5e,z5f,z5b,z3g,z5d,z3e,z2q,z2r,z3i,z3k,z3j,z39,z3a,z37,z38,z4q,z6h,z4o,z4s,z4t,z4p,z3f,z4r,z4e,z4d,z3b,z2s,z3d,z3c,z0h,z0g,z0d,z0a,z0f,z0e,z1o,z1n,z0u,z0j,z0w,z0v,z2d,z2c,z1r,z10,z1t,z1s,z2f,z2e,z1w,z14,z1y,z1x,z16,z15,z0m,z0i,z0o,z0n,z1v,z1u,z11,z0l,z13,z12,z1q,z1p,z0x,z0k,z0z,z0y,z4i,z6g,z4g,z4j,z4k,z4h,z82,z88,z46,z5x,z44,z47,z48,z45,z2v,z2j,z40,z5q,z3y,z41,z42,z3z,z2u,z2i,z6y,z70,z6x,z71,z6z,z59,z56,z57,z58,z87,z86,z7r,z79,z7n,z7d,z5y,z76,z77,z6c,z69,z6a,z8b,z8c,z89,z8a,z85,z83,z84,z4v,z4u,z6i,z78,z5m,z5l,z5k,z6n,z6o,z6p,z6q,z6r,z6s,z6t,z6u,z6v,z6w,z50,z51,z52,z53,z54,z55,z4b,z4c,z49,z27,z26,z1e,z0r,z1g,z1f,z05,z04,z2h,z2g,z1z,z17,z21,z20,z0c,z0b,z23,z22,z18,z0p,z1a,z19,z01,z00,z29,z28,z1h,z0s,z1j,z1i,z07,z06,z2b,z2a,z1k,z0t,z1m,z1l,z09,z08,z25,z24,z1b,z0q,z1d,z1c,z03,z02,z6m,z8h,z4z,z6l,z6k,z4w,z4y,z3s,z6j,z3p,z4f,z3n,z3q,z3r,z3o,z5p,z2t,z3h,z4n,z4l,z4a,z66,z65,z4m,z60,z61,z5z,z32,z2x,z33,z2y,z34,z2z,z35,z30,z36,z31,z7h,z7g,z3u,z5u,z3x,z7f,z5t,z43,z5s,cle,clt,cge,cgt,ceq,cne,lenN,xFor,xTryM,uMix,uEnum,uZip,ltT,uSortK,sortK,sortN,uDNew,uDGet,inN,setN,uDNewS,uDGetS,inS,setS,uDm,uDm0,getR,popS,setdS,getNR,setdN,popNR,itemsR,lenS,dictS,sortItR,uFld,uFst,uMake,uLock,uLockE,uKeys,sortE,sortL,xOp,reprT_1,listN,mulT,gLst_l,gLst_r,sum_l,sum_r,min_ii,max_ii,sortSD,pop1S,dictN,uD1,updN,exists_eq_left',exists_eq_left,Option.some.injEq,U.int.injEq,U.bl.injEq,U.str.injEq,U.ref.injEq,U.tup.injEq,U.lst.injEq,U.ty.injEq,List.cons.injEq,and_true,true_and,and_self,List.map_cons,List.map_nil,List.length_cons,List.length_nil,List.cons_append,List.nil_append,List.append_nil,List.getElem?_cons_zero,List.getElem?_cons_succ,List.set_cons_zero,List.set_cons_succ,List.replicate,↓reduceIte,Bool.false_eq_true,Bool.not_true,Bool.not_false,reduceCtorEq,Nat.reduceAdd,Nat.reduceSub,Nat.reduceLeDiff,Nat.reduceEqDiff,decide_true,decide_false,at0,at1,at2,at3,at4,ix0,ix1,ix2,ix3,ix4,updM_same,beq_self_eq_true,Option.bind,Option.map,wipeU,NT.put,puts,MO.lst.injEq,exists_and_left,decide_eq_true_eq,Bool.and_eq_true,Bool.or_eq_true,exists_eq',Nat.zero_le,true_or,or_true,isLinkU,val_isD ha,ha] at q ⊢
          refine ⟨by decide +kernel, ?_⟩
          cases hu : ueq a (.str "link") with
          | true =>
            simp only [z8i,uOr,z8d,z8m,uCB,z7t,z8l,uC,z8o,z7w,uOp,uUn,z8s,z8j,uIf,z8e,z7v,z7u,z7s,uBM,z8g,uSl,z4x,z8r,z72,z8q,z7x,List.append_nil,z8t,z80,z8y,z7z,z8u,z81,z8w,z8v,xIf,z74,z8x,z8p,z3t,z8n,z7m,z7q,z7o,z7p,z5w,z5v,z7a,z3l,z3m,z75,z5g,z8k,asD,uXf,z8f,z5n,z7y,z6e,z6d,z68,z67,z63,z5h,z5i,z5j,z3v,z3w,z6f,z64,z62,z5r,z6b,z7j,z7k,z7i,z7c,z7b,z7l,z7e,z5o,z2m,z2w,z2k,z2o,z2p,z2l,z2n,z5c,z73,z5a,z5e,z5f,z5b,z3g,z5d,z3e,z2q,z2r,z3i,z3k,z3j,z39,z3a,z37,z38,z4q,z6h,z4o,z4s,z4t,z4p,z3f,z4r,z4e,z4d,z3b,z2s,z3d,z3c,z0h,z0g,z0d,z0a,z0f,z0e,z1o,z1n,z0u,z0j,z0w,z0v,z2d,z2c,z1r,z10,z1t,z1s,z2f,z2e,z1w,z14,z1y,z1x,z16,z15,z0m,z0i,z0o,z0n,z1v,z1u,z11,z0l,z13,z12,z1q,z1p,z0x,z0k,z0z,z0y,z4i,z6g,z4g,z4j,z4k,z4h,z82,z88,z46,z5x,z44,z47,z48,z45,z2v,z2j,z40,z5q,z3y,z41,z42,z3z,z2u,z2i,z6y,z70,z6x,z71,z6z,z59,z56,z57,z58,z87,z86,z7r,z79,z7n,z7d,z5y,z76,z77,z6c,z69,z6a,z8b,z8c,z89,z8a,z85,z83,z84,z4v,z4u,z6i,z78,z5m,z5l,z5k,z6n,z6o,z6p,z6q,z6r,z6s,z6t,z6u,z6v,z6w,z50,z51,z52,z53,z54,z55,z4b,z4c,z49,z27,z26,z1e,z0r,z1g,z1f,z05,z04,z2h,z2g,z1z,z17,z21,z20,z0c,z0b,z23,z22,z18,z0p,z1a,z19,z01,z00,z29,z28,z1h,z0s,z1j,z1i,z07,z06,z2b,z2a,z1k,z0t,z1m,z1l,z09,z08,z25,z24,z1b,z0q,z1d,z1c,z03,z02,z6m,z8h,z4z,z6l,z6k,z4w,z4y,z3s,z6j,z3p,z4f,z3n,z3q,z3r,z3o,z5p,z2t,z3h,z4n,z4l,z4a,z66,z65,z4m,z60,z61,z5z,z32,z2x,z33,z2y,z34,z2z,z35,z30,z36,z31,z7h,z7g,z3u,z5u,z3x,z7f,z5t,z43,z5s,cle,clt,cge,cgt,ceq,cne,lenN,xFor,xTryM,uMix,uEnum,uZip,ltT,uSortK,sortK,sortN,uDNew,uDGet,inN,setN,uDNewS,uDGetS,inS,setS,uDm,uDm0,getR,popS,setdS,getNR,setdN,popNR,itemsR,lenS,dictS,sortItR,uFld,uFst,uMake,uLock,uLockE,uKeys,sortE,sortL,xOp,reprT_1,listN,mulT,gLst_l,gLst_r,sum_l,sum_r,min_ii,max_ii,sortSD,pop1S,dictN,uD1,updN,exists_eq_left',exists_eq_left,Option.some.injEq,U.int.injEq,U.bl.injEq,U.str.injEq,U.ref.injEq,U.tup.injEq,U.lst.injEq,U.ty.injEq,List.cons.injEq,and_true,true_and,and_self,List.map_cons,List.map_nil,List.length_cons,List.length_nil,List.cons_append,List.nil_append,List.append_nil,List.getElem?_cons_zero,List.getElem?_cons_succ,List.set_cons_zero,List.set_cons_succ,List.replicate,↓reduceIte,Bool.false_eq_true,Bool.not_true,Bool.not_false,reduceCtorEq,Nat.reduceAdd,Nat.reduceSub,Nat.reduceLeDiff,Nat.reduceEqDiff,decide_true,decide_false,at0,at1,at2,at3,at4,ix0,ix1,ix2,ix3,ix4,updM_same,beq_self_eq_true,Option.bind,Option.map,wipeU,NT.put,puts,MO.lst.injEq,exists_and_left,decide_eq_true_eq,Bool.and_eq_true,Bool.or_eq_true,exists_eq',Nat.zero_le,true_or,or_true,hu,sp_is_path,Bool.true_and] at q ⊢
            exact ⟨hb, q⟩
          | false =>
            simp only [z8i,uOr,z8d,z8m,uCB,z7t,z8l,uC,z8o,z7w,uOp,uUn,z8s,z8j,uIf,z8e,z7v,z7u,z7s,uBM,z8g,uSl,z4x,z8r,z72,z8q,z7x,List.append_nil,z8t,z80,z8y,z7z,z8u,z81,z8w,z8v,xIf,z74,z8x,z8p,z3t,z8n,z7m,z7q,z7o,z7p,z5w,z5v,z7a,z3l,z3m,z75,z5g,z8k,asD,uXf,z8f,z5n,z7y,z6e,z6d,z68,z67,z63,z5h,z5i,z5j,z3v,z3w,z6f,z64,z62,z5r,z6b,z7j,z7k,z7i,z7c,z7b,z7l,z7e,z5o,z2m,z2w,z2k,z2o,z2p,z2l,z2n,z5c,z73,z5a,z5e,z5f,z5b,z3g,z5d,z3e,z2q,z2r,z3i,z3k,z3j,z39,z3a,z37,z38,z4q,z6h,z4o,z4s,z4t,z4p,z3f,z4r,z4e,z4d,z3b,z2s,z3d,z3c,z0h,z0g,z0d,z0a,z0f,z0e,z1o,z1n,z0u,z0j,z0w,z0v,z2d,z2c,z1r,z10,z1t,z1s,z2f,z2e,z1w,z14,z1y,z1x,z16,z15,z0m,z0i,z0o,z0n,z1v,z1u,z11,z0l,z13,z12,z1q,z1p,z0x,z0k,z0z,z0y,z4i,z6g,z4g,z4j,z4k,z4h,z82,z88,z46,z5x,z44,z47,z48,z45,z2v,z2j,z40,z5q,z3y,z41,z42,z3z,z2u,z2i,z6y,z70,z6x,z71,z6z,z59,z56,z57,z58,z87,z86,z7r,z79,z7n,z7d,z5y,z76,z77,z6c,z69,z6a,z8b,z8c,z89,z8a,z85,z83,z84,z4v,z4u,z6i,z78,z5m,z5l,z5k,z6n,z6o,z6p,z6q,z6r,z6s,z6t,z6u,z6v,z6w,z50,z51,z52,z53,z54,z55,z4b,z4c,z49,z27,z26,z1e,z0r,z1g,z1f,z05,z04,z2h,z2g,z1z,z17,z21,z20,z0c,z0b,z23,z22,z18,z0p,z1a,z19,z01,z00,z29,z28,z1h,z0s,z1j,z1i,z07,z06,z2b,z2a,z1k,z0t,z1m,z1l,z09,z08,z25,z24,z1b,z0q,z1d,z1c,z03,z02,z6m,z8h,z4z,z6l,z6k,z4w,z4y,z3s,z6j,z3p,z4f,z3n,z3q,z3r,z3o,z5p,z2t,z3h,z4n,z4l,z4a,z66,z65,z4m,z60,z61,z5z,z32,z2x,z33,z2y,z34,z2z,z35,z30,z36,z31,z7h,z7g,z3u,z5u,z3x,z7f,z5t,z43,z5s,cle,clt,cge,cgt,ceq,cne,lenN,xFor,xTryM,uMix,uEnum,uZip,ltT,uSortK,sortK,sortN,uDNew,uDGet,inN,setN,uDNewS,uDGetS,inS,setS,uDm,uDm0,getR,popS,setdS,getNR,setdN,popNR,itemsR,lenS,dictS,sortItR,uFld,uFst,uMake,uLock,uLockE,uKeys,sortE,sortL,xOp,reprT_1,listN,mulT,gLst_l,gLst_r,sum_l,sum_r,min_ii,max_ii,sortSD,pop1S,dictN,uD1,updN,exists_eq_left',exists_eq_left,Option.some.injEq,U.int.injEq,U.bl.injEq,U.str.injEq,U.ref.injEq,U.tup.injEq,U.lst.injEq,U.ty.injEq,List.cons.injEq,and_true,true_and,and_self,List.map_cons,List.map_nil,List.length_cons,List.length_nil,List.cons_append,List.nil_append,List.append_nil,List.getElem?_cons_zero,List.getElem?_cons_succ,List.set_cons_zero,List.set_cons_succ,List.replicate,↓reduceIte,Bool.false_eq_true,Bool.not_true,Bool.not_false,reduceCtorEq,Nat.reduceAdd,Nat.reduceSub,Nat.reduceLeDiff,Nat.reduceEqDiff,decide_true,decide_false,at0,at1,at2,at3,at4,ix0,ix1,ix2,ix3,ix4,updM_same,beq_self_eq_true,Option.bind,Option.map,wipeU,NT.put,puts,MO.lst.injEq,exists_and_left,decide_eq_true_eq,Bool.and_eq_true,Bool.or_eq_true,exists_eq',Nat.zero_le,true_or,or_true,hu,Bool.false_and] at q ⊢
            exact q
      · have h3 : ((xs.length : Int) == 2) = false := beq_eq_false_iff_ne.mpr (by omega)
        simp only [z8i,uOr,z8d,z8m,uCB,z7t,z8l,uC,z8o,z7w,uOp,uUn,z8s,z8j,uIf,z8e,z7v,z7u,z7s,uBM,z8g,uSl,z4x,z8r,z72,z8q,z7x,List.append_nil,z8t,z80,z8y,z7z,z8u,z81,z8w,z8v,xIf,z74,z8x,z8p,z3t,z8n,z7m,z7q,z7o,z7p,z5w,z5v,z7a,z3l,z3m,z75,z5g,z8k,asD,uXf,z8f,z5n,z7y,z6e,z6d,z68,z67,z63,z5h,z5i,z5j,z3v,z3w,z6f,z64,z62,z5r,z6b,z7j,z7k,z7i,z7c,z7b,z7l,z7e,z5o,z2m,z2w,z2k,z2o,z2p,z2l,z2n,z5c,z73,z5a,z5e,z5f,z5b,z3g,z5d,z3e,z2q,z2r,z3i,z3k,z3j,z39,z3a,z37,z38,z4q,z6h,z4o,z4s,z4t,z4p,z3f,z4r,z4e,z4d,z3b,z2s,z3d,z3c,z0h,z0g,z0d,z0a,z0f,z0e,z1o,z1n,z0u,z0j,z0w,z0v,z2d,z2c,z1r,z10,z1t,z1s,z2f,z2e,z1w,z14,z1y,z1x,z16,z15,z0m,z0i,z0o,z0n,z1v,z1u,z11,z0l,z13,z12,z1q,z1p,z0x,z0k,z0z,z0y,z4i,z6g,z4g,z4j,z4k,z4h,z82,z88,z46,z5x,z44,z47,z48,z45,z2v,z2j,z40,z5q,z3y,z41,z42,z3z,z2u,z2i,z6y,z70,z6x,z71,z6z,z59,z56,z57,z58,z87,z86,z7r,z79,z7n,z7d,z5y,z76,z77,z6c,z69,z6a,z8b,z8c,z89,z8a,z85,z83,z84,z4v,z4u,z6i,z78,z5m,z5l,z5k,z6n,z6o,z6p,z6q,z6r,z6s,z6t,z6u,z6v,z6w,z50,z51,z52,z53,z54,z55,z4b,z4c,z49,z27,z26,z1e,z0r,z1g,z1f,z05,z04,z2h,z2g,z1z,z17,z21,z20,z0c,z0b,z23,z22,z18,z0p,z1a,z19,z01,z00,z29,z28,z1h,z0s,z1j,z1i,z07,z06,z2b,z2a,z1k,z0t,z1m,z1l,z09,z08,z25,z24,z1b,z0q,z1d,z1c,z03,z02,z6m,z8h,z4z,z6l,z6k,z4w,z4y,z3s,z6j,z3p,z4f,z3n,z3q,z3r,z3o,z5p,z2t,z3h,z4n,z4l,z4a,z66,z65,z4m,z60,z61,z5z,z32,z2x,z33,z2y,z34,z2z,z35,z30,z36,z31,z7h,z7g,z3u,z5u,z3x,z7f,z5t,z43,z5s,cle,clt,cge,cgt,ceq,cne,lenN,xFor,xTryM,uMix,uEnum,uZip,ltT,uSortK,sortK,sortN,uDNew,uDGet,inN,setN,uDNewS,uDGetS,inS,setS,uDm,uDm0,getR,popS,setdS,getNR,setdN,popNR,itemsR,lenS,dictS,sortItR,uFld,uFst,uMake,uLock,uLockE,uKeys,sortE,sortL,xOp,reprT_1,listN,mulT,gLst_l,gLst_r,sum_l,sum_r,min_ii,max_ii,sortSD,pop1S,dictN,uD1,updN,exists_eq_left',exists_eq_left,Option.some.injEq,U.int.injEq,U.bl.injEq,U.str.injEq,U.ref.injEq,U.tup.injEq,U.lst.injEq,U.ty.injEq,List.cons.injEq,and_true,true_and,and_self,List.map_cons,List.map_nil,List.length_cons,List.length_nil,List.cons_append,List.nil_append,List.append_nil,List.getElem?_cons_zero,List.getElem?_cons_succ,List.set_cons_zero,List.set_cons_succ,List.replicate,↓reduceIte,Bool.false_eq_true,Bool.not_true,Bool.not_false,reduceCtorEq,Nat.reduceAdd,Nat.reduceSub,Nat.reduceLeDiff,Nat.reduceEqDiff,decide_true,decide_false,at0,at1,at2,at3,at4,ix0,ix1,ix2,ix3,ix4,updM_same,beq_self_eq_true,Option.bind,Option.map,wipeU,NT.put,puts,MO.lst.injEq,exists_and_left,decide_eq_true_eq,Bool.and_eq_true,Bool.or_eq_true,exists_eq',Nat.zero_le,true_or,or_true,isLinkU_len h2,h3] at q ⊢
        exact q
    | ref a => simp [isD] at hx
    | ty n => simp [isD] at hx
    | _ =>
      simp only [z8i,uOr,z8d,z8m,uCB,z7t,z8l,uC,z8o,z7w,uOp,uUn,z8s,z8j,uIf,z8e,z7v,z7u,z7s,uBM,z8g,uSl,z4x,z8r,z72,z8q,z7x,List.append_nil,z8t,z80,z8y,z7z,z8u,z81,z8w,z8v,xIf,z74,z8x,z8p,z3t,z8n,z7m,z7q,z7o,z7p,z5w,z5v,z7a,z3l,z3m,z75,z5g,z8k,asD,uXf,z8f,z5n,z7y,z6e,z6d,z68,z67,z63,z5h,z5i,z5j,z3v,z3w,z6f,z64,z62,z5r,z6b,z7j,z7k,z7i,z7c,z7b,z7l,z7e,z5o,z2m,z2w,z2k,z2o,z2p,z2l,z2n,z5c,z73,z5a,z5e,z5f,z5b,z3g,z5d,z3e,z2q,z2r,z3i,z3k,z3j,z39,z3a,z37,z38,z4q,z6h,z4o,z4s,z4t,z4p,z3f,z4r,z4e,z4d,z3b,z2s,z3d,z3c,z0h,z0g,z0d,z0a,z0f,z0e,z1o,z1n,z0u,z0j,z0w,z0v,z2d,z2c,z1r,z10,z1t,z1s,z2f,z2e,z1w,z14,z1y,z1x,z16,z15,z0m,z0i,z0o,z0n,z1v,z1u,z11,z0l,z13,z12,z1q,z1p,z0x,z0k,z0z,z0y,z4i,z6g,z4g,z4j,z4k,z4h,z82,z88,z46,z5x,z44,z47,z48,z45,z2v,z2j,z40,z5q,z3y,z41,z42,z3z,z2u,z2i,z6y,z70,z6x,z71,z6z,z59,z56,z57,z58,z87,z86,z7r,z79,z7n,z7d,z5y,z76,z77,z6c,z69,z6a,z8b,z8c,z89,z8a,z85,z83,z84,z4v,z4u,z6i,z78,z5m,z5l,z5k,z6n,z6o,z6p,z6q,z6r,z6s,z6t,z6u,z6v,z6w,z50,z51,z52,z53,z54,z55,z4b,z4c,z49,z27,z26,z1e,z0r,z1g,z1f,z05,z04,z2h,z2g,z1z,z17,z21,z20,z0c,z0b,z23,z22,z18,z0p,z1a,z19,z01,z00,z29,z28,z1h,z0s,z1j,z1i,z07,z06,z2b,z2a,z1k,z0t,z1m,z1l,z09,z08,z25,z24,z1b,z0q,z1d,z1c,z03,z02,z6m,z8h,z4z,z6l,z6k,z4w,z4y,z3s,z6j,z3p,z4f,z3n,z3q,z3r,z3o,z5p,z2t,z3h,z4n,z4l,z4a,z66,z65,z4m,z60,z61,z5z,z32,z2x,z33,z2y,z34,z2z,z35,z30,z36,z31,z7h,z7g,z3u,z5u,z3x,z7f,z5t,z43,z5s,cle,clt,cge,cgt,ceq,cne,lenN,xFor,xTryM,uMix,uEnum,uZip,ltT,uSortK,sortK,sortN,uDNew,uDGet,inN,setN,uDNewS,uDGetS,inS,setS,uDm,uDm0,getR,popS,setdS,getNR,setdN,popNR,itemsR,lenS,dictS,sortItR,uFld,uFst,uMake,uLock,uLockE,uKeys,sortE,sortL,xOp,reprT_1,listN,mulT,gLst_l,gLst_r,sum_l,sum_r,min_ii,max_ii,sortSD,pop1S,dictN,uD1,updN,exists_eq_left',exists_eq_left,Option.some.injEq,U.int.injEq,U.bl.injEq,U.str.injEq,U.ref.injEq,U.tup.injEq,U.lst.injEq,U.ty.injEq,List.cons.injEq,and_true,true_and,and_self,List.map_cons,List.map_nil,List.length_cons,List.length_nil,List.cons_append,List.nil_append,List.append_nil,List.getElem?_cons_zero,List.getElem?_cons_succ,List.set_cons_zero,List.set_cons_succ,List.replicate,↓reduceIte,Bool.false_eq_true,Bool.not_true,Bool.not_false,reduceCtorEq,Nat.reduceAdd,Nat.reduceSub,Nat.reduceLeDiff,Nat.reduceEqDiff,decide_true,decide_false,at0,at1,at2,at3,at4,ix0,ix1,ix2,ix3,ix4,updM_same,beq_self_eq_true,Option.bind,Option.map,wipeU,NT.put,puts,MO.lst.injEq,exists_and_left,decide_eq_true_eq,Bool.and_eq_true,Bool.or_eq_true,exists_eq',Nat.zero_le,true_or,or_true,isLinkU] at q ⊢
      exact q

/-! ### is_value -/
def isValueU (x : U) : Bool := isIntU x || isNameU x || isLinkU x
def sp_is_value : USp := fun us M Q _ => ∃ x, us = [x] ∧ isD x = true ∧ Q (.bl (isValueU x)) M
theorem ok_is_value (L : Lw K mg) : UFn P w K mg base CX0 4 L.f_is_value L.fd_is_value ["value"] (sp_is_value) := by
  refine ufn_ok L.D_is_value.F sc_is_value (fun us M Q E h => ?_) (fun cdv A outer s H E hr hG =>
      (uss_one (us_ret (ue_or (ue_call (ok_is_integer L) (hr.mono (by decide)) hG rfl L.D_is_integer.g L.D_is_integer.F.kp L.D_is_integer.b .nil (fun _ => RelUs.nil) (ua_cons (uv 0) ua_nil)) (ue_or (ue_call (ok_is_name L) (hr.mono (by decide)) hG rfl L.D_is_name.g L.D_is_name.F.kp L.D_is_name.b .nil (fun _ => RelUs.nil) (ua_cons (uv 0) ua_nil)) (ue_one (ue_call (ok_is_link L) (hr.mono (by decide)) hG rfl L.D_is_link.g L.D_is_link.F.kp L.D_is_link.b .nil (fun _ => RelUs.nil) (ua_cons (uv 0) ua_nil)))))))) (fun us M Q E h => ?_)
  · obtain ⟨x, rfl, _⟩ := h
    rfl
  · obtain ⟨x, rfl, hx, q⟩ := h
    have q : ZQ Q (.bl (isValueU x)) M := .inl q
    unfold isValueU at q
    simp only [z8i,uOr,z8d,z8m,uCB,z7t,z8l,uC,z8o,z7w,uOp,uUn,z8s,z8j,uIf,z8e,z7v,z7u,z7s,uBM,z8g,uSl,z4x,z8r,z72,z8q,z7x,List.append_nil,z8t,z80,z8y,z7z,z8u,z81,z8w,z8v,xIf,z74,z8x,z8p,z3t,z8n,z7m,z7q,z7o,z7p,z5w,z5v,z7a,z3l,z3m,z75,z5g,z8k,asD,uXf,z8f,z5n,z7y,z6e,z6d,z68,z67,z63,z5h,z5i,z5j,z3v,z3w,z6f,z64,z62,z5r,z6b,z7j,z7k,z7i,z7c,z7b,z7l,z7e,z5o,z2m,z2w,z2k,z2o,z2p,z2l,z2n,z5c,z73,z5a,z5e,z5f,z5b,z3g,z5d,z3e,z2q,z2r,z3i,z3k,z3j,z39,z3a,z37,z38,z4q,z6h,z4o,z4s,z4t,z4p,z3f,z4r,z4e,z4d,z3b,z2s,z3d,z3c,z0h,z0g,z0d,z0a,z0f,z0e,z1o,z1n,z0u,z0j,z0w,z0v,z2d,z2c,z1r,z10,z1t,z1s,z2f,z2e,z1w,z14,z1y,z1x,z16,z15,z0m,z0i,z0o,z0n,z1v,z1u,z11,z0l,z13,z12,z1q,z1p,z0x,z0k,z0z,z0y,z4i,z6g,z4g,z4j,z4k,z4h,z82,z88,z46,z5x,z44,z47,z48,z45,z2v,z2j,z40,z5q,z3y,z41,z42,z3z,z2u,z2i,z6y,z70,z6x,z71,z6z,z59,z56,z57,z58,z87,z86,z7r,z79,z7n,z7d,z5y,z76,z77,z6c,z69,z6a,z8b,z8c,z89,z8a,z85,z83,z84,z4v,z4u,z6i,z78,z5m,z5l,z5k,z6n,z6o,z6p,z6q,z6r,z6s,z6t,z6u,z6v,z6w,z50,z51,z52,z53,z54,z55,z4b,z4c,z49,z27,z26,z1e,z0r,z1g,z1f,z05,z04,z2h,z2g,z1z,z17,z21,z20,z0c,z0b,z23,z22,z18,z0p,z1a,z19,z01,z00,z29,z28,z1h,z0s,z1j,z1i,z07,z06,z2b,z2a,z1k,z0t,z1m,z1l,z09,z08,z25,z24,z1b,z0q,z1d,z1c,z03,z02,z6m,z8h,z4z,z6l,z6k,z4w,z4y,z3s,z6j,z3p,z4f,z3n,z3q,z3r,z3o,z5p,z2t,z3h,z4n,z4l,z4a,z66,z65,z4m,z60,z61,z5z,z32,z2x,z33,z2y,z34,z2z,z35,z30,z36,z31,z7h,z7g,z3u,z5u,z3x,z7f,z5t,z43,z5s,cle,clt,cge,cgt,ceq,cne,lenN,xFor,xTryM,uMix,uEnum,uZip,ltT,uSortK,sortK,sortN,uDNew,uDGet,inN,setN,uDNewS,uDGetS,inS,setS,uDm,uDm0,getR,popS,setdS,getNR,setdN,popNR,itemsR,lenS,dictS,sortItR,uFld,uFst,uMake,uLock,uLockE,uKeys,sortE,sortL,xOp,reprT_1,listN,mulT,gLst_l,gLst_r,sum_l,sum_r,min_ii,max_ii,sortSD,pop1S,dictN,uD1,updN,exists_eq_left',exists_eq_left,Option.some.injEq,U.int.injEq,U.bl.injEq,U.str.injEq,U.ref.injEq,U.tup.injEq,U.lst.injEq,U.ty.injEq,List.cons.injEq,and_true,true_and,and_self,List.map_cons,List.map_nil,List.length_cons,List.length_nil,List.cons_append,List.nil_append,List.append_nil,List.getElem?_cons_zero,List.getElem?_cons_succ,List.set_cons_zero,List.set_cons_succ,List.replicate,↓reduceIte,Bool.false_eq_true,Bool.not_true,Bool.not_false,reduceCtorEq,Nat.reduceAdd,Nat.reduceSub,Nat.reduceLeDiff,Nat.reduceEqDiff,decide_true,decide_false,at0,at1,at2,at3,at4,ix0,ix1,ix2,ix3,ix4,updM_same,beq_self_eq_true,Option.bind,Option.map,wipeU,NT.put,puts,MO.lst.injEq,exists_and_left,decide_eq_true_eq,Bool.and_eq_true,Bool.or_eq_true,exists_eq',Nat.zero_le,true_or,or_true,sp_is_integer,sp_is_name,sp_is_link]
    refine ⟨hx, ?_⟩
    cases h1 : isIntU x with
    | true =>
      simp only [z8i,uOr,z8d,z8m,uCB,z7t,z8l,uC,z8o,z7w,uOp,uUn,z8s,z8j,uIf,z8e,z7v,z7u,z7s,uBM,z8g,uSl,z4x,z8r,z72,z8q,z7x,List.append_nil,z8t,z80,z8y,z7z,z8u,z81,z8w,z8v,xIf,z74,z8x,z8p,z3t,z8n,z7m,z7q,z7o,z7p,z5w,z5v,z7a,z3l,z3m,z75,z5g,z8k,asD,uXf,z8f,z5n,z7y,z6e,z6d,z68,z67,z63,z5h,z5i,z5j,z3v,z3w,z6f,z64,z62,z5r,z6b,z7j,z7k,z7i,z7c,z7b,z7l,z7e,z5o,z2m,z2w,z2k,z2o,z2p,z2l,z2n,z5c,z73,z5a,z5e,z5f,z5b,z3g,z5d,z3e,z2q,z2r,z3i,z3k,z3j,z39,z3a,z37,z38,z4q,z6h,z4o,z4s,z4t,z4p,z3f,z4r,z4e,z4d,z3b,z2s,z3d,z3c,z0h,z0g,z0d,z0a,z0f,z0e,z1o,z1n,z0u,z0j,z0w,z0v,z2d,z2c,z1r,z10,z1t,z1s,z2f,z2e,z1w,z14,z1y,z1x,z16,z15,z0m,z0i,z0o,z0n,z1v,z1u,z11,z0l,z13,z12,z1q,z1p,z0x,z0k,z0z,z0y,z4i,z6g,z4g,z4j,z4k,z4h,z82,z88,z46,z5x,z44,z47,z48,z45,z2v,z2j,z40,z5q,z3y,z41,z42,z3z,z2u,z2i,z6y,z70,z6x,z71,z6z,z59,z56,z57,z58,z87,z86,z7r,z79,z7n,z7d,z5y,z76,z77,z6c,z69,z6a,z8b,z8c,z89,z8a,z85,z83,z84,z4v,z4u,z6i,z78,z5m,z5l,z5k,z6n,z6o,z6p,z6q,z6r,z6s,z6t,z6u,z6v,z6w,z50,z51,z52,z53,z54,z55,z4b,z4c,z49,z27,z26,z1e,z0r,z1g,z1f,z05,z04,z2h,z2g,z1z,z17,z21,z20,z0c,z0b,z23,z22,z18,z0p,z1a,z19,z01,z00,z29,z28,z1h,z0s,z1j,z1i,z07,z06,z2b,z2a,z1k,z0t,z1m,z1l,z09,z08,z25,z24,z1b,z0q,z1d,z1c,z03,z02,z6m,z8h,z4z,z6l,z6k,z4w,z4y,z3s,z6j,z3p,z4f,z3n,z3q,z3r,z3o,z5p,z2t,z3h,z4n,z4l,z4a,z66,z65,z4m,z60,z61,z5z,z32,z2x,z33,z2y,z34,z2z,z35,z30,z36,z31,z7h,z7g,z3u,z5u,z3x,z7f,z5t,z43,z5s,cle,clt,cge,cgt,ceq,cne,lenN,xFor,xTryM,uMix,uEnum,uZip,ltT,uSortK,sortK,sortN,uDNew,uDGet,inN,setN,uDNewS,uDGetS,inS,setS,uDm,uDm0,getR,popS,setdS,getNR,setdN,popNR,itemsR,lenS,dictS,sortItR,uFld,uFst,uMake,uLock,uLockE,uKeys,sortE,sortL,xOp,reprT_1,listN,mulT,gLst_l,gLst_r,sum_l,sum_r,min_ii,max_ii,sortSD,pop1S,dictN,uD1,updN,exists_eq_left',exists_eq_left,Option.some.injEq,U.int.injEq,U.bl.injEq,U.str.injEq,U.ref.injEq,U.tup.injEq,U.lst.injEq,U.ty.injEq,List.cons.injEq,and_true,true_and,and_self,List.map_cons,List.map_nil,List.length_cons,List.length_nil,List.cons_append,List.nil_append,List.append_nil,List.getElem?_cons_zero,List.getElem?_cons_succ,List.set_cons_zero,List.set_cons_succ,List.replicate,↓reduceIte,Bool.false_eq_true,Bool.not_true,Bool.not_false,reduceCtorEq,Nat.reduceAdd,Nat.reduceSub,Nat.reduceLeDiff,Nat.reduceEqDiff,decide_true,decide_false,at0,at1,at2,at3,at4,ix0,ix1,ix2,ix3,ix4,updM_same,beq_self_eq_true,Option.bind,Option.map,wipeU,NT.put,puts,MO.lst.injEq,exists_and_left,decide_eq_true_eq,Bool.and_eq_true,Bool.or_eq_true,exists_eq',Nat.zero_le,true_or,or_true,h1,Bool.true_or] at q ⊢
      exact q
    | false =>
      simp only [z8i,uOr,z8d,z8m,uCB,z7t,z8l,uC,z8o,z7w,uOp,uUn,z8s,z8j,uIf,z8e,z7v,z7u,z7s,uBM,z8g,uSl,z4x,z8r,z72,z8q,z7x,List.append_nil,z8t,z80,z8y,z7z,z8u,z81,z8w,z8v,xIf,z74,z8x,z8p,z3t,z8n,z7m,z7q,z7o,z7p,z5w,z5v,z7a,z3l,z3m,z75,z5g,z8k,asD,uXf,z8f,z5n,z7y,z6e,z6d,z68,z67,z63,z5h,z5i,z5j,z3v,z3w,z6f,z64,z62,z5r,z6b,z7j,z7k,z7i,z7c,z7b,z7l,z7e,z5o,z2m,z2w,z2k,z2o,z2p,z2l,z2n,z5c,z73,z5a,z5e,z5f,z5b,z3g,z5d,z3e,z2q,z2r,z3i,z3k,z3j,z39,z3a,z37,z38,z4q,z6h,z4o,z4s,z4t,z4p,z3f,z4r,z4e,z4d,z3b,z2s,z3d,z3c,z0h,z0g,z0d,z0a,z0f,z0e,z1o,z1n,z0u,z0j,z0w,z0v,z2d,z2c,z1r,z10,z1t,z1s,z2f,z2e,z1w,z14,z1y,z1x,z16,z15,z0m,z0i,z0o,z0n,z1v,z1u,z11,z0l,z13,z12,z1q,z1p,z0x,z0k,z0z,z0y,z4i,z6g,z4g,z4j,z4k,z4h,z82,z88,z46,z5x,z44,z47,z48,z45,z2v,z2j,z40,z5q,z3y,z41,z42,z3z,z2u,z2i,z6y,z70,z6x,z71,z6z,z59,z56,z57,z58,z87,z86,z7r,z79,z7n,z7d,z5y,z76,z77,z6c,z69,z6a,z8b,z8c,z89,z8a,z85,z83,z84,z4v,z4u,z6i,z78,z5m,z5l,z5k,z6n,z6o,z6p,z6q,z6r,z6s,z6t,z6u,z6v,z6w,z50,z51,z52,z53,z54,z55,z4b,z4c,z49,z27,z26,z1e,z0r,z1g,z1f,z05,z04,z2h,z2g,z1z,z17,z21,z20,z0c,z0b,z23,z22,z18,z0p,z1a,z19,z01,z00,z29,z28,z1h,z0s,z1j,z1i,z07,z06,z2b,z2a,z1k,z0t,z1m,z1l,z09,z08,z25,z24,z1b,z0q,z1d,z1c,z03,z02,z6m,z8h,z4z,z6l,z6k,z4w,z4y,z3s,z6j,z3p,z4f,z3n,z3q,z3r,z3o,z5p,z2t,z3h,z4n,z4l,z4a,z66,z65,z4m,z60,z61,z5z,z32,z2x,z33,z2y,z34,z2z,z35,z30,z36,z31,z7h,z7g,z3u,z5u,z3x,z7f,z5t,z43,z5s,cle,clt,cge,cgt,ceq,cne,lenN,xFor,xTryM,uMix,uEnum,uZip,ltT,uSortK,sortK,sortN,uDNew,uDGet,inN,setN,uDNewS,uDGetS,inS,setS,uDm,uDm0,getR,popS,setdS,getNR,setdN,popNR,itemsR,lenS,dictS,sortItR,uFld,uFst,uMake,uLock,uLockE,uKeys,sortE,sortL,xOp,reprT_1,listN,mulT,gLst_l,gLst_r,sum_l,sum_r,min_ii,max_ii,sortSD,pop1S,dictN,uD1,updN,exists_eq_left',exists_eq_left,Option.some.injEq,U.int.injEq,U.bl.injEq,U.str.injEq,U.ref.injEq,U.tup.injEq,U.lst.injEq,U.ty.injEq,List.cons.injEq,and_true,true_and,and_self,List.map_cons,List.map_nil,List.length_cons,List.length_nil,List.cons_append,List.nil_append,List.append_nil,List.getElem?_cons_zero,List.getElem?_cons_succ,List.set_cons_zero,List.set_cons_succ,List.replicate,↓reduceIte,Bool.false_eq_true,Bool.not_true,Bool.not_false,reduceCtorEq,Nat.reduceAdd,Nat.reduceSub,Nat.reduceLeDiff,Nat.reduceEqDiff,decide_true,decide_false,at0,at1,at2,at3,at4,ix0,ix1,ix2,ix3,ix4,updM_same,beq_self_eq_true,Option.bind,Option.map,wipeU,NT.put,puts,MO.lst.injEq,exists_and_left,decide_eq_true_eq,Bool.and_eq_true,Bool.or_eq_true,exists_eq',Nat.zero_le,true_or,or_true,h1,Bool.false_or] at q ⊢
      refine ⟨hx, ?_⟩
      cases h2 : isNameU x with
      | true =>
        simp only [z8i,uOr,z8d,z8m,uCB,z7t,z8l,uC,z8o,z7w,uOp,uUn,z8s,z8j,uIf,z8e,z7v,z7u,z7s,uBM,z8g,uSl,z4x,z8r,z72,z8q,z7x,List.append_nil,z8t,z80,z8y,z7z,z8u,z81,z8w,z8v,xIf,z74,z8x,z8p,z3t,z8n,z7m,z7q,z7o,z7p,z5w,z5v,z7a,z3l,z3m,z75,z5g,z8k,asD,uXf,z8f,z5n,z7y,z6e,z6d,z68,z67,z63,z5h,z5i,z5j,z3v,z3w,z6f,z64,z62,z5r,z6b,z7j,z7k,z7i,z7c,z7b,z7l,z7e,z5o,z2m,z2w,z2k,z2o,z2p,z2l,z2n,z5c,z73,z5a,z5e,z5f,z5b,z3g,z5d,z3e,z2q,z2r,z3i,z3k,z3j,z39,z3a,z37,z38,z4q,z6h,z4o,z4s,z4t,z4p,z3f,z4r,z4e,z4d,z3b,z2s,z3d,z3c,z0h,z0g,z0d,z0a,z0f,z0e,z1o,z1n,z0u,z0j,z0w,z0v,z2d,z2c,z1r,z10,z1t,z1s,z2f,z2e,z1w,z14,z1y,z1x,z16,z15,z0m,z0i,z0o,z0n,z1v,z1u,z11,z0l,z13,z12,z1q,z1p,z0x,z0k,z0z,z0y,z4i,z6g,z4g,z4j,z4k,z4h,z82,z88,z46,z5x,z44,z47,z48,z45,z2v,z2j,z40,z5q,z3y,z41,z42,z3z,z2u,z2i,z6y,z70,z6x,z71,z6z,z59,z56,z57,z58,z87,z86,z7r,z79,z7n,z7d,z5y,z76,z77,z6c,z69,z6a,z8b,z8c,z89,z8a,z85,z83,z84,z4v,z4u,z6i,z78,z5m,z5l,z5k,z6n,z6o,z6p,z6q,z6r,z6s,z6t,z6u,z6v,z6w,z50,z51,z52,z53,z54,z55,z4b,z4c,z49,z27,z26,z1e,z0r,z1g,z1f,z05,z04,z2h,z2g,z1z,z17,z21,z20,z0c,z0b,z23,z22,z18,z0p,z1a,z19,z01,z00,z29,z28,z1h,z0s,z1j,z1i,z07,z06,z2b,z2a,z1k,z0t,z1m,z1l,z09,z08,z25,z24,z1b,z0q,z1d,z1c,z03,z02,z6m,z8h,z4z,z6l,z6k,z4w,z4y,z3s,z6j,z3p,z4f,z3n,z3q,z3r,z3o,z5p,z2t,z3h,z4n,z4l,z4a,z66,z65,z4m,z60,z61,z5z,z32,z2x,z33,z2y,z34,z2z,z35,z30,z36,z31,z7h,z7g,z3u,z5u,z3x,z7f,z5t,z43,z5s,cle,clt,cge,cgt,ceq,cne,lenN,xFor,xTryM,uMix,uEnum,uZip,ltT,uSortK,sortK,sortN,uDNew,uDGet,inN,setN,uDNewS,uDGetS,inS,setS,uDm,uDm0,getR,popS,setdS,getNR,setdN,popNR,itemsR,lenS,dictS,sortItR,uFld,uFst,uMake,uLock,uLockE,uKeys,sortE,sortL,xOp,reprT_1,listN,mulT,gLst_l,gLst_r,sum_l,sum_r,min_ii,max_ii,sortSD,pop1S,dictN,uD1,updN,exists_eq_left',exists_eq_left,Option.some.injEq,U.int.injEq,U.bl.injEq,U.str.injEq,U.ref.injEq,U.tup.injEq,U.lst.injEq,U.ty.injEq,List.cons.injEq,and_true,true_and,and_self,List.map_cons,List.map_nil,List.length_cons,List.length_nil,List.cons_append,List.nil_append,List.append_nil,List.getElem?_cons_zero,List.getElem?_cons_succ,List.set_cons_zero,List.set_cons_succ,List.replicate,↓reduceIte,Bool.false_eq_true,Bool.not_true,Bool.not_false,reduceCtorEq,Nat.reduceAdd,Nat.reduceSub,Nat.reduceLeDiff,Nat.reduceEqDiff,decide_true,decide_false,at0,at1,at2,at3,at4,ix0,ix1,ix2,ix3,ix4,updM_same,beq_self_eq_true,Option.bind,Option.map,wipeU,NT.put,puts,MO.lst.injEq,exists_and_left,decide_eq_true_eq,Bool.and_eq_true,Bool.or_eq_true,exists_eq',Nat.zero_le,true_or,or_true,h2,Bool.true_or] at q ⊢
        exact q
      | false =>
        simp only [z8i,uOr,z8d,z8m,uCB,z7t,z8l,uC,z8o,z7w,uOp,uUn,z8s,z8j,uIf,z8e,z7v,z7u,z7s,uBM,z8g,uSl,z4x,z8r,z72,z8q,z7x,List.append_nil,z8t,z80,z8y,z7z,z8u,z81,z8w,z8v,xIf,z74,z8x,z8p,z3t,z8n,z7m,z7q,z7o,z7p,z5w,z5v,z7a,z3l,z3m,z75,z5g,z8k,asD,uXf,z8f,z5n,z7y,z6e,z6d,z68,z67,z63,z5h,z5i,z5j,z3v,z3w,z6f,z64,z62,z5r,z6b,z7j,z7k,z7i,z7c,z7b,z7l,z7e,z5o,z2m,z2w,z2k,z2o,z2p,z2l,z2n,z5c,z73,z5a,z5e,z5f,z5b,z3g,z5d,z3e,z2q,z2r,z3i,z3k,z3j,z39,z3a,z37,z38,z4q,z6h,z4o,z4s,z4t,z4p,z3f,z4r,z4e,z4d,z3b,z2s,z3d,z3c,z0h,z0g,z0d,z0a,z0f,z0e,z1o,z1n,z0u,z0j,z0w,z0v,z2d,z2c,z1r,z10,z1t,z1s,z2f,z2e,z1w,z14,z1y,z1x,z16,z15,z0m,z0i,z0o,z0n,z1v,z1u,z11,z0l,z13,z12,z1q,z1p,z0x,z0k,z0z,z0y,z4i,z6g,z4g,z4j,z4k,z4h,z82,z88,z46,z5x,z44,z47,z48,z45,z2v,z2j,z40,z5q,z3y,z41,z42,z3z,z2u,z2i,z6y,z70,z6x,z71,z6z,z59,z56,z57,z58,z87,z86,z7r,z79,z7n,z7d,z5y,z76,z77,z6c,z69,z6a,z8b,z8c,z89,z8a,z85,z83,z84,z4v,z4u,z6i,z78,z5m,z5l,z5k,z6n,z6o,z6p,z6q,z6r,z6s,z6t,z6u,z6v,z6w,z50,z51,z52,z53,z54,z55,z4b,z4c,z49,z27,z26,z1e,z0r,z1g,z1f,z05,z04,z2h,z2g,z1z,z17,z21,z20,z0c,z0b,z23,z22,z18,z0p,z1a,z19,z01,z00,z29,z28,z1h,z0s,z1j,z1i,z07,z06,z2b,z2a,z1k,z0t,z1m,z1l,z09,z08,z25,z24,z1b,z0q,z1d,z1c,z03,z02,z6m,z8h,z4z,z6l,z6k,z4w,z4y,z3s,z6j,z3p,z4f,z3n,z3q,z3r,z3o,z5p,z2t,z3h,z4n,z4l,z4a,z66,z65,z4m,z60,z61,z5z,z32,z2x,z33,z2y,z34,z2z,z35,z30,z36,z31,z7h,z7g,z3u,z5u,z3x,z7f,z5t,z43,z5s,cle,clt,cge,cgt,ceq,cne,lenN,xFor,xTryM,uMix,uEnum,uZip,ltT,uSortK,sortK,sortN,uDNew,uDGet,inN,setN,uDNewS,uDGetS,inS,setS,uDm,uDm0,getR,popS,setdS,getNR,setdN,popNR,itemsR,lenS,dictS,sortItR,uFld,uFst,uMake,uLock,uLockE,uKeys,sortE,sortL,xOp,reprT_1,listN,mulT,gLst_l,gLst_r,sum_l,sum_r,min_ii,max_ii,sortSD,pop1S,dictN,uD1,updN,exists_eq_left',exists_eq_left,Option.some.injEq,U.int.injEq,U.bl.injEq,U.str.injEq,U.ref.injEq,U.tup.injEq,U.lst.injEq,U.ty.injEq,List.cons.injEq,and_true,true_and,and_self,List.map_cons,List.map_nil,List.length_cons,List.length_nil,List.cons_append,List.nil_append,List.append_nil,List.getElem?_cons_zero,List.getElem?_cons_succ,List.set_cons_zero,List.set_cons_succ,List.replicate,↓reduceIte,Bool.false_eq_true,Bool.not_true,Bool.not_false,reduceCtorEq,Nat.reduceAdd,Nat.reduceSub,Nat.reduceLeDiff,Nat.reduceEqDiff,decide_true,decide_false,at0,at1,at2,at3,at4,ix0,ix1,ix2,ix3,ix4,updM_same,beq_self_eq_true,Option.bind,Option.map,wipeU,NT.put,puts,MO.lst.injEq,exists_and_left,decide_eq_true_eq,Bool.and_eq_true,Bool.or_eq_true,exists_eq',Nat.zero_le,true_or,or_true,h2,Bool.false_or] at q ⊢
        exact ⟨hx, q⟩

/-! ### are_named -/
def pairU : U → Bool
  | .tup [a, _] => isNameU a
  | _ => false
theorem pairU_len {xs : List U} (h : xs.length ≠ 2) : pairU (.tup xs) = false := by
  match xs, h with
  | [], _ => rfl
  | [_], _ => rfl
  | _ :: _ :: _ :: _, _ => rfl
  | [_, _], h => exact absurd rfl h
def namedU : U → Bool
  | .tup ps => ps.all pairU
  | _ => false
def sp_are_named : USp := fun us M Q _ => ∃ x, us = [x] ∧ isD x = true ∧ Q (.bl (namedU x)) M
theorem ok_are_named (L : Lw K mg) : UFn P w K mg base CX0 2 L.f_are_named L.fd_are_named ["pairs"] (sp_are_named) := by
  refine ufn_ok L.D_are_named.F sc_are_named (fun us M Q E h => ?_) (fun cdv A outer s H E hr hG =>
      (uss_cons (us_if (ut_not (ut_val (ue_callB uc_isi (by rfl) L.n_isinstance bt_isi (ua_cons (uv 0) (ua_cons (ue_bltn (by rfl) L.n_tuple bt_tuple) ua_nil))))) (uss_one (us_ret ue_bl)) uss_nil)
      (uss_one (us_ret (ue_callB (uc_all rfl) (by rfl) L.n_all bt_all (ua_cons (ue_lc (own := [("pair", 1)]) (n := (.one 1)) false rfl sc_are_named.nd (ui_any (uv 0)) (blkOk_by (own := [("pair", 1)]) (N := ["pairs", "pair"]) (sc := defScope s_are_named) (by decide +kernel)) (by decide) (fun _ _ _ _ _ => (pg_nt sc_are_named.nd rfl (.inl rfl))) (fun _ _ _ _ _ => uts_nil) (fun _ _ _ _ _ => (ue_and (ue_callB uc_isi (by rfl) L.n_isinstance bt_isi (ua_cons (uv 1) (ua_cons (ue_bltn (by rfl) L.n_tuple bt_tuple) ua_nil))) (ue_and (ue_cmp (uo_eq (hu6 hr)) (ue_callB uc_len (by rfl) L.n_len bt_len (ua_cons (uv 1) ua_nil)) ue_int (nomark _)) (ue_one (ue_call (ok_is_name L) (hr.mono (by decide)) hG rfl L.D_is_name.g L.D_is_name.F.kp L.D_is_name.b .nil (fun _ => RelUs.nil) (ua_cons (ue_ix (uv 1) ue_int) ua_nil))))))) ua_nil)))))) (fun us M Q E h => ?_)
  · obtain ⟨x, rfl, _⟩ := h
    rfl
  · obtain ⟨x, rfl, hx, q⟩ := h
    have q : ZQ Q (.bl (namedU x)) M := .inl q
    cases x with
    | tup ps =>
      have hps := isDs_iff.mp (by simpa [isD] using hx)
      simp only [uLc,z8i,uOr,z8d,z8m,uCB,z7t,z8l,uC,z8o,z7w,uOp,uUn,z8s,z8j,uIf,z8e,z7v,z7u,z7s,uBM,z8g,uSl,z4x,z8r,z72,z8q,z7x,List.append_nil,z8t,z80,z8y,z7z,z8u,z81,z8w,z8v,xIf,z74,z8x,z8p,z3t,z8n,z7m,z7q,z7o,z7p,z5w,z5v,z7a,z3l,z3m,z75,z5g,z8k,asD,uXf,z8f,z5n,z7y,z6e,z6d,z68,z67,z63,z5h,z5i,z5j,z3v,z3w,z6f,z64,z62,z5r,z6b,z7j,z7k,z7i,z7c,z7b,z7l,z7e,z5o,z2m,z2w,z2k,z2o,z2p,z2l,z2n,z5c,z73,z5a,z5e,z5f,z5b,z3g,z5d,z3e,z2q,z2r,z3i,z3k,z3j,z39,z3a,z37,z38,z4q,z6h,z4o,z4s,z4t,z4p,z3f,z4r,z4e,z4d,z3b,z2s,z3d,z3c,z0h,z0g,z0d,z0a,z0f,z0e,z1o,z1n,z0u,z0j,z0w,z0v,z2d,z2c,z1r,z10,z1t,z1s,z2f,z2e,z1w,z14,z1y,z1x,z16,z15,z0m,z0i,z0o,z0n,z1v,z1u,z11,z0l,z13,z12,z1q,z1p,z0x,z0k,z0z,z0y,z4i,z6g,z4g,z4j,z4k,z4h,z82,z88,z46,z5x,z44,z47,z48,z45,z2v,z2j,z40,z5q,z3y,z41,z42,z3z,z2u,z2i,z6y,z70,z6x,z71,z6z,z59,z56,z57,z58,z87,z86,z7r,z79,z7n,z7d,z5y,z76,z77,z6c,z69,z6a,z8b,z8c,z89,z8a,z85,z83,z84,z4v,z4u,z6i,z78,z5m,z5l,z5k,z6n,z6o,z6p,z6q,z6r,z6s,z6t,z6u,z6v,z6w,z50,z51,z52,z53,z54,z55,z4b,z4c,z49,z27,z26,z1e,z0r,z1g,z1f,z05,z04,z2h,z2g,z1z,z17,z21,z20,z0c,z0b,z23,z22,z18,z0p,z1a,z19,z01,z00,z29,z28,z1h,z0s,z1j,z1i,z07,z06,z2b,z2a,z1k,z0t,z1m,z1l,z09,z08,z25,z24,z1b,z0q,z1d,z1c,z03,z02,z6m,z8h,z4z,z6l,z6k,z4w,z4y,z3s,z6j,z3p,z4f,z3n,z3q,z3r,z3o,z5p,z2t,z3h,z4n,z4l,z4a,z66,z65,z4m,z60,z61,z5z,z32,z2x,z33,z2y,z34,z2z,z35,z30,z36,z31,z7h,z7g,z3u,z5u,z3x,z7f,z5t,z43,z5s,cle,clt,cge,cgt,ceq,cne,lenN,xFor,xTryM,uMix,uEnum,uZip,ltT,uSortK,sortK,sortN,uDNew,uDGet,inN,setN,uDNewS,uDGetS,inS,setS,uDm,uDm0,getR,popS,setdS,getNR,setdN,popNR,itemsR,lenS,dictS,sortItR,uFld,uFst,uMake,uLock,uLockE,uKeys,sortE,sortL,xOp,reprT_1,listN,mulT,gLst_l,gLst_r,sum_l,sum_r,min_ii,max_ii,sortSD,pop1S,dictN,uD1,updN,exists_eq_left',exists_eq_left,Option.some.injEq,U.int.injEq,U.bl.injEq,U.str.injEq,U.ref.injEq,U.tup.injEq,U.lst.injEq,U.ty.injEq,List.cons.injEq,and_true,true_and,and_self,List.map_cons,List.map_nil,List.length_cons,List.length_nil,List.cons_append,List.nil_append,List.append_nil,List.getElem?_cons_zero,List.getElem?_cons_succ,List.set_cons_zero,List.set_cons_succ,List.replicate,↓reduceIte,Bool.false_eq_true,Bool.not_true,Bool.not_false,reduceCtorEq,Nat.reduceAdd,Nat.reduceSub,Nat.reduceLeDiff,Nat.reduceEqDiff,decide_true,decide_false,at0,at1,at2,at3,at4,ix0,ix1,ix2,ix3,ix4,updM_same,beq_self_eq_true,Option.bind,Option.map,wipeU,NT.put,puts,MO.lst.injEq,exists_and_left,decide_eq_true_eq,Bool.and_eq_true,Bool.or_eq_true,exists_eq',Nat.zero_le,true_or,or_true,namedU] at q ⊢
      refine lc_map (fun x => .bl (pairU x)) (fun _ _ _ => True.intro) (fun D acc hD x hx => ⟨_, rfl, fun Q q => ?_⟩) ?_
      · have dx := hps x hx
        cases x with
        | tup xs =>
          have hxs := isDs_iff.mp (by simpa [isD] using dx)
          by_cases h2 : xs.length = 2
          · match xs, h2, q with
            | [a, b], _, q =>
              have ha : isD a = true := hxs a (by simp)
              simp only [z8i,uOr,z8d,z8m,uCB,z7t,z8l,uC,z8o,z7w,uOp,uUn,z8s,z8j,uIf,z8e,z7v,z7u,z7s,uBM,z8g,uSl,z4x,z8r,z72,z8q,z7x,List.append_nil,z8t,z80,z8y,z7z,z8u,z81,z8w,z8v,xIf,z74,z8x,z8p,z3t,z8n,z7m,z7q,z7o,z7p,z5w,z5v,z7a,z3l,z3m,z75,z5g,z8k,asD,uXf,z8f,z5n,z7y,z6e,z6d,z68,z67,z63,z5h,z5i,z5j,z3v,z3w,z6f,z64,z62,z5r,z6b,z7j,z7k,z7i,z7c,z7b,z7l,z7e,z5o,z2m,z2w,z2k,z2o,z2p,z2l,z2n,z5c,z73,z5a,z5e,z5f,z5b,z3g,z5d,z3e,z2q,z2r,z3i,z3k,z3j,z39,z3a,z37,z38,z4q,z6h,z4o,z4s,z4t,z4p,z3f,z4r,z4e,z4d,z3b,z2s,z3d,z3c,z0h,z0g,z0d,z0a,z0f,z0e,z1o,z1n,z0u,z0j,z0w,z0v,z2d,z2c,z1r,z10,z1t,z1s,z2f,z2e,z1w,z14,z1y,z1x,z16,z15,z0m,z0i,z0o,z0n,z1v,z1u,z11,z0l,z13,z12,z1q,z1p,z0x,z0k,z0z,z0y,z4i,z6g,z4g,z4j,z4k,z4h,z82,z88,z46,z5x,z44,z47,z48,z45,z2v,z2j,z40,z5q,z3y,z41,z42,z3z,z2u,z2i,z6y,z70,z6x,z71,z6z,z59,z56,z57,z58,z87,z86,z7r,z79,z7n,z7d,z5y,z76,z77,z6c,z69,z6a,z8b,z8c,z89,z8a,z85,z83,z84,z4v,z4u,z6i,z78,z5m,z5l,z5k,z6n,z6o,z6p,z6q,z6r,z6s,z6t,z6u,z6v,z6w,z50,z51,z52,z53,z54,z55,z4b,z4c,z49,z27,z26,z1e,z0r,z1g,z1f,z05,z04,z2h,z2g,z1z,z17,z21,z20,z0c,z0b,z23,z22,z18,z0p,z1a,z19,z01,z00,z29,z28,z1h,z0s,z1j,z1i,z07,z06,z2b,z2a,z1k,z0t,z1m,z1l,z09,z08,z25,z24,z1b,z0q,z1d,z1c,z03,z02,z6m,z8h,z4z,z6l,z6k,z4w,z4y,z3s,z6j,z3p,z4f,z3n,z3q,z3r,z3o,z5p,z2t,z3h,z4n,z4l,z4a,z66,z65,z4m,z60,z61,z5z,z32,z2x,z33,z2y,z34,z2z,z35,z30,z36,z31,z7h,z7g,z3u,z5u,z3x,z7f,z5t,z43,z5s,cle,clt,cge,cgt,ceq,cne,lenN,xFor,xTryM,uMix,uEnum,uZip,ltT,uSortK,sortK,sortN,uDNew,uDGet,inN,setN,uDNewS,uDGetS,inS,setS,uDm,uDm0,getR,popS,setdS,getNR,setdN,popNR,itemsR,lenS,dictS,sortItR,uFld,uFst,uMake,uLock,uLockE,uKeys,sortE,sortL,xOp,reprT_1,listN,mulT,gLst_l,gLst_r,sum_l,sum_r,min_ii,max_ii,sortSD,pop1S,dictN,uD1,updN,exists_eq_left',exists_eq_left,Option.some.injEq,U.int.injEq,U.bl.injEq,U.str.injEq,U.ref.injEq,U.tup.injEq,U.lst.injEq,U.ty.injEq,List.cons.injEq,and_true,true_and,and_self,List.map_cons,List.map_nil,List.length_cons,List.length_nil,List.cons_append,List.nil_append,List.append_nil,List.getElem?_cons_zero,List.getElem?_cons_succ,List.set_cons_zero,List.set_cons_succ,List.replicate,↓reduceIte,Bool.false_eq_true,Bool.not_true,Bool.not_false,reduceCtorEq,Nat.reduceAdd,Nat.reduceSub,Nat.reduceLeDiff,Nat.reduceEqDiff,decide_true,decide_false,at0,at1,at2,at3,at4,ix0,ix1,ix2,ix3,ix4,updM_same,beq_self_eq_true,Option.bind,Option.map,wipeU,NT.put,puts,MO.lst.injEq,exists_and_left,decide_eq_true_eq,Bool.and_eq_true,Bool.or_eq_true,exists_eq',Nat.zero_le,true_or,or_true,pairU,sp_is_name] at q ⊢
              exact ⟨ha, q⟩
          · have h3 : ((xs.length : Int) == 2) = false := beq_eq_false_iff_ne.mpr (by omega)
            simp only [z8i,uOr,z8d,z8m,uCB,z7t,z8l,uC,z8o,z7w,uOp,uUn,z8s,z8j,uIf,z8e,z7v,z7u,z7s,uBM,z8g,uSl,z4x,z8r,z72,z8q,z7x,List.append_nil,z8t,z80,z8y,z7z,z8u,z81,z8w,z8v,xIf,z74,z8x,z8p,z3t,z8n,z7m,z7q,z7o,z7p,z5w,z5v,z7a,z3l,z3m,z75,z5g,z8k,asD,uXf,z8f,z5n,z7y,z6e,z6d,z68,z67,z63,z5h,z5i,z5j,z3v,z3w,z6f,z64,z62,z5r,z6b,z7j,z7k,z7i,z7c,z7b,z7l,z7e,z5o,z2m,z2w,z2k,z2o,z2p,z2l,z2n,z5c,z73,z5a,z5e,z5f,z5b,z3g,z5d,z3e,z2q,z2r,z3i,z3k,z3j,z39,z3a,z37,z38,z4q,z6h,z4o,z4s,z4t,z4p,z3f,z4r,z4e,z4d,z3b,z2s,z3d,z3c,z0h,z0g,z0d,z0a,z0f,z0e,z1o,z1n,z0u,z0j,z0w,z0v,z2d,z2c,z1r,z10,z1t,z1s,z2f,z2e,z1w,z14,z1y,z1x,z16,z15,z0m,z0i,z0o,z0n,z1v,z1u,z11,z0l,z13,z12,z1q,z1p,z0x,z0k,z0z,z0y,z4i,z6g,z4g,z4j,z4k,z4h,z82,z88,z46,z5x,z44,z47,z48,z45,z2v,z2j,z40,z5q,z3y,z41,z42,z3z,z2u,z2i,z6y,z70,z6x,z71,z6z,z59,z56,z57,z58,z87,z86,z7r,z79,z7n,z7d,z5y,z76,z77,z6c,z69,z6a,z8b,z8c,z89,z8a,z85,z83,z84,z4v,z4u,z6i,z78,z5m,z5l,z5k,z6n,z6o,z6p,z6q,z6r,z6s,z6t,z6u,z6v,z6w,z50,z51,z52,z53,z54,z55,z4b,z4c,z49,z27,z26,z1e,z0r,z1g,z1f,z05,z04,z2h,z2g,z1z,z17,z21,z20,z0c,z0b,z23,z22,z18,z0p,z1a,z19,z01,z00,z29,z28,z1h,z0s,z1j,z1i,z07,z06,z2b,z2a,z1k,z0t,z1m,z1l,z09,z08,z25,z24,z1b,z0q,z1d,z1c,z03,z02,z6m,z8h,z4z,z6l,z6k,z4w,z4y,z3s,z6j,z3p,z4f,z3n,z3q,z3r,z3o,z5p,z2t,z3h,z4n,z4l,z4a,z66,z65,z4m,z60,z61,z5z,z32,z2x,z33,z2y,z34,z2z,z35,z30,z36,z31,z7h,z7g,z3u,z5u,z3x,z7f,z5t,z43,z5s,cle,clt,cge,cgt,ceq,cne,lenN,xFor,xTryM,uMix,uEnum,uZip,ltT,uSortK,sortK,sortN,uDNew,uDGet,inN,setN,uDNewS,uDGetS,inS,setS,uDm,uDm0,getR,popS,setdS,getNR,setdN,popNR,itemsR,lenS,dictS,sortItR,uFld,uFst,uMake,uLock,uLockE,uKeys,sortE,sortL,xOp,reprT_1,listN,mulT,gLst_l,gLst_r,sum_l,sum_r,min_ii,max_ii,sortSD,pop1S,dictN,uD1,updN,exists_eq_left',exists_eq_left,Option.some.injEq,U.int.injEq,U.bl.injEq,U.str.injEq,U.ref.injEq,U.tup.injEq,U.lst.injEq,U.ty.injEq,List.cons.injEq,and_true,true_and,and_self,List.map_cons,List.map_nil,List.length_cons,List.length_nil,List.cons_append,List.nil_append,List.append_nil,List.getElem?_cons_zero,List.getElem?_cons_succ,List.set_cons_zero,List.set_cons_succ,List.replicate,↓reduceIte,Bool.false_eq_true,Bool.not_true,Bool.not_false,reduceCtorEq,Nat.reduceAdd,Nat.reduceSub,Nat.reduceLeDiff,Nat.reduceEqDiff,decide_true,decide_false,at0,at1,at2,at3,at4,ix0,ix1,ix2,ix3,ix4,updM_same,beq_self_eq_true,Option.bind,Option.map,wipeU,NT.put,puts,MO.lst.injEq,exists_and_left,decide_eq_true_eq,Bool.and_eq_true,Bool.or_eq_true,exists_eq',Nat.zero_le,true_or,or_true,pairU_len h2,h3] at q ⊢
            exact q
        | ref a => simp [isD] at dx
        | ty n => simp [isD] at dx
        | _ =>
          simp only [z8i,uOr,z8d,z8m,uCB,z7t,z8l,uC,z8o,z7w,uOp,uUn,z8s,z8j,uIf,z8e,z7v,z7u,z7s,uBM,z8g,uSl,z4x,z8r,z72,z8q,z7x,List.append_nil,z8t,z80,z8y,z7z,z8u,z81,z8w,z8v,xIf,z74,z8x,z8p,z3t,z8n,z7m,z7q,z7o,z7p,z5w,z5v,z7a,z3l,z3m,z75,z5g,z8k,asD,uXf,z8f,z5n,z7y,z6e,z6d,z68,z67,z63,z5h,z5i,z5j,z3v,z3w,z6f,z64,z62,z5r,z6b,z7j,z7k,z7i,z7c,z7b,z7l,z7e,z5o,z2m,z2w,z2k,z2o,z2p,z2l,z2n,z5c,z73,z5a,z5e,z5f,z5b,z3g,z5d,z3e,z2q,z2r,z3i,z3k,z3j,z39,z3a,z37,z38,z4q,z6h,z4o,z4s,z4t,z4p,z3f,z4r,z4e,z4d,z3b,z2s,z3d,z3c,z0h,z0g,z0d,z0a,z0f,z0e,z1o,z1n,z0u,z0j,z0w,z0v,z2d,z2c,z1r,z10,z1t,z1s,z2f,z2e,z1w,z14,z1y,z1x,z16,z15,z0m,z0i,z0o,z0n,z1v,z1u,z11,z0l,z13,z12,z1q,z1p,z0x,z0k,z0z,z0y,z4i,z6g,z4g,z4j,z4k,z4h,z82,z88,z46,z5x,z44,z47,z48,z45,z2v,z2j,z40,z5q,z3y,z41,z42,z3z,z2u,z2i,z6y,z70,z6x,z71,z6z,z59,z56,z57,z58,z87,z86,z7r,z79,z7n,z7d,z5y,z76,z77,z6c,z69,z6a,z8b,z8c,z89,z8a,z85,z83,z84,z4v,z4u,z6i,z78,z5m,z5l,z5k,z6n,z6o,z6p,z6q,z6r,z6s,z6t,z6u,z6v,z6w,z50,z51,z52,z53,z54,z55,z4b,z4c,z49,z27,z26,z1e,z0r,z1g,z1f,z05,z04,z2h,z2g,z1z,z17,z21,z20,z0c,z0b,z23,z22,z18,z0p,z1a,z19,z01,z00,z29,z28,z1h,z0s,z1j,z1i,z07,z06,z2b,z2a,z1k,z0t,z1m,z1l,z09,z08,z25,z24,z1b,z0q,z1d,z1c,z03,z02,z6m,z8h,z4z,z6l,z6k,z4w,z4y,z3s,z6j,z3p,z4f,z3n,z3q,z3r,z3o,z5p,z2t,z3h,z4n,z4l,z4a,z66,z65,z4m,z60,z61,z5z,z32,z2x,z33,z2y,z34,z2z,z35,z30,z36,z31,z7h,z7g,z3u,z5u,z3x,z7f,z5t,z43,z5s,cle,clt,cge,cgt,ceq,cne,lenN,xFor,xTryM,uMix,uEnum,uZip,ltT,uSortK,sortK,sortN,uDNew,uDGet,inN,setN,uDNewS,uDGetS,inS,setS,uDm,uDm0,getR,popS,setdS,getNR,setdN,popNR,itemsR,lenS,dictS,sortItR,uFld,uFst,uMake,uLock,uLockE,uKeys,sortE,sortL,xOp,reprT_1,listN,mulT,gLst_l,gLst_r,sum_l,sum_r,min_ii,max_ii,sortSD,pop1S,dictN,uD1,updN,exists_eq_left',exists_eq_left,Option.some.injEq,U.int.injEq,U.bl.injEq,U.str.injEq,U.ref.injEq,U.tup.injEq,U.lst.injEq,U.ty.injEq,List.cons.injEq,and_true,true_and,and_self,List.map_cons,List.map_nil,List.length_cons,List.length_nil,List.cons_append,List.nil_append,List.append_nil,List.getElem?_cons_zero,List.getElem?_cons_succ,List.set_cons_zero,List.set_cons_succ,List.replicate,↓reduceIte,Bool.false_eq_true,Bool.not_true,Bool.not_false,reduceCtorEq,Nat.reduceAdd,Nat.reduceSub,Nat.reduceLeDiff,Nat.reduceEqDiff,decide_true,decide_false,at0,at1,at2,at3,at4,ix0,ix1,ix2,ix3,ix4,updM_same,beq_self_eq_true,Option.bind,Option.map,wipeU,NT.put,puts,MO.lst.injEq,exists_and_left,decide_eq_true_eq,Bool.and_eq_true,Bool.or_eq_true,exists_eq',Nat.zero_le,true_or,or_true,pairU] at q ⊢
          exact q
      · simp only [z8i,uOr,z8d,z8m,uCB,z7t,z8l,uC,z8o,z7w,uOp,uUn,z8s,z8j,uIf,z8e,z7v,z7u,z7s,uBM,z8g,uSl,z4x,z8r,z72,z8q,z7x,List.append_nil,z8t,z80,z8y,z7z,z8u,z81,z8w,z8v,xIf,z74,z8x,z8p,z3t,z8n,z7m,z7q,z7o,z7p,z5w,z5v,z7a,z3l,z3m,z75,z5g,z8k,asD,uXf,z8f,z5n,z7y,z6e,z6d,z68,z67,z63,z5h,z5i,z5j,z3v,z3w,z6f,z64,z62,z5r,z6b,z7j,z7k,z7i,z7c,z7b,z7l,z7e,z5o,z2m,z2w,z2k,z2o,z2p,z2l,z2n,z5c,z73,z5a,z5e,z5f,z5b,z3g,z5d,z3e,z2q,z2r,z3i,z3k,z3j,z39,z3a,z37,z38,z4q,z6h,z4o,z4s,z4t,z4p,z3f,z4r,z4e,z4d,z3b,z2s,z3d,z3c,z0h,z0g,z0d,z0a,z0f,z0e,z1o,z1n,z0u,z0j,z0w,z0v,z2d,z2c,z1r,z10,z1t,z1s,z2f,z2e,z1w,z14,z1y,z1x,z16,z15,z0m,z0i,z0o,z0n,z1v,z1u,z11,z0l,z13,z12,z1q,z1p,z0x,z0k,z0z,z0y,z4i,z6g,z4g,z4j,z4k,z4h,z82,z88,z46,z5x,z44,z47,z48,z45,z2v,z2j,z40,z5q,z3y,z41,z42,z3z,z2u,z2i,z6y,z70,z6x,z71,z6z,z59,z56,z57,z58,z87,z86,z7r,z79,z7n,z7d,z5y,z76,z77,z6c,z69,z6a,z8b,z8c,z89,z8a,z85,z83,z84,z4v,z4u,z6i,z78,z5m,z5l,z5k,z6n,z6o,z6p,z6q,z6r,z6s,z6t,z6u,z6v,z6w,z50,z51,z52,z53,z54,z55,z4b,z4c,z49,z27,z26,z1e,z0r,z1g,z1f,z05,z04,z2h,z2g,z1z,z17,z21,z20,z0c,z0b,z23,z22,z18,z0p,z1a,z19,z01,z00,z29,z28,z1h,z0s,z1j,z1i,z07,z06,z2b,z2a,z1k,z0t,z1m,z1l,z09,z08,z25,z24,z1b,z0q,z1d,z1c,z03,z02,z6m,z8h,z4z,z6l,z6k,z4w,z4y,z3s,z6j,z3p,z4f,z3n,z3q,z3r,z3o,z5p,z2t,z3h,z4n,z4l,z4a,z66,z65,z4m,z60,z61,z5z,z32,z2x,z33,z2y,z34,z2z,z35,z30,z36,z31,z7h,z7g,z3u,z5u,z3x,z7f,z5t,z43,z5s,cle,clt,cge,cgt,ceq,cne,lenN,xFor,xTryM,uMix,uEnum,uZip,ltT,uSortK,sortK,sortN,uDNew,uDGet,inN,setN,uDNewS,uDGetS,inS,setS,uDm,uDm0,getR,popS,setdS,getNR,setdN,popNR,itemsR,lenS,dictS,sortItR,uFld,uFst,uMake,uLock,uLockE,uKeys,sortE,sortL,xOp,reprT_1,listN,mulT,gLst_l,gLst_r,sum_l,sum_r,min_ii,max_ii,sortSD,pop1S,dictN,uD1,updN,exists_eq_left',exists_eq_left,Option.some.injEq,U.int.injEq,U.bl.injEq,U.str.injEq,U.ref.injEq,U.tup.injEq,U.lst.injEq,U.ty.injEq,List.cons.injEq,and_true,true_and,and_self,List.map_cons,List.map_nil,List.length_cons,List.length_nil,List.cons_append,List.nil_append,List.append_nil,List.getElem?_cons_zero,List.getElem?_cons_succ,List.set_cons_zero,List.set_cons_succ,List.replicate,↓reduceIte,Bool.false_eq_true,Bool.not_true,Bool.not_false,reduceCtorEq,Nat.reduceAdd,Nat.reduceSub,Nat.reduceLeDiff,Nat.reduceEqDiff,decide_true,decide_false,at0,at1,at2,at3,at4,ix0,ix1,ix2,ix3,ix4,updM_same,beq_self_eq_true,Option.bind,Option.map,wipeU,NT.put,puts,MO.lst.injEq,exists_and_left,decide_eq_true_eq,Bool.and_eq_true,Bool.or_eq_true,exists_eq',Nat.zero_le,true_or,or_true,allU_map,Bool.true_and] at q ⊢
        exact q
    | ref a => simp [isD] at hx
    | ty n => simp [isD] at hx
    | _ =>
      simp only [z8i,uOr,z8d,z8m,uCB,z7t,z8l,uC,z8o,z7w,uOp,uUn,z8s,z8j,uIf,z8e,z7v,z7u,z7s,uBM,z8g,uSl,z4x,z8r,z72,z8q,z7x,List.append_nil,z8t,z80,z8y,z7z,z8u,z81,z8w,z8v,xIf,z74,z8x,z8p,z3t,z8n,z7m,z7q,z7o,z7p,z5w,z5v,z7a,z3l,z3m,z75,z5g,z8k,asD,uXf,z8f,z5n,z7y,z6e,z6d,z68,z67,z63,z5h,z5i,z5j,z3v,z3w,z6f,z64,z62,z5r,z6b,z7j,z7k,z7i,z7c,z7b,z7l,z7e,z5o,z2m,z2w,z2k,z2o,z2p,z2l,z2n,z5c,z73,z5a,z5e,z5f,z5b,z3g,z5d,z3e,z2q,z2r,z3i,z3k,z3j,z39,z3a,z37,z38,z4q,z6h,z4o,z4s,z4t,z4p,z3f,z4r,z4e,z4d,z3b,z2s,z3d,z3c,z0h,z0g,z0d,z0a,z0f,z0e,z1o,z1n,z0u,z0j,z0w,z0v,z2d,z2c,z1r,z10,z1t,z1s,z2f,z2e,z1w,z14,z1y,z1x,z16,z15,z0m,z0i,z0o,z0n,z1v,z1u,z11,z0l,z13,z12,z1q,z1p,z0x,z0k,z0z,z0y,z4i,z6g,z4g,z4j,z4k,z4h,z82,z88,z46,z5x,z44,z47,z48,z45,z2v,z2j,z40,z5q,z3y,z41,z42,z3z,z2u,z2i,z6y,z70,z6x,z71,z6z,z59,z56,z57,z58,z87,z86,z7r,z79,z7n,z7d,z5y,z76,z77,z6c,z69,z6a,z8b,z8c,z89,z8a,z85,z83,z84,z4v,z4u,z6i,z78,z5m,z5l,z5k,z6n,z6o,z6p,z6q,z6r,z6s,z6t,z6u,z6v,z6w,z50,z51,z52,z53,z54,z55,z4b,z4c,z49,z27,z26,z1e,z0r,z1g,z1f,z05,z04,z2h,z2g,z1z,z17,z21,z20,z0c,z0b,z23,z22,z18,z0p,z1a,z19,z01,z00,z29,z28,z1h,z0s,z1j,z1i,z07,z06,z2b,z2a,z1k,z0t,z1m,z1l,z09,z08,z25,z24,z1b,z0q,z1d,z1c,z03,z02,z6m,z8h,z4z,z6l,z6k,z4w,z4y,z3s,z6j,z3p,z4f,z3n,z3q,z3r,z3o,z5p,z2t,z3h,z4n,z4l,z4a,z66,z65,z4m,z60,z61,z5z,z32,z2x,z33,z2y,z34,z2z,z35,z30,z36,z31,z7h,z7g,z3u,z5u,z3x,z7f,z5t,z43,z5s,cle,clt,cge,cgt,ceq,cne,lenN,xFor,xTryM,uMix,uEnum,uZip,ltT,uSortK,sortK,sortN,uDNew,uDGet,inN,setN,uDNewS,uDGetS,inS,setS,uDm,uDm0,getR,popS,setdS,getNR,setdN,popNR,itemsR,lenS,dictS,sortItR,uFld,uFst,uMake,uLock,uLockE,uKeys,sortE,sortL,xOp,reprT_1,listN,mulT,gLst_l,gLst_r,sum_l,sum_r,min_ii,max_ii,sortSD,pop1S,dictN,uD1,updN,exists_eq_left',exists_eq_left,Option.some.injEq,U.int.injEq,U.bl.injEq,U.str.injEq,U.ref.injEq,U.tup.injEq,U.lst.injEq,U.ty.injEq,List.cons.injEq,and_true,true_and,and_self,List.map_cons,List.map_nil,List.length_cons,List.length_nil,List.cons_append,List.nil_append,List.append_nil,List.getElem?_cons_zero,List.getElem?_cons_succ,List.set_cons_zero,List.set_cons_succ,List.replicate,↓reduceIte,Bool.false_eq_true,Bool.not_true,Bool.not_false,reduceCtorEq,Nat.reduceAdd,Nat.reduceSub,Nat.reduceLeDiff,Nat.reduceEqDiff,decide_true,decide_false,at0,at1,at2,at3,at4,ix0,ix1,ix2,ix3,ix4,updM_same,beq_self_eq_true,Option.bind,Option.map,wipeU,NT.put,puts,MO.lst.injEq,exists_and_left,decide_eq_true_eq,Bool.and_eq_true,Bool.or_eq_true,exists_eq',Nat.zero_le,true_or,or_true,namedU] at q ⊢
      exact q

/-! ### is_ascending -/
def nameOf : U → Str
  | .tup (.str z :: _) => z
  | _ => Str.empty
def ascL (xs : List Str) : Bool := decide (xs.Pairwise slt)
theorem pair_is {x : U} (h : pairU x = true) : ∃ z b, x = .tup [.str z, b] ∧ isNameU (.str z) = true := by
  cases x with
  | tup xs =>
    match xs, h with
    | [a, b], h =>
      cases a with
      | str z => exact ⟨z, b, rfl, h⟩
      | _ => simp [pairU, isNameU] at h
    | [], h => simp [pairU] at h
    | [_], h => simp [pairU] at h
    | _ :: _ :: _ :: _, h => simp [pairU] at h
  | _ => simp [pairU] at h
theorem ueqs_strs : ∀ xs ys : List Str, ueqs (xs.map .str) (ys.map .str) = true ↔ xs = ys
  | [], [] => by simp [ueqs]
  | [], _ :: _ => by simp [ueqs]
  | _ :: _, [] => by simp [ueqs]
  | x :: xs, y :: ys => by simp [ueqs, ueq, ueqs_strs xs ys]
theorem isDs_strs : ∀ {xs : List Str}, (∀ x ∈ xs, okS x = true) → isDs (xs.map .str) = true
  | [], _ => rfl
  | x :: xs, h => by simp [isDs, isD, h x (by simp), isDs_strs fun y hy => h y (List.mem_cons_of_mem _ hy)]
theorem deps_strs : ∀ xs : List Str, deps (xs.map .str) = 0
  | [] => rfl
  | x :: xs => by simp [deps, dep, deps_strs xs]
def sp_is_ascending : USp := fun us M Q _ => ∃ ps, us = [.tup ps] ∧ isDs ps = true ∧ ps.all pairU = true ∧ ps.length ≤ 62 ∧ Q (.bl (ascL (ps.map nameOf))) M
theorem ok_is_ascending (L : Lw K mg) : UFn P w K mg base CX0 1 L.f_is_ascending L.fd_is_ascending ["pairs"] (sp_is_ascending) := by
  refine ufn_ok L.D_is_ascending.F sc_is_ascending (fun us M Q E h => ?_) (fun cdv A outer s H E hr hG =>
      (uss_cons (us_setLc (i := 1) (own := [("pair", 2)]) (n := (.one 2)) false rfl sc_is_ascending.nd rfl rfl (sw_true rfl rfl rfl (by decide +kernel)) (ui_any (uv 0)) (blkOk_by (own := [("pair", 2)]) (N := ["pairs", "names", "pair"]) (sc := defScope s_is_ascending) (by decide +kernel)) (by decide) (fun _ _ _ _ _ => (pg_nt sc_is_ascending.nd rfl (.inl rfl))) (fun _ _ _ _ _ => uts_nil) (fun _ _ _ _ _ => (ue_ix (uv 2) ue_int)))
      (uss_one (us_ret (ue_cmp (uo_eq (hu6 hr)) (uv 1) (ue_sortSet false rfl (by rfl) L.n_sorted (by rfl) L.n_set (uv 1)) (nomark _)))))) (fun us M Q E h => ?_)
  · obtain ⟨ps, rfl, _⟩ := h
    rfl
  · obtain ⟨ps, rfl, hd, hp, hl, q⟩ := h
    have hps := List.all_eq_true.mp hp
    walk_at "q2"
    refine lc_map (fun x => .str (nameOf x)) (fun _ _ _ => True.intro) (fun D acc hD x hx => ⟨_, rfl, fun Q q => ?_⟩) ?_
    · obtain ⟨z, b, rfl, _⟩ := pair_is (hps x hx)
      simp only [z8i,uOr,z8d,z8m,uCB,z7t,z8l,uC,z8o,z7w,uOp,uUn,z8s,z8j,uIf,z8e,z7v,z7u,z7s,uBM,z8g,uSl,z4x,z8r,z72,z8q,z7x,List.append_nil,z8t,z80,z8y,z7z,z8u,z81,z8w,z8v,xIf,z74,z8x,z8p,z3t,z8n,z7m,z7q,z7o,z7p,z5w,z5v,z7a,z3l,z3m,z75,z5g,z8k,asD,uXf,z8f,z5n,z7y,z6e,z6d,z68,z67,z63,z5h,z5i,z5j,z3v,z3w,z6f,z64,z62,z5r,z6b,z7j,z7k,z7i,z7c,z7b,z7l,z7e,z5o,z2m,z2w,z2k,z2o,z2p,z2l,z2n,z5c,z73,z5a,z5e,z5f,z5b,z3g,z5d,z3e,z2q,z2r,z3i,z3k,z3j,z39,z3a,z37,z38,z4q,z6h,z4o,z4s,z4t,z4p,z3f,z4r,z4e,z4d,z3b,z2s,z3d,z3c,z0h,z0g,z0d,z0a,z0f,z0e,z1o,z1n,z0u,z0j,z0w,z0v,z2d,z2c,z1r,z10,z1t,z1s,z2f,z2e,z1w,z14,z1y,z1x,z16,z15,z0m,z0i,z0o,z0n,z1v,z1u,z11,z0l,z13,z12,z1q,z1p,z0x,z0k,z0z,z0y,z4i,z6g,z4g,z4j,z4k,z4h,z82,z88,z46,z5x,z44,z47,z48,z45,z2v,z2j,z40,z5q,z3y,z41,z42,z3z,z2u,z2i,z6y,z70,z6x,z71,z6z,z59,z56,z57,z58,z87,z86,z7r,z79,z7n,z7d,z5y,z76,z77,z6c,z69,z6a,z8b,z8c,z89,z8a,z85,z83,z84,z4v,z4u,z6i,z78,z5m,z5l,z5k,z6n,z6o,z6p,z6q,z6r,z6s,z6t,z6u,z6v,z6w,z50,z51,z52,z53,z54,z55,z4b,z4c,z49,z27,z26,z1e,z0r,z1g,z1f,z05,z04,z2h,z2g,z1z,z17,z21,z20,z0c,z0b,z23,z22,z18,z0p,z1a,z19,z01,z00,z29,z28,z1h,z0s,z1j,z1i,z07,z06,z2b,z2a,z1k,z0t,z1m,z1l,z09,z08,z25,z24,z1b,z0q,z1d,z1c,z03,z02,z6m,z8h,z4z,z6l,z6k,z4w,z4y,z3s,z6j,z3p,z4f,z3n,z3q,z3r,z3o,z5p,z2t,z3h,z4n,z4l,z4a,z66,z65,z4m,z60,z61,z5z,z32,z2x,z33,z2y,z34,z2z,z35,z30,z36,z31,z7h,z7g,z3u,z5u,z3x,z7f,z5t,z43,z5s,cle,clt,cge,cgt,ceq,cne,lenN,xFor,xTryM,uMix,uEnum,uZip,ltT,uSortK,sortK,sortN,uDNew,uDGet,inN,setN,uDNewS,uDGetS,inS,setS,uDm,uDm0,getR,popS,setdS,getNR,setdN,popNR,itemsR,lenS,dictS,sortItR,uFld,uFst,uMake,uLock,uLockE,uKeys,sortE,sortL,xOp,reprT_1,listN,mulT,gLst_l,gLst_r,sum_l,sum_r,min_ii,max_ii,sortSD,pop1S,dictN,uD1,updN,exists_eq_left',exists_eq_left,Option.some.injEq,U.int.injEq,U.bl.injEq,U.str.injEq,U.ref.injEq,U.tup.injEq,U.lst.injEq,U.ty.injEq,List.cons.injEq,and_true,true_and,and_self,List.map_cons,List.map_nil,List.length_cons,List.length_nil,List.cons_append,List.nil_append,List.append_nil,List.getElem?_cons_zero,List.getElem?_cons_succ,List.set_cons_zero,List.set_cons_succ,List.replicate,↓reduceIte,Bool.false_eq_true,Bool.not_true,Bool.not_false,reduceCtorEq,Nat.reduceAdd,Nat.reduceSub,Nat.reduceLeDiff,Nat.reduceEqDiff,decide_true,decide_false,at0,at1,at2,at3,at4,ix0,ix1,ix2,ix3,ix4,updM_same,beq_self_eq_true,Option.bind,Option.map,wipeU,NT.put,puts,MO.lst.injEq,exists_and_left,decide_eq_true_eq,Bool.and_eq_true,Bool.or_eq_true,exists_eq',Nat.zero_le,true_or,or_true,nameOf] at q ⊢
      exact q
    · have e : ps.map (fun x => U.str (nameOf x)) = (ps.map nameOf).map .str := by rw [List.map_map]; rfl
      have ok : ∀ y ∈ ps.map nameOf, okS y = true := fun y hy => by
        obtain ⟨x, hx, rfl⟩ := List.mem_map.mp hy
        have dx := isDs_iff.mp hd x hx
        obtain ⟨z, b, rfl, _⟩ := pair_is (hps x hx)
        simp only [isD,isDs,Bool.and_eq_true] at dx
        exact dx.1
      rw [e]
      have hlen : (ps.map nameOf).length < 64 := by rw [List.length_map]; omega
      generalize hz : ps.map nameOf = zs at ok hlen q
      simp only [z8i,uOr,z8d,z8m,uCB,z7t,z8l,uC,z8o,z7w,uOp,uUn,z8s,z8j,uIf,z8e,z7v,z7u,z7s,uBM,z8g,uSl,z4x,z8r,z72,z8q,z7x,List.append_nil,z8t,z80,z8y,z7z,z8u,z81,z8w,z8v,xIf,z74,z8x,z8p,z3t,z8n,z7m,z7q,z7o,z7p,z5w,z5v,z7a,z3l,z3m,z75,z5g,z8k,asD,uXf,z8f,z5n,z7y,z6e,z6d,z68,z67,z63,z5h,z5i,z5j,z3v,z3w,z6f,z64,z62,z5r,z6b,z7j,z7k,z7i,z7c,z7b,z7l,z7e,z5o,z2m,z2w,z2k,z2o,z2p,z2l,z2n,z5c,z73,z5a,z5e,z5f,z5b,z3g,z5d,z3e,z2q,z2r,z3i,z3k,z3j,z39,z3a,z37,z38,z4q,z6h,z4o,z4s,z4t,z4p,z3f,z4r,z4e,z4d,z3b,z2s,z3d,z3c,z0h,z0g,z0d,z0a,z0f,z0e,z1o,z1n,z0u,z0j,z0w,z0v,z2d,z2c,z1r,z10,z1t,z1s,z2f,z2e,z1w,z14,z1y,z1x,z16,z15,z0m,z0i,z0o,z0n,z1v,z1u,z11,z0l,z13,z12,z1q,z1p,z0x,z0k,z0z,z0y,z4i,z6g,z4g,z4j,z4k,z4h,z82,z88,z46,z5x,z44,z47,z48,z45,z2v,z2j,z40,z5q,z3y,z41,z42,z3z,z2u,z2i,z6y,z70,z6x,z71,z6z,z59,z56,z57,z58,z87,z86,z7r,z79,z7n,z7d,z5y,z76,z77,z6c,z69,z6a,z8b,z8c,z89,z8a,z85,z83,z84,z4v,z4u,z6i,z78,z5m,z5l,z5k,z6n,z6o,z6p,z6q,z6r,z6s,z6t,z6u,z6v,z6w,z50,z51,z52,z53,z54,z55,z4b,z4c,z49,z27,z26,z1e,z0r,z1g,z1f,z05,z04,z2h,z2g,z1z,z17,z21,z20,z0c,z0b,z23,z22,z18,z0p,z1a,z19,z01,z00,z29,z28,z1h,z0s,z1j,z1i,z07,z06,z2b,z2a,z1k,z0t,z1m,z1l,z09,z08,z25,z24,z1b,z0q,z1d,z1c,z03,z02,z6m,z8h,z4z,z6l,z6k,z4w,z4y,z3s,z6j,z3p,z4f,z3n,z3q,z3r,z3o,z5p,z2t,z3h,z4n,z4l,z4a,z66,z65,z4m,z60,z61,z5z,z32,z2x,z33,z2y,z34,z2z,z35,z30,z36,z31,z7h,z7g,z3u,z5u,z3x,z7f,z5t,z43,z5s,cle,clt,cge,cgt,ceq,cne,lenN,xFor,xTryM,uMix,uEnum,uZip,ltT,uSortK,sortK,sortN,uDNew,uDGet,inN,setN,uDNewS,uDGetS,inS,setS,uDm,uDm0,getR,popS,setdS,getNR,setdN,popNR,itemsR,lenS,dictS,sortItR,uFld,uFst,uMake,uLock,uLockE,uKeys,sortE,sortL,xOp,reprT_1,listN,mulT,gLst_l,gLst_r,sum_l,sum_r,min_ii,max_ii,sortSD,pop1S,dictN,uD1,updN,exists_eq_left',exists_eq_left,Option.some.injEq,U.int.injEq,U.bl.injEq,U.str.injEq,U.ref.injEq,U.tup.injEq,U.lst.injEq,U.ty.injEq,List.cons.injEq,and_true,true_and,and_self,List.map_cons,List.map_nil,List.length_cons,List.length_nil,List.cons_append,List.nil_append,List.append_nil,List.getElem?_cons_zero,List.getElem?_cons_succ,List.set_cons_zero,List.set_cons_succ,List.replicate,↓reduceIte,Bool.false_eq_true,Bool.not_true,Bool.not_false,reduceCtorEq,Nat.reduceAdd,Nat.reduceSub,Nat.reduceLeDiff,Nat.reduceEqDiff,decide_true,decide_false,at0,at1,at2,at3,at4,ix0,ix1,ix2,ix3,ix4,updM_same,beq_self_eq_true,Option.bind,Option.map,wipeU,NT.put,puts,MO.lst.injEq,exists_and_left,decide_eq_true_eq,Bool.and_eq_true,Bool.or_eq_true,exists_eq',Nat.zero_le,true_or,or_true,strs_ones]
      refine ⟨hlen, fun ys hs hm => ?_⟩
      have oky : ∀ y ∈ ys, okS y = true := fun y hy => ok y ((hm y).mp hy)
      simp only [z8i,uOr,z8d,z8m,uCB,z7t,z8l,uC,z8o,z7w,uOp,uUn,z8s,z8j,uIf,z8e,z7v,z7u,z7s,uBM,z8g,uSl,z4x,z8r,z72,z8q,z7x,List.append_nil,z8t,z80,z8y,z7z,z8u,z81,z8w,z8v,xIf,z74,z8x,z8p,z3t,z8n,z7m,z7q,z7o,z7p,z5w,z5v,z7a,z3l,z3m,z75,z5g,z8k,asD,uXf,z8f,z5n,z7y,z6e,z6d,z68,z67,z63,z5h,z5i,z5j,z3v,z3w,z6f,z64,z62,z5r,z6b,z7j,z7k,z7i,z7c,z7b,z7l,z7e,z5o,z2m,z2w,z2k,z2o,z2p,z2l,z2n,z5c,z73,z5a,z5e,z5f,z5b,z3g,z5d,z3e,z2q,z2r,z3i,z3k,z3j,z39,z3a,z37,z38,z4q,z6h,z4o,z4s,z4t,z4p,z3f,z4r,z4e,z4d,z3b,z2s,z3d,z3c,z0h,z0g,z0d,z0a,z0f,z0e,z1o,z1n,z0u,z0j,z0w,z0v,z2d,z2c,z1r,z10,z1t,z1s,z2f,z2e,z1w,z14,z1y,z1x,z16,z15,z0m,z0i,z0o,z0n,z1v,z1u,z11,z0l,z13,z12,z1q,z1p,z0x,z0k,z0z,z0y,z4i,z6g,z4g,z4j,z4k,z4h,z82,z88,z46,z5x,z44,z47,z48,z45,z2v,z2j,z40,z5q,z3y,z41,z42,z3z,z2u,z2i,z6y,z70,z6x,z71,z6z,z59,z56,z57,z58,z87,z86,z7r,z79,z7n,z7d,z5y,z76,z77,z6c,z69,z6a,z8b,z8c,z89,z8a,z85,z83,z84,z4v,z4u,z6i,z78,z5m,z5l,z5k,z6n,z6o,z6p,z6q,z6r,z6s,z6t,z6u,z6v,z6w,z50,z51,z52,z53,z54,z55,z4b,z4c,z49,z27,z26,z1e,z0r,z1g,z1f,z05,z04,z2h,z2g,z1z,z17,z21,z20,z0c,z0b,z23,z22,z18,z0p,z1a,z19,z01,z00,z29,z28,z1h,z0s,z1j,z1i,z07,z06,z2b,z2a,z1k,z0t,z1m,z1l,z09,z08,z25,z24,z1b,z0q,z1d,z1c,z03,z02,z6m,z8h,z4z,z6l,z6k,z4w,z4y,z3s,z6j,z3p,z4f,z3n,z3q,z3r,z3o,z5p,z2t,z3h,z4n,z4l,z4a,z66,z65,z4m,z60,z61,z5z,z32,z2x,z33,z2y,z34,z2z,z35,z30,z36,z31,z7h,z7g,z3u,z5u,z3x,z7f,z5t,z43,z5s,cle,clt,cge,cgt,ceq,cne,lenN,xFor,xTryM,uMix,uEnum,uZip,ltT,uSortK,sortK,sortN,uDNew,uDGet,inN,setN,uDNewS,uDGetS,inS,setS,uDm,uDm0,getR,popS,setdS,getNR,setdN,popNR,itemsR,lenS,dictS,sortItR,uFld,uFst,uMake,uLock,uLockE,uKeys,sortE,sortL,xOp,reprT_1,listN,mulT,gLst_l,gLst_r,sum_l,sum_r,min_ii,max_ii,sortSD,pop1S,dictN,uD1,updN,exists_eq_left',exists_eq_left,Option.some.injEq,U.int.injEq,U.bl.injEq,U.str.injEq,U.ref.injEq,U.tup.injEq,U.lst.injEq,U.ty.injEq,List.cons.injEq,and_true,true_and,and_self,List.map_cons,List.map_nil,List.length_cons,List.length_nil,List.cons_append,List.nil_append,List.append_nil,List.getElem?_cons_zero,List.getElem?_cons_succ,List.set_cons_zero,List.set_cons_succ,List.replicate,↓reduceIte,Bool.false_eq_true,Bool.not_true,Bool.not_false,reduceCtorEq,Nat.reduceAdd,Nat.reduceSub,Nat.reduceLeDiff,Nat.reduceEqDiff,decide_true,decide_false,at0,at1,at2,at3,at4,ix0,ix1,ix2,ix3,ix4,updM_same,beq_self_eq_true,Option.bind,Option.map,wipeU,NT.put,puts,MO.lst.injEq,exists_and_left,decide_eq_true_eq,Bool.and_eq_true,Bool.or_eq_true,exists_eq',Nat.zero_le,true_or,or_true,isDs_strs ok,isDs_strs oky,deps_strs]
      have eb : ueqs (zs.map .str) (ys.map .str) = ascL zs := by
        cases h : ascL zs with
        | true =>
          refine (ueqs_strs zs ys).mpr (asc_unique (of_decide_eq_true h) hs fun z => (hm z).symm)
        | false =>
          cases h2 : ueqs (zs.map .str) (ys.map .str) with
          | false => rfl
          | true =>
            have := (ueqs_strs zs ys).mp h2
            subst this
            rw [show ascL zs = true from decide_eq_true hs] at h
            cases h
      rw [eb]
      exact .inl q

/-! ### is_tree_of -/
def sndU : U → U
  | .tup [_, b] => b
  | _ => .non
/-- the pairs of one part of a tree -/
def partU : U → Bool
  | .tup ps => ps.all pairU && ascL (ps.map nameOf)
  | _ => false
/-- a tree of at most so many levels below -/
def treeN : Nat → U → Bool
  | l + 1, .tup [.tup ps, .tup cs] => partU (.tup ps) && partU (.tup cs) && ps.all (fun p => isValueU (sndU p)) && cs.all (fun c => treeN l (sndU c))
  | _, _ => false
theorem treeN_len {l : Nat} {xs : List U} (h : xs.length ≠ 2) : treeN l (.tup xs) = false := by
  cases l with
  | zero => unfold treeN; rfl
  | succ l =>
    match xs, h with
    | [], _ => rfl
    | [_], _ => simp [treeN]
    | _ :: _ :: _ :: _, _ => simp [treeN]
    | [_, _], h => exact absurd rfl h
theorem treeN_part {l : Nat} {a b : U} (h : (partU a && partU b) = false) : treeN (l + 1) (.tup [a, b]) = false := by
  cases a <;> cases b <;> simp only [treeN] <;> rw [h] <;> rfl
theorem part_is {x : U} (h : partU x = true) : ∃ ps, x = .tup ps ∧ ps.all pairU = true ∧ ascL (ps.map nameOf) = true := by
  cases x with
  | tup ps => exact ⟨ps, rfl, by simpa [partU] using h⟩
  | _ => simp [partU] at h
def sp_is_tree_of (l : Nat) : USp := fun us M Q _ => ∃ x, us = [x, .int ((l : Int) - 1)] ∧ isD x = true ∧ wid x ≤ 62 ∧ Q (.bl (treeN l x)) M
local macro_rules | `(tactic| walk_at "q3") => `(tactic| simp only [z8i,uOr,z8d,z8m,uCB,z7t,z8l,uC,z8o,z7w,uOp,uUn,z8s,z8j,uIf,z8e,z7v,z7u,z7s,uBM,z8g,uSl,z4x,z8r,z72,z8q,z7x,List.append_nil,z8t,z80,z8y,z7z,z8u,z81,z8w,z8v,xIf,z74,z8x,z8p,z3t,z8n,z7m,z7q,z7o,z7p,z5w,z5v,z7a,z3l,z3m,z75,z5g,z8k,asD,uXf,z8f,z5n,z7y,z6e,z6d,z68,z67,z63,z5h,z5i,z5j,z3v,z3w,z6f,z64,z62,z5r,z6b,z7j,z7k,z7i,z7c,z7b,z7l,z7e,z5o,z2m,z2w,z2k,z2o,z2p,z2l,z2n,z5c,z73,z5a,z5e,z5f,z5b,z3g,z5d,z3e,z2q,z2r,z3i,z3k,z3j,z39,z3a,z37,z38,z4q,z6h,z4o,z4s,z4t,z4p,z3f,z4r,z4e,z4d,z3b,z2s,z3d,z3c,z0h,z0g,z0d,z0a,z0f,z0e,z1o,z1n,z0u,z0j,z0w,z0v,z2d,z2c,z1r,z10,z1t,z1s,z2f,z2e,z1w,z14,z1y,z1x,z16,z15,z0m,z0i,z0o,z0n,z1v,z1u,z11,z0l,z13,z12,z1q,z1p,z0x,z0k,z0z,z0y,z4i,z6g,z4g,z4j,z4k,z4h,z82,z88,z46,z5x,z44,z47,z48,z45,z2v,z2j,z40,z5q,z3y,z41,z42,z3z,z2u,z2i,z6y,z70,z6x,z71,z6z,z59,z56,z57,z58,z87,z86,z7r,z79,z7n,z7d,z5y,z76,z77,z6c,z69,z6a,z8b,z8c,z89,z8a,z85,z83,z84,z4v,z4u,z6i,z78,z5m,z5l,z5k,z6n,z6o,z6p,z6q,z6r,z6s,z6t,z6u,z6v,z6w,z50,z51,z52,z53,z54,z55,z4b,z4c,z49,z27,z26,z1e,z0r,z1g,z1f,z05,z04,z2h,z2g,z1z,z17,z21,z20,z0c,z0b,z23,z22,z18,z0p,z1a,z19,z01,z00,z29,z28,z1h,z0s,z1j,z1i,z07,z06,z2b,z2a,z1k,z0t,z1m,z1l,z09,z08,z25,z24,z1b,z0q,z1d,z1c,z03,z02,z6m,z8h,z4z,z6l,z6k,z4w,z4y,z3s,z6j,z3p,z4f,z3n,z3q,z3r,z3o,z5p,z2t,z3h,z4n,z4l,z4a,z66,z65,z4m,z60,z61,z5z,z32,z2x,z33,z2y,z34,z2z,z35,z30,z36,z31,z7h,z7g,z3u,z5u,z3x,z7f,z5t,z43,z5s,cle,clt,cge,cgt,ceq,cne,lenN,xFor,xTryM,uMix,uEnum,uZip,ltT,uSortK,sortK,sortN,uDNew,uDGet,inN,setN,uDNewS,uDGetS,inS,setS,uDm,uDm0,getR,popS,setdS,getNR,setdN,popNR,itemsR,lenS,dictS,sortItR,uFld,uFst,uMake,uLock,uLockE,uKeys,sortE,sortL,xOp,reprT_1,listN,mulT,gLst_l,gLst_r,sum_l,sum_r,min_ii,max_ii,sortSD,pop1S,dictN,uD1,updN,exists_eq_left',exists_eq_left,Option.some.injEq,U.int.injEq,U.bl.injEq,U.str.injEq,U.ref.injEq,U.tup.injEq,U.lst.injEq,U.ty.injEq,List.cons.injEq,and_true,true_and,and_self,List.map_cons,List.map_nil,List.length_cons,List.length_nil,List.cons_append,List.nil_append,List.append_nil,List.getElem?_cons_zero,List.getElem?_cons_succ,List.set_cons_zero,List.set_cons_succ,List.replicate,↓reduceIte,Bool.false_eq_true,Bool.not_true,Bool.not_false,reduceCtorEq,Nat.reduceAdd,Nat.reduceSub,Nat.reduceLeDiff,Nat.reduceEqDiff,decide_true,decide_false,at0,at1,at2,at3,at4,ix0,ix1,ix2,ix3,ix4,updM_same,beq_self_eq_true,Option.bind,Option.map,wipeU,NT.put,puts,MO.lst.injEq,exists_and_left,decide_eq_true_eq,Bool.and_eq_true,Bool.or_eq_true,exists_eq',Nat.zero_le,true_or,or_true,allU_map])
theorem step_is_tree_of (L : Lw K mg) {k : Nat} {sp' : USp} (l : Nat) (G : UFn P w K mg base CX0 (5 + k) L.f_is_tree_of L.fd_is_tree_of ["value", "levels"] sp') (hsp : ∀ l', l = l' + 1 → sp' = sp_is_tree_of l') : UFn P w K mg base CX0 (5 + k + 1) L.f_is_tree_of L.fd_is_tree_of ["value", "levels"] (sp_is_tree_of l) := by
  refine ufn_ok L.D_is_tree_of.F sc_is_tree_of (fun us M Q E h => ?_) (fun cdv A outer s H E hr hG =>
      (uss_cons (us_if (PW.pt (uw_or (ut_cmp uo_lt (uv 1) ue_int (nomark _)) (uw_or (ut_not (ut_val (ue_callB uc_isi (by rfl) L.n_isinstance bt_isi (ua_cons (uv 0) (ua_cons (ue_bltn (by rfl) L.n_tuple bt_tuple) ua_nil))))) (uw_or1 (ut_cmp (uo_ne (hu6 hr)) (ue_callB uc_len (by rfl) L.n_len bt_len (ua_cons (uv 0) ua_nil)) ue_int (nomark _)))))) (uss_one (us_ret ue_bl)) uss_nil)
      (uss_cons (us_if (ut_not (ut_val (ue_callB (uc_all rfl) (by rfl) L.n_all bt_all (ua_cons (ue_lc (own := [("pairs", 3)]) (n := (.one 3)) false rfl sc_is_tree_of.nd (ui_any (uv 0)) (blkOk_by (own := [("pairs", 3)]) (N := ["value", "levels", "pair", "pairs"]) (sc := defScope s_is_tree_of) (by decide +kernel)) (by decide) (fun _ _ _ _ _ => (pg_nt sc_is_tree_of.nd rfl (.inl rfl))) (fun _ _ _ _ _ => uts_nil) (fun _ _ _ _ _ => (ue_and (ue_call (ok_are_named L) (hr.mono (by omega)) hG rfl L.D_are_named.g L.D_are_named.F.kp L.D_are_named.b .nil (fun _ => RelUs.nil) (ua_cons (uv 3) ua_nil)) (ue_one (ue_call (ok_is_ascending L) (hr.mono (by omega)) hG rfl L.D_is_ascending.g L.D_is_ascending.F.kp L.D_is_ascending.b .nil (fun _ => RelUs.nil) (ua_cons (uv 3) ua_nil)))))) ua_nil)))) (uss_one (us_ret ue_bl)) uss_nil)
      (uss_cons (us_if (ut_not (ut_val (ue_callB (uc_all rfl) (by rfl) L.n_all bt_all (ua_cons (ue_lc (own := [("pair", 2)]) (n := (.one 2)) false rfl sc_is_tree_of.nd (ui_any (ue_ix (uv 0) ue_int)) (blkOk_by (own := [("pair", 2)]) (N := ["value", "levels", "pair", "pairs"]) (sc := defScope s_is_tree_of) (by decide +kernel)) (by decide) (fun _ _ _ _ _ => (pg_nt sc_is_tree_of.nd rfl (.inl rfl))) (fun _ _ _ _ _ => uts_nil) (fun _ _ _ _ _ => (ue_call (ok_is_value L) (hr.mono (by omega)) hG rfl L.D_is_value.g L.D_is_value.F.kp L.D_is_value.b .nil (fun _ => RelUs.nil) (ua_cons (ue_ix (uv 2) ue_int) ua_nil)))) ua_nil)))) (uss_one (us_ret ue_bl)) uss_nil)
      (uss_one (us_ret (ue_callB (uc_all rfl) (by rfl) L.n_all bt_all (ua_cons (ue_lc (own := [("pair", 2)]) (n := (.one 2)) false rfl sc_is_tree_of.nd (ui_any (ue_ix (uv 0) ue_int)) (blkOk_by (own := [("pair", 2)]) (N := ["value", "levels", "pair", "pairs"]) (sc := defScope s_is_tree_of) (by decide +kernel)) (by decide) (fun _ _ _ _ _ => (pg_nt sc_is_tree_of.nd rfl (.inl rfl))) (fun _ _ _ _ _ => uts_nil) (fun _ _ _ _ _ => (ue_call G (hr.mono (by omega)) hG rfl L.D_is_tree_of.g L.D_is_tree_of.F.kp L.D_is_tree_of.b .nil (fun _ => RelUs.nil) (ua_cons (ue_ix (uv 2) ue_int) (ua_cons (ue_op uo_sub (uv 1) ue_int) ua_nil))))) ua_nil)))))))) (fun us M Q E h => ?_)
  · obtain ⟨x, rfl, _⟩ := h
    rfl
  · obtain ⟨x, rfl, hx, hw, q⟩ := h
    have q : ZQ Q (.bl (treeN l x)) M := .inl q
    cases l with
    | zero =>
      have h0 : (((0 : Nat) : Int) - 1 < 0) = True := eq_true (by decide)
      simp only [z8i,uOr,z8d,z8m,uCB,z7t,z8l,uC,z8o,z7w,uOp,uUn,z8s,z8j,uIf,z8e,z7v,z7u,z7s,uBM,z8g,uSl,z4x,z8r,z72,z8q,z7x,List.append_nil,z8t,z80,z8y,z7z,z8u,z81,z8w,z8v,xIf,z74,z8x,z8p,z3t,z8n,z7m,z7q,z7o,z7p,z5w,z5v,z7a,z3l,z3m,z75,z5g,z8k,asD,uXf,z8f,z5n,z7y,z6e,z6d,z68,z67,z63,z5h,z5i,z5j,z3v,z3w,z6f,z64,z62,z5r,z6b,z7j,z7k,z7i,z7c,z7b,z7l,z7e,z5o,z2m,z2w,z2k,z2o,z2p,z2l,z2n,z5c,z73,z5a,z5e,z5f,z5b,z3g,z5d,z3e,z2q,z2r,z3i,z3k,z3j,z39,z3a,z37,z38,z4q,z6h,z4o,z4s,z4t,z4p,z3f,z4r,z4e,z4d,z3b,z2s,z3d,z3c,z0h,z0g,z0d,z0a,z0f,z0e,z1o,z1n,z0u,z0j,z0w,z0v,z2d,z2c,z1r,z10,z1t,z1s,z2f,z2e,z1w,z14,z1y,z1x,z16,z15,z0m,z0i,z0o,z0n,z1v,z1u,z11,z0l,z13,z12,z1q,z1p,z0x,z0k,z0z,z0y,z4i,z6g,z4g,z4j,z4k,z4h,z82,z88,z46,z5x,z44,z47,z48,z45,z2v,z2j,z40,z5q,z3y,z41,z42,z3z,z2u,z2i,z6y,z70,z6x,z71,z6z,z59,z56,z57,z58,z87,z86,z7r,z79,z7n,z7d,z5y,z76,z77,z6c,z69,z6a,z8b,z8c,z89,z8a,z85,z83,z84,z4v,z4u,z6i,z78,z5m,z5l,z5k,z6n,z6o,z6p,z6q,z6r,z6s,z6t,z6u,z6v,z6w,z50,z51,z52,z53,z54,z55,z4b,z4c,z49,z27,z26,z1e,z0r,z1g,z1f,z05,z04,z2h,z2g,z1z,z17,z21,z20,z0c,z0b,z23,z22,z18,z0p,z1a,z19,z01,z00,z29,z28,z1h,z0s,z1j,z1i,z07,z06,z2b,z2a,z1k,z0t,z1m,z1l,z09,z08,z25,z24,z1b,z0q,z1d,z1c,z03,z02,z6m,z8h,z4z,z6l,z6k,z4w,z4y,z3s,z6j,z3p,z4f,z3n,z3q,z3r,z3o,z5p,z2t,z3h,z4n,z4l,z4a,z66,z65,z4m,z60,z61,z5z,z32,z2x,z33,z2y,z34,z2z,z35,z30,z36,z31,z7h,z7g,z3u,z5u,z3x,z7f,z5t,z43,z5s,cle,clt,cge,cgt,ceq,cne,lenN,xFor,xTryM,uMix,uEnum,uZip,ltT,uSortK,sortK,sortN,uDNew,uDGet,inN,setN,uDNewS,uDGetS,inS,setS,uDm,uDm0,getR,popS,setdS,getNR,setdN,popNR,itemsR,lenS,dictS,sortItR,uFld,uFst,uMake,uLock,uLockE,uKeys,sortE,sortL,xOp,reprT_1,listN,mulT,gLst_l,gLst_r,sum_l,sum_r,min_ii,max_ii,sortSD,pop1S,dictN,uD1,updN,exists_eq_left',exists_eq_left,Option.some.injEq,U.int.injEq,U.bl.injEq,U.str.injEq,U.ref.injEq,U.tup.injEq,U.lst.injEq,U.ty.injEq,List.cons.injEq,and_true,true_and,and_self,List.map_cons,List.map_nil,List.length_cons,List.length_nil,List.cons_append,List.nil_append,List.append_nil,List.getElem?_cons_zero,List.getElem?_cons_succ,List.set_cons_zero,List.set_cons_succ,List.replicate,↓reduceIte,Bool.false_eq_true,Bool.not_true,Bool.not_false,reduceCtorEq,Nat.reduceAdd,Nat.reduceSub,Nat.reduceLeDiff,Nat.reduceEqDiff,decide_true,decide_false,at0,at1,at2,at3,at4,ix0,ix1,ix2,ix3,ix4,updM_same,beq_self_eq_true,Option.bind,Option.map,wipeU,NT.put,puts,MO.lst.injEq,exists_and_left,decide_eq_true_eq,Bool.and_eq_true,Bool.or_eq_true,exists_eq',Nat.zero_le,true_or,or_true,h0,treeN] at q ⊢
      exact q
    | succ l =>
      obtain rfl := hsp l rfl
      have h0 : ((((l + 1 : Nat) : Int)) - 1 < 0) = False := eq_false (by omega)
      have h1 : (((l + 1 : Nat) : Int)) - 1 - 1 = (l : Int) - 1 := by omega
      cases x with
      | tup xs =>
        have hxs := isDs_iff.mp (by simpa [isD] using hx)
        by_cases h2 : xs.length = 2
        · match xs, h2 with
          | [a, b], _ =>
            have ha : isD a = true := hxs a (by simp)
            have hb : isD b = true := hxs b (by simp)
            have hwab : wid a ≤ 62 ∧ wid b ≤ 62 := by simp only [wid,wids] at hw; omega
            simp only [uLc,z8i,uOr,z8d,z8m,uCB,z7t,z8l,uC,z8o,z7w,uOp,uUn,z8s,z8j,uIf,z8e,z7v,z7u,z7s,uBM,z8g,uSl,z4x,z8r,z72,z8q,z7x,List.append_nil,z8t,z80,z8y,z7z,z8u,z81,z8w,z8v,xIf,z74,z8x,z8p,z3t,z8n,z7m,z7q,z7o,z7p,z5w,z5v,z7a,z3l,z3m,z75,z5g,z8k,asD,uXf,z8f,z5n,z7y,z6e,z6d,z68,z67,z63,z5h,z5i,z5j,z3v,z3w,z6f,z64,z62,z5r,z6b,z7j,z7k,z7i,z7c,z7b,z7l,z7e,z5o,z2m,z2w,z2k,z2o,z2p,z2l,z2n,z5c,z73,z5a,z5e,z5f,z5b,z3g,z5d,z3e,z2q,z2r,z3i,z3k,z3j,z39,z3a,z37,z38,z4q,z6h,z4o,z4s,z4t,z4p,z3f,z4r,z4e,z4d,z3b,z2s,z3d,z3c,z0h,z0g,z0d,z0a,z0f,z0e,z1o,z1n,z0u,z0j,z0w,z0v,z2d,z2c,z1r,z10,z1t,z1s,z2f,z2e,z1w,z14,z1y,z1x,z16,z15,z0m,z0i,z0o,z0n,z1v,z1u,z11,z0l,z13,z12,z1q,z1p,z0x,z0k,z0z,z0y,z4i,z6g,z4g,z4j,z4k,z4h,z82,z88,z46,z5x,z44,z47,z48,z45,z2v,z2j,z40,z5q,z3y,z41,z42,z3z,z2u,z2i,z6y,z70,z6x,z71,z6z,z59,z56,z57,z58,z87,z86,z7r,z79,z7n,z7d,z5y,z76,z77,z6c,z69,z6a,z8b,z8c,z89,z8a,z85,z83,z84,z4v,z4u,z6i,z78,z5m,z5l,z5k,z6n,z6o,z6p,z6q,z6r,z6s,z6t,z6u,z6v,z6w,z50,z51,z52,z53,z54,z55,z4b,z4c,z49,z27,z26,z1e,z0r,z1g,z1f,z05,z04,z2h,z2g,z1z,z17,z21,z20,z0c,z0b,z23,z22,z18,z0p,z1a,z19,z01,z00,z29,z28,z1h,z0s,z1j,z1i,z07,z06,z2b,z2a,z1k,z0t,z1m,z1l,z09,z08,z25,z24,z1b,z0q,z1d,z1c,z03,z02,z6m,z8h,z4z,z6l,z6k,z4w,z4y,z3s,z6j,z3p,z4f,z3n,z3q,z3r,z3o,z5p,z2t,z3h,z4n,z4l,z4a,z66,z65,z4m,z60,z61,z5z,z32,z2x,z33,z2y,z34,z2z,z35,z30,z36,z31,z7h,z7g,z3u,z5u,z3x,z7f,z5t,z43,z5s,cle,clt,cge,cgt,ceq,cne,lenN,xFor,xTryM,uMix,uEnum,uZip,ltT,uSortK,sortK,sortN,uDNew,uDGet,inN,setN,uDNewS,uDGetS,inS,setS,uDm,uDm0,getR,popS,setdS,getNR,setdN,popNR,itemsR,lenS,dictS,sortItR,uFld,uFst,uMake,uLock,uLockE,uKeys,sortE,sortL,xOp,reprT_1,listN,mulT,gLst_l,gLst_r,sum_l,sum_r,min_ii,max_ii,sortSD,pop1S,dictN,uD1,updN,exists_eq_left',exists_eq_left,Option.some.injEq,U.int.injEq,U.bl.injEq,U.str.injEq,U.ref.injEq,U.tup.injEq,U.lst.injEq,U.ty.injEq,List.cons.injEq,and_true,true_and,and_self,List.map_cons,List.map_nil,List.length_cons,List.length_nil,List.cons_append,List.nil_append,List.append_nil,List.getElem?_cons_zero,List.getElem?_cons_succ,List.set_cons_zero,List.set_cons_succ,List.replicate,↓reduceIte,Bool.false_eq_true,Bool.not_true,Bool.not_false,reduceCtorEq,Nat.reduceAdd,Nat.reduceSub,Nat.reduceLeDiff,Nat.reduceEqDiff,decide_true,decide_false,at0,at1,at2,at3,at4,ix0,ix1,ix2,ix3,ix4,updM_same,beq_self_eq_true,Option.bind,Option.map,wipeU,NT.put,puts,MO.lst.injEq,exists_and_left,decide_eq_true_eq,Bool.and_eq_true,Bool.or_eq_true,exists_eq',Nat.zero_le,true_or,or_true,h0]
            refine lc_map (fun x => .bl (partU x)) (fun _ _ _ => True.intro) (fun D acc hD x hx => ⟨_, rfl, fun Q q => ?_⟩) ?_
            · have dx : isD x = true ∧ wid x ≤ 62 := by
                simp only [List.mem_cons,List.not_mem_nil,or_false] at hx
                rcases hx with rfl | rfl
                · exact ⟨ha, hwab.1⟩
                · exact ⟨hb, hwab.2⟩
              simp only [z8i,uOr,z8d,z8m,uCB,z7t,z8l,uC,z8o,z7w,uOp,uUn,z8s,z8j,uIf,z8e,z7v,z7u,z7s,uBM,z8g,uSl,z4x,z8r,z72,z8q,z7x,List.append_nil,z8t,z80,z8y,z7z,z8u,z81,z8w,z8v,xIf,z74,z8x,z8p,z3t,z8n,z7m,z7q,z7o,z7p,z5w,z5v,z7a,z3l,z3m,z75,z5g,z8k,asD,uXf,z8f,z5n,z7y,z6e,z6d,z68,z67,z63,z5h,z5i,z5j,z3v,z3w,z6f,z64,z62,z5r,z6b,z7j,z7k,z7i,z7c,z7b,z7l,z7e,z5o,z2m,z2w,z2k,z2o,z2p,z2l,z2n,z5c,z73,z5a,z5e,z5f,z5b,z3g,z5d,z3e,z2q,z2r,z3i,z3k,z3j,z39,z3a,z37,z38,z4q,z6h,z4o,z4s,z4t,z4p,z3f,z4r,z4e,z4d,z3b,z2s,z3d,z3c,z0h,z0g,z0d,z0a,z0f,z0e,z1o,z1n,z0u,z0j,z0w,z0v,z2d,z2c,z1r,z10,z1t,z1s,z2f,z2e,z1w,z14,z1y,z1x,z16,z15,z0m,z0i,z0o,z0n,z1v,z1u,z11,z0l,z13,z12,z1q,z1p,z0x,z0k,z0z,z0y,z4i,z6g,z4g,z4j,z4k,z4h,z82,z88,z46,z5x,z44,z47,z48,z45,z2v,z2j,z40,z5q,z3y,z41,z42,z3z,z2u,z2i,z6y,z70,z6x,z71,z6z,z59,z56,z57,z58,z87,z86,z7r,z79,z7n,z7d,z5y,z76,z77,z6c,z69,z6a,z8b,z8c,z89,z8a,z85,z83,z84,z4v,z4u,z6i,z78,z5m,z5l,z5k,z6n,z6o,z6p,z6q,z6r,z6s,z6t,z6u,z6v,z6w,z50,z51,z52,z53,z54,z55,z4b,z4c,z49,z27,z26,z1e,z0r,z1g,z1f,z05,z04,z2h,z2g,z1z,z17,z21,z20,z0c,z0b,z23,z22,z18,z0p,z1a,z19,z01,z00,z29,z28,z1h,z0s,z1j,z1i,z07,z06,z2b,z2a,z1k,z0t,z1m,z1l,z09,z08,z25,z24,z1b,z0q,z1d,z1c,z03,z02,z6m,z8h,z4z,z6l,z6k,z4w,z4y,z3s,z6j,z3p,z4f,z3n,z3q,z3r,z3o,z5p,z2t,z3h,z4n,z4l,z4a,z66,z65,z4m,z60,z61,z5z,z32,z2x,z33,z2y,z34,z2z,z35,z30,z36,z31,z7h,z7g,z3u,z5u,z3x,z7f,z5t,z43,z5s,cle,clt,cge,cgt,ceq,cne,lenN,xFor,xTryM,uMix,uEnum,uZip,ltT,uSortK,sortK,sortN,uDNew,uDGet,inN,setN,uDNewS,uDGetS,inS,setS,uDm,uDm0,getR,popS,setdS,getNR,setdN,popNR,itemsR,lenS,dictS,sortItR,uFld,uFst,uMake,uLock,uLockE,uKeys,sortE,sortL,xOp,reprT_1,listN,mulT,gLst_l,gLst_r,sum_l,sum_r,min_ii,max_ii,sortSD,pop1S,dictN,uD1,updN,exists_eq_left',exists_eq_left,Option.some.injEq,U.int.injEq,U.bl.injEq,U.str.injEq,U.ref.injEq,U.tup.injEq,U.lst.injEq,U.ty.injEq,List.cons.injEq,and_true,true_and,and_self,List.map_cons,List.map_nil,List.length_cons,List.length_nil,List.cons_append,List.nil_append,List.append_nil,List.getElem?_cons_zero,List.getElem?_cons_succ,List.set_cons_zero,List.set_cons_succ,List.replicate,↓reduceIte,Bool.false_eq_true,Bool.not_true,Bool.not_false,reduceCtorEq,Nat.reduceAdd,Nat.reduceSub,Nat.reduceLeDiff,Nat.reduceEqDiff,decide_true,decide_false,at0,at1,at2,at3,at4,ix0,ix1,ix2,ix3,ix4,updM_same,beq_self_eq_true,Option.bind,Option.map,wipeU,NT.put,puts,MO.lst.injEq,exists_and_left,decide_eq_true_eq,Bool.and_eq_true,Bool.or_eq_true,exists_eq',Nat.zero_le,true_or,or_true,sp_are_named,sp_is_ascending]
              refine ⟨dx.1, ?_⟩
              cases hn : namedU x with
              | false =>
                have e : partU x = false := by
                  cases x with
                  | tup ps => simp only [namedU] at hn; simp only [partU,hn,Bool.false_and]
                  | _ => rfl
                rw [e] at q
                simp only [z8i,uOr,z8d,z8m,uCB,z7t,z8l,uC,z8o,z7w,uOp,uUn,z8s,z8j,uIf,z8e,z7v,z7u,z7s,uBM,z8g,uSl,z4x,z8r,z72,z8q,z7x,List.append_nil,z8t,z80,z8y,z7z,z8u,z81,z8w,z8v,xIf,z74,z8x,z8p,z3t,z8n,z7m,z7q,z7o,z7p,z5w,z5v,z7a,z3l,z3m,z75,z5g,z8k,asD,uXf,z8f,z5n,z7y,z6e,z6d,z68,z67,z63,z5h,z5i,z5j,z3v,z3w,z6f,z64,z62,z5r,z6b,z7j,z7k,z7i,z7c,z7b,z7l,z7e,z5o,z2m,z2w,z2k,z2o,z2p,z2l,z2n,z5c,z73,z5a,z5e,z5f,z5b,z3g,z5d,z3e,z2q,z2r,z3i,z3k,z3j,z39,z3a,z37,z38,z4q,z6h,z4o,z4s,z4t,z4p,z3f,z4r,z4e,z4d,z3b,z2s,z3d,z3c,z0h,z0g,z0d,z0a,z0f,z0e,z1o,z1n,z0u,z0j,z0w,z0v,z2d,z2c,z1r,z10,z1t,z1s,z2f,z2e,z1w,z14,z1y,z1x,z16,z15,z0m,z0i,z0o,z0n,z1v,z1u,z11,z0l,z13,z12,z1q,z1p,z0x,z0k,z0z,z0y,z4i,z6g,z4g,z4j,z4k,z4h,z82,z88,z46,z5x,z44,z47,z48,z45,z2v,z2j,z40,z5q,z3y,z41,z42,z3z,z2u,z2i,z6y,z70,z6x,z71,z6z,z59,z56,z57,z58,z87,z86,z7r,z79,z7n,z7d,z5y,z76,z77,z6c,z69,z6a,z8b,z8c,z89,z8a,z85,z83,z84,z4v,z4u,z6i,z78,z5m,z5l,z5k,z6n,z6o,z6p,z6q,z6r,z6s,z6t,z6u,z6v,z6w,z50,z51,z52,z53,z54,z55,z4b,z4c,z49,z27,z26,z1e,z0r,z1g,z1f,z05,z04,z2h,z2g,z1z,z17,z21,z20,z0c,z0b,z23,z22,z18,z0p,z1a,z19,z01,z00,z29,z28,z1h,z0s,z1j,z1i,z07,z06,z2b,z2a,z1k,z0t,z1m,z1l,z09,z08,z25,z24,z1b,z0q,z1d,z1c,z03,z02,z6m,z8h,z4z,z6l,z6k,z4w,z4y,z3s,z6j,z3p,z4f,z3n,z3q,z3r,z3o,z5p,z2t,z3h,z4n,z4l,z4a,z66,z65,z4m,z60,z61,z5z,z32,z2x,z33,z2y,z34,z2z,z35,z30,z36,z31,z7h,z7g,z3u,z5u,z3x,z7f,z5t,z43,z5s,cle,clt,cge,cgt,ceq,cne,lenN,xFor,xTryM,uMix,uEnum,uZip,ltT,uSortK,sortK,sortN,uDNew,uDGet,inN,setN,uDNewS,uDGetS,inS,setS,uDm,uDm0,getR,popS,setdS,getNR,setdN,popNR,itemsR,lenS,dictS,sortItR,uFld,uFst,uMake,uLock,uLockE,uKeys,sortE,sortL,xOp,reprT_1,listN,mulT,gLst_l,gLst_r,sum_l,sum_r,min_ii,max_ii,sortSD,pop1S,dictN,uD1,updN,exists_eq_left',exists_eq_left,Option.some.injEq,U.int.injEq,U.bl.injEq,U.str.injEq,U.ref.injEq,U.tup.injEq,U.lst.injEq,U.ty.injEq,List.cons.injEq,and_true,true_and,and_self,List.map_cons,List.map_nil,List.length_cons,List.length_nil,List.cons_append,List.nil_append,List.append_nil,List.getElem?_cons_zero,List.getElem?_cons_succ,List.set_cons_zero,List.set_cons_succ,List.replicate,↓reduceIte,Bool.false_eq_true,Bool.not_true,Bool.not_false,reduceCtorEq,Nat.reduceAdd,Nat.reduceSub,Nat.reduceLeDiff,Nat.reduceEqDiff,decide_true,decide_false,at0,at1,at2,at3,at4,ix0,ix1,ix2,ix3,ix4,updM_same,beq_self_eq_true,Option.bind,Option.map,wipeU,NT.put,puts,MO.lst.injEq,exists_and_left,decide_eq_true_eq,Bool.and_eq_true,Bool.or_eq_true,exists_eq',Nat.zero_le,true_or,or_true] at q ⊢
                exact q
              | true =>
                cases x with
                | tup ps =>
                  simp only [namedU] at hn
                  simp only [partU,hn,Bool.true_and] at q
                  have dl : ps.length ≤ 62 := by have := dx.2; simp only [wid] at this; omega
                  walk_at "q0"
                  exact ⟨by simpa [isD] using dx.1, hn, dl, q⟩
                | _ => simp [namedU] at hn
            · walk_at "q3"
              simp only [z8i,uOr,z8d,z8m,uCB,z7t,z8l,uC,z8o,z7w,uOp,uUn,z8s,z8j,uIf,z8e,z7v,z7u,z7s,uBM,z8g,uSl,z4x,z8r,z72,z8q,z7x,List.append_nil,z8t,z80,z8y,z7z,z8u,z81,z8w,z8v,xIf,z74,z8x,z8p,z3t,z8n,z7m,z7q,z7o,z7p,z5w,z5v,z7a,z3l,z3m,z75,z5g,z8k,asD,uXf,z8f,z5n,z7y,z6e,z6d,z68,z67,z63,z5h,z5i,z5j,z3v,z3w,z6f,z64,z62,z5r,z6b,z7j,z7k,z7i,z7c,z7b,z7l,z7e,z5o,z2m,z2w,z2k,z2o,z2p,z2l,z2n,z5c,z73,z5a,z5e,z5f,z5b,z3g,z5d,z3e,z2q,z2r,z3i,z3k,z3j,z39,z3a,z37,z38,z4q,z6h,z4o,z4s,z4t,z4p,z3f,z4r,z4e,z4d,z3b,z2s,z3d,z3c,z0h,z0g,z0d,z0a,z0f,z0e,z1o,z1n,z0u,z0j,z0w,z0v,z2d,z2c,z1r,z10,z1t,z1s,z2f,z2e,z1w,z14,z1y,z1x,z16,z15,z0m,z0i,z0o,z0n,z1v,z1u,z11,z0l,z13,z12,z1q,z1p,z0x,z0k,z0z,z0y,z4i,z6g,z4g,z4j,z4k,z4h,z82,z88,z46,z5x,z44,z47,z48,z45,z2v,z2j,z40,z5q,z3y,z41,z42,z3z,z2u,z2i,z6y,z70,z6x,z71,z6z,z59,z56,z57,z58,z87,z86,z7r,z79,z7n,z7d,z5y,z76,z77,z6c,z69,z6a,z8b,z8c,z89,z8a,z85,z83,z84,z4v,z4u,z6i,z78,z5m,z5l,z5k,z6n,z6o,z6p,z6q,z6r,z6s,z6t,z6u,z6v,z6w,z50,z51,z52,z53,z54,z55,z4b,z4c,z49,z27,z26,z1e,z0r,z1g,z1f,z05,z04,z2h,z2g,z1z,z17,z21,z20,z0c,z0b,z23,z22,z18,z0p,z1a,z19,z01,z00,z29,z28,z1h,z0s,z1j,z1i,z07,z06,z2b,z2a,z1k,z0t,z1m,z1l,z09,z08,z25,z24,z1b,z0q,z1d,z1c,z03,z02,z6m,z8h,z4z,z6l,z6k,z4w,z4y,z3s,z6j,z3p,z4f,z3n,z3q,z3r,z3o,z5p,z2t,z3h,z4n,z4l,z4a,z66,z65,z4m,z60,z61,z5z,z32,z2x,z33,z2y,z34,z2z,z35,z30,z36,z31,z7h,z7g,z3u,z5u,z3x,z7f,z5t,z43,z5s,cle,clt,cge,cgt,ceq,cne,lenN,xFor,xTryM,uMix,uEnum,uZip,ltT,uSortK,sortK,sortN,uDNew,uDGet,inN,setN,uDNewS,uDGetS,inS,setS,uDm,uDm0,getR,popS,setdS,getNR,setdN,popNR,itemsR,lenS,dictS,sortItR,uFld,uFst,uMake,uLock,uLockE,uKeys,sortE,sortL,xOp,reprT_1,listN,mulT,gLst_l,gLst_r,sum_l,sum_r,min_ii,max_ii,sortSD,pop1S,dictN,uD1,updN,exists_eq_left',exists_eq_left,Option.some.injEq,U.int.injEq,U.bl.injEq,U.str.injEq,U.ref.injEq,U.tup.injEq,U.lst.injEq,U.ty.injEq,List.cons.injEq,and_true,true_and,and_self,List.map_cons,List.map_nil,List.length_cons,List.length_nil,List.cons_append,List.nil_append,List.append_nil,List.getElem?_cons_zero,List.getElem?_cons_succ,List.set_cons_zero,List.set_cons_succ,List.replicate,↓reduceIte,Bool.false_eq_true,Bool.not_true,Bool.not_false,reduceCtorEq,Nat.reduceAdd,Nat.reduceSub,Nat.reduceLeDiff,Nat.reduceEqDiff,decide_true,decide_false,at0,at1,at2,at3,at4,ix0,ix1,ix2,ix3,ix4,updM_same,beq_self_eq_true,Option.bind,Option.map,wipeU,NT.put,puts,MO.lst.injEq,exists_and_left,decide_eq_true_eq,Bool.and_eq_true,Bool.or_eq_true,exists_eq',Nat.zero_le,true_or,or_true,List.map_cons,List.map_nil,allU,Option.map_some,Bool.and_true]
              cases hp : (partU a && partU b) with
              | false =>
                rw [treeN_part hp] at q
                walk_at "q0"
                exact q
              | true =>
                rw [Bool.and_eq_true] at hp
                obtain ⟨ps, rfl, p1, p2⟩ := part_is hp.1
                obtain ⟨cs, rfl, c1, c2⟩ := part_is hp.2
                have dps := isDs_iff.mp (by simpa [isD] using ha : isDs ps = true)
                have dcs := isDs_iff.mp (by simpa [isD] using hb : isDs cs = true)
                have wcs : ∀ c ∈ cs, wid c ≤ 62 := by have := hwab.2; simp only [wid] at this; exact wids_le.mp (by omega)
                simp only [treeN,hp.1,hp.2,Bool.true_and] at q
                walk_at "q2"
                refine lc_map (fun x => .bl (isValueU (sndU x))) (fun _ _ _ => True.intro) (fun D acc hD x hx => ⟨_, rfl, fun Q q => ?_⟩) ?_
                · have dx := dps x hx
                  obtain ⟨z, b, rfl, _⟩ := pair_is (List.all_eq_true.mp p1 x hx)
                  simp only [isD,isDs,Bool.and_eq_true] at dx
                  simp only [z8i,uOr,z8d,z8m,uCB,z7t,z8l,uC,z8o,z7w,uOp,uUn,z8s,z8j,uIf,z8e,z7v,z7u,z7s,uBM,z8g,uSl,z4x,z8r,z72,z8q,z7x,List.append_nil,z8t,z80,z8y,z7z,z8u,z81,z8w,z8v,xIf,z74,z8x,z8p,z3t,z8n,z7m,z7q,z7o,z7p,z5w,z5v,z7a,z3l,z3m,z75,z5g,z8k,asD,uXf,z8f,z5n,z7y,z6e,z6d,z68,z67,z63,z5h,z5i,z5j,z3v,z3w,z6f,z64,z62,z5r,z6b,z7j,z7k,z7i,z7c,z7b,z7l,z7e,z5o,z2m,z2w,z2k,z2o,z2p,z2l,z2n,z5c,z73,z5a,z5e,z5f,z5b,z3g,z5d,z3e,z2q,z2r,z3i,z3k,z3j,z39,z3a,z37,z38,z4q,z6h,z4o,z4s,z4t,z4p,z3f,z4r,z4e,z4d,z3b,z2s,z3d,z3c,z0h,z0g,z0d,z0a,z0f,z0e,z1o,z1n,z0u,z0j,z0w,z0v,z2d,z2c,z1r,z10,z1t,z1s,z2f,z2e,z1w,z14,z1y,z1x,z16,z15,z0m,z0i,z0o,z0n,z1v,z1u,z11,z0l,z13,z12,z1q,z1p,z0x,z0k,z0z,z0y,z4i,z6g,z4g,z4j,z4k,z4h,z82,z88,z46,z5x,z44,z47,z48,z45,z2v,z2j,z40,z5q,z3y,z41,z42,z3z,z2u,z2i,z6y,z70,z6x,z71,z6z,z59,z56,z57,z58,z87,z86,z7r,z79,z7n,z7d,z5y,z76,z77,z6c,z69,z6a,z8b,z8c,z89,z8a,z85,z83,z84,z4v,z4u,z6i,z78,z5m,z5l,z5k,z6n,z6o,z6p,z6q,z6r,z6s,z6t,z6u,z6v,z6w,z50,z51,z52,z53,z54,z55,z4b,z4c,z49,z27,z26,z1e,z0r,z1g,z1f,z05,z04,z2h,z2g,z1z,z17,z21,z20,z0c,z0b,z23,z22,z18,z0p,z1a,z19,z01,z00,z29,z28,z1h,z0s,z1j,z1i,z07,z06,z2b,z2a,z1k,z0t,z1m,z1l,z09,z08,z25,z24,z1b,z0q,z1d,z1c,z03,z02,z6m,z8h,z4z,z6l,z6k,z4w,z4y,z3s,z6j,z3p,z4f,z3n,z3q,z3r,z3o,z5p,z2t,z3h,z4n,z4l,z4a,z66,z65,z4m,z60,z61,z5z,z32,z2x,z33,z2y,z34,z2z,z35,z30,z36,z31,z7h,z7g,z3u,z5u,z3x,z7f,z5t,z43,z5s,cle,clt,cge,cgt,ceq,cne,lenN,xFor,xTryM,uMix,uEnum,uZip,ltT,uSortK,sortK,sortN,uDNew,uDGet,inN,setN,uDNewS,uDGetS,inS,setS,uDm,uDm0,getR,popS,setdS,getNR,setdN,popNR,itemsR,lenS,dictS,sortItR,uFld,uFst,uMake,uLock,uLockE,uKeys,sortE,sortL,xOp,reprT_1,listN,mulT,gLst_l,gLst_r,sum_l,sum_r,min_ii,max_ii,sortSD,pop1S,dictN,uD1,updN,exists_eq_left',exists_eq_left,Option.some.injEq,U.int.injEq,U.bl.injEq,U.str.injEq,U.ref.injEq,U.tup.injEq,U.lst.injEq,U.ty.injEq,List.cons.injEq,and_true,true_and,and_self,List.map_cons,List.map_nil,List.length_cons,List.length_nil,List.cons_append,List.nil_append,List.append_nil,List.getElem?_cons_zero,List.getElem?_cons_succ,List.set_cons_zero,List.set_cons_succ,List.replicate,↓reduceIte,Bool.false_eq_true,Bool.not_true,Bool.not_false,reduceCtorEq,Nat.reduceAdd,Nat.reduceSub,Nat.reduceLeDiff,Nat.reduceEqDiff,decide_true,decide_false,at0,at1,at2,at3,at4,ix0,ix1,ix2,ix3,ix4,updM_same,beq_self_eq_true,Option.bind,Option.map,wipeU,NT.put,puts,MO.lst.injEq,exists_and_left,decide_eq_true_eq,Bool.and_eq_true,Bool.or_eq_true,exists_eq',Nat.zero_le,true_or,or_true,sp_is_value,sndU] at q ⊢
                  exact ⟨dx.2.1, q⟩
                · walk_at "q3"
                  cases hv : ps.all (fun p => isValueU (sndU p)) with
                  | false =>
                    simp only [hv,Bool.false_and] at q
                    walk_at "q0"
                    exact q
                  | true =>
                    simp only [hv,Bool.true_and] at q
                    walk_at "q2"
                    refine lc_map (fun x => .bl (treeN l (sndU x))) (fun _ _ _ => True.intro) (fun D acc hD x hx => ⟨_, rfl, fun Q q => ?_⟩) ?_
                    · have dx := dcs x hx
                      have wx := wcs x hx
                      obtain ⟨z, b, rfl, _⟩ := pair_is (List.all_eq_true.mp c1 x hx)
                      simp only [isD,isDs,Bool.and_eq_true] at dx
                      simp only [wid,wids] at wx
                      simp only [z8i,uOr,z8d,z8m,uCB,z7t,z8l,uC,z8o,z7w,uOp,uUn,z8s,z8j,uIf,z8e,z7v,z7u,z7s,uBM,z8g,uSl,z4x,z8r,z72,z8q,z7x,List.append_nil,z8t,z80,z8y,z7z,z8u,z81,z8w,z8v,xIf,z74,z8x,z8p,z3t,z8n,z7m,z7q,z7o,z7p,z5w,z5v,z7a,z3l,z3m,z75,z5g,z8k,asD,uXf,z8f,z5n,z7y,z6e,z6d,z68,z67,z63,z5h,z5i,z5j,z3v,z3w,z6f,z64,z62,z5r,z6b,z7j,z7k,z7i,z7c,z7b,z7l,z7e,z5o,z2m,z2w,z2k,z2o,z2p,z2l,z2n,z5c,z73,z5a,z5e,z5f,z5b,z3g,z5d,z3e,z2q,z2r,z3i,z3k,z3j,z39,z3a,z37,z38,z4q,z6h,z4o,z4s,z4t,z4p,z3f,z4r,z4e,z4d,z3b,z2s,z3d,z3c,z0h,z0g,z0d,z0a,z0f,z0e,z1o,z1n,z0u,z0j,z0w,z0v,z2d,z2c,z1r,z10,z1t,z1s,z2f,z2e,z1w,z14,z1y,z1x,z16,z15,z0m,z0i,z0o,z0n,z1v,z1u,z11,z0l,z13,z12,z1q,z1p,z0x,z0k,z0z,z0y,z4i,z6g,z4g,z4j,z4k,z4h,z82,z88,z46,z5x,z44,z47,z48,z45,z2v,z2j,z40,z5q,z3y,z41,z42,z3z,z2u,z2i,z6y,z70,z6x,z71,z6z,z59,z56,z57,z58,z87,z86,z7r,z79,z7n,z7d,z5y,z76,z77,z6c,z69,z6a,z8b,z8c,z89,z8a,z85,z83,z84,z4v,z4u,z6i,z78,z5m,z5l,z5k,z6n,z6o,z6p,z6q,z6r,z6s,z6t,z6u,z6v,z6w,z50,z51,z52,z53,z54,z55,z4b,z4c,z49,z27,z26,z1e,z0r,z1g,z1f,z05,z04,z2h,z2g,z1z,z17,z21,z20,z0c,z0b,z23,z22,z18,z0p,z1a,z19,z01,z00,z29,z28,z1h,z0s,z1j,z1i,z07,z06,z2b,z2a,z1k,z0t,z1m,z1l,z09,z08,z25,z24,z1b,z0q,z1d,z1c,z03,z02,z6m,z8h,z4z,z6l,z6k,z4w,z4y,z3s,z6j,z3p,z4f,z3n,z3q,z3r,z3o,z5p,z2t,z3h,z4n,z4l,z4a,z66,z65,z4m,z60,z61,z5z,z32,z2x,z33,z2y,z34,z2z,z35,z30,z36,z31,z7h,z7g,z3u,z5u,z3x,z7f,z5t,z43,z5s,cle,clt,cge,cgt,ceq,cne,lenN,xFor,xTryM,uMix,uEnum,uZip,ltT,uSortK,sortK,sortN,uDNew,uDGet,inN,setN,uDNewS,uDGetS,inS,setS,uDm,uDm0,getR,popS,setdS,getNR,setdN,popNR,itemsR,lenS,dictS,sortItR,uFld,uFst,uMake,uLock,uLockE,uKeys,sortE,sortL,xOp,reprT_1,listN,mulT,gLst_l,gLst_r,sum_l,sum_r,min_ii,max_ii,sortSD,pop1S,dictN,uD1,updN,exists_eq_left',exists_eq_left,Option.some.injEq,U.int.injEq,U.bl.injEq,U.str.injEq,U.ref.injEq,U.tup.injEq,U.lst.injEq,U.ty.injEq,List.cons.injEq,and_true,true_and,and_self,List.map_cons,List.map_nil,List.length_cons,List.length_nil,List.cons_append,List.nil_append,List.append_nil,List.getElem?_cons_zero,List.getElem?_cons_succ,List.set_cons_zero,List.set_cons_succ,List.replicate,↓reduceIte,Bool.false_eq_true,Bool.not_true,Bool.not_false,reduceCtorEq,Nat.reduceAdd,Nat.reduceSub,Nat.reduceLeDiff,Nat.reduceEqDiff,decide_true,decide_false,at0,at1,at2,at3,at4,ix0,ix1,ix2,ix3,ix4,updM_same,beq_self_eq_true,Option.bind,Option.map,wipeU,NT.put,puts,MO.lst.injEq,exists_and_left,decide_eq_true_eq,Bool.and_eq_true,Bool.or_eq_true,exists_eq',Nat.zero_le,true_or,or_true,sp_is_tree_of,sndU,h1] at q ⊢
                      exact ⟨dx.2.1, by omega, q⟩
                    · walk_at "q3"
                      exact q
        · have h3 : (xs.length == 2) = false := beq_eq_false_iff_ne.mpr h2
          simp only [z8i,uOr,z8d,z8m,uCB,z7t,z8l,uC,z8o,z7w,uOp,uUn,z8s,z8j,uIf,z8e,z7v,z7u,z7s,uBM,z8g,uSl,z4x,z8r,z72,z8q,z7x,List.append_nil,z8t,z80,z8y,z7z,z8u,z81,z8w,z8v,xIf,z74,z8x,z8p,z3t,z8n,z7m,z7q,z7o,z7p,z5w,z5v,z7a,z3l,z3m,z75,z5g,z8k,asD,uXf,z8f,z5n,z7y,z6e,z6d,z68,z67,z63,z5h,z5i,z5j,z3v,z3w,z6f,z64,z62,z5r,z6b,z7j,z7k,z7i,z7c,z7b,z7l,z7e,z5o,z2m,z2w,z2k,z2o,z2p,z2l,z2n,z5c,z73,z5a,z5e,z5f,z5b,z3g,z5d,z3e,z2q,z2r,z3i,z3k,z3j,z39,z3a,z37,z38,z4q,z6h,z4o,z4s,z4t,z4p,z3f,z4r,z4e,z4d,z3b,z2s,z3d,z3c,z0h,z0g,z0d,z0a,z0f,z0e,z1o,z1n,z0u,z0j,z0w,z0v,z2d,z2c,z1r,z10,z1t,z1s,z2f,z2e,z1w,z14,z1y,z1x,z16,z15,z0m,z0i,z0o,z0n,z1v,z1u,z11,z0l,z13,z12,z1q,z1p,z0x,z0k,z0z,z0y,z4i,z6g,z4g,z4j,z4k,z4h,z82,z88,z46,z5x,z44,z47,z48,z45,z2v,z2j,z40,z5q,z3y,z41,z42,z3z,z2u,z2i,z6y,z70,z6x,z71,z6z,z59,z56,z57,z58,z87,z86,z7r,z79,z7n,z7d,z5y,z76,z77,z6c,z69,z6a,z8b,z8c,z89,z8a,z85,z83,z84,z4v,z4u,z6i,z78,z5m,z5l,z5k,z6n,z6o,z6p,z6q,z6r,z6s,z6t,z6u,z6v,z6w,z50,z51,z52,z53,z54,z55,z4b,z4c,z49,z27,z26,z1e,z0r,z1g,z1f,z05,z04,z2h,z2g,z1z,z17,z21,z20,z0c,z0b,z23,z22,z18,z0p,z1a,z19,z01,z00,z29,z28,z1h,z0s,z1j,z1i,z07,z06,z2b,z2a,z1k,z0t,z1m,z1l,z09,z08,z25,z24,z1b,z0q,z1d,z1c,z03,z02,z6m,z8h,z4z,z6l,z6k,z4w,z4y,z3s,z6j,z3p,z4f,z3n,z3q,z3r,z3o,z5p,z2t,z3h,z4n,z4l,z4a,z66,z65,z4m,z60,z61,z5z,z32,z2x,z33,z2y,z34,z2z,z35,z30,z36,z31,z7h,z7g,z3u,z5u,z3x,z7f,z5t,z43,z5s,cle,clt,cge,cgt,ceq,cne,lenN,xFor,xTryM,uMix,uEnum,uZip,ltT,uSortK,sortK,sortN,uDNew,uDGet,inN,setN,uDNewS,uDGetS,inS,setS,uDm,uDm0,getR,popS,setdS,getNR,setdN,popNR,itemsR,lenS,dictS,sortItR,uFld,uFst,uMake,uLock,uLockE,uKeys,sortE,sortL,xOp,reprT_1,listN,mulT,gLst_l,gLst_r,sum_l,sum_r,min_ii,max_ii,sortSD,pop1S,dictN,uD1,updN,exists_eq_left',exists_eq_left,Option.some.injEq,U.int.injEq,U.bl.injEq,U.str.injEq,U.ref.injEq,U.tup.injEq,U.lst.injEq,U.ty.injEq,List.cons.injEq,and_true,true_and,and_self,List.map_cons,List.map_nil,List.length_cons,List.length_nil,List.cons_append,List.nil_append,List.append_nil,List.getElem?_cons_zero,List.getElem?_cons_succ,List.set_cons_zero,List.set_cons_succ,List.replicate,↓reduceIte,Bool.false_eq_true,Bool.not_true,Bool.not_false,reduceCtorEq,Nat.reduceAdd,Nat.reduceSub,Nat.reduceLeDiff,Nat.reduceEqDiff,decide_true,decide_false,at0,at1,at2,at3,at4,ix0,ix1,ix2,ix3,ix4,updM_same,beq_self_eq_true,Option.bind,Option.map,wipeU,NT.put,puts,MO.lst.injEq,exists_and_left,decide_eq_true_eq,Bool.and_eq_true,Bool.or_eq_true,exists_eq',Nat.zero_le,true_or,or_true,h0,h3,treeN_len h2] at q ⊢
          exact q
      | ref a => simp [isD] at hx
      | ty n => simp [isD] at hx
      | _ =>
        simp only [z8i,uOr,z8d,z8m,uCB,z7t,z8l,uC,z8o,z7w,uOp,uUn,z8s,z8j,uIf,z8e,z7v,z7u,z7s,uBM,z8g,uSl,z4x,z8r,z72,z8q,z7x,List.append_nil,z8t,z80,z8y,z7z,z8u,z81,z8w,z8v,xIf,z74,z8x,z8p,z3t,z8n,z7m,z7q,z7o,z7p,z5w,z5v,z7a,z3l,z3m,z75,z5g,z8k,asD,uXf,z8f,z5n,z7y,z6e,z6d,z68,z67,z63,z5h,z5i,z5j,z3v,z3w,z6f,z64,z62,z5r,z6b,z7j,z7k,z7i,z7c,z7b,z7l,z7e,z5o,z2m,z2w,z2k,z2o,z2p,z2l,z2n,z5c,z73,z5a,z5e,z5f,z5b,z3g,z5d,z3e,z2q,z2r,z3i,z3k,z3j,z39,z3a,z37,z38,z4q,z6h,z4o,z4s,z4t,z4p,z3f,z4r,z4e,z4d,z3b,z2s,z3d,z3c,z0h,z0g,z0d,z0a,z0f,z0e,z1o,z1n,z0u,z0j,z0w,z0v,z2d,z2c,z1r,z10,z1t,z1s,z2f,z2e,z1w,z14,z1y,z1x,z16,z15,z0m,z0i,z0o,z0n,z1v,z1u,z11,z0l,z13,z12,z1q,z1p,z0x,z0k,z0z,z0y,z4i,z6g,z4g,z4j,z4k,z4h,z82,z88,z46,z5x,z44,z47,z48,z45,z2v,z2j,z40,z5q,z3y,z41,z42,z3z,z2u,z2i,z6y,z70,z6x,z71,z6z,z59,z56,z57,z58,z87,z86,z7r,z79,z7n,z7d,z5y,z76,z77,z6c,z69,z6a,z8b,z8c,z89,z8a,z85,z83,z84,z4v,z4u,z6i,z78,z5m,z5l,z5k,z6n,z6o,z6p,z6q,z6r,z6s,z6t,z6u,z6v,z6w,z50,z51,z52,z53,z54,z55,z4b,z4c,z49,z27,z26,z1e,z0r,z1g,z1f,z05,z04,z2h,z2g,z1z,z17,z21,z20,z0c,z0b,z23,z22,z18,z0p,z1a,z19,z01,z00,z29,z28,z1h,z0s,z1j,z1i,z07,z06,z2b,z2a,z1k,z0t,z1m,z1l,z09,z08,z25,z24,z1b,z0q,z1d,z1c,z03,z02,z6m,z8h,z4z,z6l,z6k,z4w,z4y,z3s,z6j,z3p,z4f,z3n,z3q,z3r,z3o,z5p,z2t,z3h,z4n,z4l,z4a,z66,z65,z4m,z60,z61,z5z,z32,z2x,z33,z2y,z34,z2z,z35,z30,z36,z31,z7h,z7g,z3u,z5u,z3x,z7f,z5t,z43,z5s,cle,clt,cge,cgt,ceq,cne,lenN,xFor,xTryM,uMix,uEnum,uZip,ltT,uSortK,sortK,sortN,uDNew,uDGet,inN,setN,uDNewS,uDGetS,inS,setS,uDm,uDm0,getR,popS,setdS,getNR,setdN,popNR,itemsR,lenS,dictS,sortItR,uFld,uFst,uMake,uLock,uLockE,uKeys,sortE,sortL,xOp,reprT_1,listN,mulT,gLst_l,gLst_r,sum_l,sum_r,min_ii,max_ii,sortSD,pop1S,dictN,uD1,updN,exists_eq_left',exists_eq_left,Option.some.injEq,U.int.injEq,U.bl.injEq,U.str.injEq,U.ref.injEq,U.tup.injEq,U.lst.injEq,U.ty.injEq,List.cons.injEq,and_true,true_and,and_self,List.map_cons,List.map_nil,List.length_cons,List.length_nil,List.cons_append,List.nil_append,List.append_nil,List.getElem?_cons_zero,List.getElem?_cons_succ,List.set_cons_zero,List.set_cons_succ,List.replicate,↓reduceIte,Bool.false_eq_true,Bool.not_true,Bool.not_false,reduceCtorEq,Nat.reduceAdd,Nat.reduceSub,Nat.reduceLeDiff,Nat.reduceEqDiff,decide_true,decide_false,at0,at1,at2,at3,at4,ix0,ix1,ix2,ix3,ix4,updM_same,beq_self_eq_true,Option.bind,Option.map,wipeU,NT.put,puts,MO.lst.injEq,exists_and_left,decide_eq_true_eq,Bool.and_eq_true,Bool.or_eq_true,exists_eq',Nat.zero_le,true_or,or_true,h0,treeN] at q ⊢
        exact q

theorem ok_is_tree_of (L : Lw K mg) : ∀ l : Nat, UFn P w K mg base CX0 (5 + l + 1) L.f_is_tree_of L.fd_is_tree_of ["value", "levels"] (sp_is_tree_of l)
  | 0 => step_is_tree_of L (k := 0) (sp' := fun _ _ _ _ => False) 0 ufn_none (fun l' h => by cases h)
  | l + 1 => step_is_tree_of L (k := l + 1) (sp' := sp_is_tree_of l) (l + 1) (ok_is_tree_of L l) (fun l' h => by cases h; rfl)
/-! ### is_tree -/
def sp_is_tree : USp := fun us M Q _ => ∃ x, us = [x] ∧ isD x = true ∧ wid x ≤ 62 ∧ Q (.bl (treeN 9 x)) M
theorem ok_is_tree (L : Lw K mg) : UFn P w K mg base CX0 16 L.f_is_tree L.fd_is_tree ["value"] (sp_is_tree) := by
  refine ufn_ok L.D_is_tree.F sc_is_tree (fun us M Q E h => ?_) (fun cdv A outer s H E hr hG =>
      (uss_one (us_ret (ue_call (ok_is_tree_of L 9) (hr.mono (by decide)) hG rfl L.D_is_tree_of.g L.D_is_tree_of.F.kp L.D_is_tree_of.b .nil (fun _ => RelUs.nil) (ua_cons (uv 0) (ua_cons (ue_gint (by rfl) L.g_MOST) ua_nil)))))) (fun us M Q E h => ?_)
  · obtain ⟨x, rfl, _⟩ := h
    rfl
  · obtain ⟨x, rfl, hx, hw, q⟩ := h
    simp only [z8i,uOr,z8d,z8m,uCB,z7t,z8l,uC,z8o,z7w,uOp,uUn,z8s,z8j,uIf,z8e,z7v,z7u,z7s,uBM,z8g,uSl,z4x,z8r,z72,z8q,z7x,List.append_nil,z8t,z80,z8y,z7z,z8u,z81,z8w,z8v,xIf,z74,z8x,z8p,z3t,z8n,z7m,z7q,z7o,z7p,z5w,z5v,z7a,z3l,z3m,z75,z5g,z8k,asD,uXf,z8f,z5n,z7y,z6e,z6d,z68,z67,z63,z5h,z5i,z5j,z3v,z3w,z6f,z64,z62,z5r,z6b,z7j,z7k,z7i,z7c,z7b,z7l,z7e,z5o,z2m,z2w,z2k,z2o,z2p,z2l,z2n,z5c,z73,z5a,z5e,z5f,z5b,z3g,z5d,z3e,z2q,z2r,z3i,z3k,z3j,z39,z3a,z37,z38,z4q,z6h,z4o,z4s,z4t,z4p,z3f,z4r,z4e,z4d,z3b,z2s,z3d,z3c,z0h,z0g,z0d,z0a,z0f,z0e,z1o,z1n,z0u,z0j,z0w,z0v,z2d,z2c,z1r,z10,z1t,z1s,z2f,z2e,z1w,z14,z1y,z1x,z16,z15,z0m,z0i,z0o,z0n,z1v,z1u,z11,z0l,z13,z12,z1q,z1p,z0x,z0k,z0z,z0y,z4i,z6g,z4g,z4j,z4k,z4h,z82,z88,z46,z5x,z44,z47,z48,z45,z2v,z2j,z40,z5q,z3y,z41,z42,z3z,z2u,z2i,z6y,z70,z6x,z71,z6z,z59,z56,z57,z58,z87,z86,z7r,z79,z7n,z7d,z5y,z76,z77,z6c,z69,z6a,z8b,z8c,z89,z8a,z85,z83,z84,z4v,z4u,z6i,z78,z5m,z5l,z5k,z6n,z6o,z6p,z6q,z6r,z6s,z6t,z6u,z6v,z6w,z50,z51,z52,z53,z54,z55,z4b,z4c,z49,z27,z26,z1e,z0r,z1g,z1f,z05,z04,z2h,z2g,z1z,z17,z21,z20,z0c,z0b,z23,z22,z18,z0p,z1a,z19,z01,z00,z29,z28,z1h,z0s,z1j,z1i,z07,z06,z2b,z2a,z1k,z0t,z1m,z1l,z09,z08,z25,z24,z1b,z0q,z1d,z1c,z03,z02,z6m,z8h,z4z,z6l,z6k,z4w,z4y,z3s,z6j,z3p,z4f,z3n,z3q,z3r,z3o,z5p,z2t,z3h,z4n,z4l,z4a,z66,z65,z4m,z60,z61,z5z,z32,z2x,z33,z2y,z34,z2z,z35,z30,z36,z31,z7h,z7g,z3u,z5u,z3x,z7f,z5t,z43,z5s,cle,clt,cge,cgt,ceq,cne,lenN,xFor,xTryM,uMix,uEnum,uZip,ltT,uSortK,sortK,sortN,uDNew,uDGet,inN,setN,uDNewS,uDGetS,inS,setS,uDm,uDm0,getR,popS,setdS,getNR,setdN,popNR,itemsR,lenS,dictS,sortItR,uFld,uFst,uMake,uLock,uLockE,uKeys,sortE,sortL,xOp,reprT_1,listN,mulT,gLst_l,gLst_r,sum_l,sum_r,min_ii,max_ii,sortSD,pop1S,dictN,uD1,updN,exists_eq_left',exists_eq_left,Option.some.injEq,U.int.injEq,U.bl.injEq,U.str.injEq,U.ref.injEq,U.tup.injEq,U.lst.injEq,U.ty.injEq,List.cons.injEq,and_true,true_and,and_self,List.map_cons,List.map_nil,List.length_cons,List.length_nil,List.cons_append,List.nil_append,List.append_nil,List.getElem?_cons_zero,List.getElem?_cons_succ,List.set_cons_zero,List.set_cons_succ,List.replicate,↓reduceIte,Bool.false_eq_true,Bool.not_true,Bool.not_false,reduceCtorEq,Nat.reduceAdd,Nat.reduceSub,Nat.reduceLeDiff,Nat.reduceEqDiff,decide_true,decide_false,at0,at1,at2,at3,at4,ix0,ix1,ix2,ix3,ix4,updM_same,beq_self_eq_true,Option.bind,Option.map,wipeU,NT.put,puts,MO.lst.injEq,exists_and_left,decide_eq_true_eq,Bool.and_eq_true,Bool.or_eq_true,exists_eq',Nat.zero_le,true_or,or_true,sp_is_tree_of]
    exact ⟨x, ⟨rfl, by decide⟩, hx, hw, .inl q⟩

/-! ### checked_tree -/
def sp_checked_tree (CB : Addr) : USp := fun us M Q E => ∃ x, us = [x] ∧ isD x = true ∧ dep x ≤ 60 ∧ wid (tupU x) ≤ 62 ∧ isD (tupU x) = true ∧ (treeN 9 (tupU x) = true → Q (tupU x) M) ∧ (treeN 9 (tupU x) = false → E (.ref CB) none M)
theorem ok_checked_tree (L : Lw K mg) : UFn P w K mg base (L2.CX P w) 63 L.f_checked_tree L.fd_checked_tree ["value"] (sp_checked_tree L.C_BadTree) := by
  refine ufn_okX L.D_checked_tree.F sc_checked_tree (fun us M Q E h => ?_) (fun cdv A outer s H E hr hG =>
      (xss_cons (xs_of (us_set (i := 1) sc_checked_tree.nd rfl (.inl rfl) (ue_call (ok_as_tuples L 60) (hr.mono (by decide)) hG rfl L.D_as_tuples.g L.D_as_tuples.F.kp L.D_as_tuples.b .nil (fun _ => RelUs.nil) (ua_cons (uv 0) ua_nil))))
      (xss_cons (xs_if (ut_not (ut_val (ue_call (ok_is_tree L) (hr.mono (by decide)) hG rfl L.D_is_tree.g L.D_is_tree.F.kp L.D_is_tree.b .nil (fun _ => RelUs.nil) (ua_cons (uv 1) ua_nil)))) (xss_one (xs_raise rfl (takes_of rfl rfl rfl rfl) (pmk_own0 PySem.F.excBase_ValueError L.x_BadTree L.g_BadTree L.k_BadTree (raises_own L.b_BadTree L.t_BadTree) (by rfl)))) (xss_of uss_nil))
      (xss_of (uss_one (us_ret (uv 1))))))) (fun us M Q E h => ?_)
  · obtain ⟨x, rfl, _⟩ := h
    rfl
  · obtain ⟨x, rfl, h1, h2, h3, h4, q1, q2⟩ := h
    simp only [z8i,uOr,z8d,z8m,uCB,z7t,z8l,uC,z8o,z7w,uOp,uUn,z8s,z8j,uIf,z8e,z7v,z7u,z7s,uBM,z8g,uSl,z4x,z8r,z72,z8q,z7x,List.append_nil,z8t,z80,z8y,z7z,z8u,z81,z8w,z8v,xIf,z74,z8x,z8p,z3t,z8n,z7m,z7q,z7o,z7p,z5w,z5v,z7a,z3l,z3m,z75,z5g,z8k,asD,uXf,z8f,z5n,z7y,z6e,z6d,z68,z67,z63,z5h,z5i,z5j,z3v,z3w,z6f,z64,z62,z5r,z6b,z7j,z7k,z7i,z7c,z7b,z7l,z7e,z5o,z2m,z2w,z2k,z2o,z2p,z2l,z2n,z5c,z73,z5a,z5e,z5f,z5b,z3g,z5d,z3e,z2q,z2r,z3i,z3k,z3j,z39,z3a,z37,z38,z4q,z6h,z4o,z4s,z4t,z4p,z3f,z4r,z4e,z4d,z3b,z2s,z3d,z3c,z0h,z0g,z0d,z0a,z0f,z0e,z1o,z1n,z0u,z0j,z0w,z0v,z2d,z2c,z1r,z10,z1t,z1s,z2f,z2e,z1w,z14,z1y,z1x,z16,z15,z0m,z0i,z0o,z0n,z1v,z1u,z11,z0l,z13,z12,z1q,z1p,z0x,z0k,z0z,z0y,z4i,z6g,z4g,z4j,z4k,z4h,z82,z88,z46,z5x,z44,z47,z48,z45,z2v,z2j,z40,z5q,z3y,z41,z42,z3z,z2u,z2i,z6y,z70,z6x,z71,z6z,z59,z56,z57,z58,z87,z86,z7r,z79,z7n,z7d,z5y,z76,z77,z6c,z69,z6a,z8b,z8c,z89,z8a,z85,z83,z84,z4v,z4u,z6i,z78,z5m,z5l,z5k,z6n,z6o,z6p,z6q,z6r,z6s,z6t,z6u,z6v,z6w,z50,z51,z52,z53,z54,z55,z4b,z4c,z49,z27,z26,z1e,z0r,z1g,z1f,z05,z04,z2h,z2g,z1z,z17,z21,z20,z0c,z0b,z23,z22,z18,z0p,z1a,z19,z01,z00,z29,z28,z1h,z0s,z1j,z1i,z07,z06,z2b,z2a,z1k,z0t,z1m,z1l,z09,z08,z25,z24,z1b,z0q,z1d,z1c,z03,z02,z6m,z8h,z4z,z6l,z6k,z4w,z4y,z3s,z6j,z3p,z4f,z3n,z3q,z3r,z3o,z5p,z2t,z3h,z4n,z4l,z4a,z66,z65,z4m,z60,z61,z5z,z32,z2x,z33,z2y,z34,z2z,z35,z30,z36,z31,z7h,z7g,z3u,z5u,z3x,z7f,z5t,z43,z5s,cle,clt,cge,cgt,ceq,cne,lenN,xFor,xTryM,uMix,uEnum,uZip,ltT,uSortK,sortK,sortN,uDNew,uDGet,inN,setN,uDNewS,uDGetS,inS,setS,uDm,uDm0,getR,popS,setdS,getNR,setdN,popNR,itemsR,lenS,dictS,sortItR,uFld,uFst,uMake,uLock,uLockE,uKeys,sortE,sortL,xOp,reprT_1,listN,mulT,gLst_l,gLst_r,sum_l,sum_r,min_ii,max_ii,sortSD,pop1S,dictN,uD1,updN,exists_eq_left',exists_eq_left,Option.some.injEq,U.int.injEq,U.bl.injEq,U.str.injEq,U.ref.injEq,U.tup.injEq,U.lst.injEq,U.ty.injEq,List.cons.injEq,and_true,true_and,and_self,List.map_cons,List.map_nil,List.length_cons,List.length_nil,List.cons_append,List.nil_append,List.append_nil,List.getElem?_cons_zero,List.getElem?_cons_succ,List.set_cons_zero,List.set_cons_succ,List.replicate,↓reduceIte,Bool.false_eq_true,Bool.not_true,Bool.not_false,reduceCtorEq,Nat.reduceAdd,Nat.reduceSub,Nat.reduceLeDiff,Nat.reduceEqDiff,decide_true,decide_false,at0,at1,at2,at3,at4,ix0,ix1,ix2,ix3,ix4,updM_same,beq_self_eq_true,Option.bind,Option.map,wipeU,NT.put,puts,MO.lst.injEq,exists_and_left,decide_eq_true_eq,Bool.and_eq_true,Bool.or_eq_true,exists_eq',Nat.zero_le,true_or,or_true,sp_as_tuples,sp_is_tree]
    refine ⟨h1, h2, h4, h3, ?_⟩
    cases ht : treeN 9 (tupU x) with
    | true =>
      walk_at "q0"
      exact .inl (q1 ht)
    | false =>
      walk_at "q0"
      exact q2 ht

/-! ### part_at -/

/-- what stood still stands -/
def Ext (M M' : UHp) : Prop := ∀ b o, M b = some o → M' b = some o
theorem Ext.refl {M : UHp} : Ext M M := fun _ _ h => h
theorem Ext.trans {M M1 M2 : UHp} (a : Ext M M1) (b : Ext M1 M2) : Ext M M2 := fun c o h => b c o (a c o h)
theorem Ext.upd {M M' : UHp} {p : Addr} {o : MO} (h : Ext M M') (e : M p = none) : Ext M (updM M' p o) := fun b u hb => by
  by_cases z : b = p
  · rw [z, e] at hb; cases hb
  · rw [updM_ne z]; exact h b u hb
theorem Ext.del {M M' : UHp} {p : Addr} (h : Ext M M') (e : M p = none) : Ext M (delM M' p) := fun b u hb => by
  by_cases z : b = p
  · rw [z, e] at hb; cases hb
  · rw [delM_ne z]; exact h b u hb
theorem Ext.none {M M' : UHp} {p : Addr} (h : Ext M M') (e : M' p = Option.none) : M p = Option.none := by
  cases q : M p with
  | none => rfl
  | some o => rw [h p o q] at e; cases e
theorem tree_sh {l : Nat} {x : U} (h : treeN (l + 1) x = true) : ∃ ps cs, x = .tup [.tup ps, .tup cs] ∧ partU (.tup ps) = true ∧ partU (.tup cs) = true ∧ ps.all (fun p => isValueU (sndU p)) = true ∧ cs.all (fun c => treeN l (sndU c)) = true := by
  cases x with
  | tup xs =>
    match xs, h with
    | [a, b], h =>
      cases hp : (partU a && partU b) with
      | false => rw [treeN_part hp] at h; cases h
      | true =>
        rw [Bool.and_eq_true] at hp
        obtain ⟨ps, rfl, p1, p2⟩ := part_is hp.1
        obtain ⟨cs, rfl, c1, c2⟩ := part_is hp.2
        simp only [treeN,Bool.and_eq_true] at h
        exact ⟨ps, cs, rfl, hp.1, hp.2, h.1.2, h.2⟩
    | [], h => simp [treeN] at h
    | [_], h => simp [treeN] at h
    | _ :: _ :: _ :: _, h => simp [treeN] at h
  | _ => simp [treeN] at h
def pathsL : Nat → U → List U → List U
  | l + 1, .tup [_, .tup cs], pre => .tup pre :: cs.flatMap fun c => pathsL l (sndU c) (pre ++ [.str (nameOf c)])
  | _, _, _ => []
theorem flat_len {f : U → List U} {g : U → Nat} : ∀ {cs : List U}, (∀ c ∈ cs, (f c).length ≤ g c) → (cs.flatMap f).length ≤ (cs.map g).sum
  | [], _ => by simp
  | c :: cs, h => by
    have h1 := h c (by simp)
    have h2 := flat_len (f := f) (g := g) (cs := cs) fun d hd => h d (by simp [hd])
    simp only [List.flatMap_cons,List.length_append,List.map_cons,List.sum_cons]
    omega
/-! ### dicts of pairs -/
theorem nm_str {y : U} (h : isNameU y = true) : ∃ z, y = .str z ∧ z.length ≤ 8 := by
  cases y with
  | str z => simp only [isNameU,Bool.and_eq_true,decide_eq_true_eq] at h; exact ⟨z, rfl, h.2.1⟩
  | _ => simp [isNameU] at h
theorem nm_okS {z : Str} (h : isNameU (.str z) = true) : okS z = true := by
  simp only [isNameU,Bool.and_eq_true,decide_eq_true_eq] at h
  refine okS_iff.mpr ⟨by rw [sizeLine_eq]; omega, fun c hc => ?_⟩
  have h2 : isLow c = true := List.all_eq_true.mp h.2.2 c hc
  have h3 : (!(Builtin.Str.occurrences ("abcdefghijklmnopqrstuvwxyz" : Str) ⟨#[c]⟩ 0 ("abcdefghijklmnopqrstuvwxyz" : Str).length 1).isEmpty) = true := h2
  rw [StrLaws.found_one] at h3
  have h4 := of_decide_eq_true h3
  have all : ∀ d ∈ ("abcdefghijklmnopqrstuvwxyz" : Str).cps.toList, d < 0x110000 := by decide +kernel
  exact all c (by simpa using h4)
def pairS (p : U) : Str × U := (nameOf p, sndU p)
theorem pairs_of : ∀ {ps : List U}, ps.all pairU = true → pairsU ps = some (ps.map pairS)
  | [], _ => rfl
  | p :: ps, h => by
    rw [List.all_cons, Bool.and_eq_true] at h
    obtain ⟨z, b, rfl, hz⟩ := pair_is h.1
    simp only [pairsU,pairs_of h.2,Option.map_some,List.map_cons]
    rfl
def OkK (kvs : List (Str × U)) : Prop := ∀ q ∈ kvs, okS q.1 = true
theorem OkK.put {kvs : List (Str × U)} {z : Str} {v : U} (h : OkK kvs) (hz : okS z = true) : OkK (putS kvs z v) := by
  unfold putS
  split
  · intro q hq
    obtain ⟨r, hr, rfl⟩ := List.mem_map.mp hq
    by_cases e : r.1 = z
    · rw [if_pos e]; exact h r hr
    · rw [if_neg e]; exact h r hr
  · intro q hq
    rcases List.mem_append.mp hq with hq | hq
    · exact h q hq
    · rw [List.mem_singleton.mp hq]; exact hz
theorem OkK.drop {kvs : List (Str × U)} {z : Str} (h : OkK kvs) : OkK (dropS kvs z) := fun q hq => h q (List.mem_filter.mp hq).1
theorem OkK.merge : ∀ {more kvs : List (Str × U)}, OkK more → OkK kvs → OkK (mergeS kvs more)
  | [], _, _, h => h
  | p :: more, _, h1, h2 => OkK.merge (more := more) (fun q hq => h1 q (List.mem_cons_of_mem _ hq)) (h2.put (h1 p (List.mem_cons_self ..)))
/-! ### the parts of a tree -/
def partAt : U → List U → Option U
  | x, [] => some x
  | .tup [_, .tup cs], .str z :: r => (getS (cs.map pairS) z).bind fun c => partAt c r
  | _, _ :: _ => none
theorem pairs_nd {cs : List U} (h : ascL (cs.map nameOf) = true) : (cs.map pairS).Pairwise fun a b => a.1 ≠ b.1 := by
  have := of_decide_eq_true h
  rw [List.pairwise_map] at this ⊢
  exact this.imp fun {a b} hab e => by
    have e : nameOf a = nameOf b := e
    rw [e] at hab
    exact absurd hab (List.lt_irrefl _)
theorem merge_eq : ∀ (more kvs : List (Str × U)), (kvs ++ more).Pairwise (fun a b => a.1 ≠ b.1) → mergeS kvs more = kvs ++ more
  | [], kvs, _ => by simp [mergeS]
  | p :: more, kvs, h => by
    have hn : getS kvs p.1 = none := by
      unfold getS
      rw [List.find?_eq_none.mpr]
      · rfl
      · intro q hq
        have := (List.pairwise_append.mp h).2.2 q hq p (List.mem_cons_self ..)
        simp [this]
    have hp : putS kvs p.1 p.2 = kvs ++ [p] := by
      unfold putS
      rw [if_neg (by rw [hn]; decide)]
    show mergeS (putS kvs p.1 p.2) more = _
    rw [hp, merge_eq more (kvs ++ [p]) (by simpa using h)]
    simp
theorem merge_pairs {cs : List U} (h : ascL (cs.map nameOf) = true) : mergeS [] (cs.map pairS) = cs.map pairS := by
  rw [merge_eq _ _ (by simpa using pairs_nd h)]; rfl
theorem child_mem {cs : List U} {z : Str} {c : U} (h : getS (cs.map pairS) z = some c) : ∃ p ∈ cs, nameOf p = z ∧ sndU p = c := by
  unfold getS at h
  obtain ⟨q, h1, rfl⟩ := Option.map_eq_some_iff.mp h
  obtain ⟨p, hp, rfl⟩ := List.mem_map.mp (List.mem_of_find?_eq_some h1)
  have h2 : decide ((pairS p).1 = z) = true := List.find?_some (p := fun q : Str × U => decide (q.1 = z)) h1
  exact ⟨p, hp, of_decide_eq_true h2, rfl⟩
theorem part_tree : ∀ (l : Nat) (x : U) (r : List U) (y : U), treeN l x = true → partAt x r = some y → ∃ m, treeN m y = true
  | l, x, [], y, h, e => by
    rw [partAt] at e
    cases e; exact ⟨l, h⟩
  | 0, x, n :: r, y, h, e => by simp [treeN] at h
  | l + 1, x, n :: r, y, h, e => by
    obtain ⟨ps, cs, rfl, hps, hcs, hvs, hts⟩ := tree_sh h
    cases n with
    | str z =>
      simp only [partAt] at e
      obtain ⟨c, h1, h2⟩ := Option.bind_eq_some_iff.mp e
      obtain ⟨p, hp, _, rfl⟩ := child_mem h1
      obtain ⟨m, hm⟩ := part_tree l _ r y (List.all_eq_true.mp hts p hp) h2
      exact ⟨m, hm⟩
    | _ => simp [partAt] at e

theorem pth_sh {p : U} (h : isPathU p = true) : ∃ ps, p = .tup ps ∧ ∀ y ∈ ps, isNameU y = true := by
  cases p with
  | tup ps =>
    simp only [isPathU,Bool.and_eq_true] at h
    exact ⟨ps, rfl, List.all_eq_true.mp h.2⟩
  | _ => simp [isPathU] at h
def seqO : U → List U
  | .tup xs => xs
  | _ => []
def partU' (x p : U) : U := if isPathU p = true then (partAt x (seqO p)).getD .non else .non
def sp_part_at : USp := fun us M Q _ => ∃ l x p, us = [x, p] ∧ treeN l x = true ∧ isD p = true ∧ ∀ M', Ext M M' → Q (partU' x p) M'
theorem ok_part_at (L : Lw K mg) : UFn P w K mg base CX0 3 L.f_part_at L.fd_part_at ["part", "path"] (sp_part_at) := by
  refine ufn_ok L.D_part_at.F sc_part_at (fun us M Q E h => ?_) (fun cdv A outer s H E hr hG =>
      (uss_cons (us_if (ut_not (ut_val (ue_call (ok_is_path L) (hr.mono (by decide)) hG rfl L.D_is_path.g L.D_is_path.F.kp L.D_is_path.b .nil (fun _ => RelUs.nil) (ua_cons (uv 1) ua_nil)))) (uss_one (us_ret ue_non)) uss_nil)
      (uss_cons (us_for PassesOwn.never rfl (ui_any (uv 1)) (ug_name (i := 2) sc_part_at.nd rfl (.inl rfl)) (uss_cons (us_set (i := 3) sc_part_at.nd rfl (.inl rfl) (ue_callTy (uc_dictS rfl) (by rfl) L.n_dict bt_dict (ua_cons (ue_ix (uv 0) ue_int) ua_nil)))
      (uss_cons (us_if (ut_cmp (uo_notinS (hu2 hr)) (uv 2) (uv 3) (by rfl)) (uss_one (us_ret ue_non)) uss_nil)
      (uss_one (us_set (i := 0) sc_part_at.nd rfl (.inl rfl) (ue_dgetS (hu2 hr) (uv 3) (uv 2) (fun _ _ => rfl)))))))
      (uss_one (us_ret (uv 0)))))) (fun us M Q E h => ?_)
  · obtain ⟨l, x, p, rfl, _⟩ := h
    rfl
  · obtain ⟨l, x, p, rfl, ht, hp, q⟩ := h
    simp only [uFor,z8i,uOr,z8d,z8m,uCB,z7t,z8l,uC,z8o,z7w,uOp,uUn,z8s,z8j,uIf,z8e,z7v,z7u,z7s,uBM,z8g,uSl,z4x,z8r,z72,z8q,z7x,List.append_nil,z8t,z80,z8y,z7z,z8u,z81,z8w,z8v,xIf,z74,z8x,z8p,z3t,z8n,z7m,z7q,z7o,z7p,z5w,z5v,z7a,z3l,z3m,z75,z5g,z8k,asD,uXf,z8f,z5n,z7y,z6e,z6d,z68,z67,z63,z5h,z5i,z5j,z3v,z3w,z6f,z64,z62,z5r,z6b,z7j,z7k,z7i,z7c,z7b,z7l,z7e,z5o,z2m,z2w,z2k,z2o,z2p,z2l,z2n,z5c,z73,z5a,z5e,z5f,z5b,z3g,z5d,z3e,z2q,z2r,z3i,z3k,z3j,z39,z3a,z37,z38,z4q,z6h,z4o,z4s,z4t,z4p,z3f,z4r,z4e,z4d,z3b,z2s,z3d,z3c,z0h,z0g,z0d,z0a,z0f,z0e,z1o,z1n,z0u,z0j,z0w,z0v,z2d,z2c,z1r,z10,z1t,z1s,z2f,z2e,z1w,z14,z1y,z1x,z16,z15,z0m,z0i,z0o,z0n,z1v,z1u,z11,z0l,z13,z12,z1q,z1p,z0x,z0k,z0z,z0y,z4i,z6g,z4g,z4j,z4k,z4h,z82,z88,z46,z5x,z44,z47,z48,z45,z2v,z2j,z40,z5q,z3y,z41,z42,z3z,z2u,z2i,z6y,z70,z6x,z71,z6z,z59,z56,z57,z58,z87,z86,z7r,z79,z7n,z7d,z5y,z76,z77,z6c,z69,z6a,z8b,z8c,z89,z8a,z85,z83,z84,z4v,z4u,z6i,z78,z5m,z5l,z5k,z6n,z6o,z6p,z6q,z6r,z6s,z6t,z6u,z6v,z6w,z50,z51,z52,z53,z54,z55,z4b,z4c,z49,z27,z26,z1e,z0r,z1g,z1f,z05,z04,z2h,z2g,z1z,z17,z21,z20,z0c,z0b,z23,z22,z18,z0p,z1a,z19,z01,z00,z29,z28,z1h,z0s,z1j,z1i,z07,z06,z2b,z2a,z1k,z0t,z1m,z1l,z09,z08,z25,z24,z1b,z0q,z1d,z1c,z03,z02,z6m,z8h,z4z,z6l,z6k,z4w,z4y,z3s,z6j,z3p,z4f,z3n,z3q,z3r,z3o,z5p,z2t,z3h,z4n,z4l,z4a,z66,z65,z4m,z60,z61,z5z,z32,z2x,z33,z2y,z34,z2z,z35,z30,z36,z31,z7h,z7g,z3u,z5u,z3x,z7f,z5t,z43,z5s,cle,clt,cge,cgt,ceq,cne,lenN,xFor,xTryM,uMix,uEnum,uZip,ltT,uSortK,sortK,sortN,uDNew,uDGet,inN,setN,uDNewS,uDGetS,inS,setS,uDm,uDm0,getR,popS,setdS,getNR,setdN,popNR,itemsR,lenS,dictS,sortItR,uFld,uFst,uMake,uLock,uLockE,uKeys,sortE,sortL,xOp,reprT_1,listN,mulT,gLst_l,gLst_r,sum_l,sum_r,min_ii,max_ii,sortSD,pop1S,dictN,uD1,updN,exists_eq_left',exists_eq_left,Option.some.injEq,U.int.injEq,U.bl.injEq,U.str.injEq,U.ref.injEq,U.tup.injEq,U.lst.injEq,U.ty.injEq,List.cons.injEq,and_true,true_and,and_self,List.map_cons,List.map_nil,List.length_cons,List.length_nil,List.cons_append,List.nil_append,List.append_nil,List.getElem?_cons_zero,List.getElem?_cons_succ,List.set_cons_zero,List.set_cons_succ,List.replicate,↓reduceIte,Bool.false_eq_true,Bool.not_true,Bool.not_false,reduceCtorEq,Nat.reduceAdd,Nat.reduceSub,Nat.reduceLeDiff,Nat.reduceEqDiff,decide_true,decide_false,at0,at1,at2,at3,at4,ix0,ix1,ix2,ix3,ix4,updM_same,beq_self_eq_true,Option.bind,Option.map,wipeU,NT.put,puts,MO.lst.injEq,exists_and_left,decide_eq_true_eq,Bool.and_eq_true,Bool.or_eq_true,exists_eq',Nat.zero_le,true_or,or_true,sp_is_path]
    refine ⟨hp, ?_⟩
    cases hpp : isPathU p with
    | false =>
      walk_at "q0"
      have := q M Ext.refl
      unfold partU' at this
      rw [if_neg (by rw [hpp]; decide)] at this
      exact .inl this
    | true =>
      obtain ⟨ps, rfl, hpn⟩ := pth_sh hpp
      have q' : ∀ M', Ext M M' → Q ((partAt x ps).getD .non) M' := fun M' h => by
        have := q M' h
        unfold partU' at this
        rw [if_pos hpp] at this
        exact this
      walk_at "q0"
      refine for_inv (fun i σ M' => ∃ y m o3 o4, σ = [some y, some (.tup ps), o3, o4] ∧ treeN m y = true ∧ partAt x ps = partAt y (ps.drop i) ∧ Ext M M') _ (fun _ _ _ _ => True.intro) ?_ ?_ ⟨x, l, _, _, rfl, ht, rfl, Ext.refl⟩
      · rintro i n σ M1 N hn ⟨y, m, o3, o4, rfl, hty, he, hE⟩ hN
        obtain ⟨z, rfl, _⟩ := nm_str (hpn n (List.mem_of_getElem? hn))
        have hd : ps.drop i = .str z :: ps.drop (i + 1) := by
          have hd := List.drop_eq_getElem?_toList_append (l := ps) (i := i)
          rw [hd, hn]; rfl
        rw [hd] at he
        cases m with
        | zero => simp [treeN] at hty
        | succ m =>
          obtain ⟨qs, cs, rfl, hqs, hcs, hvs, hts⟩ := tree_sh hty
          simp only [partU,Bool.and_eq_true] at hcs
          walk_at "q0"
          refine ⟨_, .inl rfl, _, pairs_of hcs.1, fun d hd2 => ⟨_, _, rfl, sok, ?_⟩⟩
          rw [merge_pairs hcs.2]
          have hE2 := hE.upd (o := .sD HO.dK (cs.map pairS)) (hE.none hd2)
          cases hg : getS (cs.map pairS) z with
          | none =>
            rw [if_pos (by decide)]
            have hn2 : partAt x ps = none := by rw [he]; simp only [partAt,hg]; rfl
            have := q' _ hE2
            rw [hn2] at this
            exact .inl this
          | some c =>
            rw [if_neg (by simp)]
            obtain ⟨p, hpc, _, rfl⟩ := child_mem hg
            exact ⟨_, _, rfl, sok, _, hg, hN _ _ ⟨sndU p, m, _, _, rfl, List.all_eq_true.mp hts p hpc, by rw [he]; simp only [partAt,hg]; rfl, hE2⟩⟩
      · rintro σ M1 ⟨y, m, o3, o4, rfl, hty, he, hE⟩
        rw [List.drop_length] at he
        walk_at "q0"
        refine .inl ?_
        have := q' M1 hE
        rw [he] at this
        exact this

/-! ### ini_NoNode -/
def mk_NoNode : List U → List (Str × U) → Prop := fun us fs => ∃ x0, us = [x0] ∧ ((isD x0 = true ∧ dep x0 ≤ 60)) ∧ fs = [(("path" : Str), tupU x0)]
theorem ok_ini_NoNode (L : Lw K mg) : UFn P w K mg base CX0 63 L.f_ini_NoNode L.fd_ini_NoNode ["self", "path"] (spF L.C_NoNode mk_NoNode) := by
  refine ufn_ok (t := z8q (z7u (uVeI K (z7t (uVar 0) (z7t (uC (.str "a path of no node")) z8l)))) (uOst K "path" (uVar 0) (z7s (sp_as_tuples 60) [] (z7t (uVar 1) z8l)))) L.D_ini_NoNode.F sc_ini_NoNode (fun us M Q E h => ?_) (fun cdv A outer s H E hr hG => ?t1) (fun us M Q E h => ?_)
  case t1 =>
    refine uss_cons ?_ ?_
    · exact (us_expr (ue_veown rfl L.g_VariantError L.ve_VariantError (ua_cons (uv 0) (ua_cons ue_str ua_nil))))
    exact uss_one ((us_ost (uv 0) (ue_call (ok_as_tuples L 60) (hr.mono (by decide)) hG rfl L.D_as_tuples.g L.D_as_tuples.F.kp L.D_as_tuples.b .nil (fun _ => RelUs.nil) (ua_cons (uv 1) ua_nil))))
  · obtain ⟨a, xs, fs, rfl, ⟨x0, rfl, _⟩, _⟩ := h
    rfl
  · obtain ⟨a, xs, fs, rfl, ⟨x0, rfl, ⟨h0, k0⟩, rfl⟩, hm, q⟩ := h
    simp only [z8i,uOr,z8d,z8m,uCB,z7t,z8l,uC,z8o,z7w,uOp,uUn,z8s,z8j,uIf,z8e,z7v,z7u,z7s,uBM,z8g,uSl,z4x,z8r,z72,z8q,z7x,List.append_nil,z8t,z80,z8y,z7z,z8u,z81,z8w,z8v,xIf,z74,z8x,z8p,z3t,z8n,z7m,z7q,z7o,z7p,z5w,z5v,z7a,z3l,z3m,z75,z5g,z8k,asD,uXf,z8f,z5n,z7y,z6e,z6d,z68,z67,z63,z5h,z5i,z5j,z3v,z3w,z6f,z64,z62,z5r,z6b,z7j,z7k,z7i,z7c,z7b,z7l,z7e,z5o,z2m,z2w,z2k,z2o,z2p,z2l,z2n,z5c,z73,z5a,z5e,z5f,z5b,z3g,z5d,z3e,z2q,z2r,z3i,z3k,z3j,z39,z3a,z37,z38,z4q,z6h,z4o,z4s,z4t,z4p,z3f,z4r,z4e,z4d,z3b,z2s,z3d,z3c,z0h,z0g,z0d,z0a,z0f,z0e,z1o,z1n,z0u,z0j,z0w,z0v,z2d,z2c,z1r,z10,z1t,z1s,z2f,z2e,z1w,z14,z1y,z1x,z16,z15,z0m,z0i,z0o,z0n,z1v,z1u,z11,z0l,z13,z12,z1q,z1p,z0x,z0k,z0z,z0y,z4i,z6g,z4g,z4j,z4k,z4h,z82,z88,z46,z5x,z44,z47,z48,z45,z2v,z2j,z40,z5q,z3y,z41,z42,z3z,z2u,z2i,z6y,z70,z6x,z71,z6z,z59,z56,z57,z58,z87,z86,z7r,z79,z7n,z7d,z5y,z76,z77,z6c,z69,z6a,z8b,z8c,z89,z8a,z85,z83,z84,z4v,z4u,z6i,z78,z5m,z5l,z5k,z6n,z6o,z6p,z6q,z6r,z6s,z6t,z6u,z6v,z6w,z50,z51,z52,z53,z54,z55,z4b,z4c,z49,z27,z26,z1e,z0r,z1g,z1f,z05,z04,z2h,z2g,z1z,z17,z21,z20,z0c,z0b,z23,z22,z18,z0p,z1a,z19,z01,z00,z29,z28,z1h,z0s,z1j,z1i,z07,z06,z2b,z2a,z1k,z0t,z1m,z1l,z09,z08,z25,z24,z1b,z0q,z1d,z1c,z03,z02,z6m,z8h,z4z,z6l,z6k,z4w,z4y,z3s,z6j,z3p,z4f,z3n,z3q,z3r,z3o,z5p,z2t,z3h,z4n,z4l,z4a,z66,z65,z4m,z60,z61,z5z,z32,z2x,z33,z2y,z34,z2z,z35,z30,z36,z31,z7h,z7g,z3u,z5u,z3x,z7f,z5t,z43,z5s,cle,clt,cge,cgt,ceq,cne,lenN,xFor,xTryM,uMix,uEnum,uZip,ltT,uSortK,sortK,sortN,uDNew,uDGet,inN,setN,uDNewS,uDGetS,inS,setS,uDm,uDm0,getR,popS,setdS,getNR,setdN,popNR,itemsR,lenS,dictS,sortItR,uFld,uFst,uMake,uLock,uLockE,uKeys,sortE,sortL,xOp,reprT_1,listN,mulT,gLst_l,gLst_r,sum_l,sum_r,min_ii,max_ii,sortSD,pop1S,dictN,uD1,updN,exists_eq_left',exists_eq_left,Option.some.injEq,U.int.injEq,U.bl.injEq,U.str.injEq,U.ref.injEq,U.tup.injEq,U.lst.injEq,U.ty.injEq,List.cons.injEq,and_true,true_and,and_self,List.map_cons,List.map_nil,List.length_cons,List.length_nil,List.cons_append,List.nil_append,List.append_nil,List.getElem?_cons_zero,List.getElem?_cons_succ,List.set_cons_zero,List.set_cons_succ,List.replicate,↓reduceIte,Bool.false_eq_true,Bool.not_true,Bool.not_false,reduceCtorEq,Nat.reduceAdd,Nat.reduceSub,Nat.reduceLeDiff,Nat.reduceEqDiff,decide_true,decide_false,at0,at1,at2,at3,at4,ix0,ix1,ix2,ix3,ix4,updM_same,beq_self_eq_true,Option.bind,Option.map,wipeU,NT.put,puts,MO.lst.injEq,exists_and_left,decide_eq_true_eq,Bool.and_eq_true,Bool.or_eq_true,exists_eq',Nat.zero_le,true_or,or_true,uVeI,uOst,sp_as_tuples]
    refine ⟨a, L.C_NoNode, _, ⟨rfl, rfl⟩, by decide, L.o_NoNode, hm, h0, k0, L.C_NoNode, L.o_NoNode, L.no_NoNode_path, .inl ⟨hm, fun dx h1 h2 => ?_⟩⟩
    exact q dx h1 h2

/-! ### node -/
/-- node, also of what is no tree -/
def sp_node (CB CN : Addr) : USp := fun us M Q E => ∃ x p, us = [x, p] ∧ isD x = true ∧ dep x ≤ 60 ∧ wid (tupU x) ≤ 62 ∧ isD (tupU x) = true ∧ isD p = true ∧ dep p ≤ 60 ∧ isD (tupU p) = true ∧ (treeN 9 (tupU x) = false → E (.ref CB) none M) ∧ (treeN 9 (tupU x) = true → ∀ M', Ext M M' →
  (isNon (partU' (tupU x) (tupU p)) = false → Q (partU' (tupU x) (tupU p)) M') ∧ (isNon (partU' (tupU x) (tupU p)) = true → ∀ d, M' d = none → E (.ref CN) (some d) (updM M' d (.xd [(("path" : Str), tupU p)]))))
theorem ok_node (L : Lw K mg) : UFn P w K mg base (L2.CX P w) 65 L.f_node L.fd_node ["tree", "path"] (sp_node L.C_BadTree L.C_NoNode) := by
  refine ufn_okX L.D_node.F sc_node (fun us M Q E h => ?_) (fun cdv A outer s H E hr hG =>
      (xss_cons (xs_set (i := 2) sc_node.nd rfl (.inl rfl) (xe_call (takes_of rfl rfl rfl rfl) (UFn.lift (ok_part_at L)) (hr.mono (by decide)) hG rfl L.D_part_at.g L.D_part_at.F.kp L.D_part_at.b .nil (fun _ => RelUs.nil) (xa_cons (xe_call (takes_of rfl rfl rfl rfl) (ok_checked_tree L) (hr.mono (by decide)) hG rfl L.D_checked_tree.g L.D_checked_tree.F.kp L.D_checked_tree.b .nil (fun _ => RelUs.nil) (xa_cons (xe_of (uv 0)) (xa_of ua_nil))) (xa_cons (xe_of (ue_call (ok_as_tuples L 60) (hr.mono (by decide)) hG rfl L.D_as_tuples.g L.D_as_tuples.F.kp L.D_as_tuples.b .nil (fun _ => RelUs.nil) (ua_cons (uv 1) ua_nil))) (xa_of ua_nil)))))
      (xss_cons (xs_if (ut_cmp uo_is (uv 2) ue_non (nomark _)) (xss_one (xs_raiseF rfl (takes_of rfl rfl rfl rfl) L.o_NoNode L.iC_NoNode L.tI_NoNode (ok_ini_NoNode L) (hr.mono (by decide)) hG L.D_ini_NoNode.b rfl L.g_NoNode (ua_cons (uv 1) ua_nil))) (xss_of uss_nil))
      (xss_of (uss_one (us_ret (uv 2))))))) (fun us M Q E h => ?_)
  · obtain ⟨x, p, rfl, _⟩ := h
    rfl
  · obtain ⟨x, p, rfl, h1, h2, h3, h4, h5, h6, h7, q0, q⟩ := h
    simp only [z8i,uOr,z8d,z8m,uCB,z7t,z8l,uC,z8o,z7w,uOp,uUn,z8s,z8j,uIf,z8e,z7v,z7u,z7s,uBM,z8g,uSl,z4x,z8r,z72,z8q,z7x,List.append_nil,z8t,z80,z8y,z7z,z8u,z81,z8w,z8v,xIf,z74,z8x,z8p,z3t,z8n,z7m,z7q,z7o,z7p,z5w,z5v,z7a,z3l,z3m,z75,z5g,z8k,asD,uXf,z8f,z5n,z7y,z6e,z6d,z68,z67,z63,z5h,z5i,z5j,z3v,z3w,z6f,z64,z62,z5r,z6b,z7j,z7k,z7i,z7c,z7b,z7l,z7e,z5o,z2m,z2w,z2k,z2o,z2p,z2l,z2n,z5c,z73,z5a,z5e,z5f,z5b,z3g,z5d,z3e,z2q,z2r,z3i,z3k,z3j,z39,z3a,z37,z38,z4q,z6h,z4o,z4s,z4t,z4p,z3f,z4r,z4e,z4d,z3b,z2s,z3d,z3c,z0h,z0g,z0d,z0a,z0f,z0e,z1o,z1n,z0u,z0j,z0w,z0v,z2d,z2c,z1r,z10,z1t,z1s,z2f,z2e,z1w,z14,z1y,z1x,z16,z15,z0m,z0i,z0o,z0n,z1v,z1u,z11,z0l,z13,z12,z1q,z1p,z0x,z0k,z0z,z0y,z4i,z6g,z4g,z4j,z4k,z4h,z82,z88,z46,z5x,z44,z47,z48,z45,z2v,z2j,z40,z5q,z3y,z41,z42,z3z,z2u,z2i,z6y,z70,z6x,z71,z6z,z59,z56,z57,z58,z87,z86,z7r,z79,z7n,z7d,z5y,z76,z77,z6c,z69,z6a,z8b,z8c,z89,z8a,z85,z83,z84,z4v,z4u,z6i,z78,z5m,z5l,z5k,z6n,z6o,z6p,z6q,z6r,z6s,z6t,z6u,z6v,z6w,z50,z51,z52,z53,z54,z55,z4b,z4c,z49,z27,z26,z1e,z0r,z1g,z1f,z05,z04,z2h,z2g,z1z,z17,z21,z20,z0c,z0b,z23,z22,z18,z0p,z1a,z19,z01,z00,z29,z28,z1h,z0s,z1j,z1i,z07,z06,z2b,z2a,z1k,z0t,z1m,z1l,z09,z08,z25,z24,z1b,z0q,z1d,z1c,z03,z02,z6m,z8h,z4z,z6l,z6k,z4w,z4y,z3s,z6j,z3p,z4f,z3n,z3q,z3r,z3o,z5p,z2t,z3h,z4n,z4l,z4a,z66,z65,z4m,z60,z61,z5z,z32,z2x,z33,z2y,z34,z2z,z35,z30,z36,z31,z7h,z7g,z3u,z5u,z3x,z7f,z5t,z43,z5s,cle,clt,cge,cgt,ceq,cne,lenN,xFor,xTryM,uMix,uEnum,uZip,ltT,uSortK,sortK,sortN,uDNew,uDGet,inN,setN,uDNewS,uDGetS,inS,setS,uDm,uDm0,getR,popS,setdS,getNR,setdN,popNR,itemsR,lenS,dictS,sortItR,uFld,uFst,uMake,uLock,uLockE,uKeys,sortE,sortL,xOp,reprT_1,listN,mulT,gLst_l,gLst_r,sum_l,sum_r,min_ii,max_ii,sortSD,pop1S,dictN,uD1,updN,exists_eq_left',exists_eq_left,Option.some.injEq,U.int.injEq,U.bl.injEq,U.str.injEq,U.ref.injEq,U.tup.injEq,U.lst.injEq,U.ty.injEq,List.cons.injEq,and_true,true_and,and_self,List.map_cons,List.map_nil,List.length_cons,List.length_nil,List.cons_append,List.nil_append,List.append_nil,List.getElem?_cons_zero,List.getElem?_cons_succ,List.set_cons_zero,List.set_cons_succ,List.replicate,↓reduceIte,Bool.false_eq_true,Bool.not_true,Bool.not_false,reduceCtorEq,Nat.reduceAdd,Nat.reduceSub,Nat.reduceLeDiff,Nat.reduceEqDiff,decide_true,decide_false,at0,at1,at2,at3,at4,ix0,ix1,ix2,ix3,ix4,updM_same,beq_self_eq_true,Option.bind,Option.map,wipeU,NT.put,puts,MO.lst.injEq,exists_and_left,decide_eq_true_eq,Bool.and_eq_true,Bool.or_eq_true,exists_eq',Nat.zero_le,true_or,or_true,sp_checked_tree,sp_as_tuples,sp_part_at]
    refine ⟨h1, h2, h3, h4, fun ht => ⟨h5, h6, 9, _, _, ⟨rfl, rfl⟩, ht, h7, fun M' hE => ?_⟩, q0⟩
    obtain ⟨q1, q2⟩ := q ht M' hE
    cases hn : isNon (partU' (tupU x) (tupU p)) with
    | true =>
      rw [if_pos rfl]
      exact ⟨_, ⟨p, rfl, ⟨h5, h6⟩, rfl⟩, q2 hn⟩
    | false =>
      rw [if_neg (by decide)]
      exact .inl (q1 hn)

/-! ### rank_of -/
/-- the integer by which a node is put in order -/
def rankO : Option U → Int
  | some (.int i) => i
  | _ => 0
def rankU (ps : List U) : Int := rankO (getS (mergeS [] (ps.map pairS)) "rank")
theorem merge_ok (P : U → Prop) : ∀ (more kvs : List (Str × U)), (∀ q ∈ kvs, P q.2) → (∀ q ∈ more, P q.2) → ∀ q ∈ mergeS kvs more, P q.2
  | [], kvs, h, _ => h
  | p :: more, kvs, h, hm => by
    refine merge_ok P more (putS kvs p.1 p.2) (fun q hq => ?_) fun q hq => hm q (List.mem_cons_of_mem _ hq)
    have hp := hm p (List.mem_cons_self ..)
    unfold putS at hq
    split at hq
    · obtain ⟨r, hr, rfl⟩ := List.mem_map.mp hq
      by_cases e : r.1 = p.1
      · rw [if_pos e]; exact hp
      · rw [if_neg e]; exact h r hr
    · rcases List.mem_append.mp hq with hq | hq
      · exact h q hq
      · rw [List.mem_singleton.mp hq]; exact hp
theorem get_ok {P : U → Prop} {kvs : List (Str × U)} {z : Str} {v : U} (h : ∀ q ∈ kvs, P q.2) (e : getS kvs z = some v) : P v := by
  unfold getS at e
  obtain ⟨q, hq, rfl⟩ := Option.map_eq_some_iff.mp e
  exact h q (List.mem_of_find?_eq_some hq)
theorem value_d8 {v : U} (h : isValueU v = true) : isD v = true := by
  simp only [isValueU,Bool.or_eq_true] at h
  rcases h with (h | h) | h
  · cases v <;> simp [isIntU] at h <;> rfl
  · obtain ⟨z, rfl, _⟩ := nm_str h
    simp only [isD]; exact nm_okS h
  · cases v with
    | tup xs =>
      match xs, h with
      | [a, b], h =>
        simp only [isLinkU,Bool.and_eq_true] at h
        have ha : a = .str "link" := by cases a <;> simp [ueq] at h ⊢; exact h.1
        subst ha
        cases b with
        | tup ps =>
          have hp := h.2
          simp only [isPathU,Bool.and_eq_true] at hp
          have e1 : isD (.str "link") = true := by decide +kernel
          have e2 : isDs ps = true := isDs_iff.mpr fun y hy => by
            obtain ⟨z, rfl, _⟩ := nm_str (List.all_eq_true.mp hp.2 y hy)
            simp only [isD]; exact nm_okS (List.all_eq_true.mp hp.2 _ hy)
          simp only [isD,isDs,e2,Bool.and_true] at e1 ⊢
          exact e1
        | _ => simp [isPathU] at h
      | [], h => simp [isLinkU] at h
      | [_], h => simp [isLinkU] at h
      | _ :: _ :: _ :: _, h => simp [isLinkU] at h
    | _ => simp [isLinkU] at h
def propsOk (ps : List U) : Prop := ps.all pairU = true ∧ ∀ q ∈ ps, isValueU (sndU q) = true
theorem rank_val {ps : List U} {v : U} (h : propsOk ps) (e : getS (mergeS [] (ps.map pairS)) "rank" = some v) : isValueU v = true :=
  get_ok (P := fun v => isValueU v = true) (merge_ok (fun v => isValueU v = true) _ _ (fun _ h => absurd h List.not_mem_nil) fun q hq => by
    obtain ⟨p, hp, rfl⟩ := List.mem_map.mp hq
    exact h.2 p hp) e
def sp_rank_of : USp := fun us M Q _ => ∃ ps cs, us = [.tup [.tup ps, .tup cs]] ∧ propsOk ps ∧ ∀ M', Ext M M' → Q (.int (rankU ps)) M'
theorem ok_rank_of (L : Lw K mg) : UFn P w K mg base CX0 2 L.f_rank_of L.fd_rank_of ["part"] (sp_rank_of) := by
  refine ufn_ok L.D_rank_of.F sc_rank_of (fun us M Q E h => ?_) (fun cdv A outer s H E hr hG =>
      (uss_cons (us_set (i := 1) sc_rank_of.nd rfl (.inl rfl) (ue_dm (φ := DNo P w) rfl PySem.F.slot_dict_get PySem.F.type_dict_get (um_getS (hu2 hr)) (ue_callTy (uc_dictS rfl) (by rfl) L.n_dict bt_dict (ua_cons (ue_ix (uv 0) ue_int) ua_nil)) (ua_cons ue_str ua_nil) rfl rfl rfl rfl rfl))
      (uss_one (us_ret (ue_if (ut_val (ue_call (ok_is_integer L) (hr.mono (by decide)) hG rfl L.D_is_integer.g L.D_is_integer.F.kp L.D_is_integer.b .nil (fun _ => RelUs.nil) (ua_cons (uv 1) ua_nil))) (uv 1) ue_int))))) (fun us M Q E h => ?_)
  · obtain ⟨ps, cs, rfl, _⟩ := h
    rfl
  · obtain ⟨ps, cs, rfl, h, q⟩ := h
    have q : ∀ M', Ext M M' → ZQ Q (.int (rankU ps)) M' := fun M' hE => .inl (q M' hE)
    walk_at "q0"
    refine ⟨ps, .inl rfl, _, pairs_of h.1, fun p hp => ⟨⟨p, rfl, .inl ⟨_, _, updM_same, sok⟩⟩, _, _, rfl, sok, _, .inl ⟨rfl, ?_⟩⟩⟩
    have hE : Ext M (updM M p (.sD HO.dK (mergeS [] (ps.map pairS)))) := Ext.refl.upd hp
    have q2 := q _ hE
    have e2 : rankU ps = rankO (getS (mergeS [] (ps.map pairS)) (Str.ofString "rank")) := rfl
    rw [e2] at q2
    cases hg : getS (mergeS [] (ps.map pairS)) (Str.ofString "rank") with
    | none =>
      rw [hg] at q2
      refine ⟨.non, rfl, rfl, ?_⟩
      walk_at "q0"
      exact iteF (by simp [isIntU]) q2
    | some v =>
      rw [hg] at q2
      have hv := rank_val h hg
      refine ⟨v, rfl, value_d8 hv, ?_⟩
      walk_at "q0"
      cases v with
      | int i => exact iteT rfl q2
      | _ => exact iteF (by simp [isIntU]) q2

/-! ### in_order -/
theorem strm_ext {M M' : UHp} {s c : Addr} {n : Nat} (h : Strm M s c n) (e : Ext M M') : Strm M' s c n := by
  obtain ⟨h1, ks, a, b, d, e1, e2, r⟩ := h
  exact ⟨h1, ks, a, b, d, e _ _ e1, e _ _ e2, r⟩
theorem lc_ext {n : NT} {te : UTE} {σ : USt} {M0 : UHp} {Q : UK} {st : UHp → Prop} (F : U → U) (xs : List U) (hst : ∀ M1, Ext M0 M1 → st M1)
    (he : ∀ x ∈ xs, ∃ σ2, n.put x σ = some σ2 ∧ ∀ (M1 : UHp) (K : UK), Ext M0 M1 → (∀ M2, Ext M1 M2 → K (F x) M2) → te σ2 M1 K) (h : ∀ M1, Ext M0 M1 → Q (.lst (xs.map F)) M1) :
    ∀ D, M0 D = none → uLcGo D n z8t te st σ (fun acc M2 => M2 D = some (.lst acc) ∧ finL false D acc M2 Q) xs [] (updM M0 D (.lst [])) := fun D hD => by
  have go : ∀ (l acc : List U) (M1 : UHp), (∀ x ∈ l, x ∈ xs) → M1 D = some (.lst acc) → Ext M0 M1 → (∀ M2, Ext M0 M2 → Q (.lst (acc ++ l.map F)) M2) → uLcGo D n z8t te st σ (fun acc M2 => M2 D = some (.lst acc) ∧ finL false D acc M2 Q) l acc M1 := by
    intro l
    induction l with
    | nil =>
      intro acc M1 _ h1 h2 q
      refine ⟨hst _ h2, h1, ?_⟩
      have := q _ (h2.del hD)
      rw [List.map_nil, List.append_nil] at this
      exact this
    | cons x l ih =>
      intro acc M1 hm h1 h2 q
      obtain ⟨σ2, e1, e2⟩ := he x (hm x (List.mem_cons_self ..))
      refine ⟨hst _ h2, σ2, e1, ?_⟩
      simp only [z8t,if_true]
      refine e2 M1 _ h2 fun M2 h3 => ⟨h3 _ _ h1, ?_⟩
      refine ih _ _ (fun y hy => hm y (List.mem_cons_of_mem _ hy)) updM_same ((h2.trans h3).upd hD) fun M3 h4 => ?_
      have := q M3 h4
      simpa using this
  exact go xs [] _ (fun _ h => h) updM_same (Ext.refl.upd hD) (fun M2 h2 => by simpa using h M2 h2)

theorem lc_extR {n : NT} {te : UTE} {σ : USt} {M0 : UHp} {Q : UK} {st : UHp → Prop} (F : U → U) (xs : List U) (hst : ∀ M1, Ext M0 M1 → st M1)
    (he : ∀ x ∈ xs, ∃ σ2, n.put x σ = some σ2 ∧ ∀ (M1 : UHp) (K : UK), Ext M0 M1 → (∀ M2, Ext M1 M2 → K (F x) M2) → te σ2 M1 K) (h : ∀ D M1, M0 D = none → M1 D = some (.lst (xs.map F)) → Ext M0 M1 → Q (.ref D) M1) :
    ∀ D, M0 D = none → uLcGo D n z8t te st σ (fun acc M2 => M2 D = some (.lst acc) ∧ finL true D acc M2 Q) xs [] (updM M0 D (.lst [])) := fun D hD => by
  have go : ∀ (l acc : List U) (M1 : UHp), (∀ x ∈ l, x ∈ xs) → M1 D = some (.lst acc) → Ext M0 M1 → (∀ M2, M2 D = some (.lst (acc ++ l.map F)) → Ext M0 M2 → Q (.ref D) M2) → uLcGo D n z8t te st σ (fun acc M2 => M2 D = some (.lst acc) ∧ finL true D acc M2 Q) l acc M1 := by
    intro l
    induction l with
    | nil =>
      intro acc M1 _ h1 h2 q
      exact ⟨hst _ h2, h1, q _ (by simpa using h1) h2⟩
    | cons x l ih =>
      intro acc M1 hm h1 h2 q
      obtain ⟨σ2, e1, e2⟩ := he x (hm x (List.mem_cons_self ..))
      refine ⟨hst _ h2, σ2, e1, ?_⟩
      simp only [z8t,if_true]
      refine e2 M1 _ h2 fun M2 h3 => ⟨h3 _ _ h1, ?_⟩
      exact ih _ _ (fun y hy => hm y (List.mem_cons_of_mem _ hy)) updM_same ((h2.trans h3).upd hD) fun M3 h4 h5 => q M3 (by simpa using h4) h5
  exact go xs [] _ (fun _ h => h) updM_same (Ext.refl.upd hD) (fun M2 h1 h2 => h D M2 hD (by simpa using h1) h2)

theorem part_w : ∀ (r : List U) (l : Nat) (x y : U), treeN l x = true → partAt x r = some y → wid y ≤ wid x
  | [], l, x, y, h, e => by
    rw [partAt] at e
    cases e; exact Nat.le_refl _
  | m :: r, 0, x, y, h, _ => by simp [treeN] at h
  | m :: r, l + 1, x, y, h, e => by
    obtain ⟨ps, cs, rfl, hps, hcs, hvs, hts⟩ := tree_sh h
    simp only [partU,Bool.and_eq_true] at hcs
    cases m with
    | str z =>
      simp only [partAt] at e
      obtain ⟨c, h1, h2⟩ := Option.bind_eq_some_iff.mp e
      obtain ⟨q, hq, _, rfl⟩ := child_mem h1
      have h3 := part_w r l _ y (List.all_eq_true.mp hts q hq) h2
      obtain ⟨z', b, rfl, _⟩ := pair_is (List.all_eq_true.mp hcs.1 q hq)
      have h4 := wids_le.mp (Nat.le_refl (wids cs)) _ hq
      simp only [wid,wids,sndU] at h3 h4 ⊢
      omega
    | _ => simp [partAt] at e

/-- the children by rank and name -/
def irOf (c : U) : Int × Str := (match c with | .tup [.str z, .tup [.tup ps, _]] => (rankU ps, z) | _ => (0, ""))
def sndS : U → U
  | .tup [_, x] => x
  | _ => .non
def orderU : U → List U
  | .tup [_, .tup cs] => (srtU (cs.map fun c => irU (irOf c))).map sndS
  | _ => []
def sp_in_order (CB CN : Addr) : USp := fun us M Q E => ∃ x p, us = [x, p] ∧ isD x = true ∧ dep x ≤ 60 ∧ wid (tupU x) ≤ 62 ∧ isD (tupU x) = true ∧ isD p = true ∧ dep p ≤ 60 ∧ isD (tupU p) = true ∧ (treeN 9 (tupU x) = false → E (.ref CB) none M) ∧ (treeN 9 (tupU x) = true → ∀ M', Ext M M' →
  (isNon (partU' (tupU x) (tupU p)) = false → ∀ g M2, M' g = none → M2 g = some (.lst (orderU (partU' (tupU x) (tupU p)))) → Ext M' M2 → Q (.ref g) M2) ∧ (isNon (partU' (tupU x) (tupU p)) = true → ∀ d, M' d = none → E (.ref CN) (some d) (updM M' d (.xd [(("path" : Str), tupU p)]))))
local macro_rules | `(tactic| walk_at "q6") => `(tactic| simp only [z8i,uOr,z8d,z8m,uCB,z7t,z8l,uC,z8o,z7w,uOp,uUn,z8s,z8j,uIf,z8e,z7v,z7u,z7s,uBM,z8g,uSl,z4x,z8r,z72,z8q,z7x,List.append_nil,z8t,z80,z8y,z7z,z8u,z81,z8w,z8v,xIf,z74,z8x,z8p,z3t,z8n,z7m,z7q,z7o,z7p,z5w,z5v,z7a,z3l,z3m,z75,z5g,z8k,asD,uXf,z8f,z5n,z7y,z6e,z6d,z68,z67,z63,z5h,z5i,z5j,z3v,z3w,z6f,z64,z62,z5r,z6b,z7j,z7k,z7i,z7c,z7b,z7l,z7e,z5o,z2m,z2w,z2k,z2o,z2p,z2l,z2n,z5c,z73,z5a,z5e,z5f,z5b,z3g,z5d,z3e,z2q,z2r,z3i,z3k,z3j,z39,z3a,z37,z38,z4q,z6h,z4o,z4s,z4t,z4p,z3f,z4r,z4e,z4d,z3b,z2s,z3d,z3c,z0h,z0g,z0d,z0a,z0f,z0e,z1o,z1n,z0u,z0j,z0w,z0v,z2d,z2c,z1r,z10,z1t,z1s,z2f,z2e,z1w,z14,z1y,z1x,z16,z15,z0m,z0i,z0o,z0n,z1v,z1u,z11,z0l,z13,z12,z1q,z1p,z0x,z0k,z0z,z0y,z4i,z6g,z4g,z4j,z4k,z4h,z82,z88,z46,z5x,z44,z47,z48,z45,z2v,z2j,z40,z5q,z3y,z41,z42,z3z,z2u,z2i,z6y,z70,z6x,z71,z6z,z59,z56,z57,z58,z87,z86,z7r,z79,z7n,z7d,z5y,z76,z77,z6c,z69,z6a,z8b,z8c,z89,z8a,z85,z83,z84,z4v,z4u,z6i,z78,z5m,z5l,z5k,z6n,z6o,z6p,z6q,z6r,z6s,z6t,z6u,z6v,z6w,z50,z51,z52,z53,z54,z55,z4b,z4c,z49,z27,z26,z1e,z0r,z1g,z1f,z05,z04,z2h,z2g,z1z,z17,z21,z20,z0c,z0b,z23,z22,z18,z0p,z1a,z19,z01,z00,z29,z28,z1h,z0s,z1j,z1i,z07,z06,z2b,z2a,z1k,z0t,z1m,z1l,z09,z08,z25,z24,z1b,z0q,z1d,z1c,z03,z02,z6m,z8h,z4z,z6l,z6k,z4w,z4y,z3s,z6j,z3p,z4f,z3n,z3q,z3r,z3o,z5p,z2t,z3h,z4n,z4l,z4a,z66,z65,z4m,z60,z61,z5z,z32,z2x,z33,z2y,z34,z2z,z35,z30,z36,z31,z7h,z7g,z3u,z5u,z3x,z7f,z5t,z43,z5s,cle,clt,cge,cgt,ceq,cne,lenN,xFor,xTryM,uMix,uEnum,uZip,ltT,uSortK,sortK,sortN,uDNew,uDGet,inN,setN,uDNewS,uDGetS,inS,setS,uDm,uDm0,getR,popS,setdS,getNR,setdN,popNR,itemsR,lenS,dictS,sortItR,uFld,uFst,uMake,uLock,uLockE,uKeys,sortE,sortL,xOp,reprT_1,listN,mulT,gLst_l,gLst_r,sum_l,sum_r,min_ii,max_ii,sortSD,pop1S,dictN,uD1,updN,exists_eq_left',exists_eq_left,Option.some.injEq,U.int.injEq,U.bl.injEq,U.str.injEq,U.ref.injEq,U.tup.injEq,U.lst.injEq,U.ty.injEq,List.cons.injEq,and_true,true_and,and_self,List.map_cons,List.map_nil,List.length_cons,List.length_nil,List.cons_append,List.nil_append,List.append_nil,List.getElem?_cons_zero,List.getElem?_cons_succ,List.set_cons_zero,List.set_cons_succ,List.replicate,↓reduceIte,Bool.false_eq_true,Bool.not_true,Bool.not_false,reduceCtorEq,Nat.reduceAdd,Nat.reduceSub,Nat.reduceLeDiff,Nat.reduceEqDiff,decide_true,decide_false,at0,at1,at2,at3,at4,ix0,ix1,ix2,ix3,ix4,updM_same,beq_self_eq_true,Option.bind,Option.map,wipeU,NT.put,puts,MO.lst.injEq,exists_and_left,decide_eq_true_eq,Bool.and_eq_true,Bool.or_eq_true,exists_eq',Nat.zero_le,true_or,or_true,uLc,uAnyI])
theorem ok_in_order (L : Lw K mg) : UFn P w K mg base (L2.CX P w) 66 L.f_in_order L.fd_in_order ["tree", "path"] (sp_in_order L.C_BadTree L.C_NoNode) := by
  refine ufn_okX L.D_in_order.F sc_in_order (fun us M Q E h => ?_) (fun cdv A outer s H E hr hG =>
      (xss_cons (xs_set (i := 2) sc_in_order.nd rfl (.inl rfl) (xe_ix (xe_call (takes_of rfl rfl rfl rfl) (ok_node L) (hr.mono (by decide)) hG rfl L.D_node.g L.D_node.F.kp L.D_node.b .nil (fun _ => RelUs.nil) (xa_cons (xe_of (uv 0)) (xa_cons (xe_of (uv 1)) (xa_of ua_nil)))) (xe_of ue_int)))
      (xss_of (uss_one (us_ret (ue_lc (own := [("rank", 3), ("name", 4)]) (n := (.tup [(.one 3), (.one 4)])) true rfl sc_in_order.nd (ui_any (ue_callB (uc_sortedL false (hu2 hr)) (by rfl) L.n_sorted bt_sorted (ua_cons (ue_lc (own := [("name", 4), ("child", 5)]) (n := (.tup [(.one 4), (.one 5)])) false rfl sc_in_order.nd (ui_any (uv 2)) (blkOk_by (own := [("name", 4), ("child", 5)]) (N := ["tree", "path", "children", "rank", "name", "child"]) (sc := defScope s_in_order) (by decide +kernel)) (by decide) (fun _ _ _ _ _ => (pg_ntt rfl (pgs_nt_cons (pg_nt sc_in_order.nd rfl (.inl rfl)) (pgs_nt_cons (pg_nt sc_in_order.nd rfl (.inl rfl)) pgs_nt_nil)))) (fun _ _ _ _ _ => uts_nil) (fun _ _ _ _ _ => (ue_tup (ua_cons (ue_call (ok_rank_of L) (hr.mono (by decide)) hG rfl L.D_rank_of.g L.D_rank_of.F.kp L.D_rank_of.b .nil (fun _ => RelUs.nil) (ua_cons (uv 5) ua_nil)) (ua_cons (uv 4) ua_nil))))) ua_nil))) (blkOk_by (own := [("rank", 3), ("name", 4)]) (N := ["tree", "path", "children", "rank", "name", "child"]) (sc := defScope s_in_order) (by decide +kernel)) (by decide) (fun _ _ _ _ _ => (pg_ntt rfl (pgs_nt_cons (pg_nt sc_in_order.nd rfl (.inl rfl)) (pgs_nt_cons (pg_nt sc_in_order.nd rfl (.inl rfl)) pgs_nt_nil)))) (fun _ _ _ _ _ => uts_nil) (fun _ _ _ _ _ => (uv 4)))))))) (fun us M Q E h => ?_)
  · obtain ⟨x, p, rfl, _⟩ := h
    rfl
  · obtain ⟨x, p, rfl, h1, h2, h3, h4, h5, h6, h7, q0, q⟩ := h
    walk_at "q0"
    refine ⟨x, p, rfl, h1, h2, h3, h4, h5, h6, h7, q0, fun ht M' hE => ⟨fun hn => ?_, fun hn => (q ht M' hE).2 hn⟩⟩
    have qq := (q ht M' hE).1 hn
    obtain ⟨y, hy, hys⟩ : ∃ y, partU' (tupU x) (tupU p) = y ∧ (∃ m, treeN (m + 1) y = true) ∧ wid y ≤ wid (tupU x) := by
      refine ⟨_, rfl, ?_⟩
      unfold partU' at hn ⊢
      cases hp : isPathU (tupU p) with
      | false => rw [hp] at hn; cases hn
      | true =>
        rw [hp, if_pos rfl] at hn
        rw [if_pos rfl]
        cases hpa : partAt (tupU x) (seqO (tupU p)) with
        | none => rw [hpa] at hn; cases hn
        | some y =>
          obtain ⟨m, hm⟩ := part_tree 9 _ _ _ ht hpa
          cases m with
          | zero => simp [treeN] at hm
          | succ m => exact ⟨⟨m, hm⟩, part_w _ 9 _ _ ht hpa⟩
    rw [hy] at qq ⊢
    obtain ⟨⟨m, hm⟩, hw⟩ := hys
    obtain ⟨ps, cs, rfl, hps, hcs, hvs, hts⟩ := tree_sh hm
    simp only [partU,Bool.and_eq_true] at hcs
    have hci : ∀ c ∈ cs, ∃ z qs ds, c = .tup [.str z, .tup [.tup qs, .tup ds]] ∧ propsOk qs ∧ okS z = true := fun c hc => by
      obtain ⟨z, b, rfl, hz⟩ := pair_is (List.all_eq_true.mp hcs.1 c hc)
      have hb := List.all_eq_true.mp hts _ hc
      cases m with
      | zero => simp [treeN, sndU] at hb
      | succ m =>
        obtain ⟨qs, ds, e, h1, h2, h3, _⟩ := tree_sh hb
        simp only [sndU] at e
        simp only [partU,Bool.and_eq_true] at h1
        exact ⟨z, qs, ds, by rw [e], ⟨h1.1, fun q hq => List.all_eq_true.mp h3 q hq⟩, nm_okS hz⟩
    have hst : SrtA (cs.map fun c => irU (irOf c)) := by
      have e : (cs.map fun c => irU (irOf c)) = (cs.map irOf).map irU := by rw [List.map_map]; rfl
      rw [e]
      refine irU_srt fun p hp => ?_
      obtain ⟨c, hc, rfl⟩ := List.mem_map.mp hp
      obtain ⟨z, qs, ds, rfl, _, hz⟩ := hci c hc
      simp only [irOf,irU,isD,isDs,hz]; rfl
    have hsz : cs.length ≤ sizeLine := by
      simp only [wid,wids] at hw
      exact line_le (by omega)
    walk_at "q6"
    refine lc_ext (fun c => irU (irOf c)) cs (fun _ _ => True.intro) (fun c hc => ?_) fun M1 hE1 => ?_
    · obtain ⟨z, qs, ds, rfl, hq, hz⟩ := hci c hc
      refine ⟨_, rfl, fun M1 K hE1 k => ?_⟩
      walk_at "q0"
      exact ⟨qs, ds, rfl, hq, fun M2 hE2 => ⟨line_le, k M2 hE2⟩⟩
    · refine ⟨_, rfl, by rw [List.length_map]; exact hsz, hst, ?_⟩
      refine lc_extR sndS _ (fun _ _ => True.intro) (fun c hc => ?_) fun g M2 hg0 hg1 hE2 => .inl (qq g M2 (hE1.none hg0) hg1 (hE1.trans hE2))
      obtain ⟨c0, hc0, rfl⟩ : ∃ c0, c0 ∈ cs ∧ c = irU (irOf c0) := by
        have h1 := (List.mergeSort_perm (cs.map fun c => irU (irOf c)) kleU).mem_iff.mp hc
        obtain ⟨c0, h2, rfl⟩ := List.mem_map.mp h1
        exact ⟨c0, h2, rfl⟩
      refine ⟨_, rfl, fun M2 K hE2 k => ?_⟩
      walk_at "q0"
      exact k M2 Ext.refl

/-! ### _law_draw -/
def sp__law_draw : USp := fun us M Q _ => ∃ s c n many, us = [.ref s, .int many] ∧ 0 < many ∧ many < 536870912 ∧ Strm M s c (n + 1) ∧ ∀ r M', 0 ≤ r → r < many → Strm M' s c n → But s c M M' → Q (.int r) M'
theorem draw_use {M : UHp} {Q : UK} {E : UXK} {s c : Addr} {n : Nat} {many : Int} (hS : Strm M s c (n + 1)) (h0 : 0 < many) (h1 : many < 536870912) (h : ∀ r M', 0 ≤ r → r < many → Strm M' s c n → But s c M M' → Q (.int r) M') :
    sp__law_draw [.ref s, .int many] M Q E := ⟨s, c, n, many, rfl, h0, h1, hS, h⟩
theorem ok__law_draw (L : Lw K mg) : UFn P w K mg base CX0 1 L.f__law_draw L.fd__law_draw ["_law_stream", "_law_many"] (sp__law_draw) := by
  refine ufn_ok L.D__law_draw.F sc__law_draw (fun us M Q E h => ?_) (fun cdv A outer s H E hr hG =>
      (uss_cons (us_asg (ue_op (uo_add false) (ue_ix (uv 0) ue_int) ue_int) (ug_sub ui_set (uv 0) ue_int))
      (uss_cons (us_if (PW.pt (uw_and (ut_cmp (uo_eq (hu6 hr)) (ue_ix (uv 0) ue_int) ue_int (nomark _)) (uw_and1 (ut_cmp (uo_ne (hu6 hr)) (ue_ix (uv 0) ue_int) (ue_lst false ua_nil) (nomark _))))) (uss_cons (us_asg (ue_bm PySem.F.plainAttrs_list PySem.F.slot_list_pop PySem.F.type_list_pop um_popAt (ue_ix (uv 0) ue_int) (ua_cons ue_int ua_nil)) (ug_sub ui_set (uv 0) ue_int))
      (uss_one (us_if (ut_cmp uo_lt (ue_ix (uv 0) ue_int) (ue_op uo_pow ue_int ue_int) (nomark _)) (uss_cons (us_asg (ue_op uo_mod (ue_callTy uc_int2 (by rfl) L.n_int bt_int (ua_cons (ue_op (uo_add false) (ue_op (uo_add false) (ue_op (uo_mul false false) (ue_ix (uv 0) ue_int) ue_int) (ue_ix (uv 0) ue_int)) ue_int) ua_nil)) ue_int) (ug_sub ui_set (uv 0) ue_int))
      (uss_one (us_asg ue_int (ug_sub ui_set (uv 0) ue_int)))) uss_nil))) uss_nil)
      (uss_cons (us_if (ut_cmp uo_gt (ue_ix (uv 0) ue_int) ue_int (nomark _)) (uss_cons (us_set (i := 3) sc__law_draw.nd rfl (.inl rfl) (ue_op uo_mod (ue_callTy uc_int2 (by rfl) L.n_int bt_int (ua_cons (ue_ix (uv 0) ue_int) ua_nil)) (uv 1)))
      (uss_cons (us_asg (ue_op uo_div (ue_ix (uv 0) ue_int) (uv 1)) (ug_sub ui_set (uv 0) ue_int))
      (uss_one (us_ret (uv 3))))) uss_nil)
      (uss_cons (us_set (i := 2) sc__law_draw.nd rfl (.inl rfl) (ue_op uo_mod (ue_op uo_pow (ue_op (uo_add false) (ue_op (uo_add false) (ue_ix (uv 0) ue_int) (ue_op (uo_mul false false) ue_int (ue_ix (uv 0) ue_int))) ue_int) ue_int) ue_int))
      (uss_one (us_ret (ue_op uo_mod (ue_op uo_mod (ue_op uo_pow (ue_op (uo_add false) (ue_op (uo_add false) (ue_op (uo_mul false false) (uv 2) ue_int) (ue_op (uo_mul false false) (ue_op (uo_mul false false) ue_int (ue_ix (uv 0) ue_int)) (ue_ix (uv 0) ue_int))) ue_int) ue_int) ue_int) (uv 1))))))))) (fun us M Q E h => ?_)
  · obtain ⟨s, c, n, many, rfl, _⟩ := h
    rfl
  · obtain ⟨s, c, n, many, rfl, hm0, hm1, ⟨hsc, ks, a, b, d, e1, e2, ha, hb, hd0, hd1, hk⟩, q⟩ := h
    have q : ∀ r M', 0 ≤ r → r < many → Strm M' s c n → But s c M M' → ZQ Q (.int r) M' := fun r M' h0 h1 h2 h3 => .inl (q r M' h0 h1 h2 h3)
    have hcs := Ne.symm hsc
    by_cases h0 : a = 0
    · subst h0
      cases ks with
      | nil =>
        simp only [z8i,uOr,z8d,z8m,uCB,z7t,z8l,uC,z8o,z7w,uOp,uUn,z8s,z8j,uIf,z8e,z7v,z7u,z7s,uBM,z8g,uSl,z4x,z8r,z72,z8q,z7x,List.append_nil,z8t,z80,z8y,z7z,z8u,z81,z8w,z8v,xIf,z74,z8x,z8p,z3t,z8n,z7m,z7q,z7o,z7p,z5w,z5v,z7a,z3l,z3m,z75,z5g,z8k,asD,uXf,z8f,z5n,z7y,z6e,z6d,z68,z67,z63,z5h,z5i,z5j,z3v,z3w,z6f,z64,z62,z5r,z6b,z7j,z7k,z7i,z7c,z7b,z7l,z7e,z5o,z2m,z2w,z2k,z2o,z2p,z2l,z2n,z5c,z73,z5a,z5e,z5f,z5b,z3g,z5d,z3e,z2q,z2r,z3i,z3k,z3j,z39,z3a,z37,z38,z4q,z6h,z4o,z4s,z4t,z4p,z3f,z4r,z4e,z4d,z3b,z2s,z3d,z3c,z0h,z0g,z0d,z0a,z0f,z0e,z1o,z1n,z0u,z0j,z0w,z0v,z2d,z2c,z1r,z10,z1t,z1s,z2f,z2e,z1w,z14,z1y,z1x,z16,z15,z0m,z0i,z0o,z0n,z1v,z1u,z11,z0l,z13,z12,z1q,z1p,z0x,z0k,z0z,z0y,z4i,z6g,z4g,z4j,z4k,z4h,z82,z88,z46,z5x,z44,z47,z48,z45,z2v,z2j,z40,z5q,z3y,z41,z42,z3z,z2u,z2i,z6y,z70,z6x,z71,z6z,z59,z56,z57,z58,z87,z86,z7r,z79,z7n,z7d,z5y,z76,z77,z6c,z69,z6a,z8b,z8c,z89,z8a,z85,z83,z84,z4v,z4u,z6i,z78,z5m,z5l,z5k,z6n,z6o,z6p,z6q,z6r,z6s,z6t,z6u,z6v,z6w,z50,z51,z52,z53,z54,z55,z4b,z4c,z49,z27,z26,z1e,z0r,z1g,z1f,z05,z04,z2h,z2g,z1z,z17,z21,z20,z0c,z0b,z23,z22,z18,z0p,z1a,z19,z01,z00,z29,z28,z1h,z0s,z1j,z1i,z07,z06,z2b,z2a,z1k,z0t,z1m,z1l,z09,z08,z25,z24,z1b,z0q,z1d,z1c,z03,z02,z6m,z8h,z4z,z6l,z6k,z4w,z4y,z3s,z6j,z3p,z4f,z3n,z3q,z3r,z3o,z5p,z2t,z3h,z4n,z4l,z4a,z66,z65,z4m,z60,z61,z5z,z32,z2x,z33,z2y,z34,z2z,z35,z30,z36,z31,z7h,z7g,z3u,z5u,z3x,z7f,z5t,z43,z5s,cle,clt,cge,cgt,ceq,cne,lenN,xFor,xTryM,uMix,uEnum,uZip,ltT,uSortK,sortK,sortN,uDNew,uDGet,inN,setN,uDNewS,uDGetS,inS,setS,uDm,uDm0,getR,popS,setdS,getNR,setdN,popNR,itemsR,lenS,dictS,sortItR,uFld,uFst,uMake,uLock,uLockE,uKeys,sortE,sortL,xOp,reprT_1,listN,mulT,gLst_l,gLst_r,sum_l,sum_r,min_ii,max_ii,sortSD,pop1S,dictN,uD1,updN,exists_eq_left',exists_eq_left,Option.some.injEq,U.int.injEq,U.bl.injEq,U.str.injEq,U.ref.injEq,U.tup.injEq,U.lst.injEq,U.ty.injEq,List.cons.injEq,and_true,true_and,and_self,List.map_cons,List.map_nil,List.length_cons,List.length_nil,List.cons_append,List.nil_append,List.append_nil,List.getElem?_cons_zero,List.getElem?_cons_succ,List.set_cons_zero,List.set_cons_succ,List.replicate,↓reduceIte,Bool.false_eq_true,Bool.not_true,Bool.not_false,reduceCtorEq,Nat.reduceAdd,Nat.reduceSub,Nat.reduceLeDiff,Nat.reduceEqDiff,decide_true,decide_false,at0,at1,at2,at3,at4,ix0,ix1,ix2,ix3,ix4,updM_same,beq_self_eq_true,Option.bind,Option.map,wipeU,NT.put,puts,MO.lst.injEq,exists_and_left,decide_eq_true_eq,Bool.and_eq_true,Bool.or_eq_true,exists_eq',Nat.zero_le,true_or,or_true,e1,e2,updM_ne hcs,updM_ne hsc]
        rw [if_neg (Int.lt_irrefl 0)]
        refine mix_ok (G := fun r => ZQ Q (.int r) _) hd0 hd1 (by omega) hm0 fun r h0 h1 => q r _ h0 h1 (strm_mk hsc updM_same (by rw [updM_ne hcs, e2]) (by decide) hb hd0 hd1 hk) (But.eq fun x h1 h2 => updM_ne h1)
      | cons k ks =>
        have hk' : ks.length ≤ 63 := by simp at hk; omega
        simp only [z8i,uOr,z8d,z8m,uCB,z7t,z8l,uC,z8o,z7w,uOp,uUn,z8s,z8j,uIf,z8e,z7v,z7u,z7s,uBM,z8g,uSl,z4x,z8r,z72,z8q,z7x,List.append_nil,z8t,z80,z8y,z7z,z8u,z81,z8w,z8v,xIf,z74,z8x,z8p,z3t,z8n,z7m,z7q,z7o,z7p,z5w,z5v,z7a,z3l,z3m,z75,z5g,z8k,asD,uXf,z8f,z5n,z7y,z6e,z6d,z68,z67,z63,z5h,z5i,z5j,z3v,z3w,z6f,z64,z62,z5r,z6b,z7j,z7k,z7i,z7c,z7b,z7l,z7e,z5o,z2m,z2w,z2k,z2o,z2p,z2l,z2n,z5c,z73,z5a,z5e,z5f,z5b,z3g,z5d,z3e,z2q,z2r,z3i,z3k,z3j,z39,z3a,z37,z38,z4q,z6h,z4o,z4s,z4t,z4p,z3f,z4r,z4e,z4d,z3b,z2s,z3d,z3c,z0h,z0g,z0d,z0a,z0f,z0e,z1o,z1n,z0u,z0j,z0w,z0v,z2d,z2c,z1r,z10,z1t,z1s,z2f,z2e,z1w,z14,z1y,z1x,z16,z15,z0m,z0i,z0o,z0n,z1v,z1u,z11,z0l,z13,z12,z1q,z1p,z0x,z0k,z0z,z0y,z4i,z6g,z4g,z4j,z4k,z4h,z82,z88,z46,z5x,z44,z47,z48,z45,z2v,z2j,z40,z5q,z3y,z41,z42,z3z,z2u,z2i,z6y,z70,z6x,z71,z6z,z59,z56,z57,z58,z87,z86,z7r,z79,z7n,z7d,z5y,z76,z77,z6c,z69,z6a,z8b,z8c,z89,z8a,z85,z83,z84,z4v,z4u,z6i,z78,z5m,z5l,z5k,z6n,z6o,z6p,z6q,z6r,z6s,z6t,z6u,z6v,z6w,z50,z51,z52,z53,z54,z55,z4b,z4c,z49,z27,z26,z1e,z0r,z1g,z1f,z05,z04,z2h,z2g,z1z,z17,z21,z20,z0c,z0b,z23,z22,z18,z0p,z1a,z19,z01,z00,z29,z28,z1h,z0s,z1j,z1i,z07,z06,z2b,z2a,z1k,z0t,z1m,z1l,z09,z08,z25,z24,z1b,z0q,z1d,z1c,z03,z02,z6m,z8h,z4z,z6l,z6k,z4w,z4y,z3s,z6j,z3p,z4f,z3n,z3q,z3r,z3o,z5p,z2t,z3h,z4n,z4l,z4a,z66,z65,z4m,z60,z61,z5z,z32,z2x,z33,z2y,z34,z2z,z35,z30,z36,z31,z7h,z7g,z3u,z5u,z3x,z7f,z5t,z43,z5s,cle,clt,cge,cgt,ceq,cne,lenN,xFor,xTryM,uMix,uEnum,uZip,ltT,uSortK,sortK,sortN,uDNew,uDGet,inN,setN,uDNewS,uDGetS,inS,setS,uDm,uDm0,getR,popS,setdS,getNR,setdN,popNR,itemsR,lenS,dictS,sortItR,uFld,uFst,uMake,uLock,uLockE,uKeys,sortE,sortL,xOp,reprT_1,listN,mulT,gLst_l,gLst_r,sum_l,sum_r,min_ii,max_ii,sortSD,pop1S,dictN,uD1,updN,exists_eq_left',exists_eq_left,Option.some.injEq,U.int.injEq,U.bl.injEq,U.str.injEq,U.ref.injEq,U.tup.injEq,U.lst.injEq,U.ty.injEq,List.cons.injEq,and_true,true_and,and_self,List.map_cons,List.map_nil,List.length_cons,List.length_nil,List.cons_append,List.nil_append,List.append_nil,List.getElem?_cons_zero,List.getElem?_cons_succ,List.set_cons_zero,List.set_cons_succ,List.replicate,↓reduceIte,Bool.false_eq_true,Bool.not_true,Bool.not_false,reduceCtorEq,Nat.reduceAdd,Nat.reduceSub,Nat.reduceLeDiff,Nat.reduceEqDiff,decide_true,decide_false,at0,at1,at2,at3,at4,ix0,ix1,ix2,ix3,ix4,updM_same,beq_self_eq_true,Option.bind,Option.map,wipeU,NT.put,puts,MO.lst.injEq,exists_and_left,decide_eq_true_eq,Bool.and_eq_true,Bool.or_eq_true,exists_eq',Nat.zero_le,true_or,or_true,e1,e2,updM_ne hcs,updM_ne hsc,isDs_ints,List.eraseIdx,updM_updM]
        refine ⟨by decide, ⟨by decide, by decide, by decide⟩, ?_⟩
        have hd2 := Int.emod_nonneg (d * 31 + k + 7) (show (2147483647 : Int) ≠ 0 by decide)
        have hd3 := Int.emod_lt_of_pos (d * 31 + k + 7) (show (0 : Int) < 2147483647 by decide)
        split
        · refine ⟨.inl ⟨by omega, by omega⟩, by decide, ?_⟩
          rw [if_neg (Int.lt_irrefl 0)]
          refine mix_ok (G := fun r => ZQ Q (.int r) _) hd2 hd3 (by omega) hm0 fun r h0 h1 => q r _ h0 h1 (strm_mk (ks := ks) hsc updM_same (by rw [updM_ne hcs, updM_same]) (by decide) hb hd2 hd3 hk') (But.eq fun x h1 h2 => ?_)
          rw [updM_ne h1, updM_ne h2, updM_ne h1]
        · rename_i h10
          have h11 : ¬ k < 1000000000000000000 := h10
          rw [if_pos (by omega)]
          refine ⟨hm0, ⟨hm0, by omega⟩, ?_⟩
          refine q _ _ (Int.emod_nonneg _ (by omega)) (Int.emod_lt_of_pos _ hm0) (strm_mk (ks := ks) hsc updM_same (by rw [updM_ne hcs, updM_same]) (Int.ediv_nonneg (by omega) (by omega)) hb hd0 hd1 hk') (But.eq fun x h1 h2 => ?_)
          rw [updM_ne h1, updM_ne h2, updM_ne h1]
    · simp only [z8i,uOr,z8d,z8m,uCB,z7t,z8l,uC,z8o,z7w,uOp,uUn,z8s,z8j,uIf,z8e,z7v,z7u,z7s,uBM,z8g,uSl,z4x,z8r,z72,z8q,z7x,List.append_nil,z8t,z80,z8y,z7z,z8u,z81,z8w,z8v,xIf,z74,z8x,z8p,z3t,z8n,z7m,z7q,z7o,z7p,z5w,z5v,z7a,z3l,z3m,z75,z5g,z8k,asD,uXf,z8f,z5n,z7y,z6e,z6d,z68,z67,z63,z5h,z5i,z5j,z3v,z3w,z6f,z64,z62,z5r,z6b,z7j,z7k,z7i,z7c,z7b,z7l,z7e,z5o,z2m,z2w,z2k,z2o,z2p,z2l,z2n,z5c,z73,z5a,z5e,z5f,z5b,z3g,z5d,z3e,z2q,z2r,z3i,z3k,z3j,z39,z3a,z37,z38,z4q,z6h,z4o,z4s,z4t,z4p,z3f,z4r,z4e,z4d,z3b,z2s,z3d,z3c,z0h,z0g,z0d,z0a,z0f,z0e,z1o,z1n,z0u,z0j,z0w,z0v,z2d,z2c,z1r,z10,z1t,z1s,z2f,z2e,z1w,z14,z1y,z1x,z16,z15,z0m,z0i,z0o,z0n,z1v,z1u,z11,z0l,z13,z12,z1q,z1p,z0x,z0k,z0z,z0y,z4i,z6g,z4g,z4j,z4k,z4h,z82,z88,z46,z5x,z44,z47,z48,z45,z2v,z2j,z40,z5q,z3y,z41,z42,z3z,z2u,z2i,z6y,z70,z6x,z71,z6z,z59,z56,z57,z58,z87,z86,z7r,z79,z7n,z7d,z5y,z76,z77,z6c,z69,z6a,z8b,z8c,z89,z8a,z85,z83,z84,z4v,z4u,z6i,z78,z5m,z5l,z5k,z6n,z6o,z6p,z6q,z6r,z6s,z6t,z6u,z6v,z6w,z50,z51,z52,z53,z54,z55,z4b,z4c,z49,z27,z26,z1e,z0r,z1g,z1f,z05,z04,z2h,z2g,z1z,z17,z21,z20,z0c,z0b,z23,z22,z18,z0p,z1a,z19,z01,z00,z29,z28,z1h,z0s,z1j,z1i,z07,z06,z2b,z2a,z1k,z0t,z1m,z1l,z09,z08,z25,z24,z1b,z0q,z1d,z1c,z03,z02,z6m,z8h,z4z,z6l,z6k,z4w,z4y,z3s,z6j,z3p,z4f,z3n,z3q,z3r,z3o,z5p,z2t,z3h,z4n,z4l,z4a,z66,z65,z4m,z60,z61,z5z,z32,z2x,z33,z2y,z34,z2z,z35,z30,z36,z31,z7h,z7g,z3u,z5u,z3x,z7f,z5t,z43,z5s,cle,clt,cge,cgt,ceq,cne,lenN,xFor,xTryM,uMix,uEnum,uZip,ltT,uSortK,sortK,sortN,uDNew,uDGet,inN,setN,uDNewS,uDGetS,inS,setS,uDm,uDm0,getR,popS,setdS,getNR,setdN,popNR,itemsR,lenS,dictS,sortItR,uFld,uFst,uMake,uLock,uLockE,uKeys,sortE,sortL,xOp,reprT_1,listN,mulT,gLst_l,gLst_r,sum_l,sum_r,min_ii,max_ii,sortSD,pop1S,dictN,uD1,updN,exists_eq_left',exists_eq_left,Option.some.injEq,U.int.injEq,U.bl.injEq,U.str.injEq,U.ref.injEq,U.tup.injEq,U.lst.injEq,U.ty.injEq,List.cons.injEq,and_true,true_and,and_self,List.map_cons,List.map_nil,List.length_cons,List.length_nil,List.cons_append,List.nil_append,List.append_nil,List.getElem?_cons_zero,List.getElem?_cons_succ,List.set_cons_zero,List.set_cons_succ,List.replicate,↓reduceIte,Bool.false_eq_true,Bool.not_true,Bool.not_false,reduceCtorEq,Nat.reduceAdd,Nat.reduceSub,Nat.reduceLeDiff,Nat.reduceEqDiff,decide_true,decide_false,at0,at1,at2,at3,at4,ix0,ix1,ix2,ix3,ix4,updM_same,beq_self_eq_true,Option.bind,Option.map,wipeU,NT.put,puts,MO.lst.injEq,exists_and_left,decide_eq_true_eq,Bool.and_eq_true,Bool.or_eq_true,exists_eq',Nat.zero_le,true_or,or_true,e1,e2,updM_ne hcs,updM_ne hsc,beq_eq_false_iff_ne.mpr h0,updM_updM]
      rw [if_pos (by omega)]
      refine ⟨hm0, ⟨hm0, by omega⟩, ?_⟩
      exact q _ _ (Int.emod_nonneg _ (by omega)) (Int.emod_lt_of_pos _ hm0) (strm_mk hsc updM_same (by rw [updM_ne hcs, e2]) (Int.ediv_nonneg (by omega) (by omega)) hb hd0 hd1 hk) (But.eq fun x h1 h2 => updM_ne h1)

/-! ### _law_same -/
def sp__law_same : USp := fun us M Q _ => ∃ x y, us = [x, y] ∧ okR (valT M x) ∧ okR (valT M y) ∧ Q (.bl (rep (valT M x) == rep (valT M y))) M
theorem ok__law_same (L : Lw K mg) : UFn P w K mg base CX0 1 L.f__law_same L.fd__law_same ["_law_found", "_law_due"] (sp__law_same) := by
  refine ufn_ok L.D__law_same.F sc__law_same (fun us M Q E h => ?_) (fun cdv A outer s H E hr hG =>
      (uss_one (us_ret (ue_cmp (uo_eq (hu6 hr)) (ue_callB (uc_reprT hG (hu2 hr)) (by rfl) L.n_repr bt_repr (ua_cons (uv 0) ua_nil)) (ue_callB (uc_reprT hG (hu2 hr)) (by rfl) L.n_repr bt_repr (ua_cons (uv 1) ua_nil)) (nomark _))))) (fun us M Q E h => ?_)
  · obtain ⟨x, y, rfl, _⟩ := h
    rfl
  · obtain ⟨x, y, rfl, hx, hy, q⟩ := h
    have q : ZQ Q _ M := .inl q
    simp only [z8i,uOr,z8d,z8m,uCB,z7t,z8l,uC,z8o,z7w,uOp,uUn,z8s,z8j,uIf,z8e,z7v,z7u,z7s,uBM,z8g,uSl,z4x,z8r,z72,z8q,z7x,List.append_nil,z8t,z80,z8y,z7z,z8u,z81,z8w,z8v,xIf,z74,z8x,z8p,z3t,z8n,z7m,z7q,z7o,z7p,z5w,z5v,z7a,z3l,z3m,z75,z5g,z8k,asD,uXf,z8f,z5n,z7y,z6e,z6d,z68,z67,z63,z5h,z5i,z5j,z3v,z3w,z6f,z64,z62,z5r,z6b,z7j,z7k,z7i,z7c,z7b,z7l,z7e,z5o,z2m,z2w,z2k,z2o,z2p,z2l,z2n,z5c,z73,z5a,z5e,z5f,z5b,z3g,z5d,z3e,z2q,z2r,z3i,z3k,z3j,z39,z3a,z37,z38,z4q,z6h,z4o,z4s,z4t,z4p,z3f,z4r,z4e,z4d,z3b,z2s,z3d,z3c,z0h,z0g,z0d,z0a,z0f,z0e,z1o,z1n,z0u,z0j,z0w,z0v,z2d,z2c,z1r,z10,z1t,z1s,z2f,z2e,z1w,z14,z1y,z1x,z16,z15,z0m,z0i,z0o,z0n,z1v,z1u,z11,z0l,z13,z12,z1q,z1p,z0x,z0k,z0z,z0y,z4i,z6g,z4g,z4j,z4k,z4h,z82,z88,z46,z5x,z44,z47,z48,z45,z2v,z2j,z40,z5q,z3y,z41,z42,z3z,z2u,z2i,z6y,z70,z6x,z71,z6z,z59,z56,z57,z58,z87,z86,z7r,z79,z7n,z7d,z5y,z76,z77,z6c,z69,z6a,z8b,z8c,z89,z8a,z85,z83,z84,z4v,z4u,z6i,z78,z5m,z5l,z5k,z6n,z6o,z6p,z6q,z6r,z6s,z6t,z6u,z6v,z6w,z50,z51,z52,z53,z54,z55,z4b,z4c,z49,z27,z26,z1e,z0r,z1g,z1f,z05,z04,z2h,z2g,z1z,z17,z21,z20,z0c,z0b,z23,z22,z18,z0p,z1a,z19,z01,z00,z29,z28,z1h,z0s,z1j,z1i,z07,z06,z2b,z2a,z1k,z0t,z1m,z1l,z09,z08,z25,z24,z1b,z0q,z1d,z1c,z03,z02,z6m,z8h,z4z,z6l,z6k,z4w,z4y,z3s,z6j,z3p,z4f,z3n,z3q,z3r,z3o,z5p,z2t,z3h,z4n,z4l,z4a,z66,z65,z4m,z60,z61,z5z,z32,z2x,z33,z2y,z34,z2z,z35,z30,z36,z31,z7h,z7g,z3u,z5u,z3x,z7f,z5t,z43,z5s,cle,clt,cge,cgt,ceq,cne,lenN,xFor,xTryM,uMix,uEnum,uZip,ltT,uSortK,sortK,sortN,uDNew,uDGet,inN,setN,uDNewS,uDGetS,inS,setS,uDm,uDm0,getR,popS,setdS,getNR,setdN,popNR,itemsR,lenS,dictS,sortItR,uFld,uFst,uMake,uLock,uLockE,uKeys,sortE,sortL,xOp,reprT_1,listN,mulT,gLst_l,gLst_r,sum_l,sum_r,min_ii,max_ii,sortSD,pop1S,dictN,uD1,updN,exists_eq_left',exists_eq_left,Option.some.injEq,U.int.injEq,U.bl.injEq,U.str.injEq,U.ref.injEq,U.tup.injEq,U.lst.injEq,U.ty.injEq,List.cons.injEq,and_true,true_and,and_self,List.map_cons,List.map_nil,List.length_cons,List.length_nil,List.cons_append,List.nil_append,List.append_nil,List.getElem?_cons_zero,List.getElem?_cons_succ,List.set_cons_zero,List.set_cons_succ,List.replicate,↓reduceIte,Bool.false_eq_true,Bool.not_true,Bool.not_false,reduceCtorEq,Nat.reduceAdd,Nat.reduceSub,Nat.reduceLeDiff,Nat.reduceEqDiff,decide_true,decide_false,at0,at1,at2,at3,at4,ix0,ix1,ix2,ix3,ix4,updM_same,beq_self_eq_true,Option.bind,Option.map,wipeU,NT.put,puts,MO.lst.injEq,exists_and_left,decide_eq_true_eq,Bool.and_eq_true,Bool.or_eq_true,exists_eq',Nat.zero_le,true_or,or_true,rep_ok hx,rep_ok hy]
    exact ⟨hx, hy, q⟩

/-! ### _law_mixed -/
def sp__law_mixed (φ : DPhi) : USp := fun us M Q _ => ∃ (s c d : Addr) (n : Nat) (kvs : List (U × U)) (xs : List U), us = [.ref s, .ref d] ∧ M d = some (.dN φ kvs) ∧ kvs.map (·.1) = xs ∧ xs.length ≤ 1000 ∧ Strm M s c (n + xs.length) ∧ ∀ ys M', ys.Perm xs → Strm M' s c n → But s c M M' → Q (.lst ys) M'
local macro_rules | `(tactic| walk_at "q7") => `(tactic| simp only [finL,z8i,uOr,z8d,z8m,uCB,z7t,z8l,uC,z8o,z7w,uOp,uUn,z8s,z8j,uIf,z8e,z7v,z7u,z7s,uBM,z8g,uSl,z4x,z8r,z72,z8q,z7x,List.append_nil,z8t,z80,z8y,z7z,z8u,z81,z8w,z8v,xIf,z74,z8x,z8p,z3t,z8n,z7m,z7q,z7o,z7p,z5w,z5v,z7a,z3l,z3m,z75,z5g,z8k,asD,uXf,z8f,z5n,z7y,z6e,z6d,z68,z67,z63,z5h,z5i,z5j,z3v,z3w,z6f,z64,z62,z5r,z6b,z7j,z7k,z7i,z7c,z7b,z7l,z7e,z5o,z2m,z2w,z2k,z2o,z2p,z2l,z2n,z5c,z73,z5a,z5e,z5f,z5b,z3g,z5d,z3e,z2q,z2r,z3i,z3k,z3j,z39,z3a,z37,z38,z4q,z6h,z4o,z4s,z4t,z4p,z3f,z4r,z4e,z4d,z3b,z2s,z3d,z3c,z0h,z0g,z0d,z0a,z0f,z0e,z1o,z1n,z0u,z0j,z0w,z0v,z2d,z2c,z1r,z10,z1t,z1s,z2f,z2e,z1w,z14,z1y,z1x,z16,z15,z0m,z0i,z0o,z0n,z1v,z1u,z11,z0l,z13,z12,z1q,z1p,z0x,z0k,z0z,z0y,z4i,z6g,z4g,z4j,z4k,z4h,z82,z88,z46,z5x,z44,z47,z48,z45,z2v,z2j,z40,z5q,z3y,z41,z42,z3z,z2u,z2i,z6y,z70,z6x,z71,z6z,z59,z56,z57,z58,z87,z86,z7r,z79,z7n,z7d,z5y,z76,z77,z6c,z69,z6a,z8b,z8c,z89,z8a,z85,z83,z84,z4v,z4u,z6i,z78,z5m,z5l,z5k,z6n,z6o,z6p,z6q,z6r,z6s,z6t,z6u,z6v,z6w,z50,z51,z52,z53,z54,z55,z4b,z4c,z49,z27,z26,z1e,z0r,z1g,z1f,z05,z04,z2h,z2g,z1z,z17,z21,z20,z0c,z0b,z23,z22,z18,z0p,z1a,z19,z01,z00,z29,z28,z1h,z0s,z1j,z1i,z07,z06,z2b,z2a,z1k,z0t,z1m,z1l,z09,z08,z25,z24,z1b,z0q,z1d,z1c,z03,z02,z6m,z8h,z4z,z6l,z6k,z4w,z4y,z3s,z6j,z3p,z4f,z3n,z3q,z3r,z3o,z5p,z2t,z3h,z4n,z4l,z4a,z66,z65,z4m,z60,z61,z5z,z32,z2x,z33,z2y,z34,z2z,z35,z30,z36,z31,z7h,z7g,z3u,z5u,z3x,z7f,z5t,z43,z5s,cle,clt,cge,cgt,ceq,cne,lenN,xFor,xTryM,uMix,uEnum,uZip,ltT,uSortK,sortK,sortN,uDNew,uDGet,inN,setN,uDNewS,uDGetS,inS,setS,uDm,uDm0,getR,popS,setdS,getNR,setdN,popNR,itemsR,lenS,dictS,sortItR,uFld,uFst,uMake,uLock,uLockE,uKeys,sortE,sortL,xOp,reprT_1,listN,mulT,gLst_l,gLst_r,sum_l,sum_r,min_ii,max_ii,sortSD,pop1S,dictN,uD1,updN,exists_eq_left',exists_eq_left,Option.some.injEq,U.int.injEq,U.bl.injEq,U.str.injEq,U.ref.injEq,U.tup.injEq,U.lst.injEq,U.ty.injEq,List.cons.injEq,and_true,true_and,and_self,List.map_cons,List.map_nil,List.length_cons,List.length_nil,List.cons_append,List.nil_append,List.append_nil,List.getElem?_cons_zero,List.getElem?_cons_succ,List.set_cons_zero,List.set_cons_succ,List.replicate,↓reduceIte,Bool.false_eq_true,Bool.not_true,Bool.not_false,reduceCtorEq,Nat.reduceAdd,Nat.reduceSub,Nat.reduceLeDiff,Nat.reduceEqDiff,decide_true,decide_false,at0,at1,at2,at3,at4,ix0,ix1,ix2,ix3,ix4,updM_same,beq_self_eq_true,Option.bind,Option.map,wipeU,NT.put,puts,MO.lst.injEq,exists_and_left,decide_eq_true_eq,Bool.and_eq_true,Bool.or_eq_true,exists_eq',Nat.zero_le,true_or,or_true])
theorem ok__law_mixed (L : Lw K mg) : UFn P w K mg base CX0 2 L.f__law_mixed L.fd__law_mixed ["_law_stream", "_law_some"] (sp__law_mixed (DNo P w)) := by
  refine ufn_ok L.D__law_mixed.F sc__law_mixed (fun us M Q E h => ?_) (fun cdv A outer s H E hr hG =>
      (uss_cons (us_set (i := 2) sc__law_mixed.nd rfl (.inr rfl) (ue_callTy (uc_listN (φ := DNo P w) rfl true rfl) (by rfl) L.n_list bt_list (ua_cons (uv 1) ua_nil)))
      (uss_one (us_ret (ue_lc (own := [("_law_k", 3)]) (n := (.one 3)) false rfl sc__law_mixed.nd (ui_range1 (by rfl) L.n_range (ua_cons (ue_callB uc_len (by rfl) L.n_len bt_len (ua_cons (uv 2) ua_nil)) ua_nil)) (blkOk_by (own := [("_law_k", 3)]) (N := ["_law_stream", "_law_some", "_law_left", "_law_k"]) (sc := defScope s__law_mixed) (by decide +kernel)) (by decide) (fun _ _ _ _ _ => (pg_nt sc__law_mixed.nd rfl (.inl rfl))) (fun _ _ _ _ _ => uts_nil) (fun _ _ _ _ _ => (ue_bm PySem.F.plainAttrs_list PySem.F.slot_list_pop PySem.F.type_list_pop um_popAt (uv 2) (ua_cons (ue_call (ok__law_draw L) (hr.mono (by decide)) hG rfl L.D__law_draw.g L.D__law_draw.F.kp L.D__law_draw.b .nil (fun _ => RelUs.nil) (ua_cons (uv 0) (ua_cons (ue_callB uc_len (by rfl) L.n_len bt_len (ua_cons (uv 2) ua_nil)) ua_nil))) ua_nil)))))))) (fun us M Q E h => ?_)
  · obtain ⟨s, c, d, n, kvs, xs, rfl, _⟩ := h
    rfl
  · obtain ⟨s, c, d, n, kvs, xs, rfl, hd, ek, hl, hS, q⟩ := h
    walk_at "q0"
    refine ⟨kvs, hd, ?_⟩
    rw [ek]
    intro F hF
    obtain ⟨h1, h2⟩ := hS.sp hF
    simp only [uLc,uRng1,z8i,uOr,z8d,z8m,uCB,z7t,z8l,uC,z8o,z7w,uOp,uUn,z8s,z8j,uIf,z8e,z7v,z7u,z7s,uBM,z8g,uSl,z4x,z8r,z72,z8q,z7x,List.append_nil,z8t,z80,z8y,z7z,z8u,z81,z8w,z8v,xIf,z74,z8x,z8p,z3t,z8n,z7m,z7q,z7o,z7p,z5w,z5v,z7a,z3l,z3m,z75,z5g,z8k,asD,uXf,z8f,z5n,z7y,z6e,z6d,z68,z67,z63,z5h,z5i,z5j,z3v,z3w,z6f,z64,z62,z5r,z6b,z7j,z7k,z7i,z7c,z7b,z7l,z7e,z5o,z2m,z2w,z2k,z2o,z2p,z2l,z2n,z5c,z73,z5a,z5e,z5f,z5b,z3g,z5d,z3e,z2q,z2r,z3i,z3k,z3j,z39,z3a,z37,z38,z4q,z6h,z4o,z4s,z4t,z4p,z3f,z4r,z4e,z4d,z3b,z2s,z3d,z3c,z0h,z0g,z0d,z0a,z0f,z0e,z1o,z1n,z0u,z0j,z0w,z0v,z2d,z2c,z1r,z10,z1t,z1s,z2f,z2e,z1w,z14,z1y,z1x,z16,z15,z0m,z0i,z0o,z0n,z1v,z1u,z11,z0l,z13,z12,z1q,z1p,z0x,z0k,z0z,z0y,z4i,z6g,z4g,z4j,z4k,z4h,z82,z88,z46,z5x,z44,z47,z48,z45,z2v,z2j,z40,z5q,z3y,z41,z42,z3z,z2u,z2i,z6y,z70,z6x,z71,z6z,z59,z56,z57,z58,z87,z86,z7r,z79,z7n,z7d,z5y,z76,z77,z6c,z69,z6a,z8b,z8c,z89,z8a,z85,z83,z84,z4v,z4u,z6i,z78,z5m,z5l,z5k,z6n,z6o,z6p,z6q,z6r,z6s,z6t,z6u,z6v,z6w,z50,z51,z52,z53,z54,z55,z4b,z4c,z49,z27,z26,z1e,z0r,z1g,z1f,z05,z04,z2h,z2g,z1z,z17,z21,z20,z0c,z0b,z23,z22,z18,z0p,z1a,z19,z01,z00,z29,z28,z1h,z0s,z1j,z1i,z07,z06,z2b,z2a,z1k,z0t,z1m,z1l,z09,z08,z25,z24,z1b,z0q,z1d,z1c,z03,z02,z6m,z8h,z4z,z6l,z6k,z4w,z4y,z3s,z6j,z3p,z4f,z3n,z3q,z3r,z3o,z5p,z2t,z3h,z4n,z4l,z4a,z66,z65,z4m,z60,z61,z5z,z32,z2x,z33,z2y,z34,z2z,z35,z30,z36,z31,z7h,z7g,z3u,z5u,z3x,z7f,z5t,z43,z5s,cle,clt,cge,cgt,ceq,cne,lenN,xFor,xTryM,uMix,uEnum,uZip,ltT,uSortK,sortK,sortN,uDNew,uDGet,inN,setN,uDNewS,uDGetS,inS,setS,uDm,uDm0,getR,popS,setdS,getNR,setdN,popNR,itemsR,lenS,dictS,sortItR,uFld,uFst,uMake,uLock,uLockE,uKeys,sortE,sortL,xOp,reprT_1,listN,mulT,gLst_l,gLst_r,sum_l,sum_r,min_ii,max_ii,sortSD,pop1S,dictN,uD1,updN,exists_eq_left',exists_eq_left,Option.some.injEq,U.int.injEq,U.bl.injEq,U.str.injEq,U.ref.injEq,U.tup.injEq,U.lst.injEq,U.ty.injEq,List.cons.injEq,and_true,true_and,and_self,List.map_cons,List.map_nil,List.length_cons,List.length_nil,List.cons_append,List.nil_append,List.append_nil,List.getElem?_cons_zero,List.getElem?_cons_succ,List.set_cons_zero,List.set_cons_succ,List.replicate,↓reduceIte,Bool.false_eq_true,Bool.not_true,Bool.not_false,reduceCtorEq,Nat.reduceAdd,Nat.reduceSub,Nat.reduceLeDiff,Nat.reduceEqDiff,decide_true,decide_false,at0,at1,at2,at3,at4,ix0,ix1,ix2,ix3,ix4,updM_same,beq_self_eq_true,Option.bind,Option.map,wipeU,NT.put,puts,MO.lst.injEq,exists_and_left,decide_eq_true_eq,Bool.and_eq_true,Bool.or_eq_true,exists_eq',Nat.zero_le,true_or,or_true,updM_same]
    refine ⟨by omega, by omega, line_le (by omega), fun D hD => ?_⟩
    have hDF : D ≠ F := fun e => by rw [e, updM_same] at hD; cases hD
    have hS0 : Strm (updM M F (.lst xs)) s c (n + xs.length) := hS.upd h1 h2
    obtain ⟨g1, g2⟩ := hS0.sp hD
    have hMD : M D = none := by rw [updM_ne hDF] at hD; exact hD
    have rl : (rangeU 0 ((xs.length : Int)).toNat).length = xs.length := by rw [range_len]; omega
    refine lc_inv (fun i acc M' => ∃ left : List U, M' F = some (.lst left) ∧ (acc ++ left).Perm xs ∧ acc.length = i ∧ i ≤ xs.length ∧ Strm M' s c (n + (xs.length - i)) ∧ But s c M M') _ (fun _ _ _ _ => True.intro) ?_ ?_
      ⟨xs, by rw [updM_ne (Ne.symm hDF), updM_same], List.Perm.refl _, rfl, Nat.zero_le _, hS0.upd g1 g2, (But.refl.upd hF).upd hMD⟩ updM_same
    · rintro i x acc M1 hx ⟨left, hF1, pm, hl1, hi, hS1, hB1⟩ hD1
      have hlt : i < xs.length := by have := (List.getElem?_eq_some_iff.mp hx).1; rw [rl] at this; exact this
      have ll : left.length = xs.length - i := by have := pm.length_eq; rw [List.length_append] at this; omega
      rw [show xs.length - i = (xs.length - (i + 1)) + 1 by omega, ← Nat.add_assoc] at hS1
      refine ⟨_, rfl, fun Q q => ?_⟩
      simp only [z8i,uOr,z8d,z8m,uCB,z7t,z8l,uC,z8o,z7w,uOp,uUn,z8s,z8j,uIf,z8e,z7v,z7u,z7s,uBM,z8g,uSl,z4x,z8r,z72,z8q,z7x,List.append_nil,z8t,z80,z8y,z7z,z8u,z81,z8w,z8v,xIf,z74,z8x,z8p,z3t,z8n,z7m,z7q,z7o,z7p,z5w,z5v,z7a,z3l,z3m,z75,z5g,z8k,asD,uXf,z8f,z5n,z7y,z6e,z6d,z68,z67,z63,z5h,z5i,z5j,z3v,z3w,z6f,z64,z62,z5r,z6b,z7j,z7k,z7i,z7c,z7b,z7l,z7e,z5o,z2m,z2w,z2k,z2o,z2p,z2l,z2n,z5c,z73,z5a,z5e,z5f,z5b,z3g,z5d,z3e,z2q,z2r,z3i,z3k,z3j,z39,z3a,z37,z38,z4q,z6h,z4o,z4s,z4t,z4p,z3f,z4r,z4e,z4d,z3b,z2s,z3d,z3c,z0h,z0g,z0d,z0a,z0f,z0e,z1o,z1n,z0u,z0j,z0w,z0v,z2d,z2c,z1r,z10,z1t,z1s,z2f,z2e,z1w,z14,z1y,z1x,z16,z15,z0m,z0i,z0o,z0n,z1v,z1u,z11,z0l,z13,z12,z1q,z1p,z0x,z0k,z0z,z0y,z4i,z6g,z4g,z4j,z4k,z4h,z82,z88,z46,z5x,z44,z47,z48,z45,z2v,z2j,z40,z5q,z3y,z41,z42,z3z,z2u,z2i,z6y,z70,z6x,z71,z6z,z59,z56,z57,z58,z87,z86,z7r,z79,z7n,z7d,z5y,z76,z77,z6c,z69,z6a,z8b,z8c,z89,z8a,z85,z83,z84,z4v,z4u,z6i,z78,z5m,z5l,z5k,z6n,z6o,z6p,z6q,z6r,z6s,z6t,z6u,z6v,z6w,z50,z51,z52,z53,z54,z55,z4b,z4c,z49,z27,z26,z1e,z0r,z1g,z1f,z05,z04,z2h,z2g,z1z,z17,z21,z20,z0c,z0b,z23,z22,z18,z0p,z1a,z19,z01,z00,z29,z28,z1h,z0s,z1j,z1i,z07,z06,z2b,z2a,z1k,z0t,z1m,z1l,z09,z08,z25,z24,z1b,z0q,z1d,z1c,z03,z02,z6m,z8h,z4z,z6l,z6k,z4w,z4y,z3s,z6j,z3p,z4f,z3n,z3q,z3r,z3o,z5p,z2t,z3h,z4n,z4l,z4a,z66,z65,z4m,z60,z61,z5z,z32,z2x,z33,z2y,z34,z2z,z35,z30,z36,z31,z7h,z7g,z3u,z5u,z3x,z7f,z5t,z43,z5s,cle,clt,cge,cgt,ceq,cne,lenN,xFor,xTryM,uMix,uEnum,uZip,ltT,uSortK,sortK,sortN,uDNew,uDGet,inN,setN,uDNewS,uDGetS,inS,setS,uDm,uDm0,getR,popS,setdS,getNR,setdN,popNR,itemsR,lenS,dictS,sortItR,uFld,uFst,uMake,uLock,uLockE,uKeys,sortE,sortL,xOp,reprT_1,listN,mulT,gLst_l,gLst_r,sum_l,sum_r,min_ii,max_ii,sortSD,pop1S,dictN,uD1,updN,exists_eq_left',exists_eq_left,Option.some.injEq,U.int.injEq,U.bl.injEq,U.str.injEq,U.ref.injEq,U.tup.injEq,U.lst.injEq,U.ty.injEq,List.cons.injEq,and_true,true_and,and_self,List.map_cons,List.map_nil,List.length_cons,List.length_nil,List.cons_append,List.nil_append,List.append_nil,List.getElem?_cons_zero,List.getElem?_cons_succ,List.set_cons_zero,List.set_cons_succ,List.replicate,↓reduceIte,Bool.false_eq_true,Bool.not_true,Bool.not_false,reduceCtorEq,Nat.reduceAdd,Nat.reduceSub,Nat.reduceLeDiff,Nat.reduceEqDiff,decide_true,decide_false,at0,at1,at2,at3,at4,ix0,ix1,ix2,ix3,ix4,updM_same,beq_self_eq_true,Option.bind,Option.map,wipeU,NT.put,puts,MO.lst.injEq,exists_and_left,decide_eq_true_eq,Bool.and_eq_true,Bool.or_eq_true,exists_eq',Nat.zero_le,true_or,or_true,hF1]
      refine draw_use hS1 (by omega) (by omega) fun r M2 h3 h4 hS2 hB2 => ?_
      have hF2 := hB2 F (Ne.symm h1) (Ne.symm h2) _ hF1
      have hD2 := hB2 D (Ne.symm g1) (Ne.symm g2) _ hD1
      obtain ⟨j, rfl, hj⟩ : ∃ j : Nat, r = j ∧ j < left.length := ⟨r.toNat, by omega, by omega⟩
      refine ⟨left, j, left[j], hF2, by omega, by unfold ixN; rw [if_pos h3, if_pos h4]; simp, List.getElem?_eq_getElem hj, ?_⟩
      refine q _ _ (by rw [updM_ne hDF]; exact hD2) ⟨left.eraseIdx j, by rw [updM_ne (Ne.symm hDF), updM_same], ?_, by simp [hl1], hlt, (hS2.upd h1 h2).upd g1 g2, ((hB1.trans hB2).upd hF).upd hMD⟩
      have p1 : (left[j] :: left.eraseIdx j).Perm left := L2.erase_perm left j _ (List.getElem?_eq_getElem hj)
      rw [List.append_assoc]
      exact (List.Perm.append_left acc p1).trans pm
    · rintro acc M1 ⟨left, hF1, pm, hl1, hi, hS1, hB1⟩ hD1
      rw [rl] at hl1
      have : left = [] := List.length_eq_zero_iff.mp (by have := pm.length_eq; rw [List.length_append] at this; omega)
      subst this
      rw [List.append_nil] at pm
      refine ⟨hD1, ?_⟩
      walk_at "q7"
      exact .inl (q acc _ pm ((hS1.le (Nat.le_add_right _ _)).del g1 g2) (hB1.del hMD))

/-! ### _law_path -/
def sp__law_path : USp := fun us M Q _ => ∃ (s c : Addr) (n most : Nat), us = [.ref s, .int most] ∧ most ≤ 1000 ∧ Strm M s c (n + (most + 1)) ∧
  ∀ xs M', xs.length ≤ most → (∀ x ∈ xs, x = .str "a" ∨ x = .str "ab" ∨ x = .str "kid") → Strm M' s c n → But s c M M' → Q (.tup xs) M'
theorem ok__law_path (L : Lw K mg) : UFn P w K mg base CX0 2 L.f__law_path L.fd__law_path ["_law_stream", "_law_most"] (sp__law_path) := by
  refine ufn_ok L.D__law_path.F sc__law_path (fun us M Q E h => ?_) (fun cdv A outer s H E hr hG =>
      (uss_one (us_ret (ue_callTy uc_tuple (by rfl) L.n_tuple bt_tuple (ua_cons (ue_lc (own := [("_law_k", 2)]) (n := (.one 2)) false rfl sc__law_path.nd (ui_range1 (by rfl) L.n_range (ua_cons (ue_call (ok__law_draw L) (hr.mono (by decide)) hG rfl L.D__law_draw.g L.D__law_draw.F.kp L.D__law_draw.b .nil (fun _ => RelUs.nil) (ua_cons (uv 0) (ua_cons (ue_op (uo_add false) (uv 1) ue_int) ua_nil))) ua_nil)) (blkOk_by (own := [("_law_k", 2)]) (N := ["_law_stream", "_law_most", "_law_k"]) (sc := defScope s__law_path) (by decide +kernel)) (by decide) (fun _ _ _ _ _ => (pg_nt sc__law_path.nd rfl (.inl rfl))) (fun _ _ _ _ _ => uts_nil) (fun _ _ _ _ _ => (ue_ix (ue_lst false (ua_cons ue_str (ua_cons ue_str (ua_cons ue_str ua_nil)))) (ue_call (ok__law_draw L) (hr.mono (by decide)) hG rfl L.D__law_draw.g L.D__law_draw.F.kp L.D__law_draw.b .nil (fun _ => RelUs.nil) (ua_cons (uv 0) (ua_cons ue_int ua_nil)))))) ua_nil))))) (fun us M Q E h => ?_)
  · obtain ⟨s, c, n, most, rfl, _⟩ := h
    rfl
  · obtain ⟨s, c, n, most, rfl, hm, hS, q⟩ := h
    have q : ∀ xs M', xs.length ≤ most → (∀ x ∈ xs, x = .str "a" ∨ x = .str "ab" ∨ x = .str "kid") → Strm M' s c n → But s c M M' → ZQ Q (.tup xs) M' := fun xs M' h1 h2 h3 h4 => .inl (q xs M' h1 h2 h3 h4)
    walk_at "q2"
    refine draw_use (n := n + most) hS (by omega) (by omega) fun r M1 h0 h1 hS1 hB1 => ?_
    walk_at "q0"
    refine ⟨by omega, by omega, line_le (by omega), ?_⟩
    refine lc_strmF (k := 1) (N := n) (fun x => x = .str "a" ∨ x = .str "ab" ∨ x = .str "kid") (hS1.le (by rw [range_len]; omega)) (fun x hx => ⟨_, rfl, fun M N' hS2 Q q => ?_⟩) fun ys M' hl hP hS3 hB3 => ?_
    · walk_at "q0"
      refine ⟨line_le, draw_use hS2 (by decide) (by decide) fun r M1 h0 h1 hS1 hB1 => ?_⟩
      walk_at "q0"
      obtain ⟨v, e, hv⟩ := at_draw (xs := [.str "a", .str "ab", .str "kid"]) h0 h1
      exact ⟨v, e, q v M1 (by simpa using hv) hS1 hB1⟩
    · walk_at "q0"
      exact q ys M' (by rw [hl, range_len]; omega) hP hS3 (hB1.trans hB3)

/-! ### _law_value -/
/-- a drawn value -/
def VlU (y : U) : Prop := (∃ i : Int, y = .int i ∧ i.natAbs ≤ 1000000000000000000000000000000) ∨ y = .str "on" ∨ y = .str "rank" ∨ ∃ p, y = .tup [.str "link", .tup p] ∧ p.length ≤ 2 ∧ ∀ x ∈ p, x = .str "a" ∨ x = .str "ab" ∨ x = .str "kid"
theorem VlU.dt {y : U} (h : VlU y) : Dt 2 200 y := by
  rcases h with ⟨i, rfl, h⟩ | rfl | rfl | ⟨p, rfl, h1, h2⟩
  · exact (Dt.big (n := 200) h).mono (by decide) (Nat.le_refl _)
  · exact Dt.of (by decide +kernel)
  · exact Dt.of (by decide +kernel)
  · have : ∀ x ∈ p, Dt 0 32 x := fun x hx => by
      rcases h2 x hx with rfl | rfl | rfl <;> exact Dt.of (by decide +kernel)
    have hp : Dt 1 72 (.tup p) := Dt.tup this (by omega)
    exact Dt.tup (k := 1) (n := 72) (fun x hx => by
      rcases List.mem_cons.mp hx with rfl | hx
      · exact Dt.of (by decide +kernel)
      · rw [List.mem_singleton.mp hx]; exact hp) (by simp)
def sp__law_value : USp := fun us M Q _ => ∃ (s c : Addr) (n : Nat), us = [.ref s] ∧ Strm M s c (n + 5) ∧ ∀ y M', VlU y → Strm M' s c n → But s c M M' → Q y M'
theorem value_use {M : UHp} {Q : UK} {E : UXK} {s c : Addr} {n : Nat} (hS : Strm M s c (n + 5)) (h : ∀ y M', VlU y → Strm M' s c n → But s c M M' → Q y M') : sp__law_value [.ref s] M Q E := ⟨s, c, n, rfl, hS, h⟩
theorem ok__law_value (L : Lw K mg) : UFn P w K mg base CX0 3 L.f__law_value L.fd__law_value ["_law_stream"] (sp__law_value) := by
  refine ufn_ok L.D__law_value.F sc__law_value (fun us M Q E h => ?_) (fun cdv A outer s H E hr hG =>
      (uss_cons (us_set (i := 1) sc__law_value.nd rfl (.inl rfl) (ue_call (ok__law_draw L) (hr.mono (by decide)) hG rfl L.D__law_draw.g L.D__law_draw.F.kp L.D__law_draw.b .nil (fun _ => RelUs.nil) (ua_cons (uv 0) (ua_cons ue_int ua_nil))))
      (uss_cons (us_if (ut_cmp uo_lt (uv 1) ue_int (nomark _)) (uss_one (us_ret (ue_op uo_sub (ue_call (ok__law_draw L) (hr.mono (by decide)) hG rfl L.D__law_draw.g L.D__law_draw.F.kp L.D__law_draw.b .nil (fun _ => RelUs.nil) (ua_cons (uv 0) (ua_cons ue_int ua_nil))) ue_int))) uss_nil)
      (uss_cons (us_if (ut_cmp (uo_eq (hu6 hr)) (uv 1) ue_int (nomark _)) (uss_one (us_ret (ue_ix (ue_lst false (ua_cons (ue_op uo_sub (ue_op uo_pow ue_int ue_int) ue_int) (ua_cons (ue_op uo_sub ue_int (ue_op uo_pow ue_int ue_int)) (ua_cons ue_int (ua_cons ue_int ua_nil))))) (ue_call (ok__law_draw L) (hr.mono (by decide)) hG rfl L.D__law_draw.g L.D__law_draw.F.kp L.D__law_draw.b .nil (fun _ => RelUs.nil) (ua_cons (uv 0) (ua_cons ue_int ua_nil)))))) uss_nil)
      (uss_one (us_ret (ue_ix (ue_lst false (ua_cons ue_str (ua_cons ue_str (ua_cons (ue_tup (ua_cons ue_str (ua_cons (ue_call (ok__law_path L) (hr.mono (by decide)) hG rfl L.D__law_path.g L.D__law_path.F.kp L.D__law_path.b .nil (fun _ => RelUs.nil) (ua_cons (uv 0) (ua_cons ue_int ua_nil))) ua_nil))) ua_nil)))) (ue_call (ok__law_draw L) (hr.mono (by decide)) hG rfl L.D__law_draw.g L.D__law_draw.F.kp L.D__law_draw.b .nil (fun _ => RelUs.nil) (ua_cons (uv 0) (ua_cons ue_int ua_nil)))))))))) (fun us M Q E h => ?_)
  · obtain ⟨s, c, n, rfl, _⟩ := h
    rfl
  · obtain ⟨s, c, n, rfl, hS, q⟩ := h
    have q : ∀ y M', VlU y → Strm M' s c n → But s c M M' → ZQ Q y M' := fun y M' h1 h2 h3 => .inl (q y M' h1 h2 h3)
    walk_at "q0"
    refine draw_use (n := n + 4) hS (by decide) (by decide) fun r M1 h0 h1 hS1 hB1 => ?_
    walk_at "q0"
    refine iteI (fun e1 => ?_) (fun e1 => ?_)
    · refine draw_use (n := n + 3) hS1 (by decide) (by decide) fun r2 M2 h2 h3 hS2 hB2 => ?_
      walk_at "q0"
      exact q _ _ (.inl ⟨_, rfl, by omega⟩) (hS2.le (by omega)) (hB1.trans hB2)
    · refine iteI (fun e4 => ?_) (fun e4 => ?_)
      · refine ⟨⟨by decide, by decide, by decide⟩, ⟨by decide, by decide, by decide⟩, line_le, ?_⟩
        refine draw_use (n := n + 3) hS1 (by decide) (by decide) fun r2 M2 h2 h3 hS2 hB2 => ?_
        walk_at "q0"
        obtain ⟨v, e, hv⟩ := at_draw (xs := [.int (10 ^ Int.toNat 30 - 1), .int (1 - 10 ^ Int.toNat 30), .int 17, .int 1000]) h2 h3
        refine ⟨v, e, q v _ (.inl ?_) (hS2.le (by omega)) (hB1.trans hB2)⟩
        simp only [List.mem_cons,List.not_mem_nil,or_false] at hv
        rcases hv with rfl | rfl | rfl | rfl <;> exact ⟨_, rfl, by decide +kernel⟩
      · refine ⟨s, c, n + 1, 2, rfl, by decide, hS1.le (by omega), fun p M2 hl hp hS2 hB2 => ?_⟩
        walk_at "q0"
        refine ⟨line_le, line_le, ?_⟩
        refine draw_use hS2 (by decide) (by decide) fun r2 M3 h2 h3 hS3 hB3 => ?_
        walk_at "q0"
        obtain ⟨v, e, hv⟩ := at_draw (xs := [.str "on", .str "rank", .tup [.str "link", .tup p]]) h2 h3
        refine ⟨v, e, q v _ ?_ hS3 ((hB1.trans hB2).trans hB3)⟩
        simp only [List.mem_cons,List.not_mem_nil,or_false] at hv
        rcases hv with rfl | rfl | rfl
        · exact .inr (.inl rfl)
        · exact .inr (.inr (.inl rfl))
        · exact .inr (.inr (.inr ⟨p, rfl, hl, hp⟩))

/-! ### _law_listed -/
/-- the same, up to lists in the place of tuples -/
structure SameU (x y : U) : Prop where
  t : tupU y = tupU x
  d : isD y = isD x
  s : shw y = shw x
  p : dep y = dep x
  z : sz y = sz x
  w : wid y = wid x
theorem SameU.refl (x : U) : SameU x x := ⟨rfl, rfl, rfl, rfl, rfl, rfl⟩
mutual
/-- the tuples within -/
def tupsU : U → Nat
  | .tup xs => 1 + tupsUs xs
  | _ => 0
def tupsUs : List U → Nat
  | [] => 0
  | x :: xs => tupsU x + tupsUs xs
end
inductive SamesU : List U → List U → Prop
  | nil : SamesU [] []
  | cons {x y xs ys} : SameU x y → SamesU xs ys → SamesU (x :: xs) (y :: ys)
theorem SamesU.snoc {xs ys : List U} {x y : U} (h : SamesU xs ys) (k : SameU x y) : SamesU (xs ++ [x]) (ys ++ [y]) := by
  induction h with
  | nil => exact .cons k .nil
  | cons a b ih => exact .cons a ih
theorem SamesU.all {xs ys : List U} (h : SamesU xs ys) : ys.map tupU = xs.map tupU ∧ isDs ys = isDs xs ∧ shws ys = shws xs ∧ deps ys = deps xs ∧ szs ys = szs xs ∧ wids ys = wids xs ∧ ys.length = xs.length := by
  induction h with
  | nil => exact ⟨rfl, rfl, rfl, rfl, rfl, rfl, rfl⟩
  | cons a b ih =>
    obtain ⟨h1, h2, h3, h4, h5, h6, h7⟩ := ih
    simp only [List.map_cons,isDs,shws,deps,szs,wids,List.length_cons,a.t,a.d,a.s,a.p,a.z,a.w,h1,h2,h3,h4,h5,h6,h7,and_self]
theorem SamesU.lst {xs ys : List U} (h : SamesU xs ys) : SameU (.tup xs) (.lst ys) := by
  obtain ⟨h1, h2, h3, h4, h5, h6, h7⟩ := h.all
  exact ⟨by simp only [tupU,tupUs_map,h1], by simp only [isD,h2], by simp only [shw,h3], by simp only [dep,h4], by simp only [sz,h5], by simp only [wid,h6,h7]⟩
theorem SamesU.tup {xs ys : List U} (h : SamesU xs ys) : SameU (.tup xs) (.tup ys) := by
  obtain ⟨h1, h2, h3, h4, h5, h6, h7⟩ := h.all
  exact ⟨by simp only [tupU,tupUs_map,h1], by simp only [isD,h2], by simp only [shw,h3], by simp only [dep,h4], by simp only [sz,h5], by simp only [wid,h6,h7]⟩
def sp__law_listed (k : Nat) : USp := fun us M Q _ => ∃ (s c : Addr) (n : Nat) (x : U), us = [.ref s, x] ∧ isD x = true ∧ dep x ≤ k ∧ Strm M s c (n + tupsU x) ∧ ∀ y M', SameU x y → Strm M' s c n → But s c M M' → Q y M'
theorem step__law_listed (L : Lw K mg) {k : Nat} {sp' : USp} (k0 : Nat) (G : UFn P w K mg base CX0 (2 + k) L.f__law_listed L.fd__law_listed ["_law_stream", "_law_thing_here"] sp') (hsp : ∀ k', k0 = k' + 1 → sp' = sp__law_listed k') : UFn P w K mg base CX0 (2 + k + 1) L.f__law_listed L.fd__law_listed ["_law_stream", "_law_thing_here"] (sp__law_listed k0) := by
  refine ufn_ok L.D__law_listed.F sc__law_listed (fun us M Q E h => ?_) (fun cdv A outer s H E hr hG =>
      (uss_cons (us_if (ut_not (ut_val (ue_callB uc_isi (by rfl) L.n_isinstance bt_isi (ua_cons (uv 1) (ua_cons (ue_bltn (by rfl) L.n_tuple bt_tuple) ua_nil))))) (uss_one (us_ret (uv 1))) uss_nil)
      (uss_cons (us_setLc (i := 2) (own := [("_law_part", 3)]) (n := (.one 3)) false rfl sc__law_listed.nd rfl rfl (sw_true rfl rfl rfl (by decide +kernel)) (ui_any (uv 1)) (blkOk_by (own := [("_law_part", 3)]) (N := ["_law_stream", "_law_thing_here", "_law_parts_here", "_law_part"]) (sc := defScope s__law_listed) (by decide +kernel)) (by decide) (fun _ _ _ _ _ => (pg_nt sc__law_listed.nd rfl (.inl rfl))) (fun _ _ _ _ _ => uts_nil) (fun _ _ _ _ _ => (ue_call G (hr.mono (by omega)) hG rfl L.D__law_listed.g L.D__law_listed.F.kp L.D__law_listed.b .nil (fun _ => RelUs.nil) (ua_cons (uv 0) (ua_cons (uv 3) ua_nil)))))
      (uss_one (us_ret (ue_ix (ue_lst false (ua_cons (uv 2) (ua_cons (ue_callTy uc_tuple (by rfl) L.n_tuple bt_tuple (ua_cons (uv 2) ua_nil)) ua_nil))) (ue_call (ok__law_draw L) (hr.mono (by omega)) hG rfl L.D__law_draw.g L.D__law_draw.F.kp L.D__law_draw.b .nil (fun _ => RelUs.nil) (ua_cons (uv 0) (ua_cons ue_int ua_nil))))))))) (fun us M Q E h => ?_)
  · obtain ⟨s, c, n, x, rfl, _⟩ := h
    rfl
  · obtain ⟨s, c, n, x, rfl, hx, hk, hS, q⟩ := h
    have q : ∀ y M', SameU x y → Strm M' s c n → But s c M M' → ZQ Q y M' := fun y M' h1 h2 h3 => .inl (q y M' h1 h2 h3)
    cases x with
    | tup xs =>
      simp only [isD] at hx
      simp only [dep] at hk
      obtain ⟨k', rfl⟩ : ∃ k', k0 = k' + 1 := ⟨k0 - 1, by omega⟩
      obtain rfl := hsp k' rfl
      simp only [tupsU] at hS
      walk_at "q2"
      intro D hD
      obtain ⟨h1, h2⟩ := hS.sp hD
      refine lc_inv (fun i acc M' => SamesU (xs.take i) acc ∧ i ≤ xs.length ∧ Strm M' s c (n + 1 + tupsUs (xs.drop i)) ∧ But s c M M') _ (fun _ _ _ _ => True.intro) ?_ ?_
        ⟨.nil, Nat.zero_le _, (hS.upd h1 h2).le (by simp only [List.drop_zero]; omega), But.refl.upd hD⟩ updM_same
      · rintro i x acc M1 hx1 ⟨hs, hi, hS1, hB1⟩ hD1
        have hlt := (List.getElem?_eq_some_iff.mp hx1).1
        have hxe := (List.getElem?_eq_some_iff.mp hx1).2
        have mem := List.mem_of_getElem? hx1
        rw [List.drop_eq_getElem_cons hlt, hxe] at hS1
        simp only [tupsUs] at hS1
        refine ⟨_, rfl, fun Q q => ?_⟩
        walk_at "q0"
        refine ⟨s, c, n + 1 + tupsUs (xs.drop (i + 1)), x, rfl, isDs_iff.mp hx x mem, deps_le.mp (by omega : deps xs ≤ k') x mem, hS1.le (by omega), fun y M2 hy hS2 hB2 => ?_⟩
        exact q _ _ (hB2 D (Ne.symm h1) (Ne.symm h2) _ hD1) ⟨by rw [take_next hx1]; exact hs.snoc hy, hlt, hS2.upd h1 h2, (hB1.trans hB2).upd hD⟩
      · rintro acc M1 ⟨hs, hi, hS1, hB1⟩ hD1
        rw [List.take_length] at hs
        rw [List.drop_length] at hS1
        simp only [tupsUs] at hS1
        refine ⟨hD1, ?_⟩
        walk_at "q7"
        refine ⟨line_le, draw_use (n := n) ((hS1.del h1 h2).le (by omega)) (by decide) (by decide) fun r M2 h3 h4 hS2 hB2 => ?_⟩
        walk_at "q0"
        obtain ⟨v, e, hv⟩ := at_draw (xs := [.lst acc, .tup acc]) h3 h4
        refine ⟨v, e, q v M2 ?_ hS2 ((hB1.del hD).trans hB2)⟩
        simp only [List.mem_cons,List.not_mem_nil,or_false] at hv
        rcases hv with rfl | rfl
        · exact hs.lst
        · exact hs.tup
    | ref a => simp [isD] at hx
    | ty n => simp [isD] at hx
    | _ =>
      walk_at "q0"
      exact q _ M (SameU.refl _) (hS.le (by omega)) But.refl

theorem ok__law_listed (L : Lw K mg) : ∀ k : Nat, UFn P w K mg base CX0 (2 + k + 1) L.f__law_listed L.fd__law_listed ["_law_stream", "_law_thing_here"] (sp__law_listed k)
  | 0 => step__law_listed L (k := 0) (sp' := fun _ _ _ _ => False) 0 ufn_none (fun k' h => by cases h)
  | k + 1 => step__law_listed L (k := k + 1) (sp' := sp__law_listed k) (k + 1) (ok__law_listed L k) (fun k' h => by cases h; rfl)
/-! ### _law_is_name -/
def sp__law_is_name : USp := fun us M Q _ => ∃ x, us = [x] ∧ isD x = true ∧ Q (.bl (isNameU x)) M
theorem ok__law_is_name (L : Lw K mg) : UFn P w K mg base CX0 1 L.f__law_is_name L.fd__law_is_name ["_law_thing_here"] (sp__law_is_name) := by
  refine ufn_ok L.D__law_is_name.F sc__law_is_name (fun us M Q E h => ?_) (fun cdv A outer s H E hr hG =>
      (uss_cons (us_if (PW.pt (uw_or (ut_not (ut_val (ue_callB uc_isi (by rfl) L.n_isinstance bt_isi (ua_cons (uv 0) (ua_cons (ue_bltn (by rfl) L.n_str bt_str) ua_nil))))) (uw_or1 (ut_not (ut_chain uo_lt uo_lt ue_int (ue_callB uc_len (by rfl) L.n_len bt_len (ua_cons (uv 0) ua_nil)) ue_int))))) (uss_one (us_ret ue_bl)) uss_nil)
      (uss_one (us_ret (ue_callB (uc_all rfl) (by rfl) L.n_all bt_all (ua_cons (ue_lc (own := [("_law_sign", 1)]) (n := (.one 1)) false rfl sc__law_is_name.nd (ui_any (uv 0)) (blkOk_by (own := [("_law_sign", 1)]) (N := ["_law_thing_here", "_law_sign"]) (sc := defScope s__law_is_name) (by decide +kernel)) (by decide) (fun _ _ _ _ _ => (pg_nt sc__law_is_name.nd rfl (.inl rfl))) (fun _ _ _ _ _ => uts_nil) (fun _ _ _ _ _ => (ue_cmp (uo_in (hu2 hr)) (uv 1) ue_str (by rfl)))) ua_nil)))))) (fun us M Q E h => ?_)
  · obtain ⟨x, rfl, _⟩ := h
    rfl
  · obtain ⟨x, rfl, hx, q⟩ := h
    have q : ZQ Q (.bl (isNameU x)) M := .inl q
    cases x with
    | str z =>
      simp only [isNameU] at q
      walk_at "q0"
      by_cases h1 : 1 ≤ z.length
      · by_cases h2 : z.length ≤ 8
        · have h0 : 0 < z.length := h1
          have h3 : z.length < 9 := by omega
          simp only [z8i,uOr,z8d,z8m,uCB,z7t,z8l,uC,z8o,z7w,uOp,uUn,z8s,z8j,uIf,z8e,z7v,z7u,z7s,uBM,z8g,uSl,z4x,z8r,z72,z8q,z7x,List.append_nil,z8t,z80,z8y,z7z,z8u,z81,z8w,z8v,xIf,z74,z8x,z8p,z3t,z8n,z7m,z7q,z7o,z7p,z5w,z5v,z7a,z3l,z3m,z75,z5g,z8k,asD,uXf,z8f,z5n,z7y,z6e,z6d,z68,z67,z63,z5h,z5i,z5j,z3v,z3w,z6f,z64,z62,z5r,z6b,z7j,z7k,z7i,z7c,z7b,z7l,z7e,z5o,z2m,z2w,z2k,z2o,z2p,z2l,z2n,z5c,z73,z5a,z5e,z5f,z5b,z3g,z5d,z3e,z2q,z2r,z3i,z3k,z3j,z39,z3a,z37,z38,z4q,z6h,z4o,z4s,z4t,z4p,z3f,z4r,z4e,z4d,z3b,z2s,z3d,z3c,z0h,z0g,z0d,z0a,z0f,z0e,z1o,z1n,z0u,z0j,z0w,z0v,z2d,z2c,z1r,z10,z1t,z1s,z2f,z2e,z1w,z14,z1y,z1x,z16,z15,z0m,z0i,z0o,z0n,z1v,z1u,z11,z0l,z13,z12,z1q,z1p,z0x,z0k,z0z,z0y,z4i,z6g,z4g,z4j,z4k,z4h,z82,z88,z46,z5x,z44,z47,z48,z45,z2v,z2j,z40,z5q,z3y,z41,z42,z3z,z2u,z2i,z6y,z70,z6x,z71,z6z,z59,z56,z57,z58,z87,z86,z7r,z79,z7n,z7d,z5y,z76,z77,z6c,z69,z6a,z8b,z8c,z89,z8a,z85,z83,z84,z4v,z4u,z6i,z78,z5m,z5l,z5k,z6n,z6o,z6p,z6q,z6r,z6s,z6t,z6u,z6v,z6w,z50,z51,z52,z53,z54,z55,z4b,z4c,z49,z27,z26,z1e,z0r,z1g,z1f,z05,z04,z2h,z2g,z1z,z17,z21,z20,z0c,z0b,z23,z22,z18,z0p,z1a,z19,z01,z00,z29,z28,z1h,z0s,z1j,z1i,z07,z06,z2b,z2a,z1k,z0t,z1m,z1l,z09,z08,z25,z24,z1b,z0q,z1d,z1c,z03,z02,z6m,z8h,z4z,z6l,z6k,z4w,z4y,z3s,z6j,z3p,z4f,z3n,z3q,z3r,z3o,z5p,z2t,z3h,z4n,z4l,z4a,z66,z65,z4m,z60,z61,z5z,z32,z2x,z33,z2y,z34,z2z,z35,z30,z36,z31,z7h,z7g,z3u,z5u,z3x,z7f,z5t,z43,z5s,cle,clt,cge,cgt,ceq,cne,lenN,xFor,xTryM,uMix,uEnum,uZip,ltT,uSortK,sortK,sortN,uDNew,uDGet,inN,setN,uDNewS,uDGetS,inS,setS,uDm,uDm0,getR,popS,setdS,getNR,setdN,popNR,itemsR,lenS,dictS,sortItR,uFld,uFst,uMake,uLock,uLockE,uKeys,sortE,sortL,xOp,reprT_1,listN,mulT,gLst_l,gLst_r,sum_l,sum_r,min_ii,max_ii,sortSD,pop1S,dictN,uD1,updN,exists_eq_left',exists_eq_left,Option.some.injEq,U.int.injEq,U.bl.injEq,U.str.injEq,U.ref.injEq,U.tup.injEq,U.lst.injEq,U.ty.injEq,List.cons.injEq,and_true,true_and,and_self,List.map_cons,List.map_nil,List.length_cons,List.length_nil,List.cons_append,List.nil_append,List.append_nil,List.getElem?_cons_zero,List.getElem?_cons_succ,List.set_cons_zero,List.set_cons_succ,List.replicate,↓reduceIte,Bool.false_eq_true,Bool.not_true,Bool.not_false,reduceCtorEq,Nat.reduceAdd,Nat.reduceSub,Nat.reduceLeDiff,Nat.reduceEqDiff,decide_true,decide_false,at0,at1,at2,at3,at4,ix0,ix1,ix2,ix3,ix4,updM_same,beq_self_eq_true,Option.bind,Option.map,wipeU,NT.put,puts,MO.lst.injEq,exists_and_left,decide_eq_true_eq,Bool.and_eq_true,Bool.or_eq_true,exists_eq',Nat.zero_le,true_or,or_true,h0,h1,h2,h3] at q ⊢
          walk_at "q2"
          refine lc_of z.cps.toList (fun c => .str ⟨#[c]⟩) (fun c => .bl (isLow c)) (fun _ _ _ => True.intro) (fun D acc hD c hc => ⟨_, rfl, fun Q q => ?_⟩) ?_
          · walk_at "q0"
            exact q
          · simp only [z8i,uOr,z8d,z8m,uCB,z7t,z8l,uC,z8o,z7w,uOp,uUn,z8s,z8j,uIf,z8e,z7v,z7u,z7s,uBM,z8g,uSl,z4x,z8r,z72,z8q,z7x,List.append_nil,z8t,z80,z8y,z7z,z8u,z81,z8w,z8v,xIf,z74,z8x,z8p,z3t,z8n,z7m,z7q,z7o,z7p,z5w,z5v,z7a,z3l,z3m,z75,z5g,z8k,asD,uXf,z8f,z5n,z7y,z6e,z6d,z68,z67,z63,z5h,z5i,z5j,z3v,z3w,z6f,z64,z62,z5r,z6b,z7j,z7k,z7i,z7c,z7b,z7l,z7e,z5o,z2m,z2w,z2k,z2o,z2p,z2l,z2n,z5c,z73,z5a,z5e,z5f,z5b,z3g,z5d,z3e,z2q,z2r,z3i,z3k,z3j,z39,z3a,z37,z38,z4q,z6h,z4o,z4s,z4t,z4p,z3f,z4r,z4e,z4d,z3b,z2s,z3d,z3c,z0h,z0g,z0d,z0a,z0f,z0e,z1o,z1n,z0u,z0j,z0w,z0v,z2d,z2c,z1r,z10,z1t,z1s,z2f,z2e,z1w,z14,z1y,z1x,z16,z15,z0m,z0i,z0o,z0n,z1v,z1u,z11,z0l,z13,z12,z1q,z1p,z0x,z0k,z0z,z0y,z4i,z6g,z4g,z4j,z4k,z4h,z82,z88,z46,z5x,z44,z47,z48,z45,z2v,z2j,z40,z5q,z3y,z41,z42,z3z,z2u,z2i,z6y,z70,z6x,z71,z6z,z59,z56,z57,z58,z87,z86,z7r,z79,z7n,z7d,z5y,z76,z77,z6c,z69,z6a,z8b,z8c,z89,z8a,z85,z83,z84,z4v,z4u,z6i,z78,z5m,z5l,z5k,z6n,z6o,z6p,z6q,z6r,z6s,z6t,z6u,z6v,z6w,z50,z51,z52,z53,z54,z55,z4b,z4c,z49,z27,z26,z1e,z0r,z1g,z1f,z05,z04,z2h,z2g,z1z,z17,z21,z20,z0c,z0b,z23,z22,z18,z0p,z1a,z19,z01,z00,z29,z28,z1h,z0s,z1j,z1i,z07,z06,z2b,z2a,z1k,z0t,z1m,z1l,z09,z08,z25,z24,z1b,z0q,z1d,z1c,z03,z02,z6m,z8h,z4z,z6l,z6k,z4w,z4y,z3s,z6j,z3p,z4f,z3n,z3q,z3r,z3o,z5p,z2t,z3h,z4n,z4l,z4a,z66,z65,z4m,z60,z61,z5z,z32,z2x,z33,z2y,z34,z2z,z35,z30,z36,z31,z7h,z7g,z3u,z5u,z3x,z7f,z5t,z43,z5s,cle,clt,cge,cgt,ceq,cne,lenN,xFor,xTryM,uMix,uEnum,uZip,ltT,uSortK,sortK,sortN,uDNew,uDGet,inN,setN,uDNewS,uDGetS,inS,setS,uDm,uDm0,getR,popS,setdS,getNR,setdN,popNR,itemsR,lenS,dictS,sortItR,uFld,uFst,uMake,uLock,uLockE,uKeys,sortE,sortL,xOp,reprT_1,listN,mulT,gLst_l,gLst_r,sum_l,sum_r,min_ii,max_ii,sortSD,pop1S,dictN,uD1,updN,exists_eq_left',exists_eq_left,Option.some.injEq,U.int.injEq,U.bl.injEq,U.str.injEq,U.ref.injEq,U.tup.injEq,U.lst.injEq,U.ty.injEq,List.cons.injEq,and_true,true_and,and_self,List.map_cons,List.map_nil,List.length_cons,List.length_nil,List.cons_append,List.nil_append,List.append_nil,List.getElem?_cons_zero,List.getElem?_cons_succ,List.set_cons_zero,List.set_cons_succ,List.replicate,↓reduceIte,Bool.false_eq_true,Bool.not_true,Bool.not_false,reduceCtorEq,Nat.reduceAdd,Nat.reduceSub,Nat.reduceLeDiff,Nat.reduceEqDiff,decide_true,decide_false,at0,at1,at2,at3,at4,ix0,ix1,ix2,ix3,ix4,updM_same,beq_self_eq_true,Option.bind,Option.map,wipeU,NT.put,puts,MO.lst.injEq,exists_and_left,decide_eq_true_eq,Bool.and_eq_true,Bool.or_eq_true,exists_eq',Nat.zero_le,true_or,or_true,allU_map,Bool.true_and] at q ⊢
            exact q
        · have h3 : ¬ z.length < 9 := by omega
          have h0 : 0 < z.length := h1
          simp only [z8i,uOr,z8d,z8m,uCB,z7t,z8l,uC,z8o,z7w,uOp,uUn,z8s,z8j,uIf,z8e,z7v,z7u,z7s,uBM,z8g,uSl,z4x,z8r,z72,z8q,z7x,List.append_nil,z8t,z80,z8y,z7z,z8u,z81,z8w,z8v,xIf,z74,z8x,z8p,z3t,z8n,z7m,z7q,z7o,z7p,z5w,z5v,z7a,z3l,z3m,z75,z5g,z8k,asD,uXf,z8f,z5n,z7y,z6e,z6d,z68,z67,z63,z5h,z5i,z5j,z3v,z3w,z6f,z64,z62,z5r,z6b,z7j,z7k,z7i,z7c,z7b,z7l,z7e,z5o,z2m,z2w,z2k,z2o,z2p,z2l,z2n,z5c,z73,z5a,z5e,z5f,z5b,z3g,z5d,z3e,z2q,z2r,z3i,z3k,z3j,z39,z3a,z37,z38,z4q,z6h,z4o,z4s,z4t,z4p,z3f,z4r,z4e,z4d,z3b,z2s,z3d,z3c,z0h,z0g,z0d,z0a,z0f,z0e,z1o,z1n,z0u,z0j,z0w,z0v,z2d,z2c,z1r,z10,z1t,z1s,z2f,z2e,z1w,z14,z1y,z1x,z16,z15,z0m,z0i,z0o,z0n,z1v,z1u,z11,z0l,z13,z12,z1q,z1p,z0x,z0k,z0z,z0y,z4i,z6g,z4g,z4j,z4k,z4h,z82,z88,z46,z5x,z44,z47,z48,z45,z2v,z2j,z40,z5q,z3y,z41,z42,z3z,z2u,z2i,z6y,z70,z6x,z71,z6z,z59,z56,z57,z58,z87,z86,z7r,z79,z7n,z7d,z5y,z76,z77,z6c,z69,z6a,z8b,z8c,z89,z8a,z85,z83,z84,z4v,z4u,z6i,z78,z5m,z5l,z5k,z6n,z6o,z6p,z6q,z6r,z6s,z6t,z6u,z6v,z6w,z50,z51,z52,z53,z54,z55,z4b,z4c,z49,z27,z26,z1e,z0r,z1g,z1f,z05,z04,z2h,z2g,z1z,z17,z21,z20,z0c,z0b,z23,z22,z18,z0p,z1a,z19,z01,z00,z29,z28,z1h,z0s,z1j,z1i,z07,z06,z2b,z2a,z1k,z0t,z1m,z1l,z09,z08,z25,z24,z1b,z0q,z1d,z1c,z03,z02,z6m,z8h,z4z,z6l,z6k,z4w,z4y,z3s,z6j,z3p,z4f,z3n,z3q,z3r,z3o,z5p,z2t,z3h,z4n,z4l,z4a,z66,z65,z4m,z60,z61,z5z,z32,z2x,z33,z2y,z34,z2z,z35,z30,z36,z31,z7h,z7g,z3u,z5u,z3x,z7f,z5t,z43,z5s,cle,clt,cge,cgt,ceq,cne,lenN,xFor,xTryM,uMix,uEnum,uZip,ltT,uSortK,sortK,sortN,uDNew,uDGet,inN,setN,uDNewS,uDGetS,inS,setS,uDm,uDm0,getR,popS,setdS,getNR,setdN,popNR,itemsR,lenS,dictS,sortItR,uFld,uFst,uMake,uLock,uLockE,uKeys,sortE,sortL,xOp,reprT_1,listN,mulT,gLst_l,gLst_r,sum_l,sum_r,min_ii,max_ii,sortSD,pop1S,dictN,uD1,updN,exists_eq_left',exists_eq_left,Option.some.injEq,U.int.injEq,U.bl.injEq,U.str.injEq,U.ref.injEq,U.tup.injEq,U.lst.injEq,U.ty.injEq,List.cons.injEq,and_true,true_and,and_self,List.map_cons,List.map_nil,List.length_cons,List.length_nil,List.cons_append,List.nil_append,List.append_nil,List.getElem?_cons_zero,List.getElem?_cons_succ,List.set_cons_zero,List.set_cons_succ,List.replicate,↓reduceIte,Bool.false_eq_true,Bool.not_true,Bool.not_false,reduceCtorEq,Nat.reduceAdd,Nat.reduceSub,Nat.reduceLeDiff,Nat.reduceEqDiff,decide_true,decide_false,at0,at1,at2,at3,at4,ix0,ix1,ix2,ix3,ix4,updM_same,beq_self_eq_true,Option.bind,Option.map,wipeU,NT.put,puts,MO.lst.injEq,exists_and_left,decide_eq_true_eq,Bool.and_eq_true,Bool.or_eq_true,exists_eq',Nat.zero_le,true_or,or_true,h0,h1,h2,h3,Bool.true_and,Bool.false_and] at q ⊢
          exact q
      · have h0 : ¬ 0 < z.length := h1
        simp only [z8i,uOr,z8d,z8m,uCB,z7t,z8l,uC,z8o,z7w,uOp,uUn,z8s,z8j,uIf,z8e,z7v,z7u,z7s,uBM,z8g,uSl,z4x,z8r,z72,z8q,z7x,List.append_nil,z8t,z80,z8y,z7z,z8u,z81,z8w,z8v,xIf,z74,z8x,z8p,z3t,z8n,z7m,z7q,z7o,z7p,z5w,z5v,z7a,z3l,z3m,z75,z5g,z8k,asD,uXf,z8f,z5n,z7y,z6e,z6d,z68,z67,z63,z5h,z5i,z5j,z3v,z3w,z6f,z64,z62,z5r,z6b,z7j,z7k,z7i,z7c,z7b,z7l,z7e,z5o,z2m,z2w,z2k,z2o,z2p,z2l,z2n,z5c,z73,z5a,z5e,z5f,z5b,z3g,z5d,z3e,z2q,z2r,z3i,z3k,z3j,z39,z3a,z37,z38,z4q,z6h,z4o,z4s,z4t,z4p,z3f,z4r,z4e,z4d,z3b,z2s,z3d,z3c,z0h,z0g,z0d,z0a,z0f,z0e,z1o,z1n,z0u,z0j,z0w,z0v,z2d,z2c,z1r,z10,z1t,z1s,z2f,z2e,z1w,z14,z1y,z1x,z16,z15,z0m,z0i,z0o,z0n,z1v,z1u,z11,z0l,z13,z12,z1q,z1p,z0x,z0k,z0z,z0y,z4i,z6g,z4g,z4j,z4k,z4h,z82,z88,z46,z5x,z44,z47,z48,z45,z2v,z2j,z40,z5q,z3y,z41,z42,z3z,z2u,z2i,z6y,z70,z6x,z71,z6z,z59,z56,z57,z58,z87,z86,z7r,z79,z7n,z7d,z5y,z76,z77,z6c,z69,z6a,z8b,z8c,z89,z8a,z85,z83,z84,z4v,z4u,z6i,z78,z5m,z5l,z5k,z6n,z6o,z6p,z6q,z6r,z6s,z6t,z6u,z6v,z6w,z50,z51,z52,z53,z54,z55,z4b,z4c,z49,z27,z26,z1e,z0r,z1g,z1f,z05,z04,z2h,z2g,z1z,z17,z21,z20,z0c,z0b,z23,z22,z18,z0p,z1a,z19,z01,z00,z29,z28,z1h,z0s,z1j,z1i,z07,z06,z2b,z2a,z1k,z0t,z1m,z1l,z09,z08,z25,z24,z1b,z0q,z1d,z1c,z03,z02,z6m,z8h,z4z,z6l,z6k,z4w,z4y,z3s,z6j,z3p,z4f,z3n,z3q,z3r,z3o,z5p,z2t,z3h,z4n,z4l,z4a,z66,z65,z4m,z60,z61,z5z,z32,z2x,z33,z2y,z34,z2z,z35,z30,z36,z31,z7h,z7g,z3u,z5u,z3x,z7f,z5t,z43,z5s,cle,clt,cge,cgt,ceq,cne,lenN,xFor,xTryM,uMix,uEnum,uZip,ltT,uSortK,sortK,sortN,uDNew,uDGet,inN,setN,uDNewS,uDGetS,inS,setS,uDm,uDm0,getR,popS,setdS,getNR,setdN,popNR,itemsR,lenS,dictS,sortItR,uFld,uFst,uMake,uLock,uLockE,uKeys,sortE,sortL,xOp,reprT_1,listN,mulT,gLst_l,gLst_r,sum_l,sum_r,min_ii,max_ii,sortSD,pop1S,dictN,uD1,updN,exists_eq_left',exists_eq_left,Option.some.injEq,U.int.injEq,U.bl.injEq,U.str.injEq,U.ref.injEq,U.tup.injEq,U.lst.injEq,U.ty.injEq,List.cons.injEq,and_true,true_and,and_self,List.map_cons,List.map_nil,List.length_cons,List.length_nil,List.cons_append,List.nil_append,List.append_nil,List.getElem?_cons_zero,List.getElem?_cons_succ,List.set_cons_zero,List.set_cons_succ,List.replicate,↓reduceIte,Bool.false_eq_true,Bool.not_true,Bool.not_false,reduceCtorEq,Nat.reduceAdd,Nat.reduceSub,Nat.reduceLeDiff,Nat.reduceEqDiff,decide_true,decide_false,at0,at1,at2,at3,at4,ix0,ix1,ix2,ix3,ix4,updM_same,beq_self_eq_true,Option.bind,Option.map,wipeU,NT.put,puts,MO.lst.injEq,exists_and_left,decide_eq_true_eq,Bool.and_eq_true,Bool.or_eq_true,exists_eq',Nat.zero_le,true_or,or_true,h0,h1,Bool.true_and,Bool.false_and] at q ⊢
        exact q
    | ref a => simp [isD] at hx
    | ty n => simp [isD] at hx
    | _ =>
      simp only [isNameU] at q
      walk_at "q0"
      exact q

/-! ### _law_is_path -/
def sp__law_is_path : USp := fun us M Q _ => ∃ x, us = [x] ∧ isD x = true ∧ Q (.bl (isPathU x)) M
local macro_rules | `(tactic| walk_at "q8") => `(tactic| simp only [z8i,uOr,z8d,z8m,uCB,z7t,z8l,uC,z8o,z7w,uOp,uUn,z8s,z8j,uIf,z8e,z7v,z7u,z7s,uBM,z8g,uSl,z4x,z8r,z72,z8q,z7x,List.append_nil,z8t,z80,z8y,z7z,z8u,z81,z8w,z8v,xIf,z74,z8x,z8p,z3t,z8n,z7m,z7q,z7o,z7p,z5w,z5v,z7a,z3l,z3m,z75,z5g,z8k,asD,uXf,z8f,z5n,z7y,z6e,z6d,z68,z67,z63,z5h,z5i,z5j,z3v,z3w,z6f,z64,z62,z5r,z6b,z7j,z7k,z7i,z7c,z7b,z7l,z7e,z5o,z2m,z2w,z2k,z2o,z2p,z2l,z2n,z5c,z73,z5a,z5e,z5f,z5b,z3g,z5d,z3e,z2q,z2r,z3i,z3k,z3j,z39,z3a,z37,z38,z4q,z6h,z4o,z4s,z4t,z4p,z3f,z4r,z4e,z4d,z3b,z2s,z3d,z3c,z0h,z0g,z0d,z0a,z0f,z0e,z1o,z1n,z0u,z0j,z0w,z0v,z2d,z2c,z1r,z10,z1t,z1s,z2f,z2e,z1w,z14,z1y,z1x,z16,z15,z0m,z0i,z0o,z0n,z1v,z1u,z11,z0l,z13,z12,z1q,z1p,z0x,z0k,z0z,z0y,z4i,z6g,z4g,z4j,z4k,z4h,z82,z88,z46,z5x,z44,z47,z48,z45,z2v,z2j,z40,z5q,z3y,z41,z42,z3z,z2u,z2i,z6y,z70,z6x,z71,z6z,z59,z56,z57,z58,z87,z86,z7r,z79,z7n,z7d,z5y,z76,z77,z6c,z69,z6a,z8b,z8c,z89,z8a,z85,z83,z84,z4v,z4u,z6i,z78,z5m,z5l,z5k,z6n,z6o,z6p,z6q,z6r,z6s,z6t,z6u,z6v,z6w,z50,z51,z52,z53,z54,z55,z4b,z4c,z49,z27,z26,z1e,z0r,z1g,z1f,z05,z04,z2h,z2g,z1z,z17,z21,z20,z0c,z0b,z23,z22,z18,z0p,z1a,z19,z01,z00,z29,z28,z1h,z0s,z1j,z1i,z07,z06,z2b,z2a,z1k,z0t,z1m,z1l,z09,z08,z25,z24,z1b,z0q,z1d,z1c,z03,z02,z6m,z8h,z4z,z6l,z6k,z4w,z4y,z3s,z6j,z3p,z4f,z3n,z3q,z3r,z3o,z5p,z2t,z3h,z4n,z4l,z4a,z66,z65,z4m,z60,z61,z5z,z32,z2x,z33,z2y,z34,z2z,z35,z30,z36,z31,z7h,z7g,z3u,z5u,z3x,z7f,z5t,z43,z5s,cle,clt,cge,cgt,ceq,cne,lenN,xFor,xTryM,uMix,uEnum,uZip,ltT,uSortK,sortK,sortN,uDNew,uDGet,inN,setN,uDNewS,uDGetS,inS,setS,uDm,uDm0,getR,popS,setdS,getNR,setdN,popNR,itemsR,lenS,dictS,sortItR,uFld,uFst,uMake,uLock,uLockE,uKeys,sortE,sortL,xOp,reprT_1,listN,mulT,gLst_l,gLst_r,sum_l,sum_r,min_ii,max_ii,sortSD,pop1S,dictN,uD1,updN,exists_eq_left',exists_eq_left,Option.some.injEq,U.int.injEq,U.bl.injEq,U.str.injEq,U.ref.injEq,U.tup.injEq,U.lst.injEq,U.ty.injEq,List.cons.injEq,and_true,true_and,and_self,List.map_cons,List.map_nil,List.length_cons,List.length_nil,List.cons_append,List.nil_append,List.append_nil,List.getElem?_cons_zero,List.getElem?_cons_succ,List.set_cons_zero,List.set_cons_succ,List.replicate,↓reduceIte,Bool.false_eq_true,Bool.not_true,Bool.not_false,reduceCtorEq,Nat.reduceAdd,Nat.reduceSub,Nat.reduceLeDiff,Nat.reduceEqDiff,decide_true,decide_false,at0,at1,at2,at3,at4,ix0,ix1,ix2,ix3,ix4,updM_same,beq_self_eq_true,Option.bind,Option.map,wipeU,NT.put,puts,MO.lst.injEq,exists_and_left,decide_eq_true_eq,Bool.and_eq_true,Bool.or_eq_true,exists_eq',Nat.zero_le,true_or,or_true,sp__law_is_name])
theorem ok__law_is_path (L : Lw K mg) : UFn P w K mg base CX0 2 L.f__law_is_path L.fd__law_is_path ["_law_thing_here"] (sp__law_is_path) := by
  refine ufn_ok L.D__law_is_path.F sc__law_is_path (fun us M Q E h => ?_) (fun cdv A outer s H E hr hG =>
      (uss_one (us_ret (ue_and (ue_callB uc_isi (by rfl) L.n_isinstance bt_isi (ua_cons (uv 0) (ua_cons (ue_bltn (by rfl) L.n_tuple bt_tuple) ua_nil))) (ue_and (ue_cmp uo_lt (ue_callB uc_len (by rfl) L.n_len bt_len (ua_cons (uv 0) ua_nil)) ue_int (nomark _)) (ue_one (ue_callB (uc_all rfl) (by rfl) L.n_all bt_all (ua_cons (ue_lc (own := [("_law_one", 1)]) (n := (.one 1)) false rfl sc__law_is_path.nd (ui_any (uv 0)) (blkOk_by (own := [("_law_one", 1)]) (N := ["_law_thing_here", "_law_one"]) (sc := defScope s__law_is_path) (by decide +kernel)) (by decide) (fun _ _ _ _ _ => (pg_nt sc__law_is_path.nd rfl (.inl rfl))) (fun _ _ _ _ _ => uts_nil) (fun _ _ _ _ _ => (ue_call (ok__law_is_name L) (hr.mono (by decide)) hG rfl L.D__law_is_name.g L.D__law_is_name.F.kp L.D__law_is_name.b .nil (fun _ => RelUs.nil) (ua_cons (uv 1) ua_nil)))) ua_nil)))))))) (fun us M Q E h => ?_)
  · obtain ⟨x, rfl, _⟩ := h
    rfl
  · obtain ⟨x, rfl, hx, q⟩ := h
    have q : ZQ Q (.bl (isPathU x)) M := .inl q
    cases x with
    | tup xs =>
      have hxs := isDs_iff.mp (by simpa [isD] using hx)
      simp only [z8i,uOr,z8d,z8m,uCB,z7t,z8l,uC,z8o,z7w,uOp,uUn,z8s,z8j,uIf,z8e,z7v,z7u,z7s,uBM,z8g,uSl,z4x,z8r,z72,z8q,z7x,List.append_nil,z8t,z80,z8y,z7z,z8u,z81,z8w,z8v,xIf,z74,z8x,z8p,z3t,z8n,z7m,z7q,z7o,z7p,z5w,z5v,z7a,z3l,z3m,z75,z5g,z8k,asD,uXf,z8f,z5n,z7y,z6e,z6d,z68,z67,z63,z5h,z5i,z5j,z3v,z3w,z6f,z64,z62,z5r,z6b,z7j,z7k,z7i,z7c,z7b,z7l,z7e,z5o,z2m,z2w,z2k,z2o,z2p,z2l,z2n,z5c,z73,z5a,z5e,z5f,z5b,z3g,z5d,z3e,z2q,z2r,z3i,z3k,z3j,z39,z3a,z37,z38,z4q,z6h,z4o,z4s,z4t,z4p,z3f,z4r,z4e,z4d,z3b,z2s,z3d,z3c,z0h,z0g,z0d,z0a,z0f,z0e,z1o,z1n,z0u,z0j,z0w,z0v,z2d,z2c,z1r,z10,z1t,z1s,z2f,z2e,z1w,z14,z1y,z1x,z16,z15,z0m,z0i,z0o,z0n,z1v,z1u,z11,z0l,z13,z12,z1q,z1p,z0x,z0k,z0z,z0y,z4i,z6g,z4g,z4j,z4k,z4h,z82,z88,z46,z5x,z44,z47,z48,z45,z2v,z2j,z40,z5q,z3y,z41,z42,z3z,z2u,z2i,z6y,z70,z6x,z71,z6z,z59,z56,z57,z58,z87,z86,z7r,z79,z7n,z7d,z5y,z76,z77,z6c,z69,z6a,z8b,z8c,z89,z8a,z85,z83,z84,z4v,z4u,z6i,z78,z5m,z5l,z5k,z6n,z6o,z6p,z6q,z6r,z6s,z6t,z6u,z6v,z6w,z50,z51,z52,z53,z54,z55,z4b,z4c,z49,z27,z26,z1e,z0r,z1g,z1f,z05,z04,z2h,z2g,z1z,z17,z21,z20,z0c,z0b,z23,z22,z18,z0p,z1a,z19,z01,z00,z29,z28,z1h,z0s,z1j,z1i,z07,z06,z2b,z2a,z1k,z0t,z1m,z1l,z09,z08,z25,z24,z1b,z0q,z1d,z1c,z03,z02,z6m,z8h,z4z,z6l,z6k,z4w,z4y,z3s,z6j,z3p,z4f,z3n,z3q,z3r,z3o,z5p,z2t,z3h,z4n,z4l,z4a,z66,z65,z4m,z60,z61,z5z,z32,z2x,z33,z2y,z34,z2z,z35,z30,z36,z31,z7h,z7g,z3u,z5u,z3x,z7f,z5t,z43,z5s,cle,clt,cge,cgt,ceq,cne,lenN,xFor,xTryM,uMix,uEnum,uZip,ltT,uSortK,sortK,sortN,uDNew,uDGet,inN,setN,uDNewS,uDGetS,inS,setS,uDm,uDm0,getR,popS,setdS,getNR,setdN,popNR,itemsR,lenS,dictS,sortItR,uFld,uFst,uMake,uLock,uLockE,uKeys,sortE,sortL,xOp,reprT_1,listN,mulT,gLst_l,gLst_r,sum_l,sum_r,min_ii,max_ii,sortSD,pop1S,dictN,uD1,updN,exists_eq_left',exists_eq_left,Option.some.injEq,U.int.injEq,U.bl.injEq,U.str.injEq,U.ref.injEq,U.tup.injEq,U.lst.injEq,U.ty.injEq,List.cons.injEq,and_true,true_and,and_self,List.map_cons,List.map_nil,List.length_cons,List.length_nil,List.cons_append,List.nil_append,List.append_nil,List.getElem?_cons_zero,List.getElem?_cons_succ,List.set_cons_zero,List.set_cons_succ,List.replicate,↓reduceIte,Bool.false_eq_true,Bool.not_true,Bool.not_false,reduceCtorEq,Nat.reduceAdd,Nat.reduceSub,Nat.reduceLeDiff,Nat.reduceEqDiff,decide_true,decide_false,at0,at1,at2,at3,at4,ix0,ix1,ix2,ix3,ix4,updM_same,beq_self_eq_true,Option.bind,Option.map,wipeU,NT.put,puts,MO.lst.injEq,exists_and_left,decide_eq_true_eq,Bool.and_eq_true,Bool.or_eq_true,exists_eq',Nat.zero_le,true_or,or_true,isPathU] at q ⊢
      by_cases h1 : xs.length ≤ 8
      · have h3 : xs.length < 9 := by omega
        simp only [z8i,uOr,z8d,z8m,uCB,z7t,z8l,uC,z8o,z7w,uOp,uUn,z8s,z8j,uIf,z8e,z7v,z7u,z7s,uBM,z8g,uSl,z4x,z8r,z72,z8q,z7x,List.append_nil,z8t,z80,z8y,z7z,z8u,z81,z8w,z8v,xIf,z74,z8x,z8p,z3t,z8n,z7m,z7q,z7o,z7p,z5w,z5v,z7a,z3l,z3m,z75,z5g,z8k,asD,uXf,z8f,z5n,z7y,z6e,z6d,z68,z67,z63,z5h,z5i,z5j,z3v,z3w,z6f,z64,z62,z5r,z6b,z7j,z7k,z7i,z7c,z7b,z7l,z7e,z5o,z2m,z2w,z2k,z2o,z2p,z2l,z2n,z5c,z73,z5a,z5e,z5f,z5b,z3g,z5d,z3e,z2q,z2r,z3i,z3k,z3j,z39,z3a,z37,z38,z4q,z6h,z4o,z4s,z4t,z4p,z3f,z4r,z4e,z4d,z3b,z2s,z3d,z3c,z0h,z0g,z0d,z0a,z0f,z0e,z1o,z1n,z0u,z0j,z0w,z0v,z2d,z2c,z1r,z10,z1t,z1s,z2f,z2e,z1w,z14,z1y,z1x,z16,z15,z0m,z0i,z0o,z0n,z1v,z1u,z11,z0l,z13,z12,z1q,z1p,z0x,z0k,z0z,z0y,z4i,z6g,z4g,z4j,z4k,z4h,z82,z88,z46,z5x,z44,z47,z48,z45,z2v,z2j,z40,z5q,z3y,z41,z42,z3z,z2u,z2i,z6y,z70,z6x,z71,z6z,z59,z56,z57,z58,z87,z86,z7r,z79,z7n,z7d,z5y,z76,z77,z6c,z69,z6a,z8b,z8c,z89,z8a,z85,z83,z84,z4v,z4u,z6i,z78,z5m,z5l,z5k,z6n,z6o,z6p,z6q,z6r,z6s,z6t,z6u,z6v,z6w,z50,z51,z52,z53,z54,z55,z4b,z4c,z49,z27,z26,z1e,z0r,z1g,z1f,z05,z04,z2h,z2g,z1z,z17,z21,z20,z0c,z0b,z23,z22,z18,z0p,z1a,z19,z01,z00,z29,z28,z1h,z0s,z1j,z1i,z07,z06,z2b,z2a,z1k,z0t,z1m,z1l,z09,z08,z25,z24,z1b,z0q,z1d,z1c,z03,z02,z6m,z8h,z4z,z6l,z6k,z4w,z4y,z3s,z6j,z3p,z4f,z3n,z3q,z3r,z3o,z5p,z2t,z3h,z4n,z4l,z4a,z66,z65,z4m,z60,z61,z5z,z32,z2x,z33,z2y,z34,z2z,z35,z30,z36,z31,z7h,z7g,z3u,z5u,z3x,z7f,z5t,z43,z5s,cle,clt,cge,cgt,ceq,cne,lenN,xFor,xTryM,uMix,uEnum,uZip,ltT,uSortK,sortK,sortN,uDNew,uDGet,inN,setN,uDNewS,uDGetS,inS,setS,uDm,uDm0,getR,popS,setdS,getNR,setdN,popNR,itemsR,lenS,dictS,sortItR,uFld,uFst,uMake,uLock,uLockE,uKeys,sortE,sortL,xOp,reprT_1,listN,mulT,gLst_l,gLst_r,sum_l,sum_r,min_ii,max_ii,sortSD,pop1S,dictN,uD1,updN,exists_eq_left',exists_eq_left,Option.some.injEq,U.int.injEq,U.bl.injEq,U.str.injEq,U.ref.injEq,U.tup.injEq,U.lst.injEq,U.ty.injEq,List.cons.injEq,and_true,true_and,and_self,List.map_cons,List.map_nil,List.length_cons,List.length_nil,List.cons_append,List.nil_append,List.append_nil,List.getElem?_cons_zero,List.getElem?_cons_succ,List.set_cons_zero,List.set_cons_succ,List.replicate,↓reduceIte,Bool.false_eq_true,Bool.not_true,Bool.not_false,reduceCtorEq,Nat.reduceAdd,Nat.reduceSub,Nat.reduceLeDiff,Nat.reduceEqDiff,decide_true,decide_false,at0,at1,at2,at3,at4,ix0,ix1,ix2,ix3,ix4,updM_same,beq_self_eq_true,Option.bind,Option.map,wipeU,NT.put,puts,MO.lst.injEq,exists_and_left,decide_eq_true_eq,Bool.and_eq_true,Bool.or_eq_true,exists_eq',Nat.zero_le,true_or,or_true,h1,h3] at q ⊢
        walk_at "q2"
        refine lc_map (fun x => .bl (isNameU x)) (fun _ _ _ => True.intro) (fun D acc hD x hx => ⟨_, rfl, fun Q q => ?_⟩) ?_
        · walk_at "q8"
          exact ⟨hxs x hx, q⟩
        · simp only [z8i,uOr,z8d,z8m,uCB,z7t,z8l,uC,z8o,z7w,uOp,uUn,z8s,z8j,uIf,z8e,z7v,z7u,z7s,uBM,z8g,uSl,z4x,z8r,z72,z8q,z7x,List.append_nil,z8t,z80,z8y,z7z,z8u,z81,z8w,z8v,xIf,z74,z8x,z8p,z3t,z8n,z7m,z7q,z7o,z7p,z5w,z5v,z7a,z3l,z3m,z75,z5g,z8k,asD,uXf,z8f,z5n,z7y,z6e,z6d,z68,z67,z63,z5h,z5i,z5j,z3v,z3w,z6f,z64,z62,z5r,z6b,z7j,z7k,z7i,z7c,z7b,z7l,z7e,z5o,z2m,z2w,z2k,z2o,z2p,z2l,z2n,z5c,z73,z5a,z5e,z5f,z5b,z3g,z5d,z3e,z2q,z2r,z3i,z3k,z3j,z39,z3a,z37,z38,z4q,z6h,z4o,z4s,z4t,z4p,z3f,z4r,z4e,z4d,z3b,z2s,z3d,z3c,z0h,z0g,z0d,z0a,z0f,z0e,z1o,z1n,z0u,z0j,z0w,z0v,z2d,z2c,z1r,z10,z1t,z1s,z2f,z2e,z1w,z14,z1y,z1x,z16,z15,z0m,z0i,z0o,z0n,z1v,z1u,z11,z0l,z13,z12,z1q,z1p,z0x,z0k,z0z,z0y,z4i,z6g,z4g,z4j,z4k,z4h,z82,z88,z46,z5x,z44,z47,z48,z45,z2v,z2j,z40,z5q,z3y,z41,z42,z3z,z2u,z2i,z6y,z70,z6x,z71,z6z,z59,z56,z57,z58,z87,z86,z7r,z79,z7n,z7d,z5y,z76,z77,z6c,z69,z6a,z8b,z8c,z89,z8a,z85,z83,z84,z4v,z4u,z6i,z78,z5m,z5l,z5k,z6n,z6o,z6p,z6q,z6r,z6s,z6t,z6u,z6v,z6w,z50,z51,z52,z53,z54,z55,z4b,z4c,z49,z27,z26,z1e,z0r,z1g,z1f,z05,z04,z2h,z2g,z1z,z17,z21,z20,z0c,z0b,z23,z22,z18,z0p,z1a,z19,z01,z00,z29,z28,z1h,z0s,z1j,z1i,z07,z06,z2b,z2a,z1k,z0t,z1m,z1l,z09,z08,z25,z24,z1b,z0q,z1d,z1c,z03,z02,z6m,z8h,z4z,z6l,z6k,z4w,z4y,z3s,z6j,z3p,z4f,z3n,z3q,z3r,z3o,z5p,z2t,z3h,z4n,z4l,z4a,z66,z65,z4m,z60,z61,z5z,z32,z2x,z33,z2y,z34,z2z,z35,z30,z36,z31,z7h,z7g,z3u,z5u,z3x,z7f,z5t,z43,z5s,cle,clt,cge,cgt,ceq,cne,lenN,xFor,xTryM,uMix,uEnum,uZip,ltT,uSortK,sortK,sortN,uDNew,uDGet,inN,setN,uDNewS,uDGetS,inS,setS,uDm,uDm0,getR,popS,setdS,getNR,setdN,popNR,itemsR,lenS,dictS,sortItR,uFld,uFst,uMake,uLock,uLockE,uKeys,sortE,sortL,xOp,reprT_1,listN,mulT,gLst_l,gLst_r,sum_l,sum_r,min_ii,max_ii,sortSD,pop1S,dictN,uD1,updN,exists_eq_left',exists_eq_left,Option.some.injEq,U.int.injEq,U.bl.injEq,U.str.injEq,U.ref.injEq,U.tup.injEq,U.lst.injEq,U.ty.injEq,List.cons.injEq,and_true,true_and,and_self,List.map_cons,List.map_nil,List.length_cons,List.length_nil,List.cons_append,List.nil_append,List.append_nil,List.getElem?_cons_zero,List.getElem?_cons_succ,List.set_cons_zero,List.set_cons_succ,List.replicate,↓reduceIte,Bool.false_eq_true,Bool.not_true,Bool.not_false,reduceCtorEq,Nat.reduceAdd,Nat.reduceSub,Nat.reduceLeDiff,Nat.reduceEqDiff,decide_true,decide_false,at0,at1,at2,at3,at4,ix0,ix1,ix2,ix3,ix4,updM_same,beq_self_eq_true,Option.bind,Option.map,wipeU,NT.put,puts,MO.lst.injEq,exists_and_left,decide_eq_true_eq,Bool.and_eq_true,Bool.or_eq_true,exists_eq',Nat.zero_le,true_or,or_true,allU_map,Bool.true_and] at q ⊢
          exact q
      · have h3 : ¬ xs.length < 9 := by omega
        simp only [z8i,uOr,z8d,z8m,uCB,z7t,z8l,uC,z8o,z7w,uOp,uUn,z8s,z8j,uIf,z8e,z7v,z7u,z7s,uBM,z8g,uSl,z4x,z8r,z72,z8q,z7x,List.append_nil,z8t,z80,z8y,z7z,z8u,z81,z8w,z8v,xIf,z74,z8x,z8p,z3t,z8n,z7m,z7q,z7o,z7p,z5w,z5v,z7a,z3l,z3m,z75,z5g,z8k,asD,uXf,z8f,z5n,z7y,z6e,z6d,z68,z67,z63,z5h,z5i,z5j,z3v,z3w,z6f,z64,z62,z5r,z6b,z7j,z7k,z7i,z7c,z7b,z7l,z7e,z5o,z2m,z2w,z2k,z2o,z2p,z2l,z2n,z5c,z73,z5a,z5e,z5f,z5b,z3g,z5d,z3e,z2q,z2r,z3i,z3k,z3j,z39,z3a,z37,z38,z4q,z6h,z4o,z4s,z4t,z4p,z3f,z4r,z4e,z4d,z3b,z2s,z3d,z3c,z0h,z0g,z0d,z0a,z0f,z0e,z1o,z1n,z0u,z0j,z0w,z0v,z2d,z2c,z1r,z10,z1t,z1s,z2f,z2e,z1w,z14,z1y,z1x,z16,z15,z0m,z0i,z0o,z0n,z1v,z1u,z11,z0l,z13,z12,z1q,z1p,z0x,z0k,z0z,z0y,z4i,z6g,z4g,z4j,z4k,z4h,z82,z88,z46,z5x,z44,z47,z48,z45,z2v,z2j,z40,z5q,z3y,z41,z42,z3z,z2u,z2i,z6y,z70,z6x,z71,z6z,z59,z56,z57,z58,z87,z86,z7r,z79,z7n,z7d,z5y,z76,z77,z6c,z69,z6a,z8b,z8c,z89,z8a,z85,z83,z84,z4v,z4u,z6i,z78,z5m,z5l,z5k,z6n,z6o,z6p,z6q,z6r,z6s,z6t,z6u,z6v,z6w,z50,z51,z52,z53,z54,z55,z4b,z4c,z49,z27,z26,z1e,z0r,z1g,z1f,z05,z04,z2h,z2g,z1z,z17,z21,z20,z0c,z0b,z23,z22,z18,z0p,z1a,z19,z01,z00,z29,z28,z1h,z0s,z1j,z1i,z07,z06,z2b,z2a,z1k,z0t,z1m,z1l,z09,z08,z25,z24,z1b,z0q,z1d,z1c,z03,z02,z6m,z8h,z4z,z6l,z6k,z4w,z4y,z3s,z6j,z3p,z4f,z3n,z3q,z3r,z3o,z5p,z2t,z3h,z4n,z4l,z4a,z66,z65,z4m,z60,z61,z5z,z32,z2x,z33,z2y,z34,z2z,z35,z30,z36,z31,z7h,z7g,z3u,z5u,z3x,z7f,z5t,z43,z5s,cle,clt,cge,cgt,ceq,cne,lenN,xFor,xTryM,uMix,uEnum,uZip,ltT,uSortK,sortK,sortN,uDNew,uDGet,inN,setN,uDNewS,uDGetS,inS,setS,uDm,uDm0,getR,popS,setdS,getNR,setdN,popNR,itemsR,lenS,dictS,sortItR,uFld,uFst,uMake,uLock,uLockE,uKeys,sortE,sortL,xOp,reprT_1,listN,mulT,gLst_l,gLst_r,sum_l,sum_r,min_ii,max_ii,sortSD,pop1S,dictN,uD1,updN,exists_eq_left',exists_eq_left,Option.some.injEq,U.int.injEq,U.bl.injEq,U.str.injEq,U.ref.injEq,U.tup.injEq,U.lst.injEq,U.ty.injEq,List.cons.injEq,and_true,true_and,and_self,List.map_cons,List.map_nil,List.length_cons,List.length_nil,List.cons_append,List.nil_append,List.append_nil,List.getElem?_cons_zero,List.getElem?_cons_succ,List.set_cons_zero,List.set_cons_succ,List.replicate,↓reduceIte,Bool.false_eq_true,Bool.not_true,Bool.not_false,reduceCtorEq,Nat.reduceAdd,Nat.reduceSub,Nat.reduceLeDiff,Nat.reduceEqDiff,decide_true,decide_false,at0,at1,at2,at3,at4,ix0,ix1,ix2,ix3,ix4,updM_same,beq_self_eq_true,Option.bind,Option.map,wipeU,NT.put,puts,MO.lst.injEq,exists_and_left,decide_eq_true_eq,Bool.and_eq_true,Bool.or_eq_true,exists_eq',Nat.zero_le,true_or,or_true,h1,h3,Bool.false_and] at q ⊢
        exact q
    | ref a => simp [isD] at hx
    | ty n => simp [isD] at hx
    | _ =>
      simp only [z8i,uOr,z8d,z8m,uCB,z7t,z8l,uC,z8o,z7w,uOp,uUn,z8s,z8j,uIf,z8e,z7v,z7u,z7s,uBM,z8g,uSl,z4x,z8r,z72,z8q,z7x,List.append_nil,z8t,z80,z8y,z7z,z8u,z81,z8w,z8v,xIf,z74,z8x,z8p,z3t,z8n,z7m,z7q,z7o,z7p,z5w,z5v,z7a,z3l,z3m,z75,z5g,z8k,asD,uXf,z8f,z5n,z7y,z6e,z6d,z68,z67,z63,z5h,z5i,z5j,z3v,z3w,z6f,z64,z62,z5r,z6b,z7j,z7k,z7i,z7c,z7b,z7l,z7e,z5o,z2m,z2w,z2k,z2o,z2p,z2l,z2n,z5c,z73,z5a,z5e,z5f,z5b,z3g,z5d,z3e,z2q,z2r,z3i,z3k,z3j,z39,z3a,z37,z38,z4q,z6h,z4o,z4s,z4t,z4p,z3f,z4r,z4e,z4d,z3b,z2s,z3d,z3c,z0h,z0g,z0d,z0a,z0f,z0e,z1o,z1n,z0u,z0j,z0w,z0v,z2d,z2c,z1r,z10,z1t,z1s,z2f,z2e,z1w,z14,z1y,z1x,z16,z15,z0m,z0i,z0o,z0n,z1v,z1u,z11,z0l,z13,z12,z1q,z1p,z0x,z0k,z0z,z0y,z4i,z6g,z4g,z4j,z4k,z4h,z82,z88,z46,z5x,z44,z47,z48,z45,z2v,z2j,z40,z5q,z3y,z41,z42,z3z,z2u,z2i,z6y,z70,z6x,z71,z6z,z59,z56,z57,z58,z87,z86,z7r,z79,z7n,z7d,z5y,z76,z77,z6c,z69,z6a,z8b,z8c,z89,z8a,z85,z83,z84,z4v,z4u,z6i,z78,z5m,z5l,z5k,z6n,z6o,z6p,z6q,z6r,z6s,z6t,z6u,z6v,z6w,z50,z51,z52,z53,z54,z55,z4b,z4c,z49,z27,z26,z1e,z0r,z1g,z1f,z05,z04,z2h,z2g,z1z,z17,z21,z20,z0c,z0b,z23,z22,z18,z0p,z1a,z19,z01,z00,z29,z28,z1h,z0s,z1j,z1i,z07,z06,z2b,z2a,z1k,z0t,z1m,z1l,z09,z08,z25,z24,z1b,z0q,z1d,z1c,z03,z02,z6m,z8h,z4z,z6l,z6k,z4w,z4y,z3s,z6j,z3p,z4f,z3n,z3q,z3r,z3o,z5p,z2t,z3h,z4n,z4l,z4a,z66,z65,z4m,z60,z61,z5z,z32,z2x,z33,z2y,z34,z2z,z35,z30,z36,z31,z7h,z7g,z3u,z5u,z3x,z7f,z5t,z43,z5s,cle,clt,cge,cgt,ceq,cne,lenN,xFor,xTryM,uMix,uEnum,uZip,ltT,uSortK,sortK,sortN,uDNew,uDGet,inN,setN,uDNewS,uDGetS,inS,setS,uDm,uDm0,getR,popS,setdS,getNR,setdN,popNR,itemsR,lenS,dictS,sortItR,uFld,uFst,uMake,uLock,uLockE,uKeys,sortE,sortL,xOp,reprT_1,listN,mulT,gLst_l,gLst_r,sum_l,sum_r,min_ii,max_ii,sortSD,pop1S,dictN,uD1,updN,exists_eq_left',exists_eq_left,Option.some.injEq,U.int.injEq,U.bl.injEq,U.str.injEq,U.ref.injEq,U.tup.injEq,U.lst.injEq,U.ty.injEq,List.cons.injEq,and_true,true_and,and_self,List.map_cons,List.map_nil,List.length_cons,List.length_nil,List.cons_append,List.nil_append,List.append_nil,List.getElem?_cons_zero,List.getElem?_cons_succ,List.set_cons_zero,List.set_cons_succ,List.replicate,↓reduceIte,Bool.false_eq_true,Bool.not_true,Bool.not_false,reduceCtorEq,Nat.reduceAdd,Nat.reduceSub,Nat.reduceLeDiff,Nat.reduceEqDiff,decide_true,decide_false,at0,at1,at2,at3,at4,ix0,ix1,ix2,ix3,ix4,updM_same,beq_self_eq_true,Option.bind,Option.map,wipeU,NT.put,puts,MO.lst.injEq,exists_and_left,decide_eq_true_eq,Bool.and_eq_true,Bool.or_eq_true,exists_eq',Nat.zero_le,true_or,or_true,isPathU] at q ⊢
      exact q

/-! ### _law_is_value -/
theorem ueq_link {a : U} : ueq a (.str "link") = true ↔ a = .str "link" := by
  cases a <;> simp [ueq]
theorem rep_link {a : U} (ok : okR a) : (rep a == rep (.str "link")) = ueq a (.str "link") := by
  have e : (rep (.str "link")).cps.toList = 39 :: ([108, 105, 110, 107] ++ [39]) := by decide +kernel
  cases h : ueq a (.str "link") with
  | true => rw [ueq_link.mp h]; exact beq_self_eq_true _
  | false =>
    refine beq_eq_false_iff_ne.mpr fun z => ?_
    have := rep_word ok (w := [108, 105, 110, 107]) (by decide) (by rw [z]; exact e)
    have e2 : (⟨[108, 105, 110, 107].toArray⟩ : Str) = "link" := by decide +kernel
    rw [e2] at this
    rw [ueq_link.mpr this] at h
    cases h
theorem okR.fst {a b : U} (ok : okR (.tup [a, b])) : okR a := by
  obtain ⟨h1, h2, h3, h4⟩ := ok
  simp only [isD,isDs,shw,shws,dep,deps,sz,szs,Bool.and_eq_true] at h1 h2 h3 h4
  exact ⟨h1.1, h2.1, by omega, by omega⟩
theorem okR_link : okR (.str "link") := (Dt.of (k := 0) (n := 100) (by decide +kernel)).okR (by decide) (by decide)
def sp__law_is_value : USp := fun us M Q _ => ∃ x, us = [x] ∧ okR x ∧ Q (.bl (isValueU x)) M
theorem ok__law_is_value (L : Lw K mg) : UFn P w K mg base CX0 3 L.f__law_is_value L.fd__law_is_value ["_law_thing_here"] (sp__law_is_value) := by
  refine ufn_ok L.D__law_is_value.F sc__law_is_value (fun us M Q E h => ?_) (fun cdv A outer s H E hr hG =>
      (uss_cons (us_if (ut_val (ue_callB uc_isi (by rfl) L.n_isinstance bt_isi (ua_cons (uv 0) (ua_cons (ue_bltn (by rfl) L.n_tuple bt_tuple) ua_nil)))) (uss_one (us_ret (ue_and (ue_cmp (uo_eq (hu6 hr)) (ue_callB uc_len (by rfl) L.n_len bt_len (ua_cons (uv 0) ua_nil)) ue_int (nomark _)) (ue_and (ue_call (ok__law_same L) (hr.mono (by decide)) hG rfl L.D__law_same.g L.D__law_same.F.kp L.D__law_same.b .nil (fun _ => RelUs.nil) (ua_cons (ue_ix (uv 0) ue_int) (ua_cons ue_str ua_nil))) (ue_one (ue_call (ok__law_is_path L) (hr.mono (by decide)) hG rfl L.D__law_is_path.g L.D__law_is_path.F.kp L.D__law_is_path.b .nil (fun _ => RelUs.nil) (ua_cons (ue_ix (uv 0) ue_int) ua_nil))))))) uss_nil)
      (uss_one (us_ret (ue_or (ue_call (ok__law_is_name L) (hr.mono (by decide)) hG rfl L.D__law_is_name.g L.D__law_is_name.F.kp L.D__law_is_name.b .nil (fun _ => RelUs.nil) (ua_cons (uv 0) ua_nil)) (ue_one (ue_and (ue_callB uc_isi (by rfl) L.n_isinstance bt_isi (ua_cons (uv 0) (ua_cons (ue_bltn (by rfl) L.n_int bt_int) ua_nil))) (ue_one (ue_not (ue_callB uc_isi (by rfl) L.n_isinstance bt_isi (ua_cons (uv 0) (ua_cons (ue_bltn (by rfl) L.n_bool bt_bool) ua_nil)))))))))))) (fun us M Q E h => ?_)
  · obtain ⟨x, rfl, _⟩ := h
    rfl
  · obtain ⟨x, rfl, ox, q⟩ := h
    have hx := ox.1
    have q : ZQ Q (.bl (isValueU x)) M := .inl q
    unfold isValueU at q
    cases x with
    | tup xs =>
      have hxs := isDs_iff.mp (by simpa [isD] using hx)
      by_cases h2 : xs.length = 2
      · match xs, h2 with
        | [a, b], _ =>
          have oa : okR a := ox.fst
          have hb : isD b = true := hxs b (by simp)
          simp only [z8i,uOr,z8d,z8m,uCB,z7t,z8l,uC,z8o,z7w,uOp,uUn,z8s,z8j,uIf,z8e,z7v,z7u,z7s,uBM,z8g,uSl,z4x,z8r,z72,z8q,z7x,List.append_nil,z8t,z80,z8y,z7z,z8u,z81,z8w,z8v,xIf,z74,z8x,z8p,z3t,z8n,z7m,z7q,z7o,z7p,z5w,z5v,z7a,z3l,z3m,z75,z5g,z8k,asD,uXf,z8f,z5n,z7y,z6e,z6d,z68,z67,z63,z5h,z5i,z5j,z3v,z3w,z6f,z64,z62,z5r,z6b,z7j,z7k,z7i,z7c,z7b,z7l,z7e,z5o,z2m,z2w,z2k,z2o,z2p,z2l,z2n,z5c,z73,z5a,z5e,z5f,z5b,z3g,z5d,z3e,z2q,z2r,z3i,z3k,z3j,z39,z3a,z37,z38,z4q,z6h,z4o,z4s,z4t,z4p,z3f,z4r,z4e,z4d,z3b,z2s,z3d,z3c,z0h,z0g,z0d,z0a,z0f,z0e,z1o,z1n,z0u,z0j,z0w,z0v,z2d,z2c,z1r,z10,z1t,z1s,z2f,z2e,z1w,z14,z1y,z1x,z16,z15,z0m,z0i,z0o,z0n,z1v,z1u,z11,z0l,z13,z12,z1q,z1p,z0x,z0k,z0z,z0y,z4i,z6g,z4g,z4j,z4k,z4h,z82,z88,z46,z5x,z44,z47,z48,z45,z2v,z2j,z40,z5q,z3y,z41,z42,z3z,z2u,z2i,z6y,z70,z6x,z71,z6z,z59,z56,z57,z58,z87,z86,z7r,z79,z7n,z7d,z5y,z76,z77,z6c,z69,z6a,z8b,z8c,z89,z8a,z85,z83,z84,z4v,z4u,z6i,z78,z5m,z5l,z5k,z6n,z6o,z6p,z6q,z6r,z6s,z6t,z6u,z6v,z6w,z50,z51,z52,z53,z54,z55,z4b,z4c,z49,z27,z26,z1e,z0r,z1g,z1f,z05,z04,z2h,z2g,z1z,z17,z21,z20,z0c,z0b,z23,z22,z18,z0p,z1a,z19,z01,z00,z29,z28,z1h,z0s,z1j,z1i,z07,z06,z2b,z2a,z1k,z0t,z1m,z1l,z09,z08,z25,z24,z1b,z0q,z1d,z1c,z03,z02,z6m,z8h,z4z,z6l,z6k,z4w,z4y,z3s,z6j,z3p,z4f,z3n,z3q,z3r,z3o,z5p,z2t,z3h,z4n,z4l,z4a,z66,z65,z4m,z60,z61,z5z,z32,z2x,z33,z2y,z34,z2z,z35,z30,z36,z31,z7h,z7g,z3u,z5u,z3x,z7f,z5t,z43,z5s,cle,clt,cge,cgt,ceq,cne,lenN,xFor,xTryM,uMix,uEnum,uZip,ltT,uSortK,sortK,sortN,uDNew,uDGet,inN,setN,uDNewS,uDGetS,inS,setS,uDm,uDm0,getR,popS,setdS,getNR,setdN,popNR,itemsR,lenS,dictS,sortItR,uFld,uFst,uMake,uLock,uLockE,uKeys,sortE,sortL,xOp,reprT_1,listN,mulT,gLst_l,gLst_r,sum_l,sum_r,min_ii,max_ii,sortSD,pop1S,dictN,uD1,updN,exists_eq_left',exists_eq_left,Option.some.injEq,U.int.injEq,U.bl.injEq,U.str.injEq,U.ref.injEq,U.tup.injEq,U.lst.injEq,U.ty.injEq,List.cons.injEq,and_true,true_and,and_self,List.map_cons,List.map_nil,List.length_cons,List.length_nil,List.cons_append,List.nil_append,List.append_nil,List.getElem?_cons_zero,List.getElem?_cons_succ,List.set_cons_zero,List.set_cons_succ,List.replicate,↓reduceIte,Bool.false_eq_true,Bool.not_true,Bool.not_false,reduceCtorEq,Nat.reduceAdd,Nat.reduceSub,Nat.reduceLeDiff,Nat.reduceEqDiff,decide_true,decide_false,at0,at1,at2,at3,at4,ix0,ix1,ix2,ix3,ix4,updM_same,beq_self_eq_true,Option.bind,Option.map,wipeU,NT.put,puts,MO.lst.injEq,exists_and_left,decide_eq_true_eq,Bool.and_eq_true,Bool.or_eq_true,exists_eq',Nat.zero_le,true_or,or_true,isIntU,isNameU,isLinkU,sp__law_same,Bool.false_or] at q ⊢
          refine ⟨a, .str "link", ⟨rfl, rfl⟩, by rw [valT_isD oa.1]; exact oa, by rw [valT_isD okR_link.1]; exact okR_link, ?_⟩
          rw [valT_isD oa.1, valT_isD okR_link.1, rep_link oa]
          cases hu : ueq a (.str "link") with
          | true =>
            simp only [z8i,uOr,z8d,z8m,uCB,z7t,z8l,uC,z8o,z7w,uOp,uUn,z8s,z8j,uIf,z8e,z7v,z7u,z7s,uBM,z8g,uSl,z4x,z8r,z72,z8q,z7x,List.append_nil,z8t,z80,z8y,z7z,z8u,z81,z8w,z8v,xIf,z74,z8x,z8p,z3t,z8n,z7m,z7q,z7o,z7p,z5w,z5v,z7a,z3l,z3m,z75,z5g,z8k,asD,uXf,z8f,z5n,z7y,z6e,z6d,z68,z67,z63,z5h,z5i,z5j,z3v,z3w,z6f,z64,z62,z5r,z6b,z7j,z7k,z7i,z7c,z7b,z7l,z7e,z5o,z2m,z2w,z2k,z2o,z2p,z2l,z2n,z5c,z73,z5a,z5e,z5f,z5b,z3g,z5d,z3e,z2q,z2r,z3i,z3k,z3j,z39,z3a,z37,z38,z4q,z6h,z4o,z4s,z4t,z4p,z3f,z4r,z4e,z4d,z3b,z2s,z3d,z3c,z0h,z0g,z0d,z0a,z0f,z0e,z1o,z1n,z0u,z0j,z0w,z0v,z2d,z2c,z1r,z10,z1t,z1s,z2f,z2e,z1w,z14,z1y,z1x,z16,z15,z0m,z0i,z0o,z0n,z1v,z1u,z11,z0l,z13,z12,z1q,z1p,z0x,z0k,z0z,z0y,z4i,z6g,z4g,z4j,z4k,z4h,z82,z88,z46,z5x,z44,z47,z48,z45,z2v,z2j,z40,z5q,z3y,z41,z42,z3z,z2u,z2i,z6y,z70,z6x,z71,z6z,z59,z56,z57,z58,z87,z86,z7r,z79,z7n,z7d,z5y,z76,z77,z6c,z69,z6a,z8b,z8c,z89,z8a,z85,z83,z84,z4v,z4u,z6i,z78,z5m,z5l,z5k,z6n,z6o,z6p,z6q,z6r,z6s,z6t,z6u,z6v,z6w,z50,z51,z52,z53,z54,z55,z4b,z4c,z49,z27,z26,z1e,z0r,z1g,z1f,z05,z04,z2h,z2g,z1z,z17,z21,z20,z0c,z0b,z23,z22,z18,z0p,z1a,z19,z01,z00,z29,z28,z1h,z0s,z1j,z1i,z07,z06,z2b,z2a,z1k,z0t,z1m,z1l,z09,z08,z25,z24,z1b,z0q,z1d,z1c,z03,z02,z6m,z8h,z4z,z6l,z6k,z4w,z4y,z3s,z6j,z3p,z4f,z3n,z3q,z3r,z3o,z5p,z2t,z3h,z4n,z4l,z4a,z66,z65,z4m,z60,z61,z5z,z32,z2x,z33,z2y,z34,z2z,z35,z30,z36,z31,z7h,z7g,z3u,z5u,z3x,z7f,z5t,z43,z5s,cle,clt,cge,cgt,ceq,cne,lenN,xFor,xTryM,uMix,uEnum,uZip,ltT,uSortK,sortK,sortN,uDNew,uDGet,inN,setN,uDNewS,uDGetS,inS,setS,uDm,uDm0,getR,popS,setdS,getNR,setdN,popNR,itemsR,lenS,dictS,sortItR,uFld,uFst,uMake,uLock,uLockE,uKeys,sortE,sortL,xOp,reprT_1,listN,mulT,gLst_l,gLst_r,sum_l,sum_r,min_ii,max_ii,sortSD,pop1S,dictN,uD1,updN,exists_eq_left',exists_eq_left,Option.some.injEq,U.int.injEq,U.bl.injEq,U.str.injEq,U.ref.injEq,U.tup.injEq,U.lst.injEq,U.ty.injEq,List.cons.injEq,and_true,true_and,and_self,List.map_cons,List.map_nil,List.length_cons,List.length_nil,List.cons_append,List.nil_append,List.append_nil,List.getElem?_cons_zero,List.getElem?_cons_succ,List.set_cons_zero,List.set_cons_succ,List.replicate,↓reduceIte,Bool.false_eq_true,Bool.not_true,Bool.not_false,reduceCtorEq,Nat.reduceAdd,Nat.reduceSub,Nat.reduceLeDiff,Nat.reduceEqDiff,decide_true,decide_false,at0,at1,at2,at3,at4,ix0,ix1,ix2,ix3,ix4,updM_same,beq_self_eq_true,Option.bind,Option.map,wipeU,NT.put,puts,MO.lst.injEq,exists_and_left,decide_eq_true_eq,Bool.and_eq_true,Bool.or_eq_true,exists_eq',Nat.zero_le,true_or,or_true,hu,sp__law_is_path,Bool.true_and] at q ⊢
            exact ⟨hb, q⟩
          | false =>
            simp only [z8i,uOr,z8d,z8m,uCB,z7t,z8l,uC,z8o,z7w,uOp,uUn,z8s,z8j,uIf,z8e,z7v,z7u,z7s,uBM,z8g,uSl,z4x,z8r,z72,z8q,z7x,List.append_nil,z8t,z80,z8y,z7z,z8u,z81,z8w,z8v,xIf,z74,z8x,z8p,z3t,z8n,z7m,z7q,z7o,z7p,z5w,z5v,z7a,z3l,z3m,z75,z5g,z8k,asD,uXf,z8f,z5n,z7y,z6e,z6d,z68,z67,z63,z5h,z5i,z5j,z3v,z3w,z6f,z64,z62,z5r,z6b,z7j,z7k,z7i,z7c,z7b,z7l,z7e,z5o,z2m,z2w,z2k,z2o,z2p,z2l,z2n,z5c,z73,z5a,z5e,z5f,z5b,z3g,z5d,z3e,z2q,z2r,z3i,z3k,z3j,z39,z3a,z37,z38,z4q,z6h,z4o,z4s,z4t,z4p,z3f,z4r,z4e,z4d,z3b,z2s,z3d,z3c,z0h,z0g,z0d,z0a,z0f,z0e,z1o,z1n,z0u,z0j,z0w,z0v,z2d,z2c,z1r,z10,z1t,z1s,z2f,z2e,z1w,z14,z1y,z1x,z16,z15,z0m,z0i,z0o,z0n,z1v,z1u,z11,z0l,z13,z12,z1q,z1p,z0x,z0k,z0z,z0y,z4i,z6g,z4g,z4j,z4k,z4h,z82,z88,z46,z5x,z44,z47,z48,z45,z2v,z2j,z40,z5q,z3y,z41,z42,z3z,z2u,z2i,z6y,z70,z6x,z71,z6z,z59,z56,z57,z58,z87,z86,z7r,z79,z7n,z7d,z5y,z76,z77,z6c,z69,z6a,z8b,z8c,z89,z8a,z85,z83,z84,z4v,z4u,z6i,z78,z5m,z5l,z5k,z6n,z6o,z6p,z6q,z6r,z6s,z6t,z6u,z6v,z6w,z50,z51,z52,z53,z54,z55,z4b,z4c,z49,z27,z26,z1e,z0r,z1g,z1f,z05,z04,z2h,z2g,z1z,z17,z21,z20,z0c,z0b,z23,z22,z18,z0p,z1a,z19,z01,z00,z29,z28,z1h,z0s,z1j,z1i,z07,z06,z2b,z2a,z1k,z0t,z1m,z1l,z09,z08,z25,z24,z1b,z0q,z1d,z1c,z03,z02,z6m,z8h,z4z,z6l,z6k,z4w,z4y,z3s,z6j,z3p,z4f,z3n,z3q,z3r,z3o,z5p,z2t,z3h,z4n,z4l,z4a,z66,z65,z4m,z60,z61,z5z,z32,z2x,z33,z2y,z34,z2z,z35,z30,z36,z31,z7h,z7g,z3u,z5u,z3x,z7f,z5t,z43,z5s,cle,clt,cge,cgt,ceq,cne,lenN,xFor,xTryM,uMix,uEnum,uZip,ltT,uSortK,sortK,sortN,uDNew,uDGet,inN,setN,uDNewS,uDGetS,inS,setS,uDm,uDm0,getR,popS,setdS,getNR,setdN,popNR,itemsR,lenS,dictS,sortItR,uFld,uFst,uMake,uLock,uLockE,uKeys,sortE,sortL,xOp,reprT_1,listN,mulT,gLst_l,gLst_r,sum_l,sum_r,min_ii,max_ii,sortSD,pop1S,dictN,uD1,updN,exists_eq_left',exists_eq_left,Option.some.injEq,U.int.injEq,U.bl.injEq,U.str.injEq,U.ref.injEq,U.tup.injEq,U.lst.injEq,U.ty.injEq,List.cons.injEq,and_true,true_and,and_self,List.map_cons,List.map_nil,List.length_cons,List.length_nil,List.cons_append,List.nil_append,List.append_nil,List.getElem?_cons_zero,List.getElem?_cons_succ,List.set_cons_zero,List.set_cons_succ,List.replicate,↓reduceIte,Bool.false_eq_true,Bool.not_true,Bool.not_false,reduceCtorEq,Nat.reduceAdd,Nat.reduceSub,Nat.reduceLeDiff,Nat.reduceEqDiff,decide_true,decide_false,at0,at1,at2,at3,at4,ix0,ix1,ix2,ix3,ix4,updM_same,beq_self_eq_true,Option.bind,Option.map,wipeU,NT.put,puts,MO.lst.injEq,exists_and_left,decide_eq_true_eq,Bool.and_eq_true,Bool.or_eq_true,exists_eq',Nat.zero_le,true_or,or_true,hu,Bool.false_and] at q ⊢
            exact q
      · have h3 : ((xs.length : Int) == 2) = false := beq_eq_false_iff_ne.mpr (by omega)
        simp only [z8i,uOr,z8d,z8m,uCB,z7t,z8l,uC,z8o,z7w,uOp,uUn,z8s,z8j,uIf,z8e,z7v,z7u,z7s,uBM,z8g,uSl,z4x,z8r,z72,z8q,z7x,List.append_nil,z8t,z80,z8y,z7z,z8u,z81,z8w,z8v,xIf,z74,z8x,z8p,z3t,z8n,z7m,z7q,z7o,z7p,z5w,z5v,z7a,z3l,z3m,z75,z5g,z8k,asD,uXf,z8f,z5n,z7y,z6e,z6d,z68,z67,z63,z5h,z5i,z5j,z3v,z3w,z6f,z64,z62,z5r,z6b,z7j,z7k,z7i,z7c,z7b,z7l,z7e,z5o,z2m,z2w,z2k,z2o,z2p,z2l,z2n,z5c,z73,z5a,z5e,z5f,z5b,z3g,z5d,z3e,z2q,z2r,z3i,z3k,z3j,z39,z3a,z37,z38,z4q,z6h,z4o,z4s,z4t,z4p,z3f,z4r,z4e,z4d,z3b,z2s,z3d,z3c,z0h,z0g,z0d,z0a,z0f,z0e,z1o,z1n,z0u,z0j,z0w,z0v,z2d,z2c,z1r,z10,z1t,z1s,z2f,z2e,z1w,z14,z1y,z1x,z16,z15,z0m,z0i,z0o,z0n,z1v,z1u,z11,z0l,z13,z12,z1q,z1p,z0x,z0k,z0z,z0y,z4i,z6g,z4g,z4j,z4k,z4h,z82,z88,z46,z5x,z44,z47,z48,z45,z2v,z2j,z40,z5q,z3y,z41,z42,z3z,z2u,z2i,z6y,z70,z6x,z71,z6z,z59,z56,z57,z58,z87,z86,z7r,z79,z7n,z7d,z5y,z76,z77,z6c,z69,z6a,z8b,z8c,z89,z8a,z85,z83,z84,z4v,z4u,z6i,z78,z5m,z5l,z5k,z6n,z6o,z6p,z6q,z6r,z6s,z6t,z6u,z6v,z6w,z50,z51,z52,z53,z54,z55,z4b,z4c,z49,z27,z26,z1e,z0r,z1g,z1f,z05,z04,z2h,z2g,z1z,z17,z21,z20,z0c,z0b,z23,z22,z18,z0p,z1a,z19,z01,z00,z29,z28,z1h,z0s,z1j,z1i,z07,z06,z2b,z2a,z1k,z0t,z1m,z1l,z09,z08,z25,z24,z1b,z0q,z1d,z1c,z03,z02,z6m,z8h,z4z,z6l,z6k,z4w,z4y,z3s,z6j,z3p,z4f,z3n,z3q,z3r,z3o,z5p,z2t,z3h,z4n,z4l,z4a,z66,z65,z4m,z60,z61,z5z,z32,z2x,z33,z2y,z34,z2z,z35,z30,z36,z31,z7h,z7g,z3u,z5u,z3x,z7f,z5t,z43,z5s,cle,clt,cge,cgt,ceq,cne,lenN,xFor,xTryM,uMix,uEnum,uZip,ltT,uSortK,sortK,sortN,uDNew,uDGet,inN,setN,uDNewS,uDGetS,inS,setS,uDm,uDm0,getR,popS,setdS,getNR,setdN,popNR,itemsR,lenS,dictS,sortItR,uFld,uFst,uMake,uLock,uLockE,uKeys,sortE,sortL,xOp,reprT_1,listN,mulT,gLst_l,gLst_r,sum_l,sum_r,min_ii,max_ii,sortSD,pop1S,dictN,uD1,updN,exists_eq_left',exists_eq_left,Option.some.injEq,U.int.injEq,U.bl.injEq,U.str.injEq,U.ref.injEq,U.tup.injEq,U.lst.injEq,U.ty.injEq,List.cons.injEq,and_true,true_and,and_self,List.map_cons,List.map_nil,List.length_cons,List.length_nil,List.cons_append,List.nil_append,List.append_nil,List.getElem?_cons_zero,List.getElem?_cons_succ,List.set_cons_zero,List.set_cons_succ,List.replicate,↓reduceIte,Bool.false_eq_true,Bool.not_true,Bool.not_false,reduceCtorEq,Nat.reduceAdd,Nat.reduceSub,Nat.reduceLeDiff,Nat.reduceEqDiff,decide_true,decide_false,at0,at1,at2,at3,at4,ix0,ix1,ix2,ix3,ix4,updM_same,beq_self_eq_true,Option.bind,Option.map,wipeU,NT.put,puts,MO.lst.injEq,exists_and_left,decide_eq_true_eq,Bool.and_eq_true,Bool.or_eq_true,exists_eq',Nat.zero_le,true_or,or_true,isLinkU_len h2,h3,isIntU,isNameU,Bool.false_or] at q ⊢
        exact q
    | ref a => simp [isD] at hx
    | ty n => simp [isD] at hx
    | str z =>
      simp only [z8i,uOr,z8d,z8m,uCB,z7t,z8l,uC,z8o,z7w,uOp,uUn,z8s,z8j,uIf,z8e,z7v,z7u,z7s,uBM,z8g,uSl,z4x,z8r,z72,z8q,z7x,List.append_nil,z8t,z80,z8y,z7z,z8u,z81,z8w,z8v,xIf,z74,z8x,z8p,z3t,z8n,z7m,z7q,z7o,z7p,z5w,z5v,z7a,z3l,z3m,z75,z5g,z8k,asD,uXf,z8f,z5n,z7y,z6e,z6d,z68,z67,z63,z5h,z5i,z5j,z3v,z3w,z6f,z64,z62,z5r,z6b,z7j,z7k,z7i,z7c,z7b,z7l,z7e,z5o,z2m,z2w,z2k,z2o,z2p,z2l,z2n,z5c,z73,z5a,z5e,z5f,z5b,z3g,z5d,z3e,z2q,z2r,z3i,z3k,z3j,z39,z3a,z37,z38,z4q,z6h,z4o,z4s,z4t,z4p,z3f,z4r,z4e,z4d,z3b,z2s,z3d,z3c,z0h,z0g,z0d,z0a,z0f,z0e,z1o,z1n,z0u,z0j,z0w,z0v,z2d,z2c,z1r,z10,z1t,z1s,z2f,z2e,z1w,z14,z1y,z1x,z16,z15,z0m,z0i,z0o,z0n,z1v,z1u,z11,z0l,z13,z12,z1q,z1p,z0x,z0k,z0z,z0y,z4i,z6g,z4g,z4j,z4k,z4h,z82,z88,z46,z5x,z44,z47,z48,z45,z2v,z2j,z40,z5q,z3y,z41,z42,z3z,z2u,z2i,z6y,z70,z6x,z71,z6z,z59,z56,z57,z58,z87,z86,z7r,z79,z7n,z7d,z5y,z76,z77,z6c,z69,z6a,z8b,z8c,z89,z8a,z85,z83,z84,z4v,z4u,z6i,z78,z5m,z5l,z5k,z6n,z6o,z6p,z6q,z6r,z6s,z6t,z6u,z6v,z6w,z50,z51,z52,z53,z54,z55,z4b,z4c,z49,z27,z26,z1e,z0r,z1g,z1f,z05,z04,z2h,z2g,z1z,z17,z21,z20,z0c,z0b,z23,z22,z18,z0p,z1a,z19,z01,z00,z29,z28,z1h,z0s,z1j,z1i,z07,z06,z2b,z2a,z1k,z0t,z1m,z1l,z09,z08,z25,z24,z1b,z0q,z1d,z1c,z03,z02,z6m,z8h,z4z,z6l,z6k,z4w,z4y,z3s,z6j,z3p,z4f,z3n,z3q,z3r,z3o,z5p,z2t,z3h,z4n,z4l,z4a,z66,z65,z4m,z60,z61,z5z,z32,z2x,z33,z2y,z34,z2z,z35,z30,z36,z31,z7h,z7g,z3u,z5u,z3x,z7f,z5t,z43,z5s,cle,clt,cge,cgt,ceq,cne,lenN,xFor,xTryM,uMix,uEnum,uZip,ltT,uSortK,sortK,sortN,uDNew,uDGet,inN,setN,uDNewS,uDGetS,inS,setS,uDm,uDm0,getR,popS,setdS,getNR,setdN,popNR,itemsR,lenS,dictS,sortItR,uFld,uFst,uMake,uLock,uLockE,uKeys,sortE,sortL,xOp,reprT_1,listN,mulT,gLst_l,gLst_r,sum_l,sum_r,min_ii,max_ii,sortSD,pop1S,dictN,uD1,updN,exists_eq_left',exists_eq_left,Option.some.injEq,U.int.injEq,U.bl.injEq,U.str.injEq,U.ref.injEq,U.tup.injEq,U.lst.injEq,U.ty.injEq,List.cons.injEq,and_true,true_and,and_self,List.map_cons,List.map_nil,List.length_cons,List.length_nil,List.cons_append,List.nil_append,List.append_nil,List.getElem?_cons_zero,List.getElem?_cons_succ,List.set_cons_zero,List.set_cons_succ,List.replicate,↓reduceIte,Bool.false_eq_true,Bool.not_true,Bool.not_false,reduceCtorEq,Nat.reduceAdd,Nat.reduceSub,Nat.reduceLeDiff,Nat.reduceEqDiff,decide_true,decide_false,at0,at1,at2,at3,at4,ix0,ix1,ix2,ix3,ix4,updM_same,beq_self_eq_true,Option.bind,Option.map,wipeU,NT.put,puts,MO.lst.injEq,exists_and_left,decide_eq_true_eq,Bool.and_eq_true,Bool.or_eq_true,exists_eq',Nat.zero_le,true_or,or_true,sp__law_is_name,isIntU,isLinkU,Bool.false_or,Bool.or_false] at q ⊢
      refine ⟨hx, ?_⟩
      cases h2 : isNameU (.str z) with
      | true =>
        simp only [z8i,uOr,z8d,z8m,uCB,z7t,z8l,uC,z8o,z7w,uOp,uUn,z8s,z8j,uIf,z8e,z7v,z7u,z7s,uBM,z8g,uSl,z4x,z8r,z72,z8q,z7x,List.append_nil,z8t,z80,z8y,z7z,z8u,z81,z8w,z8v,xIf,z74,z8x,z8p,z3t,z8n,z7m,z7q,z7o,z7p,z5w,z5v,z7a,z3l,z3m,z75,z5g,z8k,asD,uXf,z8f,z5n,z7y,z6e,z6d,z68,z67,z63,z5h,z5i,z5j,z3v,z3w,z6f,z64,z62,z5r,z6b,z7j,z7k,z7i,z7c,z7b,z7l,z7e,z5o,z2m,z2w,z2k,z2o,z2p,z2l,z2n,z5c,z73,z5a,z5e,z5f,z5b,z3g,z5d,z3e,z2q,z2r,z3i,z3k,z3j,z39,z3a,z37,z38,z4q,z6h,z4o,z4s,z4t,z4p,z3f,z4r,z4e,z4d,z3b,z2s,z3d,z3c,z0h,z0g,z0d,z0a,z0f,z0e,z1o,z1n,z0u,z0j,z0w,z0v,z2d,z2c,z1r,z10,z1t,z1s,z2f,z2e,z1w,z14,z1y,z1x,z16,z15,z0m,z0i,z0o,z0n,z1v,z1u,z11,z0l,z13,z12,z1q,z1p,z0x,z0k,z0z,z0y,z4i,z6g,z4g,z4j,z4k,z4h,z82,z88,z46,z5x,z44,z47,z48,z45,z2v,z2j,z40,z5q,z3y,z41,z42,z3z,z2u,z2i,z6y,z70,z6x,z71,z6z,z59,z56,z57,z58,z87,z86,z7r,z79,z7n,z7d,z5y,z76,z77,z6c,z69,z6a,z8b,z8c,z89,z8a,z85,z83,z84,z4v,z4u,z6i,z78,z5m,z5l,z5k,z6n,z6o,z6p,z6q,z6r,z6s,z6t,z6u,z6v,z6w,z50,z51,z52,z53,z54,z55,z4b,z4c,z49,z27,z26,z1e,z0r,z1g,z1f,z05,z04,z2h,z2g,z1z,z17,z21,z20,z0c,z0b,z23,z22,z18,z0p,z1a,z19,z01,z00,z29,z28,z1h,z0s,z1j,z1i,z07,z06,z2b,z2a,z1k,z0t,z1m,z1l,z09,z08,z25,z24,z1b,z0q,z1d,z1c,z03,z02,z6m,z8h,z4z,z6l,z6k,z4w,z4y,z3s,z6j,z3p,z4f,z3n,z3q,z3r,z3o,z5p,z2t,z3h,z4n,z4l,z4a,z66,z65,z4m,z60,z61,z5z,z32,z2x,z33,z2y,z34,z2z,z35,z30,z36,z31,z7h,z7g,z3u,z5u,z3x,z7f,z5t,z43,z5s,cle,clt,cge,cgt,ceq,cne,lenN,xFor,xTryM,uMix,uEnum,uZip,ltT,uSortK,sortK,sortN,uDNew,uDGet,inN,setN,uDNewS,uDGetS,inS,setS,uDm,uDm0,getR,popS,setdS,getNR,setdN,popNR,itemsR,lenS,dictS,sortItR,uFld,uFst,uMake,uLock,uLockE,uKeys,sortE,sortL,xOp,reprT_1,listN,mulT,gLst_l,gLst_r,sum_l,sum_r,min_ii,max_ii,sortSD,pop1S,dictN,uD1,updN,exists_eq_left',exists_eq_left,Option.some.injEq,U.int.injEq,U.bl.injEq,U.str.injEq,U.ref.injEq,U.tup.injEq,U.lst.injEq,U.ty.injEq,List.cons.injEq,and_true,true_and,and_self,List.map_cons,List.map_nil,List.length_cons,List.length_nil,List.cons_append,List.nil_append,List.append_nil,List.getElem?_cons_zero,List.getElem?_cons_succ,List.set_cons_zero,List.set_cons_succ,List.replicate,↓reduceIte,Bool.false_eq_true,Bool.not_true,Bool.not_false,reduceCtorEq,Nat.reduceAdd,Nat.reduceSub,Nat.reduceLeDiff,Nat.reduceEqDiff,decide_true,decide_false,at0,at1,at2,at3,at4,ix0,ix1,ix2,ix3,ix4,updM_same,beq_self_eq_true,Option.bind,Option.map,wipeU,NT.put,puts,MO.lst.injEq,exists_and_left,decide_eq_true_eq,Bool.and_eq_true,Bool.or_eq_true,exists_eq',Nat.zero_le,true_or,or_true,h2] at q ⊢
        exact q
      | false =>
        simp only [z8i,uOr,z8d,z8m,uCB,z7t,z8l,uC,z8o,z7w,uOp,uUn,z8s,z8j,uIf,z8e,z7v,z7u,z7s,uBM,z8g,uSl,z4x,z8r,z72,z8q,z7x,List.append_nil,z8t,z80,z8y,z7z,z8u,z81,z8w,z8v,xIf,z74,z8x,z8p,z3t,z8n,z7m,z7q,z7o,z7p,z5w,z5v,z7a,z3l,z3m,z75,z5g,z8k,asD,uXf,z8f,z5n,z7y,z6e,z6d,z68,z67,z63,z5h,z5i,z5j,z3v,z3w,z6f,z64,z62,z5r,z6b,z7j,z7k,z7i,z7c,z7b,z7l,z7e,z5o,z2m,z2w,z2k,z2o,z2p,z2l,z2n,z5c,z73,z5a,z5e,z5f,z5b,z3g,z5d,z3e,z2q,z2r,z3i,z3k,z3j,z39,z3a,z37,z38,z4q,z6h,z4o,z4s,z4t,z4p,z3f,z4r,z4e,z4d,z3b,z2s,z3d,z3c,z0h,z0g,z0d,z0a,z0f,z0e,z1o,z1n,z0u,z0j,z0w,z0v,z2d,z2c,z1r,z10,z1t,z1s,z2f,z2e,z1w,z14,z1y,z1x,z16,z15,z0m,z0i,z0o,z0n,z1v,z1u,z11,z0l,z13,z12,z1q,z1p,z0x,z0k,z0z,z0y,z4i,z6g,z4g,z4j,z4k,z4h,z82,z88,z46,z5x,z44,z47,z48,z45,z2v,z2j,z40,z5q,z3y,z41,z42,z3z,z2u,z2i,z6y,z70,z6x,z71,z6z,z59,z56,z57,z58,z87,z86,z7r,z79,z7n,z7d,z5y,z76,z77,z6c,z69,z6a,z8b,z8c,z89,z8a,z85,z83,z84,z4v,z4u,z6i,z78,z5m,z5l,z5k,z6n,z6o,z6p,z6q,z6r,z6s,z6t,z6u,z6v,z6w,z50,z51,z52,z53,z54,z55,z4b,z4c,z49,z27,z26,z1e,z0r,z1g,z1f,z05,z04,z2h,z2g,z1z,z17,z21,z20,z0c,z0b,z23,z22,z18,z0p,z1a,z19,z01,z00,z29,z28,z1h,z0s,z1j,z1i,z07,z06,z2b,z2a,z1k,z0t,z1m,z1l,z09,z08,z25,z24,z1b,z0q,z1d,z1c,z03,z02,z6m,z8h,z4z,z6l,z6k,z4w,z4y,z3s,z6j,z3p,z4f,z3n,z3q,z3r,z3o,z5p,z2t,z3h,z4n,z4l,z4a,z66,z65,z4m,z60,z61,z5z,z32,z2x,z33,z2y,z34,z2z,z35,z30,z36,z31,z7h,z7g,z3u,z5u,z3x,z7f,z5t,z43,z5s,cle,clt,cge,cgt,ceq,cne,lenN,xFor,xTryM,uMix,uEnum,uZip,ltT,uSortK,sortK,sortN,uDNew,uDGet,inN,setN,uDNewS,uDGetS,inS,setS,uDm,uDm0,getR,popS,setdS,getNR,setdN,popNR,itemsR,lenS,dictS,sortItR,uFld,uFst,uMake,uLock,uLockE,uKeys,sortE,sortL,xOp,reprT_1,listN,mulT,gLst_l,gLst_r,sum_l,sum_r,min_ii,max_ii,sortSD,pop1S,dictN,uD1,updN,exists_eq_left',exists_eq_left,Option.some.injEq,U.int.injEq,U.bl.injEq,U.str.injEq,U.ref.injEq,U.tup.injEq,U.lst.injEq,U.ty.injEq,List.cons.injEq,and_true,true_and,and_self,List.map_cons,List.map_nil,List.length_cons,List.length_nil,List.cons_append,List.nil_append,List.append_nil,List.getElem?_cons_zero,List.getElem?_cons_succ,List.set_cons_zero,List.set_cons_succ,List.replicate,↓reduceIte,Bool.false_eq_true,Bool.not_true,Bool.not_false,reduceCtorEq,Nat.reduceAdd,Nat.reduceSub,Nat.reduceLeDiff,Nat.reduceEqDiff,decide_true,decide_false,at0,at1,at2,at3,at4,ix0,ix1,ix2,ix3,ix4,updM_same,beq_self_eq_true,Option.bind,Option.map,wipeU,NT.put,puts,MO.lst.injEq,exists_and_left,decide_eq_true_eq,Bool.and_eq_true,Bool.or_eq_true,exists_eq',Nat.zero_le,true_or,or_true,h2] at q ⊢
        exact q
    | int i =>
      simp only [z8i,uOr,z8d,z8m,uCB,z7t,z8l,uC,z8o,z7w,uOp,uUn,z8s,z8j,uIf,z8e,z7v,z7u,z7s,uBM,z8g,uSl,z4x,z8r,z72,z8q,z7x,List.append_nil,z8t,z80,z8y,z7z,z8u,z81,z8w,z8v,xIf,z74,z8x,z8p,z3t,z8n,z7m,z7q,z7o,z7p,z5w,z5v,z7a,z3l,z3m,z75,z5g,z8k,asD,uXf,z8f,z5n,z7y,z6e,z6d,z68,z67,z63,z5h,z5i,z5j,z3v,z3w,z6f,z64,z62,z5r,z6b,z7j,z7k,z7i,z7c,z7b,z7l,z7e,z5o,z2m,z2w,z2k,z2o,z2p,z2l,z2n,z5c,z73,z5a,z5e,z5f,z5b,z3g,z5d,z3e,z2q,z2r,z3i,z3k,z3j,z39,z3a,z37,z38,z4q,z6h,z4o,z4s,z4t,z4p,z3f,z4r,z4e,z4d,z3b,z2s,z3d,z3c,z0h,z0g,z0d,z0a,z0f,z0e,z1o,z1n,z0u,z0j,z0w,z0v,z2d,z2c,z1r,z10,z1t,z1s,z2f,z2e,z1w,z14,z1y,z1x,z16,z15,z0m,z0i,z0o,z0n,z1v,z1u,z11,z0l,z13,z12,z1q,z1p,z0x,z0k,z0z,z0y,z4i,z6g,z4g,z4j,z4k,z4h,z82,z88,z46,z5x,z44,z47,z48,z45,z2v,z2j,z40,z5q,z3y,z41,z42,z3z,z2u,z2i,z6y,z70,z6x,z71,z6z,z59,z56,z57,z58,z87,z86,z7r,z79,z7n,z7d,z5y,z76,z77,z6c,z69,z6a,z8b,z8c,z89,z8a,z85,z83,z84,z4v,z4u,z6i,z78,z5m,z5l,z5k,z6n,z6o,z6p,z6q,z6r,z6s,z6t,z6u,z6v,z6w,z50,z51,z52,z53,z54,z55,z4b,z4c,z49,z27,z26,z1e,z0r,z1g,z1f,z05,z04,z2h,z2g,z1z,z17,z21,z20,z0c,z0b,z23,z22,z18,z0p,z1a,z19,z01,z00,z29,z28,z1h,z0s,z1j,z1i,z07,z06,z2b,z2a,z1k,z0t,z1m,z1l,z09,z08,z25,z24,z1b,z0q,z1d,z1c,z03,z02,z6m,z8h,z4z,z6l,z6k,z4w,z4y,z3s,z6j,z3p,z4f,z3n,z3q,z3r,z3o,z5p,z2t,z3h,z4n,z4l,z4a,z66,z65,z4m,z60,z61,z5z,z32,z2x,z33,z2y,z34,z2z,z35,z30,z36,z31,z7h,z7g,z3u,z5u,z3x,z7f,z5t,z43,z5s,cle,clt,cge,cgt,ceq,cne,lenN,xFor,xTryM,uMix,uEnum,uZip,ltT,uSortK,sortK,sortN,uDNew,uDGet,inN,setN,uDNewS,uDGetS,inS,setS,uDm,uDm0,getR,popS,setdS,getNR,setdN,popNR,itemsR,lenS,dictS,sortItR,uFld,uFst,uMake,uLock,uLockE,uKeys,sortE,sortL,xOp,reprT_1,listN,mulT,gLst_l,gLst_r,sum_l,sum_r,min_ii,max_ii,sortSD,pop1S,dictN,uD1,updN,exists_eq_left',exists_eq_left,Option.some.injEq,U.int.injEq,U.bl.injEq,U.str.injEq,U.ref.injEq,U.tup.injEq,U.lst.injEq,U.ty.injEq,List.cons.injEq,and_true,true_and,and_self,List.map_cons,List.map_nil,List.length_cons,List.length_nil,List.cons_append,List.nil_append,List.append_nil,List.getElem?_cons_zero,List.getElem?_cons_succ,List.set_cons_zero,List.set_cons_succ,List.replicate,↓reduceIte,Bool.false_eq_true,Bool.not_true,Bool.not_false,reduceCtorEq,Nat.reduceAdd,Nat.reduceSub,Nat.reduceLeDiff,Nat.reduceEqDiff,decide_true,decide_false,at0,at1,at2,at3,at4,ix0,ix1,ix2,ix3,ix4,updM_same,beq_self_eq_true,Option.bind,Option.map,wipeU,NT.put,puts,MO.lst.injEq,exists_and_left,decide_eq_true_eq,Bool.and_eq_true,Bool.or_eq_true,exists_eq',Nat.zero_le,true_or,or_true,sp__law_is_name,isIntU,isLinkU,isNameU,Bool.false_or,Bool.or_false] at q ⊢
      exact q
    | _ =>
      simp only [z8i,uOr,z8d,z8m,uCB,z7t,z8l,uC,z8o,z7w,uOp,uUn,z8s,z8j,uIf,z8e,z7v,z7u,z7s,uBM,z8g,uSl,z4x,z8r,z72,z8q,z7x,List.append_nil,z8t,z80,z8y,z7z,z8u,z81,z8w,z8v,xIf,z74,z8x,z8p,z3t,z8n,z7m,z7q,z7o,z7p,z5w,z5v,z7a,z3l,z3m,z75,z5g,z8k,asD,uXf,z8f,z5n,z7y,z6e,z6d,z68,z67,z63,z5h,z5i,z5j,z3v,z3w,z6f,z64,z62,z5r,z6b,z7j,z7k,z7i,z7c,z7b,z7l,z7e,z5o,z2m,z2w,z2k,z2o,z2p,z2l,z2n,z5c,z73,z5a,z5e,z5f,z5b,z3g,z5d,z3e,z2q,z2r,z3i,z3k,z3j,z39,z3a,z37,z38,z4q,z6h,z4o,z4s,z4t,z4p,z3f,z4r,z4e,z4d,z3b,z2s,z3d,z3c,z0h,z0g,z0d,z0a,z0f,z0e,z1o,z1n,z0u,z0j,z0w,z0v,z2d,z2c,z1r,z10,z1t,z1s,z2f,z2e,z1w,z14,z1y,z1x,z16,z15,z0m,z0i,z0o,z0n,z1v,z1u,z11,z0l,z13,z12,z1q,z1p,z0x,z0k,z0z,z0y,z4i,z6g,z4g,z4j,z4k,z4h,z82,z88,z46,z5x,z44,z47,z48,z45,z2v,z2j,z40,z5q,z3y,z41,z42,z3z,z2u,z2i,z6y,z70,z6x,z71,z6z,z59,z56,z57,z58,z87,z86,z7r,z79,z7n,z7d,z5y,z76,z77,z6c,z69,z6a,z8b,z8c,z89,z8a,z85,z83,z84,z4v,z4u,z6i,z78,z5m,z5l,z5k,z6n,z6o,z6p,z6q,z6r,z6s,z6t,z6u,z6v,z6w,z50,z51,z52,z53,z54,z55,z4b,z4c,z49,z27,z26,z1e,z0r,z1g,z1f,z05,z04,z2h,z2g,z1z,z17,z21,z20,z0c,z0b,z23,z22,z18,z0p,z1a,z19,z01,z00,z29,z28,z1h,z0s,z1j,z1i,z07,z06,z2b,z2a,z1k,z0t,z1m,z1l,z09,z08,z25,z24,z1b,z0q,z1d,z1c,z03,z02,z6m,z8h,z4z,z6l,z6k,z4w,z4y,z3s,z6j,z3p,z4f,z3n,z3q,z3r,z3o,z5p,z2t,z3h,z4n,z4l,z4a,z66,z65,z4m,z60,z61,z5z,z32,z2x,z33,z2y,z34,z2z,z35,z30,z36,z31,z7h,z7g,z3u,z5u,z3x,z7f,z5t,z43,z5s,cle,clt,cge,cgt,ceq,cne,lenN,xFor,xTryM,uMix,uEnum,uZip,ltT,uSortK,sortK,sortN,uDNew,uDGet,inN,setN,uDNewS,uDGetS,inS,setS,uDm,uDm0,getR,popS,setdS,getNR,setdN,popNR,itemsR,lenS,dictS,sortItR,uFld,uFst,uMake,uLock,uLockE,uKeys,sortE,sortL,xOp,reprT_1,listN,mulT,gLst_l,gLst_r,sum_l,sum_r,min_ii,max_ii,sortSD,pop1S,dictN,uD1,updN,exists_eq_left',exists_eq_left,Option.some.injEq,U.int.injEq,U.bl.injEq,U.str.injEq,U.ref.injEq,U.tup.injEq,U.lst.injEq,U.ty.injEq,List.cons.injEq,and_true,true_and,and_self,List.map_cons,List.map_nil,List.length_cons,List.length_nil,List.cons_append,List.nil_append,List.append_nil,List.getElem?_cons_zero,List.getElem?_cons_succ,List.set_cons_zero,List.set_cons_succ,List.replicate,↓reduceIte,Bool.false_eq_true,Bool.not_true,Bool.not_false,reduceCtorEq,Nat.reduceAdd,Nat.reduceSub,Nat.reduceLeDiff,Nat.reduceEqDiff,decide_true,decide_false,at0,at1,at2,at3,at4,ix0,ix1,ix2,ix3,ix4,updM_same,beq_self_eq_true,Option.bind,Option.map,wipeU,NT.put,puts,MO.lst.injEq,exists_and_left,decide_eq_true_eq,Bool.and_eq_true,Bool.or_eq_true,exists_eq',Nat.zero_le,true_or,or_true,sp__law_is_name,isIntU,isLinkU,isNameU,Bool.false_or,Bool.or_false] at q ⊢
      first | exact q | exact ⟨hx, q⟩

/-! ### _law_letters -/
def sp__law_letters : USp := fun us M Q _ => ∃ (s c : Addr) (n many : Nat), us = [.ref s, .int many] ∧ many ≤ 1000 ∧ Strm M s c (n + many) ∧
  ∀ z M', z.length = many → (∀ d ∈ z.cps.toList, 97 ≤ d ∧ d ≤ 122) → Strm M' s c n → But s c M M' → Q (.str z) M'
theorem letters_in : ∀ c ∈ ("abcdefghijklmnopqrstuvwxyz" : Str).cps.toList, 97 ≤ c ∧ c ≤ 122 := by decide +kernel
theorem letters_len : (("abcdefghijklmnopqrstuvwxyz" : Str).cps.toList.length : Int) = 26 := by decide +kernel
theorem at_draw' {xs : List Nat} {i : Int} (h0 : 0 ≤ i) (h1 : i < xs.length) : ∃ v, atI xs i = some v ∧ v ∈ xs := by
  have hj : i.toNat < xs.length := by omega
  refine ⟨xs[i.toNat], ?_, List.getElem_mem hj⟩
  unfold atI ixN
  rw [if_pos h0, if_pos h1]
  show xs[i.toNat]? = _
  exact List.getElem?_eq_getElem hj
theorem ok__law_letters (L : Lw K mg) : UFn P w K mg base CX0 2 L.f__law_letters L.fd__law_letters ["_law_stream", "_law_many"] (sp__law_letters) := by
  refine ufn_ok L.D__law_letters.F sc__law_letters (fun us M Q E h => ?_) (fun cdv A outer s H E hr hG =>
      (uss_cons (us_set (i := 2) sc__law_letters.nd rfl (.inr rfl) ue_str)
      (uss_one (us_ret (ue_bm PySem.F.plainAttrs_str PySem.F.slot_str_join PySem.F.type_str_join um_join ue_str (ua_cons (ue_lc (own := [("_law_k", 3)]) (n := (.one 3)) false rfl sc__law_letters.nd (ui_range1 (by rfl) L.n_range (ua_cons (uv 1) ua_nil)) (blkOk_by (own := [("_law_k", 3)]) (N := ["_law_stream", "_law_many", "_law_letters_here", "_law_k"]) (sc := defScope s__law_letters) (by decide +kernel)) (by decide) (fun _ _ _ _ _ => (pg_nt sc__law_letters.nd rfl (.inl rfl))) (fun _ _ _ _ _ => uts_nil) (fun _ _ _ _ _ => (ue_ix (uv 2) (ue_call (ok__law_draw L) (hr.mono (by decide)) hG rfl L.D__law_draw.g L.D__law_draw.F.kp L.D__law_draw.b .nil (fun _ => RelUs.nil) (ua_cons (uv 0) (ua_cons ue_int ua_nil)))))) ua_nil)))))) (fun us M Q E h => ?_)
  · obtain ⟨s, c, n, many, rfl, _⟩ := h
    rfl
  · obtain ⟨s, c, n, many, rfl, hm, hS, q⟩ := h
    have q : ∀ z M', z.length = many → (∀ d ∈ z.cps.toList, 97 ≤ d ∧ d ≤ 122) → Strm M' s c n → But s c M M' → ZQ Q (.str z) M' := fun z M' h1 h2 h3 h4 => .inl (q z M' h1 h2 h3 h4)
    walk_at "q2"
    refine ⟨by omega, by omega, line_le (by omega), ?_⟩
    refine lc_strmF (k := 1) (N := n) (fun x => ∃ c, x = .str (one c) ∧ 97 ≤ c ∧ c ≤ 122) (hS.le (by rw [range_len]; omega)) (fun x hx => ⟨_, rfl, fun M N' hS2 Q q => ?_⟩) fun ys M' hl hP hS3 hB3 => ?_
    · walk_at "q0"
      refine draw_use hS2 (by decide) (by decide) fun r M1 h0 h1 hS1 hB1 => ?_
      walk_at "q0"
      obtain ⟨v, e, hv⟩ := at_draw' (xs := ("abcdefghijklmnopqrstuvwxyz" : Str).cps.toList) h0 (by rw [letters_len]; exact h1)
      exact ⟨v, e, q _ M1 ⟨v, rfl, letters_in v hv⟩ hS1 hB1⟩
    · obtain ⟨cs, rfl, hcs⟩ := ones_of hP
      have hlen : cs.length = many := by simpa [range_len] using hl
      have he : ("" : Str).length = 0 := by decide
      have hsum : ((cs.map one).map (·.length)).sum = cs.length := by
        rw [List.map_map]
        clear hl hlen hP hcs
        induction cs with
        | nil => rfl
        | cons a cs ih => simp only [List.map_cons,List.sum_cons,List.length_cons,Function.comp] at ih ⊢; rw [ih]; show 1 + _ = _; omega
      have hj : (Txt.join "" (cs.map one)).cps.toList = cs := by rw [TL.join_eq]; exact join_ones cs
      have hz : (Txt.join "" (cs.map one)).length = many := by rw [str_len, hj, hlen]
      walk_at "q0"
      refine ⟨_, strs_ones _, ?_, fun _ _ => okS_iff.mpr ⟨by rw [hz]; exact line_le (by omega), by rw [hj]; exact fun c hc => by have := hcs c hc; omega⟩, ?_⟩
      · rw [hsum, he, List.length_map]; omega
      · exact q _ M' hz (by rw [hj]; exact hcs) hS3 hB3

/-! ### _law_near_name -/
def sp__law_near_name : USp := fun us M Q _ => ∃ (s c : Addr) (n : Nat), us = [.ref s] ∧ Strm M s c (n + 21) ∧ ∀ z M', z.length ≤ 17 → okS z = true → Strm M' s c n → But s c M M' → Q (.str z) M'
theorem near_name_use {M : UHp} {Q : UK} {E : UXK} {s c : Addr} {n : Nat} (hS : Strm M s c (n + 21)) (h : ∀ z M', z.length ≤ 17 → okS z = true → Strm M' s c n → But s c M M' → Q (.str z) M') : sp__law_near_name [.ref s] M Q E := ⟨s, c, n, rfl, hS, h⟩
theorem ok__law_near_name (L : Lw K mg) : UFn P w K mg base CX0 3 L.f__law_near_name L.fd__law_near_name ["_law_stream"] (sp__law_near_name) := by
  refine ufn_ok L.D__law_near_name.F sc__law_near_name (fun us M Q E h => ?_) (fun cdv A outer s H E hr hG =>
      (uss_cons (us_set (i := 1) sc__law_near_name.nd rfl (.inl rfl) (ue_call (ok__law_letters L) (hr.mono (by decide)) hG rfl L.D__law_letters.g L.D__law_letters.F.kp L.D__law_letters.b .nil (fun _ => RelUs.nil) (ua_cons (uv 0) (ua_cons (ue_ix (ue_lst false (ua_cons ue_int (ua_cons ue_int (ua_cons ue_int (ua_cons ue_int (ua_cons ue_int (ua_cons ue_int (ua_cons ue_int (ua_cons ue_int (ua_cons ue_int ua_nil)))))))))) (ue_call (ok__law_draw L) (hr.mono (by decide)) hG rfl L.D__law_draw.g L.D__law_draw.F.kp L.D__law_draw.b .nil (fun _ => RelUs.nil) (ua_cons (uv 0) (ua_cons ue_int ua_nil)))) ua_nil))))
      (uss_cons (us_if (ut_cmp (uo_eq (hu6 hr)) (ue_call (ok__law_draw L) (hr.mono (by decide)) hG rfl L.D__law_draw.g L.D__law_draw.F.kp L.D__law_draw.b .nil (fun _ => RelUs.nil) (ua_cons (uv 0) (ua_cons ue_int ua_nil))) ue_int (nomark _)) (uss_cons (us_set (i := 2) sc__law_near_name.nd rfl (.inl rfl) (ue_call (ok__law_draw L) (hr.mono (by decide)) hG rfl L.D__law_draw.g L.D__law_draw.F.kp L.D__law_draw.b .nil (fun _ => RelUs.nil) (ua_cons (uv 0) (ua_cons (ue_op (uo_add false) (ue_callB uc_len (by rfl) L.n_len bt_len (ua_cons (uv 1) ua_nil)) ue_int) ua_nil))))
      (uss_cons (us_set (i := 3) sc__law_near_name.nd rfl (.inl rfl) (ue_ix (ue_lst false (ua_cons ue_str (ua_cons ue_str (ua_cons ue_str (ua_cons ue_str (ua_cons ue_str (ua_cons ue_str (ua_cons ue_str (ua_cons ue_str (ua_cons ue_str (ua_cons ue_str (ua_cons ue_str (ua_cons ue_str (ua_cons ue_str ua_nil)))))))))))))) (ue_call (ok__law_draw L) (hr.mono (by decide)) hG rfl L.D__law_draw.g L.D__law_draw.F.kp L.D__law_draw.b .nil (fun _ => RelUs.nil) (ua_cons (uv 0) (ua_cons ue_int ua_nil)))))
      (uss_one (us_set (i := 1) sc__law_near_name.nd rfl (.inl rfl) (ue_op (uo_add false) (ue_op (uo_add false) (ue_slice false (uv 1) uo_none (uo_some (uv 2))) (uv 3)) (ue_slice false (uv 1) (uo_some (ue_op (uo_add false) (uv 2) (ue_call (ok__law_draw L) (hr.mono (by decide)) hG rfl L.D__law_draw.g L.D__law_draw.F.kp L.D__law_draw.b .nil (fun _ => RelUs.nil) (ua_cons (uv 0) (ua_cons ue_int ua_nil))))) uo_none)))))) uss_nil)
      (uss_one (us_ret (uv 1)))))) (fun us M Q E h => ?_)
  · obtain ⟨s, c, n, rfl, _⟩ := h
    rfl
  · obtain ⟨s, c, n, rfl, hS, q⟩ := h
    have q : ∀ z M', z.length ≤ 17 → okS z = true → Strm M' s c n → But s c M M' → ZQ Q (.str z) M' := fun y M' h1 h2 h3 h4 => .inl (q y M' h1 h2 h3 h4)
    walk_at "q0"
    refine ⟨line_le, draw_use (n := n + 20) hS (by decide) (by decide) fun r M1 h0 h1 hS1 hB1 => ?_⟩
    walk_at "q0"
    obtain ⟨v, e, hv⟩ := at_draw (xs := [.int 0, .int 1, .int 1, .int 2, .int 3, .int 7, .int 8, .int 9, .int 16]) h0 h1
    obtain ⟨m, rfl, hm⟩ : ∃ m : Nat, v = .int m ∧ m ≤ 16 := by
      simp only [List.mem_cons,List.not_mem_nil,or_false] at hv
      rcases hv with rfl | rfl | rfl | rfl | rfl | rfl | rfl | rfl | rfl
      · exact ⟨0, rfl, by decide⟩
      · exact ⟨1, rfl, by decide⟩
      · exact ⟨1, rfl, by decide⟩
      · exact ⟨2, rfl, by decide⟩
      · exact ⟨3, rfl, by decide⟩
      · exact ⟨7, rfl, by decide⟩
      · exact ⟨8, rfl, by decide⟩
      · exact ⟨9, rfl, by decide⟩
      · exact ⟨16, rfl, by decide⟩
    refine ⟨_, e, ?_⟩
    refine ⟨s, c, n + 4, m, rfl, by omega, hS1.le (by omega), fun z M2 hl hz hS2 hB2 => ?_⟩
    have okz : okS z = true := okS_iff.mpr ⟨line_le (by omega), fun d hd => by have := hz d hd; omega⟩
    walk_at "q0"
    refine draw_use (n := n + 3) hS2 (by decide) (by decide) fun r2 M3 h2 h3 hS3 hB3 => ?_
    have hB := (hB1.trans hB2).trans hB3
    walk_at "q0"
    refine iteI (fun e0 => ?_) (fun e0 => ?_)
    · refine draw_use (n := n + 2) hS3 (by omega) (by omega) fun r3 M4 h4 h5 hS4 hB4 => ?_
      walk_at "q0"
      refine ⟨line_le, draw_use (n := n + 1) hS4 (by omega) (by omega) fun r4 M5 h6 h7 hS5 hB5 => ?_⟩
      walk_at "q0"
      obtain ⟨g, e2, hg⟩ := at_draw (xs := [.str "A", .str "Z", .str " ", .str "_", .str "0", .str "9", .str "-", .str ".", .str "/", .str "@", .str "{", .str "`", .str "\n"]) h6 h7
      obtain ⟨y, rfl, hy1, hy2⟩ : ∃ y, g = .str y ∧ y.length = 1 ∧ okS y = true := by
        simp only [List.mem_cons,List.not_mem_nil,or_false] at hg
        rcases hg with rfl | rfl | rfl | rfl | rfl | rfl | rfl | rfl | rfl | rfl | rfl | rfl | rfl <;> exact ⟨_, rfl, by decide +kernel, by decide +kernel⟩
      refine ⟨_, e2, ?_⟩
      walk_at "q0"
      have k1 := cut_len z none (some r3)
      refine ⟨line_le (by omega), draw_use (n := n) hS5 (by omega) (by omega) fun r5 M6 h8 h9 hS6 hB6 => ?_⟩
      have k2 := cut_len z (some (r3 + r5)) none
      have hsum : (cutS z none (some r3) ++ y).length + (cutS z (some (r3 + r5)) none).length ≤ 17 := by
        rw [str_len_append, hy1]
        have e1 : (cutS z none (some r3)).length ≤ r3.toNat := by
          show ((z.cps.toList.drop _).take _).toArray.size ≤ _
          rw [List.size_toArray, List.length_take]
          have : HT.sIx z.length z.length (some r3) ≤ r3.toNat := by
            show (if r3 < 0 then _ else min r3.toNat z.length) ≤ _
            rw [if_neg (by omega)]
            exact Nat.min_le_left _ _
          omega
        have e3 : (cutS z (some (r3 + r5)) none).length ≤ z.length - r3.toNat := by
          show ((z.cps.toList.drop _).take _).toArray.size ≤ _
          rw [List.size_toArray, List.length_take, List.length_drop, ← str_len]
          have : min (r3 + r5).toNat z.length ≤ HT.sIx z.length 0 (some (r3 + r5)) := by
            show _ ≤ (if r3 + r5 < 0 then _ else min (r3 + r5).toNat z.length)
            rw [if_neg (by omega)]
            exact Nat.le_refl _
          omega
        omega
      walk_at "q0"
      refine ⟨line_le (by omega), q _ _ (by rw [str_len_append]; exact hsum) ?_ hS6 ((((hB.trans hB4).trans hB5)).trans hB6)⟩
      refine okS.app (okS.app (okS_cut okz _ _) hy2 (line_le (by omega))) (okS_cut okz _ _) (line_le (by omega))
    · exact q z M3 (by omega) okz (hS3.le (by omega)) hB

/-! ### _law_thing -/
def tC : Nat → Nat
  | 0 => 1
  | d + 1 => 3 + 3 * tC d
def tZ : Nat → Nat
  | 0 => 110
  | d + 1 => 3 * (tZ d + 2) + 4
theorem tZ_ge : ∀ d, 110 ≤ tZ d
  | 0 => Nat.le_refl _
  | d + 1 => by have := tZ_ge d; simp only [tZ]; omega
def sp__law_thing (d : Nat) : USp := fun us M Q _ => ∃ (s c : Addr) (n : Nat), us = [.ref s, .int d] ∧ Strm M s c (n + tC d) ∧ ∀ y M', Dt (d + 1) (tZ d) y → Strm M' s c n → But s c M M' → Q y M'
theorem thing_use {M : UHp} {Q : UK} {E : UXK} {s c : Addr} {n d : Nat} (hS : Strm M s c (n + tC d)) (h : ∀ y M', Dt (d + 1) (tZ d) y → Strm M' s c n → But s c M M' → Q y M') : sp__law_thing d [.ref s, .int d] M Q E := ⟨s, c, n, rfl, hS, h⟩
theorem step__law_thing (L : Lw K mg) {k : Nat} {sp' : USp} (d : Nat) (G : UFn P w K mg base CX0 (5 + k) L.f__law_thing L.fd__law_thing ["_law_stream", "_law_deep"] sp') (hsp : ∀ d', d = d' + 1 → sp' = sp__law_thing d') : UFn P w K mg base CX0 (5 + k + 1) L.f__law_thing L.fd__law_thing ["_law_stream", "_law_deep"] (sp__law_thing d) := by
  refine ufn_ok L.D__law_thing.F sc__law_thing (fun us M Q E h => ?_) (fun cdv A outer s H E hr hG =>
      (uss_cons (us_set (i := 2) sc__law_thing.nd rfl (.inl rfl) (ue_lst false (ua_cons ue_non (ua_cons ue_bl (ua_cons ue_bl (ua_cons ue_int (ua_cons ue_int (ua_cons (ue_un uu_neg ue_int) (ua_cons (ue_op uo_sub (ue_op uo_pow ue_int ue_int) ue_int) (ua_cons ue_str (ua_cons ue_str (ua_cons ue_str (ua_cons ue_str (ua_cons (ue_tup ua_nil) (ua_cons (ue_lst false ua_nil) (ua_cons (ue_tup (ua_cons ue_str ua_nil)) (ua_cons (ue_lst false (ua_cons ue_str ua_nil)) (ua_cons ue_str (ua_cons ue_str ua_nil)))))))))))))))))))
      (uss_cons (us_if (PW.pt (uw_or (ut_cmp (uo_eq (hu6 hr)) (uv 1) ue_int (nomark _)) (uw_or1 (ut_cmp uo_gt (ue_call (ok__law_draw L) (hr.mono (by omega)) hG rfl L.D__law_draw.g L.D__law_draw.F.kp L.D__law_draw.b .nil (fun _ => RelUs.nil) (ua_cons (uv 0) (ua_cons ue_int ua_nil))) ue_int (nomark _))))) (uss_one (us_ret (ue_ix (uv 2) (ue_call (ok__law_draw L) (hr.mono (by omega)) hG rfl L.D__law_draw.g L.D__law_draw.F.kp L.D__law_draw.b .nil (fun _ => RelUs.nil) (ua_cons (uv 0) (ua_cons ue_int ua_nil)))))) uss_nil)
      (uss_cons (us_setLc (i := 3) (own := [("_law_k", 4)]) (n := (.one 4)) false rfl sc__law_thing.nd rfl rfl (sw_true rfl rfl rfl (by decide +kernel)) (ui_range1 (by rfl) L.n_range (ua_cons (ue_call (ok__law_draw L) (hr.mono (by omega)) hG rfl L.D__law_draw.g L.D__law_draw.F.kp L.D__law_draw.b .nil (fun _ => RelUs.nil) (ua_cons (uv 0) (ua_cons ue_int ua_nil))) ua_nil)) (blkOk_by (own := [("_law_k", 4)]) (N := ["_law_stream", "_law_deep", "_law_some", "_law_parts_here", "_law_k"]) (sc := defScope s__law_thing) (by decide +kernel)) (by decide) (fun _ _ _ _ _ => (pg_nt sc__law_thing.nd rfl (.inl rfl))) (fun _ _ _ _ _ => uts_nil) (fun _ _ _ _ _ => (ue_call G (hr.mono (by omega)) hG rfl L.D__law_thing.g L.D__law_thing.F.kp L.D__law_thing.b .nil (fun _ => RelUs.nil) (ua_cons (uv 0) (ua_cons (ue_op uo_sub (uv 1) ue_int) ua_nil)))))
      (uss_one (us_ret (ue_ix (ue_lst false (ua_cons (uv 3) (ua_cons (ue_callTy uc_tuple (by rfl) L.n_tuple bt_tuple (ua_cons (uv 3) ua_nil)) ua_nil))) (ue_call (ok__law_draw L) (hr.mono (by omega)) hG rfl L.D__law_draw.g L.D__law_draw.F.kp L.D__law_draw.b .nil (fun _ => RelUs.nil) (ua_cons (uv 0) (ua_cons ue_int ua_nil)))))))))) (fun us M Q E h => ?_)
  · obtain ⟨s, c, n, rfl, _⟩ := h
    rfl
  · obtain ⟨s, c, n, rfl, hS, q⟩ := h
    have q : ∀ y M', Dt (d + 1) (tZ d) y → Strm M' s c n → But s c M M' → ZQ Q y M' := fun y M' h1 h2 h3 => .inl (q y M' h1 h2 h3)
    have base : ∀ y ∈ [U.non, .bl true, .bl false, .int 0, .int 1, .int (-7), .int (10 ^ Int.toNat 30 - 1), .str "", .str "link", .str "a", .str "on", .tup [], .lst [], .tup [.str "a"], .lst [.str "a"], .str "A", .str "b c"], Dt (d + 1) (tZ d) y :=
      fun y hy => (Dt.ofs (k := 1) (n := 110) (by decide +kernel) y hy).mono (by omega) (tZ_ge d)
    cases d with
    | zero =>
      simp only [tC] at hS
      have h0 : ((((0:Nat)):Int) == 0) = true := rfl
      simp only [z8i,uOr,z8d,z8m,uCB,z7t,z8l,uC,z8o,z7w,uOp,uUn,z8s,z8j,uIf,z8e,z7v,z7u,z7s,uBM,z8g,uSl,z4x,z8r,z72,z8q,z7x,List.append_nil,z8t,z80,z8y,z7z,z8u,z81,z8w,z8v,xIf,z74,z8x,z8p,z3t,z8n,z7m,z7q,z7o,z7p,z5w,z5v,z7a,z3l,z3m,z75,z5g,z8k,asD,uXf,z8f,z5n,z7y,z6e,z6d,z68,z67,z63,z5h,z5i,z5j,z3v,z3w,z6f,z64,z62,z5r,z6b,z7j,z7k,z7i,z7c,z7b,z7l,z7e,z5o,z2m,z2w,z2k,z2o,z2p,z2l,z2n,z5c,z73,z5a,z5e,z5f,z5b,z3g,z5d,z3e,z2q,z2r,z3i,z3k,z3j,z39,z3a,z37,z38,z4q,z6h,z4o,z4s,z4t,z4p,z3f,z4r,z4e,z4d,z3b,z2s,z3d,z3c,z0h,z0g,z0d,z0a,z0f,z0e,z1o,z1n,z0u,z0j,z0w,z0v,z2d,z2c,z1r,z10,z1t,z1s,z2f,z2e,z1w,z14,z1y,z1x,z16,z15,z0m,z0i,z0o,z0n,z1v,z1u,z11,z0l,z13,z12,z1q,z1p,z0x,z0k,z0z,z0y,z4i,z6g,z4g,z4j,z4k,z4h,z82,z88,z46,z5x,z44,z47,z48,z45,z2v,z2j,z40,z5q,z3y,z41,z42,z3z,z2u,z2i,z6y,z70,z6x,z71,z6z,z59,z56,z57,z58,z87,z86,z7r,z79,z7n,z7d,z5y,z76,z77,z6c,z69,z6a,z8b,z8c,z89,z8a,z85,z83,z84,z4v,z4u,z6i,z78,z5m,z5l,z5k,z6n,z6o,z6p,z6q,z6r,z6s,z6t,z6u,z6v,z6w,z50,z51,z52,z53,z54,z55,z4b,z4c,z49,z27,z26,z1e,z0r,z1g,z1f,z05,z04,z2h,z2g,z1z,z17,z21,z20,z0c,z0b,z23,z22,z18,z0p,z1a,z19,z01,z00,z29,z28,z1h,z0s,z1j,z1i,z07,z06,z2b,z2a,z1k,z0t,z1m,z1l,z09,z08,z25,z24,z1b,z0q,z1d,z1c,z03,z02,z6m,z8h,z4z,z6l,z6k,z4w,z4y,z3s,z6j,z3p,z4f,z3n,z3q,z3r,z3o,z5p,z2t,z3h,z4n,z4l,z4a,z66,z65,z4m,z60,z61,z5z,z32,z2x,z33,z2y,z34,z2z,z35,z30,z36,z31,z7h,z7g,z3u,z5u,z3x,z7f,z5t,z43,z5s,cle,clt,cge,cgt,ceq,cne,lenN,xFor,xTryM,uMix,uEnum,uZip,ltT,uSortK,sortK,sortN,uDNew,uDGet,inN,setN,uDNewS,uDGetS,inS,setS,uDm,uDm0,getR,popS,setdS,getNR,setdN,popNR,itemsR,lenS,dictS,sortItR,uFld,uFst,uMake,uLock,uLockE,uKeys,sortE,sortL,xOp,reprT_1,listN,mulT,gLst_l,gLst_r,sum_l,sum_r,min_ii,max_ii,sortSD,pop1S,dictN,uD1,updN,exists_eq_left',exists_eq_left,Option.some.injEq,U.int.injEq,U.bl.injEq,U.str.injEq,U.ref.injEq,U.tup.injEq,U.lst.injEq,U.ty.injEq,List.cons.injEq,and_true,true_and,and_self,List.map_cons,List.map_nil,List.length_cons,List.length_nil,List.cons_append,List.nil_append,List.append_nil,List.getElem?_cons_zero,List.getElem?_cons_succ,List.set_cons_zero,List.set_cons_succ,List.replicate,↓reduceIte,Bool.false_eq_true,Bool.not_true,Bool.not_false,reduceCtorEq,Nat.reduceAdd,Nat.reduceSub,Nat.reduceLeDiff,Nat.reduceEqDiff,decide_true,decide_false,at0,at1,at2,at3,at4,ix0,ix1,ix2,ix3,ix4,updM_same,beq_self_eq_true,Option.bind,Option.map,wipeU,NT.put,puts,MO.lst.injEq,exists_and_left,decide_eq_true_eq,Bool.and_eq_true,Bool.or_eq_true,exists_eq',Nat.zero_le,true_or,or_true,h0]
      refine ⟨⟨by decide, by decide, by decide⟩, line_le, line_le, line_le, ?_⟩
      refine draw_use hS (by decide) (by decide) fun r M1 h0 h1 hS1 hB1 => ?_
      walk_at "q0"
      obtain ⟨v, e, hv⟩ := at_draw (xs := [U.non, .bl true, .bl false, .int 0, .int 1, .int (-7), .int (10 ^ Int.toNat 30 - 1), .str "", .str "link", .str "a", .str "on", .tup [], .lst [], .tup [.str "a"], .lst [.str "a"], .str "A", .str "b c"]) h0 h1
      exact ⟨v, e, q v M1 (base v hv) hS1 hB1⟩
    | succ d =>
      obtain rfl := hsp d rfl
      have hd : ((((d + 1 : Nat) : Int)) == 0) = false := beq_eq_false_iff_ne.mpr (by omega)
      simp only [tC] at hS
      simp only [z8i,uOr,z8d,z8m,uCB,z7t,z8l,uC,z8o,z7w,uOp,uUn,z8s,z8j,uIf,z8e,z7v,z7u,z7s,uBM,z8g,uSl,z4x,z8r,z72,z8q,z7x,List.append_nil,z8t,z80,z8y,z7z,z8u,z81,z8w,z8v,xIf,z74,z8x,z8p,z3t,z8n,z7m,z7q,z7o,z7p,z5w,z5v,z7a,z3l,z3m,z75,z5g,z8k,asD,uXf,z8f,z5n,z7y,z6e,z6d,z68,z67,z63,z5h,z5i,z5j,z3v,z3w,z6f,z64,z62,z5r,z6b,z7j,z7k,z7i,z7c,z7b,z7l,z7e,z5o,z2m,z2w,z2k,z2o,z2p,z2l,z2n,z5c,z73,z5a,z5e,z5f,z5b,z3g,z5d,z3e,z2q,z2r,z3i,z3k,z3j,z39,z3a,z37,z38,z4q,z6h,z4o,z4s,z4t,z4p,z3f,z4r,z4e,z4d,z3b,z2s,z3d,z3c,z0h,z0g,z0d,z0a,z0f,z0e,z1o,z1n,z0u,z0j,z0w,z0v,z2d,z2c,z1r,z10,z1t,z1s,z2f,z2e,z1w,z14,z1y,z1x,z16,z15,z0m,z0i,z0o,z0n,z1v,z1u,z11,z0l,z13,z12,z1q,z1p,z0x,z0k,z0z,z0y,z4i,z6g,z4g,z4j,z4k,z4h,z82,z88,z46,z5x,z44,z47,z48,z45,z2v,z2j,z40,z5q,z3y,z41,z42,z3z,z2u,z2i,z6y,z70,z6x,z71,z6z,z59,z56,z57,z58,z87,z86,z7r,z79,z7n,z7d,z5y,z76,z77,z6c,z69,z6a,z8b,z8c,z89,z8a,z85,z83,z84,z4v,z4u,z6i,z78,z5m,z5l,z5k,z6n,z6o,z6p,z6q,z6r,z6s,z6t,z6u,z6v,z6w,z50,z51,z52,z53,z54,z55,z4b,z4c,z49,z27,z26,z1e,z0r,z1g,z1f,z05,z04,z2h,z2g,z1z,z17,z21,z20,z0c,z0b,z23,z22,z18,z0p,z1a,z19,z01,z00,z29,z28,z1h,z0s,z1j,z1i,z07,z06,z2b,z2a,z1k,z0t,z1m,z1l,z09,z08,z25,z24,z1b,z0q,z1d,z1c,z03,z02,z6m,z8h,z4z,z6l,z6k,z4w,z4y,z3s,z6j,z3p,z4f,z3n,z3q,z3r,z3o,z5p,z2t,z3h,z4n,z4l,z4a,z66,z65,z4m,z60,z61,z5z,z32,z2x,z33,z2y,z34,z2z,z35,z30,z36,z31,z7h,z7g,z3u,z5u,z3x,z7f,z5t,z43,z5s,cle,clt,cge,cgt,ceq,cne,lenN,xFor,xTryM,uMix,uEnum,uZip,ltT,uSortK,sortK,sortN,uDNew,uDGet,inN,setN,uDNewS,uDGetS,inS,setS,uDm,uDm0,getR,popS,setdS,getNR,setdN,popNR,itemsR,lenS,dictS,sortItR,uFld,uFst,uMake,uLock,uLockE,uKeys,sortE,sortL,xOp,reprT_1,listN,mulT,gLst_l,gLst_r,sum_l,sum_r,min_ii,max_ii,sortSD,pop1S,dictN,uD1,updN,exists_eq_left',exists_eq_left,Option.some.injEq,U.int.injEq,U.bl.injEq,U.str.injEq,U.ref.injEq,U.tup.injEq,U.lst.injEq,U.ty.injEq,List.cons.injEq,and_true,true_and,and_self,List.map_cons,List.map_nil,List.length_cons,List.length_nil,List.cons_append,List.nil_append,List.append_nil,List.getElem?_cons_zero,List.getElem?_cons_succ,List.set_cons_zero,List.set_cons_succ,List.replicate,↓reduceIte,Bool.false_eq_true,Bool.not_true,Bool.not_false,reduceCtorEq,Nat.reduceAdd,Nat.reduceSub,Nat.reduceLeDiff,Nat.reduceEqDiff,decide_true,decide_false,at0,at1,at2,at3,at4,ix0,ix1,ix2,ix3,ix4,updM_same,beq_self_eq_true,Option.bind,Option.map,wipeU,NT.put,puts,MO.lst.injEq,exists_and_left,decide_eq_true_eq,Bool.and_eq_true,Bool.or_eq_true,exists_eq',Nat.zero_le,true_or,or_true,hd]
      refine ⟨⟨by decide, by decide, by decide⟩, line_le, line_le, line_le, ?_⟩
      refine draw_use (n := n + 2 + 3 * tC d) (hS.le (by omega)) (by decide) (by decide) fun r M1 h0 h1 hS1 hB1 => ?_
      walk_at "q0"
      refine iteI (fun e0 => ?_) (fun e0 => ?_)
      · refine draw_use (n := n) (hS1.le (by omega)) (by decide) (by decide) fun r2 M2 h2 h3 hS2 hB2 => ?_
        walk_at "q0"
        obtain ⟨v, e, hv⟩ := at_draw (xs := [U.non, .bl true, .bl false, .int 0, .int 1, .int (-7), .int (10 ^ Int.toNat 30 - 1), .str "", .str "link", .str "a", .str "on", .tup [], .lst [], .tup [.str "a"], .lst [.str "a"], .str "A", .str "b c"]) h2 h3
        exact ⟨v, e, q v M2 (base v hv) hS2 (hB1.trans hB2)⟩
      · walk_at "q2"
        refine draw_use (n := n + 1 + 3 * tC d) (hS1.le (by omega)) (by decide) (by decide) fun r2 M2 h2 h3 hS2 hB2 => ?_
        walk_at "q0"
        refine ⟨by omega, by omega, line_le (by omega), ?_⟩
        refine lc_strmF (k := tC d) (N := n + 1) (Dt (d + 1) (tZ d)) (hS2.le ?_) (fun x hx => ⟨_, rfl, fun M N' hS3 Q q => ?_⟩) fun ys M' hl hP hS3 hB3 => ?_
        · rw [range_len]
          have : r2.toNat * tC d ≤ 3 * tC d := Nat.mul_le_mul_right _ (by omega)
          omega
        · walk_at "q0"
          have e : (((d + 1 : Nat) : Int) - 1) = (d : Int) := by omega
          rw [e]
          exact thing_use hS3 fun y M' hy hS4 hB4 => q y M' hy hS4 hB4
        · have hy : ys.length ≤ 3 := by rw [hl, range_len]; omega
          have hlen : ys.length * (tZ d + 2) + 4 ≤ tZ (d + 1) := by
            have : ys.length * (tZ d + 2) ≤ 3 * (tZ d + 2) := Nat.mul_le_mul_right _ hy
            simp only [tZ]; omega
          walk_at "q0"
          refine ⟨line_le, draw_use hS3 (by decide) (by decide) fun r3 M4 h4 h5 hS4 hB4 => ?_⟩
          walk_at "q0"
          obtain ⟨v, e, hv⟩ := at_draw (xs := [.lst ys, .tup ys]) h4 h5
          refine ⟨v, e, q v M4 ?_ hS4 (((hB1.trans hB2).trans hB3).trans hB4)⟩
          simp only [List.mem_cons,List.not_mem_nil,or_false] at hv
          rcases hv with rfl | rfl
          · exact Dt.lst hP hlen
          · exact Dt.tup hP hlen

theorem ok__law_thing (L : Lw K mg) : ∀ d : Nat, UFn P w K mg base CX0 (5 + d + 1) L.f__law_thing L.fd__law_thing ["_law_stream", "_law_deep"] (sp__law_thing d)
  | 0 => step__law_thing L (k := 0) (sp' := fun _ _ _ _ => False) 0 ufn_none (fun d' h => by cases h)
  | d + 1 => step__law_thing L (k := d + 1) (sp' := sp__law_thing d) (d + 1) (ok__law_thing L d) (fun d' h => by cases h; rfl)
/-! ### _law_near_path -/
def sp__law_near_path : USp := fun us M Q _ => ∃ (s c : Addr) (n : Nat), us = [.ref s] ∧ Strm M s c (n + 250) ∧ ∀ y M', Dt 3 7200 y → Strm M' s c n → But s c M M' → Q y M'
theorem near_path_use {M : UHp} {Q : UK} {E : UXK} {s c : Addr} {n : Nat} (hS : Strm M s c (n + 250)) (h : ∀ y M', Dt 3 7200 y → Strm M' s c n → But s c M M' → Q y M') : sp__law_near_path [.ref s] M Q E := ⟨s, c, n, rfl, hS, h⟩
theorem word_dt {z : Str} {m : Nat} (h1 : z.length = m) (hm : m ≤ 8) (h2 : ∀ d ∈ z.cps.toList, 97 ≤ d ∧ d ≤ 122) : Dt 0 120 (.str z) :=
  Dt.str (okS_iff.mpr ⟨line_le (by omega), fun d hd => by have := h2 d hd; omega⟩) (by omega)
theorem ok__law_near_path (L : Lw K mg) : UFn P w K mg base CX0 8 L.f__law_near_path L.fd__law_near_path ["_law_stream"] (sp__law_near_path) := by
  refine ufn_ok L.D__law_near_path.F sc__law_near_path (fun us M Q E h => ?_) (fun cdv A outer s H E hr hG =>
      (uss_cons (us_set (i := 1) sc__law_near_path.nd rfl (.inl rfl) (ue_ix (ue_lst false (ua_cons ue_int (ua_cons ue_int (ua_cons ue_int (ua_cons ue_int (ua_cons ue_int (ua_cons ue_int (ua_cons ue_int (ua_cons ue_int ua_nil))))))))) (ue_call (ok__law_draw L) (hr.mono (by decide)) hG rfl L.D__law_draw.g L.D__law_draw.F.kp L.D__law_draw.b .nil (fun _ => RelUs.nil) (ua_cons (uv 0) (ua_cons ue_int ua_nil)))))
      (uss_cons (us_setLc (i := 2) (own := [("_law_k", 4)]) (n := (.one 4)) true rfl sc__law_near_path.nd rfl rfl (sw_true rfl rfl rfl (by decide +kernel)) (ui_range1 (by rfl) L.n_range (ua_cons (uv 1) ua_nil)) (blkOk_by (own := [("_law_k", 4)]) (N := ["_law_stream", "_law_many", "_law_parts_here", "_law_odd", "_law_k"]) (sc := defScope s__law_near_path) (by decide +kernel)) (by decide) (fun _ _ _ _ _ => (pg_nt sc__law_near_path.nd rfl (.inl rfl))) (fun _ _ _ _ _ => uts_nil) (fun _ _ _ _ _ => (ue_call (ok__law_letters L) (hr.mono (by decide)) hG rfl L.D__law_letters.g L.D__law_letters.F.kp L.D__law_letters.b .nil (fun _ => RelUs.nil) (ua_cons (uv 0) (ua_cons (ue_op (uo_add false) ue_int (ue_call (ok__law_draw L) (hr.mono (by decide)) hG rfl L.D__law_draw.g L.D__law_draw.F.kp L.D__law_draw.b .nil (fun _ => RelUs.nil) (ua_cons (uv 0) (ua_cons ue_int ua_nil)))) ua_nil)))))
      (uss_cons (us_if (ut_cmp (uo_eq (hu6 hr)) (ue_call (ok__law_draw L) (hr.mono (by decide)) hG rfl L.D__law_draw.g L.D__law_draw.F.kp L.D__law_draw.b .nil (fun _ => RelUs.nil) (ua_cons (uv 0) (ua_cons ue_int ua_nil))) ue_int (nomark _)) (uss_cons (us_set (i := 3) sc__law_near_path.nd rfl (.inl rfl) (ue_ix (ue_lst false (ua_cons (ue_call (ok__law_near_name L) (hr.mono (by decide)) hG rfl L.D__law_near_name.g L.D__law_near_name.F.kp L.D__law_near_name.b .nil (fun _ => RelUs.nil) (ua_cons (uv 0) ua_nil)) (ua_cons (ue_call (ok__law_thing L 1) (hr.mono (by decide)) hG rfl L.D__law_thing.g L.D__law_thing.F.kp L.D__law_thing.b .nil (fun _ => RelUs.nil) (ua_cons (uv 0) (ua_cons ue_int ua_nil))) ua_nil))) (ue_call (ok__law_draw L) (hr.mono (by decide)) hG rfl L.D__law_draw.g L.D__law_draw.F.kp L.D__law_draw.b .nil (fun _ => RelUs.nil) (ua_cons (uv 0) (ua_cons ue_int ua_nil)))))
      (uss_one (us_expr (ue_bm PySem.F.plainAttrs_list PySem.F.slot_list_insert PySem.F.type_list_insert um_insert (uv 2) (ua_cons (ue_call (ok__law_draw L) (hr.mono (by decide)) hG rfl L.D__law_draw.g L.D__law_draw.F.kp L.D__law_draw.b .nil (fun _ => RelUs.nil) (ua_cons (uv 0) (ua_cons (ue_op (uo_add false) (ue_callB uc_len (by rfl) L.n_len bt_len (ua_cons (uv 2) ua_nil)) ue_int) ua_nil))) (ua_cons (uv 3) ua_nil)))))) uss_nil)
      (uss_one (us_ret (ue_if (ut_cmp (uo_eq (hu6 hr)) (ue_call (ok__law_draw L) (hr.mono (by decide)) hG rfl L.D__law_draw.g L.D__law_draw.F.kp L.D__law_draw.b .nil (fun _ => RelUs.nil) (ua_cons (uv 0) (ua_cons ue_int ua_nil))) ue_int (nomark _)) (uv 2) (ue_callTy uc_tuple (by rfl) L.n_tuple bt_tuple (ua_cons (uv 2) ua_nil))))))))) (fun us M Q E h => ?_)
  · obtain ⟨s, c, n, rfl, _⟩ := h
    rfl
  · obtain ⟨s, c, n, rfl, hS, q⟩ := h
    walk_at "q0"
    refine ⟨line_le, draw_use (n := n + 249) hS (by decide) (by decide) fun r M1 h0 h1 hS1 hB1 => ?_⟩
    walk_at "q0"
    obtain ⟨v, e, hv⟩ := at_draw (xs := [.int 0, .int 1, .int 2, .int 3, .int 7, .int 8, .int 9, .int 20]) h0 h1
    obtain ⟨m, rfl, hm⟩ : ∃ m : Nat, v = .int m ∧ m ≤ 20 := by
      simp only [List.mem_cons,List.not_mem_nil,or_false] at hv
      rcases hv with rfl | rfl | rfl | rfl | rfl | rfl | rfl | rfl
      · exact ⟨0, rfl, by decide⟩
      · exact ⟨1, rfl, by decide⟩
      · exact ⟨2, rfl, by decide⟩
      · exact ⟨3, rfl, by decide⟩
      · exact ⟨7, rfl, by decide⟩
      · exact ⟨8, rfl, by decide⟩
      · exact ⟨9, rfl, by decide⟩
      · exact ⟨20, rfl, by decide⟩
    refine ⟨_, e, ?_⟩
    walk_at "q2"
    refine ⟨by omega, by omega, line_le (by omega), ?_⟩
    refine lc_strmT (k := 9) (N := n + 69) (Dt 0 120) (hS1.le (by rw [range_len]; omega)) (fun x hx => ⟨_, rfl, fun M N' hS2 Q q => ?_⟩) fun D ys M2 hD hl hP hS2 hB2 hD2 hs hc => ?_
    · walk_at "q0"
      refine draw_use (n := N' + 8) hS2 (by decide) (by decide) fun r2 M3 h2 h3 hS3 hB3 => ?_
      walk_at "q0"
      refine ⟨s, c, N', (1 + r2).toNat, by rw [Int.toNat_of_nonneg (by omega)], by omega, hS3.le (by omega), fun z M4 hl hz hS4 hB4 => q _ _ (word_dt hl (by omega) hz) hS4 (hB3.trans hB4)⟩
    · have hyl : ys.length ≤ 20 := by rw [hl, range_len]; omega
      have hds : D ≠ s := Ne.symm hs
      have hdc : D ≠ c := Ne.symm hc
      have hM1 : M D = none := by
        cases z : M D with
        | none => rfl
        | some o => rw [hB1 D hds hdc o z] at hD; cases hD
      have fin : ∀ (zs : List U) (M' : UHp), zs.length ≤ 21 → (∀ z ∈ zs, Dt 2 340 z) → M' D = some (.lst zs) → Strm M' s c n → But s c M M' → ∀ r3 : Int, @ite Prop (ueq (val M' (.int r3)) (.int 0) = true) (instDecidableEqBool (ueq (val M' (.int r3)) (.int 0)) true) (ZQ Q (.ref D) M') (ZQ Q (.tup zs) M') := by
        intro zs M' hz hd hDM hS' hB r3
        have hsz : zs.length * (340 + 2) + 4 ≤ 7200 := by omega
        refine iteI (fun e0 => ?_) (fun e0 => ?_)
        · exact zq_f hDM (q _ _ (Dt.lst hd hsz) (hS'.del hs hc) (hB.del hM1))
        · exact .inl (q _ _ (Dt.tup hd hsz) hS' hB)
      walk_at "q0"
      refine draw_use (n := n + 68) hS2 (by decide) (by decide) fun r2 M3 h2 h3 hS3 hB3 => ?_
      have hB13 := (hB1.trans hB2).trans hB3
      have hD3 := hB3 D hds hdc _ hD2
      walk_at "q0"
      refine iteI (fun e0 => ?_) (fun e0 => ?_)
      · refine near_name_use (n := n + 47) (hS3.le (by omega)) fun z M4 hz hzo hS4 hB4 => ?_
        refine thing_use (d := 1) (n := n + 3) (hS4.le (by simp only [tC]; omega)) fun y M5 hy hS5 hB5 => ?_
        refine ⟨line_le, draw_use (n := n + 2) hS5 (by decide) (by decide) fun r4 M6 h4 h5 hS6 hB6 => ?_⟩
        walk_at "q0"
        obtain ⟨v, e2, hv⟩ := at_draw (xs := [.str z, y]) h4 h5
        have hvd : Dt 2 340 v := by
          simp only [List.mem_cons,List.not_mem_nil,or_false] at hv
          rcases hv with rfl | rfl
          · exact (Dt.str (n := 172) hzo (by omega)).mono (by decide) (by decide)
          · exact hy
        have hD6 := hB6 D hds hdc _ (hB5 D hds hdc _ (hB4 D hds hdc _ hD3))
        simp only [z8i,uOr,z8d,z8m,uCB,z7t,z8l,uC,z8o,z7w,uOp,uUn,z8s,z8j,uIf,z8e,z7v,z7u,z7s,uBM,z8g,uSl,z4x,z8r,z72,z8q,z7x,List.append_nil,z8t,z80,z8y,z7z,z8u,z81,z8w,z8v,xIf,z74,z8x,z8p,z3t,z8n,z7m,z7q,z7o,z7p,z5w,z5v,z7a,z3l,z3m,z75,z5g,z8k,asD,uXf,z8f,z5n,z7y,z6e,z6d,z68,z67,z63,z5h,z5i,z5j,z3v,z3w,z6f,z64,z62,z5r,z6b,z7j,z7k,z7i,z7c,z7b,z7l,z7e,z5o,z2m,z2w,z2k,z2o,z2p,z2l,z2n,z5c,z73,z5a,z5e,z5f,z5b,z3g,z5d,z3e,z2q,z2r,z3i,z3k,z3j,z39,z3a,z37,z38,z4q,z6h,z4o,z4s,z4t,z4p,z3f,z4r,z4e,z4d,z3b,z2s,z3d,z3c,z0h,z0g,z0d,z0a,z0f,z0e,z1o,z1n,z0u,z0j,z0w,z0v,z2d,z2c,z1r,z10,z1t,z1s,z2f,z2e,z1w,z14,z1y,z1x,z16,z15,z0m,z0i,z0o,z0n,z1v,z1u,z11,z0l,z13,z12,z1q,z1p,z0x,z0k,z0z,z0y,z4i,z6g,z4g,z4j,z4k,z4h,z82,z88,z46,z5x,z44,z47,z48,z45,z2v,z2j,z40,z5q,z3y,z41,z42,z3z,z2u,z2i,z6y,z70,z6x,z71,z6z,z59,z56,z57,z58,z87,z86,z7r,z79,z7n,z7d,z5y,z76,z77,z6c,z69,z6a,z8b,z8c,z89,z8a,z85,z83,z84,z4v,z4u,z6i,z78,z5m,z5l,z5k,z6n,z6o,z6p,z6q,z6r,z6s,z6t,z6u,z6v,z6w,z50,z51,z52,z53,z54,z55,z4b,z4c,z49,z27,z26,z1e,z0r,z1g,z1f,z05,z04,z2h,z2g,z1z,z17,z21,z20,z0c,z0b,z23,z22,z18,z0p,z1a,z19,z01,z00,z29,z28,z1h,z0s,z1j,z1i,z07,z06,z2b,z2a,z1k,z0t,z1m,z1l,z09,z08,z25,z24,z1b,z0q,z1d,z1c,z03,z02,z6m,z8h,z4z,z6l,z6k,z4w,z4y,z3s,z6j,z3p,z4f,z3n,z3q,z3r,z3o,z5p,z2t,z3h,z4n,z4l,z4a,z66,z65,z4m,z60,z61,z5z,z32,z2x,z33,z2y,z34,z2z,z35,z30,z36,z31,z7h,z7g,z3u,z5u,z3x,z7f,z5t,z43,z5s,cle,clt,cge,cgt,ceq,cne,lenN,xFor,xTryM,uMix,uEnum,uZip,ltT,uSortK,sortK,sortN,uDNew,uDGet,inN,setN,uDNewS,uDGetS,inS,setS,uDm,uDm0,getR,popS,setdS,getNR,setdN,popNR,itemsR,lenS,dictS,sortItR,uFld,uFst,uMake,uLock,uLockE,uKeys,sortE,sortL,xOp,reprT_1,listN,mulT,gLst_l,gLst_r,sum_l,sum_r,min_ii,max_ii,sortSD,pop1S,dictN,uD1,updN,exists_eq_left',exists_eq_left,Option.some.injEq,U.int.injEq,U.bl.injEq,U.str.injEq,U.ref.injEq,U.tup.injEq,U.lst.injEq,U.ty.injEq,List.cons.injEq,and_true,true_and,and_self,List.map_cons,List.map_nil,List.length_cons,List.length_nil,List.cons_append,List.nil_append,List.append_nil,List.getElem?_cons_zero,List.getElem?_cons_succ,List.set_cons_zero,List.set_cons_succ,List.replicate,↓reduceIte,Bool.false_eq_true,Bool.not_true,Bool.not_false,reduceCtorEq,Nat.reduceAdd,Nat.reduceSub,Nat.reduceLeDiff,Nat.reduceEqDiff,decide_true,decide_false,at0,at1,at2,at3,at4,ix0,ix1,ix2,ix3,ix4,updM_same,beq_self_eq_true,Option.bind,Option.map,wipeU,NT.put,puts,MO.lst.injEq,exists_and_left,decide_eq_true_eq,Bool.and_eq_true,Bool.or_eq_true,exists_eq',Nat.zero_le,true_or,or_true,hD6]
        refine ⟨_, e2, ?_⟩
        refine draw_use (n := n + 1) hS6 (by omega) (by omega) fun r5 M7 h6 h7 hS7 hB7 => ?_
        have hD7 := hB7 D hds hdc _ hD6
        simp only [z8i,uOr,z8d,z8m,uCB,z7t,z8l,uC,z8o,z7w,uOp,uUn,z8s,z8j,uIf,z8e,z7v,z7u,z7s,uBM,z8g,uSl,z4x,z8r,z72,z8q,z7x,List.append_nil,z8t,z80,z8y,z7z,z8u,z81,z8w,z8v,xIf,z74,z8x,z8p,z3t,z8n,z7m,z7q,z7o,z7p,z5w,z5v,z7a,z3l,z3m,z75,z5g,z8k,asD,uXf,z8f,z5n,z7y,z6e,z6d,z68,z67,z63,z5h,z5i,z5j,z3v,z3w,z6f,z64,z62,z5r,z6b,z7j,z7k,z7i,z7c,z7b,z7l,z7e,z5o,z2m,z2w,z2k,z2o,z2p,z2l,z2n,z5c,z73,z5a,z5e,z5f,z5b,z3g,z5d,z3e,z2q,z2r,z3i,z3k,z3j,z39,z3a,z37,z38,z4q,z6h,z4o,z4s,z4t,z4p,z3f,z4r,z4e,z4d,z3b,z2s,z3d,z3c,z0h,z0g,z0d,z0a,z0f,z0e,z1o,z1n,z0u,z0j,z0w,z0v,z2d,z2c,z1r,z10,z1t,z1s,z2f,z2e,z1w,z14,z1y,z1x,z16,z15,z0m,z0i,z0o,z0n,z1v,z1u,z11,z0l,z13,z12,z1q,z1p,z0x,z0k,z0z,z0y,z4i,z6g,z4g,z4j,z4k,z4h,z82,z88,z46,z5x,z44,z47,z48,z45,z2v,z2j,z40,z5q,z3y,z41,z42,z3z,z2u,z2i,z6y,z70,z6x,z71,z6z,z59,z56,z57,z58,z87,z86,z7r,z79,z7n,z7d,z5y,z76,z77,z6c,z69,z6a,z8b,z8c,z89,z8a,z85,z83,z84,z4v,z4u,z6i,z78,z5m,z5l,z5k,z6n,z6o,z6p,z6q,z6r,z6s,z6t,z6u,z6v,z6w,z50,z51,z52,z53,z54,z55,z4b,z4c,z49,z27,z26,z1e,z0r,z1g,z1f,z05,z04,z2h,z2g,z1z,z17,z21,z20,z0c,z0b,z23,z22,z18,z0p,z1a,z19,z01,z00,z29,z28,z1h,z0s,z1j,z1i,z07,z06,z2b,z2a,z1k,z0t,z1m,z1l,z09,z08,z25,z24,z1b,z0q,z1d,z1c,z03,z02,z6m,z8h,z4z,z6l,z6k,z4w,z4y,z3s,z6j,z3p,z4f,z3n,z3q,z3r,z3o,z5p,z2t,z3h,z4n,z4l,z4a,z66,z65,z4m,z60,z61,z5z,z32,z2x,z33,z2y,z34,z2z,z35,z30,z36,z31,z7h,z7g,z3u,z5u,z3x,z7f,z5t,z43,z5s,cle,clt,cge,cgt,ceq,cne,lenN,xFor,xTryM,uMix,uEnum,uZip,ltT,uSortK,sortK,sortN,uDNew,uDGet,inN,setN,uDNewS,uDGetS,inS,setS,uDm,uDm0,getR,popS,setdS,getNR,setdN,popNR,itemsR,lenS,dictS,sortItR,uFld,uFst,uMake,uLock,uLockE,uKeys,sortE,sortL,xOp,reprT_1,listN,mulT,gLst_l,gLst_r,sum_l,sum_r,min_ii,max_ii,sortSD,pop1S,dictN,uD1,updN,exists_eq_left',exists_eq_left,Option.some.injEq,U.int.injEq,U.bl.injEq,U.str.injEq,U.ref.injEq,U.tup.injEq,U.lst.injEq,U.ty.injEq,List.cons.injEq,and_true,true_and,and_self,List.map_cons,List.map_nil,List.length_cons,List.length_nil,List.cons_append,List.nil_append,List.append_nil,List.getElem?_cons_zero,List.getElem?_cons_succ,List.set_cons_zero,List.set_cons_succ,List.replicate,↓reduceIte,Bool.false_eq_true,Bool.not_true,Bool.not_false,reduceCtorEq,Nat.reduceAdd,Nat.reduceSub,Nat.reduceLeDiff,Nat.reduceEqDiff,decide_true,decide_false,at0,at1,at2,at3,at4,ix0,ix1,ix2,ix3,ix4,updM_same,beq_self_eq_true,Option.bind,Option.map,wipeU,NT.put,puts,MO.lst.injEq,exists_and_left,decide_eq_true_eq,Bool.and_eq_true,Bool.or_eq_true,exists_eq',Nat.zero_le,true_or,or_true,hD7]
        refine ⟨line_lt (by omega), h6, by omega, ?_⟩
        refine draw_use (n := n) (hS7.upd hs hc) (by omega) (by omega) fun r6 M8 h8 h9 hS8 hB8 => ?_
        have hD8 := hB8 D hds hdc _ updM_same
        simp only [z8i,uOr,z8d,z8m,uCB,z7t,z8l,uC,z8o,z7w,uOp,uUn,z8s,z8j,uIf,z8e,z7v,z7u,z7s,uBM,z8g,uSl,z4x,z8r,z72,z8q,z7x,List.append_nil,z8t,z80,z8y,z7z,z8u,z81,z8w,z8v,xIf,z74,z8x,z8p,z3t,z8n,z7m,z7q,z7o,z7p,z5w,z5v,z7a,z3l,z3m,z75,z5g,z8k,asD,uXf,z8f,z5n,z7y,z6e,z6d,z68,z67,z63,z5h,z5i,z5j,z3v,z3w,z6f,z64,z62,z5r,z6b,z7j,z7k,z7i,z7c,z7b,z7l,z7e,z5o,z2m,z2w,z2k,z2o,z2p,z2l,z2n,z5c,z73,z5a,z5e,z5f,z5b,z3g,z5d,z3e,z2q,z2r,z3i,z3k,z3j,z39,z3a,z37,z38,z4q,z6h,z4o,z4s,z4t,z4p,z3f,z4r,z4e,z4d,z3b,z2s,z3d,z3c,z0h,z0g,z0d,z0a,z0f,z0e,z1o,z1n,z0u,z0j,z0w,z0v,z2d,z2c,z1r,z10,z1t,z1s,z2f,z2e,z1w,z14,z1y,z1x,z16,z15,z0m,z0i,z0o,z0n,z1v,z1u,z11,z0l,z13,z12,z1q,z1p,z0x,z0k,z0z,z0y,z4i,z6g,z4g,z4j,z4k,z4h,z82,z88,z46,z5x,z44,z47,z48,z45,z2v,z2j,z40,z5q,z3y,z41,z42,z3z,z2u,z2i,z6y,z70,z6x,z71,z6z,z59,z56,z57,z58,z87,z86,z7r,z79,z7n,z7d,z5y,z76,z77,z6c,z69,z6a,z8b,z8c,z89,z8a,z85,z83,z84,z4v,z4u,z6i,z78,z5m,z5l,z5k,z6n,z6o,z6p,z6q,z6r,z6s,z6t,z6u,z6v,z6w,z50,z51,z52,z53,z54,z55,z4b,z4c,z49,z27,z26,z1e,z0r,z1g,z1f,z05,z04,z2h,z2g,z1z,z17,z21,z20,z0c,z0b,z23,z22,z18,z0p,z1a,z19,z01,z00,z29,z28,z1h,z0s,z1j,z1i,z07,z06,z2b,z2a,z1k,z0t,z1m,z1l,z09,z08,z25,z24,z1b,z0q,z1d,z1c,z03,z02,z6m,z8h,z4z,z6l,z6k,z4w,z4y,z3s,z6j,z3p,z4f,z3n,z3q,z3r,z3o,z5p,z2t,z3h,z4n,z4l,z4a,z66,z65,z4m,z60,z61,z5z,z32,z2x,z33,z2y,z34,z2z,z35,z30,z36,z31,z7h,z7g,z3u,z5u,z3x,z7f,z5t,z43,z5s,cle,clt,cge,cgt,ceq,cne,lenN,xFor,xTryM,uMix,uEnum,uZip,ltT,uSortK,sortK,sortN,uDNew,uDGet,inN,setN,uDNewS,uDGetS,inS,setS,uDm,uDm0,getR,popS,setdS,getNR,setdN,popNR,itemsR,lenS,dictS,sortItR,uFld,uFst,uMake,uLock,uLockE,uKeys,sortE,sortL,xOp,reprT_1,listN,mulT,gLst_l,gLst_r,sum_l,sum_r,min_ii,max_ii,sortSD,pop1S,dictN,uD1,updN,exists_eq_left',exists_eq_left,Option.some.injEq,U.int.injEq,U.bl.injEq,U.str.injEq,U.ref.injEq,U.tup.injEq,U.lst.injEq,U.ty.injEq,List.cons.injEq,and_true,true_and,and_self,List.map_cons,List.map_nil,List.length_cons,List.length_nil,List.cons_append,List.nil_append,List.append_nil,List.getElem?_cons_zero,List.getElem?_cons_succ,List.set_cons_zero,List.set_cons_succ,List.replicate,↓reduceIte,Bool.false_eq_true,Bool.not_true,Bool.not_false,reduceCtorEq,Nat.reduceAdd,Nat.reduceSub,Nat.reduceLeDiff,Nat.reduceEqDiff,decide_true,decide_false,at0,at1,at2,at3,at4,ix0,ix1,ix2,ix3,ix4,updM_same,beq_self_eq_true,Option.bind,Option.map,wipeU,NT.put,puts,MO.lst.injEq,exists_and_left,decide_eq_true_eq,Bool.and_eq_true,Bool.or_eq_true,exists_eq',Nat.zero_le,true_or,or_true,hD8]
        refine fin _ M8 ?_ ?_ hD8 hS8 (((((hB13.trans hB4).trans hB5).trans hB6).trans hB7).upd hM1 |>.trans hB8) r6
        · simp only [List.length_append,List.length_cons,List.length_nil,List.length_take,List.length_drop]; omega
        · intro x hx
          rcases List.mem_append.mp hx with hx | hx
          · rcases List.mem_append.mp hx with hx | hx
            · exact (hP x (List.mem_of_mem_take hx)).mono (by decide) (by decide)
            · rw [List.mem_singleton.mp hx]; exact hvd
          · exact (hP x (List.mem_of_mem_drop hx)).mono (by decide) (by decide)
      · refine draw_use (n := n + 67) hS3 (by omega) (by omega) fun r6 M8 h8 h9 hS8 hB8 => ?_
        have hD8 := hB8 D hds hdc _ hD3
        simp only [z8i,uOr,z8d,z8m,uCB,z7t,z8l,uC,z8o,z7w,uOp,uUn,z8s,z8j,uIf,z8e,z7v,z7u,z7s,uBM,z8g,uSl,z4x,z8r,z72,z8q,z7x,List.append_nil,z8t,z80,z8y,z7z,z8u,z81,z8w,z8v,xIf,z74,z8x,z8p,z3t,z8n,z7m,z7q,z7o,z7p,z5w,z5v,z7a,z3l,z3m,z75,z5g,z8k,asD,uXf,z8f,z5n,z7y,z6e,z6d,z68,z67,z63,z5h,z5i,z5j,z3v,z3w,z6f,z64,z62,z5r,z6b,z7j,z7k,z7i,z7c,z7b,z7l,z7e,z5o,z2m,z2w,z2k,z2o,z2p,z2l,z2n,z5c,z73,z5a,z5e,z5f,z5b,z3g,z5d,z3e,z2q,z2r,z3i,z3k,z3j,z39,z3a,z37,z38,z4q,z6h,z4o,z4s,z4t,z4p,z3f,z4r,z4e,z4d,z3b,z2s,z3d,z3c,z0h,z0g,z0d,z0a,z0f,z0e,z1o,z1n,z0u,z0j,z0w,z0v,z2d,z2c,z1r,z10,z1t,z1s,z2f,z2e,z1w,z14,z1y,z1x,z16,z15,z0m,z0i,z0o,z0n,z1v,z1u,z11,z0l,z13,z12,z1q,z1p,z0x,z0k,z0z,z0y,z4i,z6g,z4g,z4j,z4k,z4h,z82,z88,z46,z5x,z44,z47,z48,z45,z2v,z2j,z40,z5q,z3y,z41,z42,z3z,z2u,z2i,z6y,z70,z6x,z71,z6z,z59,z56,z57,z58,z87,z86,z7r,z79,z7n,z7d,z5y,z76,z77,z6c,z69,z6a,z8b,z8c,z89,z8a,z85,z83,z84,z4v,z4u,z6i,z78,z5m,z5l,z5k,z6n,z6o,z6p,z6q,z6r,z6s,z6t,z6u,z6v,z6w,z50,z51,z52,z53,z54,z55,z4b,z4c,z49,z27,z26,z1e,z0r,z1g,z1f,z05,z04,z2h,z2g,z1z,z17,z21,z20,z0c,z0b,z23,z22,z18,z0p,z1a,z19,z01,z00,z29,z28,z1h,z0s,z1j,z1i,z07,z06,z2b,z2a,z1k,z0t,z1m,z1l,z09,z08,z25,z24,z1b,z0q,z1d,z1c,z03,z02,z6m,z8h,z4z,z6l,z6k,z4w,z4y,z3s,z6j,z3p,z4f,z3n,z3q,z3r,z3o,z5p,z2t,z3h,z4n,z4l,z4a,z66,z65,z4m,z60,z61,z5z,z32,z2x,z33,z2y,z34,z2z,z35,z30,z36,z31,z7h,z7g,z3u,z5u,z3x,z7f,z5t,z43,z5s,cle,clt,cge,cgt,ceq,cne,lenN,xFor,xTryM,uMix,uEnum,uZip,ltT,uSortK,sortK,sortN,uDNew,uDGet,inN,setN,uDNewS,uDGetS,inS,setS,uDm,uDm0,getR,popS,setdS,getNR,setdN,popNR,itemsR,lenS,dictS,sortItR,uFld,uFst,uMake,uLock,uLockE,uKeys,sortE,sortL,xOp,reprT_1,listN,mulT,gLst_l,gLst_r,sum_l,sum_r,min_ii,max_ii,sortSD,pop1S,dictN,uD1,updN,exists_eq_left',exists_eq_left,Option.some.injEq,U.int.injEq,U.bl.injEq,U.str.injEq,U.ref.injEq,U.tup.injEq,U.lst.injEq,U.ty.injEq,List.cons.injEq,and_true,true_and,and_self,List.map_cons,List.map_nil,List.length_cons,List.length_nil,List.cons_append,List.nil_append,List.append_nil,List.getElem?_cons_zero,List.getElem?_cons_succ,List.set_cons_zero,List.set_cons_succ,List.replicate,↓reduceIte,Bool.false_eq_true,Bool.not_true,Bool.not_false,reduceCtorEq,Nat.reduceAdd,Nat.reduceSub,Nat.reduceLeDiff,Nat.reduceEqDiff,decide_true,decide_false,at0,at1,at2,at3,at4,ix0,ix1,ix2,ix3,ix4,updM_same,beq_self_eq_true,Option.bind,Option.map,wipeU,NT.put,puts,MO.lst.injEq,exists_and_left,decide_eq_true_eq,Bool.and_eq_true,Bool.or_eq_true,exists_eq',Nat.zero_le,true_or,or_true,hD8]
        exact fin _ M8 (by omega) (fun x hx => (hP x hx).mono (by decide) (by decide)) hD8 (hS8.le (by omega)) (hB13.trans hB8) r6

/-! ### _law_near_value -/
def sp__law_near_value : USp := fun us M Q _ => ∃ (s c : Addr) (n : Nat), us = [.ref s] ∧ Strm M s c (n + 260) ∧ ∀ y M', Dt 4 22000 y → Strm M' s c n → But s c M M' → Q y M'
theorem near_value_use {M : UHp} {Q : UK} {E : UXK} {s c : Addr} {n : Nat} (hS : Strm M s c (n + 260)) (h : ∀ y M', Dt 4 22000 y → Strm M' s c n → But s c M M' → Q y M') : sp__law_near_value [.ref s] M Q E := ⟨s, c, n, rfl, hS, h⟩
theorem ok__law_near_value (L : Lw K mg) : UFn P w K mg base CX0 9 L.f__law_near_value L.fd__law_near_value ["_law_stream"] (sp__law_near_value) := by
  refine ufn_ok L.D__law_near_value.F sc__law_near_value (fun us M Q E h => ?_) (fun cdv A outer s H E hr hG =>
      (uss_cons (us_set (i := 1) sc__law_near_value.nd rfl (.inl rfl) (ue_call (ok__law_draw L) (hr.mono (by decide)) hG rfl L.D__law_draw.g L.D__law_draw.F.kp L.D__law_draw.b .nil (fun _ => RelUs.nil) (ua_cons (uv 0) (ua_cons ue_int ua_nil))))
      (uss_cons (us_if (ut_cmp (uo_eq (hu6 hr)) (uv 1) ue_int (nomark _)) (uss_one (us_ret (ue_call (ok__law_value L) (hr.mono (by decide)) hG rfl L.D__law_value.g L.D__law_value.F.kp L.D__law_value.b .nil (fun _ => RelUs.nil) (ua_cons (uv 0) ua_nil)))) uss_nil)
      (uss_cons (us_if (ut_cmp (uo_eq (hu6 hr)) (uv 1) ue_int (nomark _)) (uss_one (us_ret (ue_call (ok__law_near_name L) (hr.mono (by decide)) hG rfl L.D__law_near_name.g L.D__law_near_name.F.kp L.D__law_near_name.b .nil (fun _ => RelUs.nil) (ua_cons (uv 0) ua_nil)))) uss_nil)
      (uss_cons (us_if (ut_cmp (uo_eq (hu6 hr)) (uv 1) ue_int (nomark _)) (uss_one (us_ret (ue_call (ok__law_thing L 2) (hr.mono (by decide)) hG rfl L.D__law_thing.g L.D__law_thing.F.kp L.D__law_thing.b .nil (fun _ => RelUs.nil) (ua_cons (uv 0) (ua_cons ue_int ua_nil))))) uss_nil)
      (uss_cons (us_if (ut_cmp (uo_eq (hu6 hr)) (uv 1) ue_int (nomark _)) (uss_one (us_ret (ue_ix (ue_lst false (ua_cons ue_bl (ua_cons ue_bl (ua_cons (ue_op uo_sub (ue_op uo_pow ue_int ue_int) ue_int) (ua_cons (ue_op uo_sub ue_int (ue_op uo_pow ue_int ue_int)) (ua_cons ue_int (ua_cons (ue_un uu_neg ue_int) ua_nil))))))) (ue_call (ok__law_draw L) (hr.mono (by decide)) hG rfl L.D__law_draw.g L.D__law_draw.F.kp L.D__law_draw.b .nil (fun _ => RelUs.nil) (ua_cons (uv 0) (ua_cons ue_int ua_nil)))))) uss_nil)
      (uss_cons (us_set (i := 2) sc__law_near_value.nd rfl (.inl rfl) (ue_lst true (ua_cons ue_str (ua_cons (ue_call (ok__law_near_path L) (hr.mono (by decide)) hG rfl L.D__law_near_path.g L.D__law_near_path.F.kp L.D__law_near_path.b .nil (fun _ => RelUs.nil) (ua_cons (uv 0) ua_nil)) ua_nil))))
      (uss_cons (us_if (ut_cmp (uo_eq (hu6 hr)) (uv 1) ue_int (nomark _)) (uss_one (us_asg (ue_ix (ue_lst false (ua_cons ue_str (ua_cons ue_str (ua_cons ue_str (ua_cons ue_non (ua_cons (ue_tup (ua_cons ue_str ua_nil)) (ua_cons ue_int ua_nil))))))) (ue_call (ok__law_draw L) (hr.mono (by decide)) hG rfl L.D__law_draw.g L.D__law_draw.F.kp L.D__law_draw.b .nil (fun _ => RelUs.nil) (ua_cons (uv 0) (ua_cons ue_int ua_nil)))) (ug_sub ui_set (uv 2) ue_int))) uss_nil)
      (uss_cons (us_if (ut_cmp (uo_eq (hu6 hr)) (uv 1) ue_int (nomark _)) (uss_one (us_expr (ue_bm PySem.F.plainAttrs_list PySem.F.slot_list_append PySem.F.type_list_append um_append (uv 2) (ua_cons (ue_ix (ue_lst false (ua_cons ue_non (ua_cons (ue_tup ua_nil) (ua_cons ue_str ua_nil)))) (ue_call (ok__law_draw L) (hr.mono (by decide)) hG rfl L.D__law_draw.g L.D__law_draw.F.kp L.D__law_draw.b .nil (fun _ => RelUs.nil) (ua_cons (uv 0) (ua_cons ue_int ua_nil)))) ua_nil)))) uss_nil)
      (uss_cons (us_if (ut_cmp (uo_eq (hu6 hr)) (uv 1) ue_int (nomark _)) (uss_one (us_expr (ue_bm PySem.F.plainAttrs_list PySem.F.slot_list_pop PySem.F.type_list_pop um_popAt (uv 2) (ua_cons (ue_call (ok__law_draw L) (hr.mono (by decide)) hG rfl L.D__law_draw.g L.D__law_draw.F.kp L.D__law_draw.b .nil (fun _ => RelUs.nil) (ua_cons (uv 0) (ua_cons ue_int ua_nil))) ua_nil)))) uss_nil)
      (uss_one (us_ret (ue_if (ut_cmp (uo_eq (hu6 hr)) (uv 1) ue_int (nomark _)) (uv 2) (ue_callTy uc_tuple (by rfl) L.n_tuple bt_tuple (ua_cons (uv 2) ua_nil))))))))))))))) (fun us M Q E h => ?_)
  · obtain ⟨s, c, n, rfl, _⟩ := h
    rfl
  · obtain ⟨s, c, n, rfl, hS, q⟩ := h
    have q1 : ∀ y M', Dt 4 22000 y → Strm M' s c n → But s c M M' → ZQ Q y M' := fun y M' h1 h2 h3 => .inl (q y M' h1 h2 h3)
    walk_at "q0"
    refine draw_use (n := n + 259) hS (by decide) (by decide) fun r M1 h0 h1 hS1 hB1 => ?_
    walk_at "q0"
    refine iteI (fun e0 => ?_) (fun e0 => ?_)
    · exact value_use (n := n) (hS1.le (by omega)) fun y M2 hy hS2 hB2 => q1 y M2 (hy.dt.mono (by decide) (by decide)) hS2 (hB1.trans hB2)
    refine iteI (fun e1 => ?_) (fun e1 => ?_)
    · exact near_name_use (n := n) (hS1.le (by omega)) fun z M2 hz hzo hS2 hB2 => q1 _ M2 ((Dt.str (n := 172) hzo (by omega)).mono (by decide) (by decide)) hS2 (hB1.trans hB2)
    refine iteI (fun e2 => ?_) (fun e2 => ?_)
    · exact thing_use (d := 2) (n := n) (hS1.le (by simp only [tC]; omega)) fun y M2 hy hS2 hB2 => q1 y M2 (hy.mono (by decide) (by decide)) hS2 (hB1.trans hB2)
    refine iteI (fun e3 => ?_) (fun e3 => ?_)
    · refine ⟨⟨by decide, by decide, by decide⟩, ⟨by decide, by decide, by decide⟩, line_le, ?_⟩
      refine draw_use (n := n) (hS1.le (by omega)) (by decide) (by decide) fun r2 M2 h2 h3 hS2 hB2 => ?_
      walk_at "q0"
      obtain ⟨v, e, hv⟩ := at_draw (xs := [.bl true, .bl false, .int (10 ^ Int.toNat 30 - 1), .int (1 - 10 ^ Int.toNat 30), .int 0, .int (-1)]) h2 h3
      exact ⟨v, e, q1 v M2 (Dt.ofs (by decide +kernel) v hv) hS2 (hB1.trans hB2)⟩
    refine near_path_use (n := n + 9) (hS1.le (by omega)) fun y M2 hy hS2 hB2 => ?_
    have hB02 := hB1.trans hB2
    refine ⟨line_le, fun D hD => ?_⟩
    obtain ⟨hs, hc⟩ := hS2.sp hD
    have hds : D ≠ s := Ne.symm hs
    have hdc : D ≠ c := Ne.symm hc
    have hM : M D = none := by
      cases z : M D with
      | none => rfl
      | some o => rw [hB02 D hds hdc o z] at hD; cases hD
    have hlk : Dt 3 7200 (.str "link") := Dt.of (by decide +kernel)
    have fin : ∀ (zs : List U) (M' : UHp), zs.length ≤ 3 → (∀ z ∈ zs, Dt 3 7200 z) → M' D = some (.lst zs) → Strm M' s c n → But s c M M' → ZQ Q (.ref D) M' ∧ ZQ Q (.tup zs) M' := by
      intro zs M' hz hd hDM hS' hB
      have hsz : zs.length * (7200 + 2) + 4 ≤ 22000 := by omega
      exact ⟨zq_f hDM (q _ _ (Dt.lst hd hsz) (hS'.del hs hc) (hB.del hM)), .inl (q _ _ (Dt.tup hd hsz) hS' hB)⟩
    have six : ∀ (zs : List U) (M' : UHp), 2 ≤ zs.length → zs.length ≤ 3 → (∀ z ∈ zs, Dt 3 7200 z) → M' D = some (.lst zs) → Strm M' s c (n + 1) → But s c M M' →
        sp__law_draw [.ref s, .int 2] M' (fun x M1 => popR (U.ref D) [x] M1 fun x M1 => if (r == 7) = true then ZQ Q (.ref D) M1 else ∃ ys, refL (M1 D) = some ys ∧ ZQ Q (.tup ys) M1) EU0 := by
      intro zs M' hz2 hz hd hDM hS' hB
      refine draw_use hS' (by decide) (by decide) fun r2 M3 h2 h3 hS3 hB3 => ?_
      have hD3 := hB3 D hds hdc _ hDM
      have hlt : r2.toNat < zs.length := by omega
      refine ⟨zs, r2.toNat, zs[r2.toNat], hD3, by omega, ?_, List.getElem?_eq_getElem hlt, ?_⟩
      · unfold ixN; rw [if_pos h2, if_pos (by omega)]
      have hd' : ∀ z ∈ zs.eraseIdx r2.toNat, Dt 3 7200 z := fun z hz => hd z (List.mem_of_mem_eraseIdx hz)
      have hl' : (zs.eraseIdx r2.toNat).length ≤ 3 := by rw [List.length_eraseIdx]; split <;> omega
      have f := fin _ (updM M3 D (.lst (zs.eraseIdx r2.toNat))) hl' hd' updM_same (hS3.upd hs hc) ((hB.trans hB3).upd hM)
      exact iteI (fun _ => f.1) (fun _ => ⟨_, by rw [updM_same]; rfl, f.2⟩)
    have two : ∀ z ∈ [U.str "link", y], Dt 3 7200 z := fun z hz => by
      simp only [List.mem_cons,List.not_mem_nil,or_false] at hz
      rcases hz with rfl | rfl
      · exact hlk
      · exact hy
    have hS2' := hS2.upd (o := .lst [.str "link", y]) hs hc
    have hB2' := hB02.upd (o := .lst [.str "link", y]) hM
    refine iteI (fun e4 => ?_) (fun e4 => ?_)
    · have r4 : r = 4 := by simpa using e4
      subst r4
      refine ⟨line_le, line_le, draw_use (n := n + 8) hS2' (by decide) (by decide) fun r2 M3 h2 h3 hS3 hB3 => ?_⟩
      walk_at "q0"
      obtain ⟨v, e, hv⟩ := at_draw (xs := [.str "Link", .str "links", .str "", .non, .tup [.str "link"], .int 0]) h2 h3
      have hvd : Dt 3 7200 v := Dt.ofs (by decide +kernel) v hv
      have hD3 := hB3 D hds hdc _ updM_same
      refine ⟨_, e, [.str "link", y], hD3, 0, by simp [ixN], ?_⟩
      have t3 : ∀ z ∈ [v, y], Dt 3 7200 z := fun z hz => by
        simp only [List.mem_cons,List.not_mem_nil,or_false] at hz
        rcases hz with rfl | rfl
        · exact hvd
        · exact hy
      have f := fin [v, y] (updM M3 D (.lst [v, y])) (by simp) t3 updM_same ((hS3.le (by omega)).upd hs hc) ((hB2'.trans hB3).upd hM)
      exact iteF (by decide) (iteF (by decide) (iteF (by decide) f.2))
    refine iteI (fun e5 => ?_) (fun e5 => ?_)
    · have r5 : r = 5 := by simpa using e5
      subst r5
      refine ⟨line_le, draw_use (n := n + 8) hS2' (by decide) (by decide) fun r2 M3 h2 h3 hS3 hB3 => ?_⟩
      walk_at "q0"
      obtain ⟨v, e, hv⟩ := at_draw (xs := [.non, .tup [], .str "a"]) h2 h3
      have hvd : Dt 3 7200 v := Dt.ofs (by decide +kernel) v hv
      have hD3 := hB3 D hds hdc _ updM_same
      refine ⟨_, e, [.str "link", y], hD3, line_lt (by simp), ?_⟩
      have t3 : ∀ z ∈ [.str "link", y] ++ [v], Dt 3 7200 z := fun z hz => by
        rcases List.mem_append.mp hz with hz | hz
        · exact two z hz
        · rw [List.mem_singleton.mp hz]; exact hvd
      have f := fin _ (updM M3 D (.lst ([.str "link", y] ++ [v]))) (by simp) t3 updM_same ((hS3.le (by omega)).upd hs hc) ((hB2'.trans hB3).upd hM)
      exact iteF (by decide) (iteF (by decide) f.2)
    have f := fin _ (updM M2 D (.lst [.str "link", y])) (by simp) two updM_same (hS2'.le (by omega)) hB2'
    exact iteI (fun e6 => six _ _ (by simp) (by simp) two updM_same (hS2'.le (by omega)) hB2') (fun e6 => iteI (fun _ => f.1) (fun _ => f.2))

/-! ### _law_some_names -/

theorem low_word {z : Str} (h1 : 1 ≤ z.length) (h2 : z.length ≤ 8) (h : ∀ d ∈ z.cps.toList, 97 ≤ d ∧ d ≤ 122) : isNameU (.str z) = true := by
  simp only [isNameU,Bool.and_eq_true,decide_eq_true_eq]
  refine ⟨h1, h2, List.all_eq_true.mpr fun d hd => ?_⟩
  have all : ∀ d, 97 ≤ d ∧ d ≤ 122 → isLow d = true := by
    have : (List.range 26).all (fun i => isLow (97 + i)) = true := by decide +kernel
    intro d hd
    have q := List.all_eq_true.mp this (d - 97) (List.mem_range.mpr (by omega))
    rwa [show 97 + (d - 97) = d by omega] at q
  exact all d (h d hd)
theorem VlU.val {y : U} (h : VlU y) : isValueU y = true := by
  rcases h with ⟨i, rfl, h⟩ | rfl | rfl | ⟨p, rfl, h1, h2⟩
  · rfl
  · decide +kernel
  · decide +kernel
  · have : isPathU (.tup p) = true := by
      simp only [isPathU,Bool.and_eq_true,decide_eq_true_eq]
      refine ⟨by omega, List.all_eq_true.mpr fun x hx => ?_⟩
      rcases h2 x hx with rfl | rfl | rfl <;> decide +kernel
    simp only [isValueU,isIntU,isNameU,isLinkU,this,Bool.false_or,Bool.and_true]
    decide +kernel
/-- a name that is drawn -/
def WordU (w : Str) : Prop := isNameU (.str w) = true ∧ okS w = true ∧ w.length ≤ 8
theorem WordU.dt {w : Str} (h : WordU w) : Dt 0 82 (.str w) := Dt.str h.2.1 (by have := h.2.2; omega)
theorem word_of {z : Str} {m : Nat} (h1 : z.length = m) (h0 : 1 ≤ m) (hm : m ≤ 8) (h2 : ∀ d ∈ z.cps.toList, 97 ≤ d ∧ d ≤ 122) : WordU z :=
  ⟨low_word (by omega) (by omega) h2, okS_iff.mpr ⟨line_le (by omega), fun d hd => by have := h2 d hd; omega⟩, by omega⟩
def sp__law_some_names : USp := fun us M Q _ => ∃ (s c : Addr) (n many : Nat), us = [.ref s, .int many] ∧ many ≤ 60 ∧ Strm M s c (n + 10 * many) ∧
  ∀ (ws : List Str) M', ws.length ≤ many → (∀ w ∈ ws, WordU w) → ws.Pairwise slt → Strm M' s c n → But s c M M' → Q (.lst (ws.map .str)) M'
theorem names_use {M : UHp} {Q : UK} {E : UXK} {s c : Addr} {n many : Nat} (hm : many ≤ 60) (hS : Strm M s c (n + 10 * many)) (h : ∀ (ws : List Str) M', ws.length ≤ many → (∀ w ∈ ws, WordU w) → ws.Pairwise slt → Strm M' s c n → But s c M M' → Q (.lst (ws.map .str)) M') : sp__law_some_names [.ref s, .int many] M Q E := ⟨s, c, n, many, rfl, hm, hS, h⟩
theorem ok__law_some_names (L : Lw K mg) : UFn P w K mg base CX0 3 L.f__law_some_names L.fd__law_some_names ["_law_stream", "_law_many"] (sp__law_some_names) := by
  refine ufn_ok L.D__law_some_names.F sc__law_some_names (fun us M Q E h => ?_) (fun cdv A outer s H E hr hG =>
      (uss_cons (us_set (i := 2) sc__law_some_names.nd rfl (.inl rfl) (ue_lst true ua_nil))
      (uss_cons (us_for PassesOwn.never rfl (ui_range1 (by rfl) L.n_range (ua_cons (uv 1) ua_nil)) (ug_name (i := 3) sc__law_some_names.nd rfl (.inl rfl)) (uss_cons (us_set (i := 4) sc__law_some_names.nd rfl (.inl rfl) (ue_call (ok__law_letters L) (hr.mono (by decide)) hG rfl L.D__law_letters.g L.D__law_letters.F.kp L.D__law_letters.b .nil (fun _ => RelUs.nil) (ua_cons (uv 0) (ua_cons (ue_ix (ue_lst false (ua_cons ue_int (ua_cons ue_int (ua_cons ue_int (ua_cons ue_int ua_nil))))) (ue_call (ok__law_draw L) (hr.mono (by decide)) hG rfl L.D__law_draw.g L.D__law_draw.F.kp L.D__law_draw.b .nil (fun _ => RelUs.nil) (ua_cons (uv 0) (ua_cons ue_int ua_nil)))) ua_nil))))
      (uss_one (us_expr (ue_bm PySem.F.plainAttrs_list PySem.F.slot_list_extend PySem.F.type_list_extend um_extend (uv 2) (ua_cons (ue_op (uo_mul true true) (ue_lst true (ua_cons (uv 4) ua_nil)) (ue_callTy uc_int2 (by rfl) L.n_int bt_int (ua_cons (ue_cmp (uo_notin (hu2 hr)) (uv 4) (uv 2) (by rfl)) ua_nil))) ua_nil))))))
      (uss_one (us_ret (ue_callB (uc_sorted false) (by rfl) L.n_sorted bt_sorted (ua_cons (uv 2) ua_nil))))))) (fun us M Q E h => ?_)
  · obtain ⟨s, c, n, many, rfl, _⟩ := h
    rfl
  · obtain ⟨s, c, n, many, rfl, hm, hS, q⟩ := h
    walk_at "q0"
    intro F hF
    obtain ⟨h1, h2⟩ := hS.sp hF
    simp only [uFor,uRng1,z8i,uOr,z8d,z8m,uCB,z7t,z8l,uC,z8o,z7w,uOp,uUn,z8s,z8j,uIf,z8e,z7v,z7u,z7s,uBM,z8g,uSl,z4x,z8r,z72,z8q,z7x,List.append_nil,z8t,z80,z8y,z7z,z8u,z81,z8w,z8v,xIf,z74,z8x,z8p,z3t,z8n,z7m,z7q,z7o,z7p,z5w,z5v,z7a,z3l,z3m,z75,z5g,z8k,asD,uXf,z8f,z5n,z7y,z6e,z6d,z68,z67,z63,z5h,z5i,z5j,z3v,z3w,z6f,z64,z62,z5r,z6b,z7j,z7k,z7i,z7c,z7b,z7l,z7e,z5o,z2m,z2w,z2k,z2o,z2p,z2l,z2n,z5c,z73,z5a,z5e,z5f,z5b,z3g,z5d,z3e,z2q,z2r,z3i,z3k,z3j,z39,z3a,z37,z38,z4q,z6h,z4o,z4s,z4t,z4p,z3f,z4r,z4e,z4d,z3b,z2s,z3d,z3c,z0h,z0g,z0d,z0a,z0f,z0e,z1o,z1n,z0u,z0j,z0w,z0v,z2d,z2c,z1r,z10,z1t,z1s,z2f,z2e,z1w,z14,z1y,z1x,z16,z15,z0m,z0i,z0o,z0n,z1v,z1u,z11,z0l,z13,z12,z1q,z1p,z0x,z0k,z0z,z0y,z4i,z6g,z4g,z4j,z4k,z4h,z82,z88,z46,z5x,z44,z47,z48,z45,z2v,z2j,z40,z5q,z3y,z41,z42,z3z,z2u,z2i,z6y,z70,z6x,z71,z6z,z59,z56,z57,z58,z87,z86,z7r,z79,z7n,z7d,z5y,z76,z77,z6c,z69,z6a,z8b,z8c,z89,z8a,z85,z83,z84,z4v,z4u,z6i,z78,z5m,z5l,z5k,z6n,z6o,z6p,z6q,z6r,z6s,z6t,z6u,z6v,z6w,z50,z51,z52,z53,z54,z55,z4b,z4c,z49,z27,z26,z1e,z0r,z1g,z1f,z05,z04,z2h,z2g,z1z,z17,z21,z20,z0c,z0b,z23,z22,z18,z0p,z1a,z19,z01,z00,z29,z28,z1h,z0s,z1j,z1i,z07,z06,z2b,z2a,z1k,z0t,z1m,z1l,z09,z08,z25,z24,z1b,z0q,z1d,z1c,z03,z02,z6m,z8h,z4z,z6l,z6k,z4w,z4y,z3s,z6j,z3p,z4f,z3n,z3q,z3r,z3o,z5p,z2t,z3h,z4n,z4l,z4a,z66,z65,z4m,z60,z61,z5z,z32,z2x,z33,z2y,z34,z2z,z35,z30,z36,z31,z7h,z7g,z3u,z5u,z3x,z7f,z5t,z43,z5s,cle,clt,cge,cgt,ceq,cne,lenN,xFor,xTryM,uMix,uEnum,uZip,ltT,uSortK,sortK,sortN,uDNew,uDGet,inN,setN,uDNewS,uDGetS,inS,setS,uDm,uDm0,getR,popS,setdS,getNR,setdN,popNR,itemsR,lenS,dictS,sortItR,uFld,uFst,uMake,uLock,uLockE,uKeys,sortE,sortL,xOp,reprT_1,listN,mulT,gLst_l,gLst_r,sum_l,sum_r,min_ii,max_ii,sortSD,pop1S,dictN,uD1,updN,exists_eq_left',exists_eq_left,Option.some.injEq,U.int.injEq,U.bl.injEq,U.str.injEq,U.ref.injEq,U.tup.injEq,U.lst.injEq,U.ty.injEq,List.cons.injEq,and_true,true_and,and_self,List.map_cons,List.map_nil,List.length_cons,List.length_nil,List.cons_append,List.nil_append,List.append_nil,List.getElem?_cons_zero,List.getElem?_cons_succ,List.set_cons_zero,List.set_cons_succ,List.replicate,↓reduceIte,Bool.false_eq_true,Bool.not_true,Bool.not_false,reduceCtorEq,Nat.reduceAdd,Nat.reduceSub,Nat.reduceLeDiff,Nat.reduceEqDiff,decide_true,decide_false,at0,at1,at2,at3,at4,ix0,ix1,ix2,ix3,ix4,updM_same,beq_self_eq_true,Option.bind,Option.map,wipeU,NT.put,puts,MO.lst.injEq,exists_and_left,decide_eq_true_eq,Bool.and_eq_true,Bool.or_eq_true,exists_eq',Nat.zero_le,true_or,or_true]
    refine ⟨by omega, by omega, line_le (by omega), ?_⟩
    refine for_inv (fun i σ M' => ∃ (o3 o4 : Option U) (ws : List Str), σ = [some (U.ref s), some (U.int many), some (U.ref F), o3, o4] ∧ M' F = some (.lst (ws.map .str)) ∧ ws.length ≤ i ∧ (∀ w ∈ ws, WordU w) ∧ ws.Nodup ∧ i ≤ many ∧ Strm M' s c (n + 10 * (many - i)) ∧ But s c M M') _ (fun _ _ _ _ => True.intro) ?_ ?_
      ⟨_, _, [], rfl, updM_same, Nat.le_refl _, by simp, List.nodup_nil, Nat.zero_le _, hS.upd h1 h2, But.refl.upd hF⟩
    · rintro i x σ M1 N hx ⟨o3, o4, ws, rfl, hF1, hl, hw, hnd, hi, hS1, hB1⟩ hN
      have hlt : i < many := by have := (List.getElem?_eq_some_iff.mp hx).1; rw [range_len] at this; omega
      rw [show 10 * (many - i) = (10 * (many - (i + 1)) + 9) + 1 by omega, ← Nat.add_assoc] at hS1
      walk_at "q0"
      refine ⟨line_le, draw_use hS1 (by decide) (by decide) fun r M2 h3 h4 hS2 hB2 => ?_⟩
      walk_at "q0"
      obtain ⟨v, e, hv⟩ := at_draw (xs := [.int 1, .int 1, .int 2, .int 8]) h3 h4
      obtain ⟨m, rfl, hm0, hm8⟩ : ∃ m : Nat, v = .int m ∧ 1 ≤ m ∧ m ≤ 8 := by
        simp only [List.mem_cons,List.not_mem_nil,or_false] at hv
        rcases hv with rfl | rfl | rfl | rfl
        · exact ⟨1, rfl, by decide, by decide⟩
        · exact ⟨1, rfl, by decide, by decide⟩
        · exact ⟨2, rfl, by decide, by decide⟩
        · exact ⟨8, rfl, by decide, by decide⟩
      refine ⟨_, e, s, c, n + 10 * (many - (i + 1)) + 1, m, rfl, by omega, hS2.le (by omega), fun z M3 hz hc hS3 hB3 => ?_⟩
      have wz := word_of hz hm0 hm8 hc
      have hF3 := hB3 F (Ne.symm h1) (Ne.symm h2) _ (hB2 F (Ne.symm h1) (Ne.symm h2) _ hF1)
      simp only [z8i,uOr,z8d,z8m,uCB,z7t,z8l,uC,z8o,z7w,uOp,uUn,z8s,z8j,uIf,z8e,z7v,z7u,z7s,uBM,z8g,uSl,z4x,z8r,z72,z8q,z7x,List.append_nil,z8t,z80,z8y,z7z,z8u,z81,z8w,z8v,xIf,z74,z8x,z8p,z3t,z8n,z7m,z7q,z7o,z7p,z5w,z5v,z7a,z3l,z3m,z75,z5g,z8k,asD,uXf,z8f,z5n,z7y,z6e,z6d,z68,z67,z63,z5h,z5i,z5j,z3v,z3w,z6f,z64,z62,z5r,z6b,z7j,z7k,z7i,z7c,z7b,z7l,z7e,z5o,z2m,z2w,z2k,z2o,z2p,z2l,z2n,z5c,z73,z5a,z5e,z5f,z5b,z3g,z5d,z3e,z2q,z2r,z3i,z3k,z3j,z39,z3a,z37,z38,z4q,z6h,z4o,z4s,z4t,z4p,z3f,z4r,z4e,z4d,z3b,z2s,z3d,z3c,z0h,z0g,z0d,z0a,z0f,z0e,z1o,z1n,z0u,z0j,z0w,z0v,z2d,z2c,z1r,z10,z1t,z1s,z2f,z2e,z1w,z14,z1y,z1x,z16,z15,z0m,z0i,z0o,z0n,z1v,z1u,z11,z0l,z13,z12,z1q,z1p,z0x,z0k,z0z,z0y,z4i,z6g,z4g,z4j,z4k,z4h,z82,z88,z46,z5x,z44,z47,z48,z45,z2v,z2j,z40,z5q,z3y,z41,z42,z3z,z2u,z2i,z6y,z70,z6x,z71,z6z,z59,z56,z57,z58,z87,z86,z7r,z79,z7n,z7d,z5y,z76,z77,z6c,z69,z6a,z8b,z8c,z89,z8a,z85,z83,z84,z4v,z4u,z6i,z78,z5m,z5l,z5k,z6n,z6o,z6p,z6q,z6r,z6s,z6t,z6u,z6v,z6w,z50,z51,z52,z53,z54,z55,z4b,z4c,z49,z27,z26,z1e,z0r,z1g,z1f,z05,z04,z2h,z2g,z1z,z17,z21,z20,z0c,z0b,z23,z22,z18,z0p,z1a,z19,z01,z00,z29,z28,z1h,z0s,z1j,z1i,z07,z06,z2b,z2a,z1k,z0t,z1m,z1l,z09,z08,z25,z24,z1b,z0q,z1d,z1c,z03,z02,z6m,z8h,z4z,z6l,z6k,z4w,z4y,z3s,z6j,z3p,z4f,z3n,z3q,z3r,z3o,z5p,z2t,z3h,z4n,z4l,z4a,z66,z65,z4m,z60,z61,z5z,z32,z2x,z33,z2y,z34,z2z,z35,z30,z36,z31,z7h,z7g,z3u,z5u,z3x,z7f,z5t,z43,z5s,cle,clt,cge,cgt,ceq,cne,lenN,xFor,xTryM,uMix,uEnum,uZip,ltT,uSortK,sortK,sortN,uDNew,uDGet,inN,setN,uDNewS,uDGetS,inS,setS,uDm,uDm0,getR,popS,setdS,getNR,setdN,popNR,itemsR,lenS,dictS,sortItR,uFld,uFst,uMake,uLock,uLockE,uKeys,sortE,sortL,xOp,reprT_1,listN,mulT,gLst_l,gLst_r,sum_l,sum_r,min_ii,max_ii,sortSD,pop1S,dictN,uD1,updN,exists_eq_left',exists_eq_left,Option.some.injEq,U.int.injEq,U.bl.injEq,U.str.injEq,U.ref.injEq,U.tup.injEq,U.lst.injEq,U.ty.injEq,List.cons.injEq,and_true,true_and,and_self,List.map_cons,List.map_nil,List.length_cons,List.length_nil,List.cons_append,List.nil_append,List.append_nil,List.getElem?_cons_zero,List.getElem?_cons_succ,List.set_cons_zero,List.set_cons_succ,List.replicate,↓reduceIte,Bool.false_eq_true,Bool.not_true,Bool.not_false,reduceCtorEq,Nat.reduceAdd,Nat.reduceSub,Nat.reduceLeDiff,Nat.reduceEqDiff,decide_true,decide_false,at0,at1,at2,at3,at4,ix0,ix1,ix2,ix3,ix4,updM_same,beq_self_eq_true,Option.bind,Option.map,wipeU,NT.put,puts,MO.lst.injEq,exists_and_left,decide_eq_true_eq,Bool.and_eq_true,Bool.or_eq_true,exists_eq',Nat.zero_le,true_or,or_true,hF3,isDs_strs (fun w h => (hw w h).2.1),wz.2.1]
      refine ⟨line_le, fun p hp => ⟨_, ?_, isDs_strs (fun w h => (hw w h).2.1), ?_⟩⟩
      · have : F ≠ p := fun e => by rw [e] at hF3; rw [hF3] at hp; cases hp
        rw [updM_ne this]; exact hF3
      rw [delM_upd hp]
      have key : ∀ k : Int, (k = 0 ∨ (k = 1 ∧ z ∉ ws)) → -2 ^ 63 ≤ k ∧ k < 2 ^ 63 ∧ 1 * k.toNat ≤ sizeLine ∧ ∀ p1, M3 p1 = none → ∃ ys, updM M3 p1 (.lst (List.replicate k.toNat [U.str z]).flatten) F = some (.lst ys) ∧ ys.length + (List.replicate k.toNat [U.str z]).flatten.length ≤ sizeLine ∧
          N [some (U.ref s), some (U.int ↑many), some (U.ref F), some x, some (U.str z)] (updM (updM M3 p1 (.lst (List.replicate k.toNat [U.str z]).flatten)) F (.lst (ys ++ (List.replicate k.toNat [U.str z]).flatten))) := by
        intro k hk
        refine ⟨by omega, by omega, line_le (by omega), fun p1 hp1 => ⟨ws.map .str, ?_, line_le ?_, ?_⟩⟩
        · have : F ≠ p1 := fun e => by rw [e] at hF3; rw [hF3] at hp1; cases hp1
          rw [updM_ne this]; exact hF3
        · rcases hk with rfl | ⟨rfl, hnz⟩ <;> simp <;> omega
        · obtain ⟨g1, g2⟩ := hS3.sp hp1
          have B : But s c M (updM M3 p1 (.lst (List.replicate k.toNat [U.str z]).flatten)) := ((hB1.trans hB2).trans hB3).trans (But.refl.upd hp1)
          refine hN _ _ ⟨_, _, ws ++ List.replicate k.toNat z, rfl, ?_, ?_, ?_, ?_, hlt, ((hS3.le (by omega)).upd g1 g2).upd h1 h2, B.upd hF⟩
          · rw [updM_same]
            rcases hk with rfl | ⟨rfl, hnz⟩ <;> simp
          · rw [List.length_append, List.length_replicate]
            rcases hk with rfl | ⟨rfl, hnz⟩ <;> simp <;> omega
          · intro w hw2
            rcases List.mem_append.mp hw2 with h | h
            · exact hw w h
            · rw [(List.mem_replicate.mp h).2]; exact wz
          · rcases hk with rfl | ⟨rfl, hnz⟩
            · simpa using hnd
            · show (ws ++ [z]).Nodup
              exact List.nodup_append.mpr ⟨hnd, List.nodup_cons.mpr ⟨List.not_mem_nil, List.nodup_nil⟩, fun a ha b hb e => hnz (by rw [← List.mem_singleton.mp hb, ← e]; exact ha)⟩
      refine key _ ?_
      cases hu : inU (U.str z) (ws.map .str) with
      | true => exact .inl (by simp)
      | false =>
        refine .inr ⟨by simp, fun hm => ?_⟩
        have : inU (U.str z) (ws.map .str) = true := List.any_eq_true.mpr ⟨_, List.mem_map.mpr ⟨z, hm, rfl⟩, by simp [ueq]⟩
        rw [hu] at this
        cases this
    · rintro σ M1 ⟨o3, o4, ws, rfl, hF1, hl, hw, hnd, hi, hS1, hB1⟩
      rw [range_len] at hl
      replace hS1 := hS1.le (m := n) (Nat.le_add_right _ _)
      simp only [z8i,uOr,z8d,z8m,uCB,z7t,z8l,uC,z8o,z7w,uOp,uUn,z8s,z8j,uIf,z8e,z7v,z7u,z7s,uBM,z8g,uSl,z4x,z8r,z72,z8q,z7x,List.append_nil,z8t,z80,z8y,z7z,z8u,z81,z8w,z8v,xIf,z74,z8x,z8p,z3t,z8n,z7m,z7q,z7o,z7p,z5w,z5v,z7a,z3l,z3m,z75,z5g,z8k,asD,uXf,z8f,z5n,z7y,z6e,z6d,z68,z67,z63,z5h,z5i,z5j,z3v,z3w,z6f,z64,z62,z5r,z6b,z7j,z7k,z7i,z7c,z7b,z7l,z7e,z5o,z2m,z2w,z2k,z2o,z2p,z2l,z2n,z5c,z73,z5a,z5e,z5f,z5b,z3g,z5d,z3e,z2q,z2r,z3i,z3k,z3j,z39,z3a,z37,z38,z4q,z6h,z4o,z4s,z4t,z4p,z3f,z4r,z4e,z4d,z3b,z2s,z3d,z3c,z0h,z0g,z0d,z0a,z0f,z0e,z1o,z1n,z0u,z0j,z0w,z0v,z2d,z2c,z1r,z10,z1t,z1s,z2f,z2e,z1w,z14,z1y,z1x,z16,z15,z0m,z0i,z0o,z0n,z1v,z1u,z11,z0l,z13,z12,z1q,z1p,z0x,z0k,z0z,z0y,z4i,z6g,z4g,z4j,z4k,z4h,z82,z88,z46,z5x,z44,z47,z48,z45,z2v,z2j,z40,z5q,z3y,z41,z42,z3z,z2u,z2i,z6y,z70,z6x,z71,z6z,z59,z56,z57,z58,z87,z86,z7r,z79,z7n,z7d,z5y,z76,z77,z6c,z69,z6a,z8b,z8c,z89,z8a,z85,z83,z84,z4v,z4u,z6i,z78,z5m,z5l,z5k,z6n,z6o,z6p,z6q,z6r,z6s,z6t,z6u,z6v,z6w,z50,z51,z52,z53,z54,z55,z4b,z4c,z49,z27,z26,z1e,z0r,z1g,z1f,z05,z04,z2h,z2g,z1z,z17,z21,z20,z0c,z0b,z23,z22,z18,z0p,z1a,z19,z01,z00,z29,z28,z1h,z0s,z1j,z1i,z07,z06,z2b,z2a,z1k,z0t,z1m,z1l,z09,z08,z25,z24,z1b,z0q,z1d,z1c,z03,z02,z6m,z8h,z4z,z6l,z6k,z4w,z4y,z3s,z6j,z3p,z4f,z3n,z3q,z3r,z3o,z5p,z2t,z3h,z4n,z4l,z4a,z66,z65,z4m,z60,z61,z5z,z32,z2x,z33,z2y,z34,z2z,z35,z30,z36,z31,z7h,z7g,z3u,z5u,z3x,z7f,z5t,z43,z5s,cle,clt,cge,cgt,ceq,cne,lenN,xFor,xTryM,uMix,uEnum,uZip,ltT,uSortK,sortK,sortN,uDNew,uDGet,inN,setN,uDNewS,uDGetS,inS,setS,uDm,uDm0,getR,popS,setdS,getNR,setdN,popNR,itemsR,lenS,dictS,sortItR,uFld,uFst,uMake,uLock,uLockE,uKeys,sortE,sortL,xOp,reprT_1,listN,mulT,gLst_l,gLst_r,sum_l,sum_r,min_ii,max_ii,sortSD,pop1S,dictN,uD1,updN,exists_eq_left',exists_eq_left,Option.some.injEq,U.int.injEq,U.bl.injEq,U.str.injEq,U.ref.injEq,U.tup.injEq,U.lst.injEq,U.ty.injEq,List.cons.injEq,and_true,true_and,and_self,List.map_cons,List.map_nil,List.length_cons,List.length_nil,List.cons_append,List.nil_append,List.append_nil,List.getElem?_cons_zero,List.getElem?_cons_succ,List.set_cons_zero,List.set_cons_succ,List.replicate,↓reduceIte,Bool.false_eq_true,Bool.not_true,Bool.not_false,reduceCtorEq,Nat.reduceAdd,Nat.reduceSub,Nat.reduceLeDiff,Nat.reduceEqDiff,decide_true,decide_false,at0,at1,at2,at3,at4,ix0,ix1,ix2,ix3,ix4,updM_same,beq_self_eq_true,Option.bind,Option.map,wipeU,NT.put,puts,MO.lst.injEq,exists_and_left,decide_eq_true_eq,Bool.and_eq_true,Bool.or_eq_true,exists_eq',Nat.zero_le,true_or,or_true,hF1,strs_ones]
      refine ⟨by omega, fun ys pm hs => .inl (q ys M1 (by rw [pm.length_eq]; omega) (fun w h => hw w (pm.mem_iff.mp h)) (sorted_slt hs (pm.nodup_iff.mpr hnd)) hS1 hB1)⟩

/-! ### _law_is_tree -/
/-- named pairs that ascend from a name on -/
def ascF : Str → List U → Bool
  | _, [] => true
  | z, p :: r => pairU p && (decide (slt z (nameOf p)) && ascF (nameOf p) r)
theorem ascF_iff : ∀ (ps : List U) (z : Str), ascF z ps = true ↔ ps.all pairU = true ∧ (z :: ps.map nameOf).Pairwise slt
  | [], z => by simp [ascF]
  | p :: r, z => by
    simp only [ascF,Bool.and_eq_true,decide_eq_true_eq,ascF_iff r,List.all_cons,List.map_cons]
    constructor
    · rintro ⟨h1, h2, h3, h4⟩
      refine ⟨⟨h1, h3⟩, List.pairwise_cons.mpr ⟨fun y hy => ?_, h4⟩⟩
      rcases List.mem_cons.mp hy with rfl | hy
      · exact h2
      · exact slt_trans h2 ((List.pairwise_cons.mp h4).1 y hy)
    · rintro ⟨⟨h1, h3⟩, h4⟩
      obtain ⟨a, b⟩ := List.pairwise_cons.mp h4
      exact ⟨h1, a _ List.mem_cons_self, h3, b⟩
theorem nil_slt {p : U} (h : pairU p = true) : slt "" (nameOf p) := by
  obtain ⟨z, b, rfl, hz⟩ := pair_is h
  simp only [isNameU,Bool.and_eq_true,decide_eq_true_eq] at hz
  have h1 := hz.1
  show ("" : Str).cps.toList < z.cps.toList
  rw [str_len] at h1
  have e : ("" : Str).cps.toList = [] := rfl
  rw [e]
  cases hl : z.cps.toList with
  | nil => rw [hl] at h1; simp at h1
  | cons c r => exact List.nil_lt_cons ..
theorem ascF_part (ps : List U) : ascF "" ps = partU (.tup ps) := by
  rw [Bool.eq_iff_iff, ascF_iff]
  simp only [partU,ascL,Bool.and_eq_true,decide_eq_true_eq]
  constructor
  · rintro ⟨h1, h2⟩
    exact ⟨h1, (List.pairwise_cons.mp h2).2⟩
  · rintro ⟨h1, h2⟩
    refine ⟨h1, List.pairwise_cons.mpr ⟨fun y hy => ?_, h2⟩⟩
    obtain ⟨p, hp, rfl⟩ := List.mem_map.mp hy
    exact nil_slt (List.all_eq_true.mp h1 p hp)
def sp__law_is_tree (l : Nat) : USp := fun us M Q _ => ∃ x, us = [x, .int ((l : Int) - 1)] ∧ okR x ∧ Q (.bl (treeN l x)) M
theorem okR.mem {x : U} {xs : List U} (ok : okR (.tup xs)) (h : x ∈ xs) : okR x := by
  obtain ⟨h1, h2, h3, h4⟩ := ok
  simp only [isD,shw,dep,sz] at h1 h2 h3 h4
  have := mem_szs h
  exact ⟨isDs_iff.mp h1 x h, shws_iff.mp h2 x h, deps_le.mp (by omega : deps xs ≤ 150) x h, by omega⟩
local macro_rules | `(tactic| walk_at "q4") => `(tactic| simp only [uFor,z8i,uOr,z8d,z8m,uCB,z7t,z8l,uC,z8o,z7w,uOp,uUn,z8s,z8j,uIf,z8e,z7v,z7u,z7s,uBM,z8g,uSl,z4x,z8r,z72,z8q,z7x,List.append_nil,z8t,z80,z8y,z7z,z8u,z81,z8w,z8v,xIf,z74,z8x,z8p,z3t,z8n,z7m,z7q,z7o,z7p,z5w,z5v,z7a,z3l,z3m,z75,z5g,z8k,asD,uXf,z8f,z5n,z7y,z6e,z6d,z68,z67,z63,z5h,z5i,z5j,z3v,z3w,z6f,z64,z62,z5r,z6b,z7j,z7k,z7i,z7c,z7b,z7l,z7e,z5o,z2m,z2w,z2k,z2o,z2p,z2l,z2n,z5c,z73,z5a,z5e,z5f,z5b,z3g,z5d,z3e,z2q,z2r,z3i,z3k,z3j,z39,z3a,z37,z38,z4q,z6h,z4o,z4s,z4t,z4p,z3f,z4r,z4e,z4d,z3b,z2s,z3d,z3c,z0h,z0g,z0d,z0a,z0f,z0e,z1o,z1n,z0u,z0j,z0w,z0v,z2d,z2c,z1r,z10,z1t,z1s,z2f,z2e,z1w,z14,z1y,z1x,z16,z15,z0m,z0i,z0o,z0n,z1v,z1u,z11,z0l,z13,z12,z1q,z1p,z0x,z0k,z0z,z0y,z4i,z6g,z4g,z4j,z4k,z4h,z82,z88,z46,z5x,z44,z47,z48,z45,z2v,z2j,z40,z5q,z3y,z41,z42,z3z,z2u,z2i,z6y,z70,z6x,z71,z6z,z59,z56,z57,z58,z87,z86,z7r,z79,z7n,z7d,z5y,z76,z77,z6c,z69,z6a,z8b,z8c,z89,z8a,z85,z83,z84,z4v,z4u,z6i,z78,z5m,z5l,z5k,z6n,z6o,z6p,z6q,z6r,z6s,z6t,z6u,z6v,z6w,z50,z51,z52,z53,z54,z55,z4b,z4c,z49,z27,z26,z1e,z0r,z1g,z1f,z05,z04,z2h,z2g,z1z,z17,z21,z20,z0c,z0b,z23,z22,z18,z0p,z1a,z19,z01,z00,z29,z28,z1h,z0s,z1j,z1i,z07,z06,z2b,z2a,z1k,z0t,z1m,z1l,z09,z08,z25,z24,z1b,z0q,z1d,z1c,z03,z02,z6m,z8h,z4z,z6l,z6k,z4w,z4y,z3s,z6j,z3p,z4f,z3n,z3q,z3r,z3o,z5p,z2t,z3h,z4n,z4l,z4a,z66,z65,z4m,z60,z61,z5z,z32,z2x,z33,z2y,z34,z2z,z35,z30,z36,z31,z7h,z7g,z3u,z5u,z3x,z7f,z5t,z43,z5s,cle,clt,cge,cgt,ceq,cne,lenN,xFor,xTryM,uMix,uEnum,uZip,ltT,uSortK,sortK,sortN,uDNew,uDGet,inN,setN,uDNewS,uDGetS,inS,setS,uDm,uDm0,getR,popS,setdS,getNR,setdN,popNR,itemsR,lenS,dictS,sortItR,uFld,uFst,uMake,uLock,uLockE,uKeys,sortE,sortL,xOp,reprT_1,listN,mulT,gLst_l,gLst_r,sum_l,sum_r,min_ii,max_ii,sortSD,pop1S,dictN,uD1,updN,exists_eq_left',exists_eq_left,Option.some.injEq,U.int.injEq,U.bl.injEq,U.str.injEq,U.ref.injEq,U.tup.injEq,U.lst.injEq,U.ty.injEq,List.cons.injEq,and_true,true_and,and_self,List.map_cons,List.map_nil,List.length_cons,List.length_nil,List.cons_append,List.nil_append,List.append_nil,List.getElem?_cons_zero,List.getElem?_cons_succ,List.set_cons_zero,List.set_cons_succ,List.replicate,↓reduceIte,Bool.false_eq_true,Bool.not_true,Bool.not_false,reduceCtorEq,Nat.reduceAdd,Nat.reduceSub,Nat.reduceLeDiff,Nat.reduceEqDiff,decide_true,decide_false,at0,at1,at2,at3,at4,ix0,ix1,ix2,ix3,ix4,updM_same,beq_self_eq_true,Option.bind,Option.map,wipeU,NT.put,puts,MO.lst.injEq,exists_and_left,decide_eq_true_eq,Bool.and_eq_true,Bool.or_eq_true,exists_eq',Nat.zero_le,true_or,or_true])
theorem step__law_is_tree (L : Lw K mg) {k : Nat} {sp' : USp} (l : Nat) (G : UFn P w K mg base CX0 (4 + k) L.f__law_is_tree L.fd__law_is_tree ["_law_thing_here", "_law_levels"] sp') (hsp : ∀ l', l = l' + 1 → sp' = sp__law_is_tree l') : UFn P w K mg base CX0 (4 + k + 1) L.f__law_is_tree L.fd__law_is_tree ["_law_thing_here", "_law_levels"] (sp__law_is_tree l) := by
  refine ufn_ok L.D__law_is_tree.F sc__law_is_tree (fun us M Q E h => ?_) (fun cdv A outer s H E hr hG =>
      (uss_cons (us_if (PW.pt (uw_or (ut_cmp uo_lt (uv 1) ue_int (nomark _)) (uw_or (ut_not (ut_val (ue_callB uc_isi (by rfl) L.n_isinstance bt_isi (ua_cons (uv 0) (ua_cons (ue_bltn (by rfl) L.n_tuple bt_tuple) ua_nil))))) (uw_or1 (ut_cmp (uo_ne (hu6 hr)) (ue_callB uc_len (by rfl) L.n_len bt_len (ua_cons (uv 0) ua_nil)) ue_int (nomark _)))))) (uss_one (us_ret ue_bl)) uss_nil)
      (uss_cons (us_for PassesOwn.never rfl (ui_any (uv 0)) (ug_name (i := 2) sc__law_is_tree.nd rfl (.inl rfl)) (uss_cons (us_set (i := 3) sc__law_is_tree.nd rfl (.inl rfl) ue_str)
      (uss_one (us_for PassesOwn.never rfl (ui_any (ue_if (ut_val (ue_callB uc_isi (by rfl) L.n_isinstance bt_isi (ua_cons (uv 2) (ua_cons (ue_bltn (by rfl) L.n_tuple bt_tuple) ua_nil)))) (uv 2) (ue_lst false (ua_cons ue_non ua_nil)))) (ug_name (i := 4) sc__law_is_tree.nd rfl (.inl rfl)) (uss_cons (us_if (PW.pt (uw_or (ut_not (ut_val (ue_callB uc_isi (by rfl) L.n_isinstance bt_isi (ua_cons (uv 4) (ua_cons (ue_bltn (by rfl) L.n_tuple bt_tuple) ua_nil))))) (uw_or (ut_cmp (uo_ne (hu6 hr)) (ue_callB uc_len (by rfl) L.n_len bt_len (ua_cons (uv 4) ua_nil)) ue_int (nomark _)) (uw_or (ut_not (ut_val (ue_call (ok__law_is_name L) (hr.mono (by omega)) hG rfl L.D__law_is_name.g L.D__law_is_name.F.kp L.D__law_is_name.b .nil (fun _ => RelUs.nil) (ua_cons (ue_ix (uv 4) ue_int) ua_nil)))) (uw_or1 (ut_not (ut_cmp uo_lt (uv 3) (ue_ix (uv 4) ue_int) (nomark _)))))))) (uss_one (us_ret ue_bl)) uss_nil)
      (uss_one (us_set (i := 3) sc__law_is_tree.nd rfl (.inl rfl) (ue_ix (uv 4) ue_int))))))))
      (uss_cons (us_if (ut_not (ut_val (ue_callB (uc_all rfl) (by rfl) L.n_all bt_all (ua_cons (ue_lc (own := [("_law_pair", 4)]) (n := (.one 4)) false rfl sc__law_is_tree.nd (ui_any (ue_ix (uv 0) ue_int)) (blkOk_by (own := [("_law_pair", 4)]) (N := ["_law_thing_here", "_law_levels", "_law_pairs", "_law_last", "_law_pair"]) (sc := defScope s__law_is_tree) (by decide +kernel)) (by decide) (fun _ _ _ _ _ => (pg_nt sc__law_is_tree.nd rfl (.inl rfl))) (fun _ _ _ _ _ => uts_nil) (fun _ _ _ _ _ => (ue_call (ok__law_is_value L) (hr.mono (by omega)) hG rfl L.D__law_is_value.g L.D__law_is_value.F.kp L.D__law_is_value.b .nil (fun _ => RelUs.nil) (ua_cons (ue_ix (uv 4) ue_int) ua_nil)))) ua_nil)))) (uss_one (us_ret ue_bl)) uss_nil)
      (uss_one (us_ret (ue_callB (uc_all rfl) (by rfl) L.n_all bt_all (ua_cons (ue_lc (own := [("_law_pair", 4)]) (n := (.one 4)) false rfl sc__law_is_tree.nd (ui_any (ue_ix (uv 0) ue_int)) (blkOk_by (own := [("_law_pair", 4)]) (N := ["_law_thing_here", "_law_levels", "_law_pairs", "_law_last", "_law_pair"]) (sc := defScope s__law_is_tree) (by decide +kernel)) (by decide) (fun _ _ _ _ _ => (pg_nt sc__law_is_tree.nd rfl (.inl rfl))) (fun _ _ _ _ _ => uts_nil) (fun _ _ _ _ _ => (ue_call G (hr.mono (by omega)) hG rfl L.D__law_is_tree.g L.D__law_is_tree.F.kp L.D__law_is_tree.b .nil (fun _ => RelUs.nil) (ua_cons (ue_ix (uv 4) ue_int) (ua_cons (ue_op uo_sub (uv 1) ue_int) ua_nil))))) ua_nil)))))))) (fun us M Q E h => ?_)
  · obtain ⟨x, rfl, _⟩ := h
    rfl
  · obtain ⟨x, rfl, ox, q⟩ := h
    have hx := ox.1
    have q : ZQ Q (.bl (treeN l x)) M := .inl q
    cases l with
    | zero =>
      have h0 : (((0 : Nat) : Int) - 1 < 0) = True := eq_true (by decide)
      simp only [z8i,uOr,z8d,z8m,uCB,z7t,z8l,uC,z8o,z7w,uOp,uUn,z8s,z8j,uIf,z8e,z7v,z7u,z7s,uBM,z8g,uSl,z4x,z8r,z72,z8q,z7x,List.append_nil,z8t,z80,z8y,z7z,z8u,z81,z8w,z8v,xIf,z74,z8x,z8p,z3t,z8n,z7m,z7q,z7o,z7p,z5w,z5v,z7a,z3l,z3m,z75,z5g,z8k,asD,uXf,z8f,z5n,z7y,z6e,z6d,z68,z67,z63,z5h,z5i,z5j,z3v,z3w,z6f,z64,z62,z5r,z6b,z7j,z7k,z7i,z7c,z7b,z7l,z7e,z5o,z2m,z2w,z2k,z2o,z2p,z2l,z2n,z5c,z73,z5a,z5e,z5f,z5b,z3g,z5d,z3e,z2q,z2r,z3i,z3k,z3j,z39,z3a,z37,z38,z4q,z6h,z4o,z4s,z4t,z4p,z3f,z4r,z4e,z4d,z3b,z2s,z3d,z3c,z0h,z0g,z0d,z0a,z0f,z0e,z1o,z1n,z0u,z0j,z0w,z0v,z2d,z2c,z1r,z10,z1t,z1s,z2f,z2e,z1w,z14,z1y,z1x,z16,z15,z0m,z0i,z0o,z0n,z1v,z1u,z11,z0l,z13,z12,z1q,z1p,z0x,z0k,z0z,z0y,z4i,z6g,z4g,z4j,z4k,z4h,z82,z88,z46,z5x,z44,z47,z48,z45,z2v,z2j,z40,z5q,z3y,z41,z42,z3z,z2u,z2i,z6y,z70,z6x,z71,z6z,z59,z56,z57,z58,z87,z86,z7r,z79,z7n,z7d,z5y,z76,z77,z6c,z69,z6a,z8b,z8c,z89,z8a,z85,z83,z84,z4v,z4u,z6i,z78,z5m,z5l,z5k,z6n,z6o,z6p,z6q,z6r,z6s,z6t,z6u,z6v,z6w,z50,z51,z52,z53,z54,z55,z4b,z4c,z49,z27,z26,z1e,z0r,z1g,z1f,z05,z04,z2h,z2g,z1z,z17,z21,z20,z0c,z0b,z23,z22,z18,z0p,z1a,z19,z01,z00,z29,z28,z1h,z0s,z1j,z1i,z07,z06,z2b,z2a,z1k,z0t,z1m,z1l,z09,z08,z25,z24,z1b,z0q,z1d,z1c,z03,z02,z6m,z8h,z4z,z6l,z6k,z4w,z4y,z3s,z6j,z3p,z4f,z3n,z3q,z3r,z3o,z5p,z2t,z3h,z4n,z4l,z4a,z66,z65,z4m,z60,z61,z5z,z32,z2x,z33,z2y,z34,z2z,z35,z30,z36,z31,z7h,z7g,z3u,z5u,z3x,z7f,z5t,z43,z5s,cle,clt,cge,cgt,ceq,cne,lenN,xFor,xTryM,uMix,uEnum,uZip,ltT,uSortK,sortK,sortN,uDNew,uDGet,inN,setN,uDNewS,uDGetS,inS,setS,uDm,uDm0,getR,popS,setdS,getNR,setdN,popNR,itemsR,lenS,dictS,sortItR,uFld,uFst,uMake,uLock,uLockE,uKeys,sortE,sortL,xOp,reprT_1,listN,mulT,gLst_l,gLst_r,sum_l,sum_r,min_ii,max_ii,sortSD,pop1S,dictN,uD1,updN,exists_eq_left',exists_eq_left,Option.some.injEq,U.int.injEq,U.bl.injEq,U.str.injEq,U.ref.injEq,U.tup.injEq,U.lst.injEq,U.ty.injEq,List.cons.injEq,and_true,true_and,and_self,List.map_cons,List.map_nil,List.length_cons,List.length_nil,List.cons_append,List.nil_append,List.append_nil,List.getElem?_cons_zero,List.getElem?_cons_succ,List.set_cons_zero,List.set_cons_succ,List.replicate,↓reduceIte,Bool.false_eq_true,Bool.not_true,Bool.not_false,reduceCtorEq,Nat.reduceAdd,Nat.reduceSub,Nat.reduceLeDiff,Nat.reduceEqDiff,decide_true,decide_false,at0,at1,at2,at3,at4,ix0,ix1,ix2,ix3,ix4,updM_same,beq_self_eq_true,Option.bind,Option.map,wipeU,NT.put,puts,MO.lst.injEq,exists_and_left,decide_eq_true_eq,Bool.and_eq_true,Bool.or_eq_true,exists_eq',Nat.zero_le,true_or,or_true,h0,treeN] at q ⊢
      exact q
    | succ l =>
      obtain rfl := hsp l rfl
      have h0 : ((((l + 1 : Nat) : Int)) - 1 < 0) = False := eq_false (by omega)
      have h1 : (((l + 1 : Nat) : Int)) - 1 - 1 = (l : Int) - 1 := by omega
      cases x with
      | tup xs =>
        by_cases h2 : xs.length = 2
        · match xs, h2 with
          | [a, b], _ =>
            have oa : okR a := ox.mem (by simp)
            have ob : okR b := ox.mem (by simp)
            simp only [uFor,uLc,z8i,uOr,z8d,z8m,uCB,z7t,z8l,uC,z8o,z7w,uOp,uUn,z8s,z8j,uIf,z8e,z7v,z7u,z7s,uBM,z8g,uSl,z4x,z8r,z72,z8q,z7x,List.append_nil,z8t,z80,z8y,z7z,z8u,z81,z8w,z8v,xIf,z74,z8x,z8p,z3t,z8n,z7m,z7q,z7o,z7p,z5w,z5v,z7a,z3l,z3m,z75,z5g,z8k,asD,uXf,z8f,z5n,z7y,z6e,z6d,z68,z67,z63,z5h,z5i,z5j,z3v,z3w,z6f,z64,z62,z5r,z6b,z7j,z7k,z7i,z7c,z7b,z7l,z7e,z5o,z2m,z2w,z2k,z2o,z2p,z2l,z2n,z5c,z73,z5a,z5e,z5f,z5b,z3g,z5d,z3e,z2q,z2r,z3i,z3k,z3j,z39,z3a,z37,z38,z4q,z6h,z4o,z4s,z4t,z4p,z3f,z4r,z4e,z4d,z3b,z2s,z3d,z3c,z0h,z0g,z0d,z0a,z0f,z0e,z1o,z1n,z0u,z0j,z0w,z0v,z2d,z2c,z1r,z10,z1t,z1s,z2f,z2e,z1w,z14,z1y,z1x,z16,z15,z0m,z0i,z0o,z0n,z1v,z1u,z11,z0l,z13,z12,z1q,z1p,z0x,z0k,z0z,z0y,z4i,z6g,z4g,z4j,z4k,z4h,z82,z88,z46,z5x,z44,z47,z48,z45,z2v,z2j,z40,z5q,z3y,z41,z42,z3z,z2u,z2i,z6y,z70,z6x,z71,z6z,z59,z56,z57,z58,z87,z86,z7r,z79,z7n,z7d,z5y,z76,z77,z6c,z69,z6a,z8b,z8c,z89,z8a,z85,z83,z84,z4v,z4u,z6i,z78,z5m,z5l,z5k,z6n,z6o,z6p,z6q,z6r,z6s,z6t,z6u,z6v,z6w,z50,z51,z52,z53,z54,z55,z4b,z4c,z49,z27,z26,z1e,z0r,z1g,z1f,z05,z04,z2h,z2g,z1z,z17,z21,z20,z0c,z0b,z23,z22,z18,z0p,z1a,z19,z01,z00,z29,z28,z1h,z0s,z1j,z1i,z07,z06,z2b,z2a,z1k,z0t,z1m,z1l,z09,z08,z25,z24,z1b,z0q,z1d,z1c,z03,z02,z6m,z8h,z4z,z6l,z6k,z4w,z4y,z3s,z6j,z3p,z4f,z3n,z3q,z3r,z3o,z5p,z2t,z3h,z4n,z4l,z4a,z66,z65,z4m,z60,z61,z5z,z32,z2x,z33,z2y,z34,z2z,z35,z30,z36,z31,z7h,z7g,z3u,z5u,z3x,z7f,z5t,z43,z5s,cle,clt,cge,cgt,ceq,cne,lenN,xFor,xTryM,uMix,uEnum,uZip,ltT,uSortK,sortK,sortN,uDNew,uDGet,inN,setN,uDNewS,uDGetS,inS,setS,uDm,uDm0,getR,popS,setdS,getNR,setdN,popNR,itemsR,lenS,dictS,sortItR,uFld,uFst,uMake,uLock,uLockE,uKeys,sortE,sortL,xOp,reprT_1,listN,mulT,gLst_l,gLst_r,sum_l,sum_r,min_ii,max_ii,sortSD,pop1S,dictN,uD1,updN,exists_eq_left',exists_eq_left,Option.some.injEq,U.int.injEq,U.bl.injEq,U.str.injEq,U.ref.injEq,U.tup.injEq,U.lst.injEq,U.ty.injEq,List.cons.injEq,and_true,true_and,and_self,List.map_cons,List.map_nil,List.length_cons,List.length_nil,List.cons_append,List.nil_append,List.append_nil,List.getElem?_cons_zero,List.getElem?_cons_succ,List.set_cons_zero,List.set_cons_succ,List.replicate,↓reduceIte,Bool.false_eq_true,Bool.not_true,Bool.not_false,reduceCtorEq,Nat.reduceAdd,Nat.reduceSub,Nat.reduceLeDiff,Nat.reduceEqDiff,decide_true,decide_false,at0,at1,at2,at3,at4,ix0,ix1,ix2,ix3,ix4,updM_same,beq_self_eq_true,Option.bind,Option.map,wipeU,NT.put,puts,MO.lst.injEq,exists_and_left,decide_eq_true_eq,Bool.and_eq_true,Bool.or_eq_true,exists_eq',Nat.zero_le,true_or,or_true,h0]
            have bad : ∀ x ∈ [a, b], partU x = false → treeN (l + 1) (.tup [a, b]) = false := fun x hx h => by
              refine treeN_part ?_
              simp only [List.mem_cons,List.not_mem_nil,or_false] at hx
              rcases hx with rfl | rfl
              · rw [h]; rfl
              · rw [h, Bool.and_false]
            refine for_inv (fun i σ M' => ∃ o2 o3 o4, σ = [some (U.tup [a, b]), some (U.int (((l + 1 : Nat) : Int) - 1)), o2, o3, o4] ∧ M' = M ∧ ([a, b].take i).all partU = true) [a, b] (fun _ _ _ _ => True.intro) ?_ ?_ ⟨_, _, _, rfl, rfl, rfl⟩
            · rintro i x σ M' N hx ⟨o2, o3, o4, rfl, rfl, hp⟩ hN
              have mx : x ∈ [a, b] := List.mem_of_getElem? hx
              have ok : okR x := ox.mem mx
              have done : partU x = true → ([a, b].take (i + 1)).all partU = true := fun h => by
                rw [take_next hx, List.all_append, hp]; simp [h]
              have fail : partU x = false → ZQ Q (.bl false) M' := fun h => by rw [bad x mx h] at q; exact q
              cases x with
              | tup ps =>
                walk_at "q4"
                refine for_inv (fun j σ M2 => ∃ o4 z, σ = [some (U.tup [a, b]), some (U.int (((l + 1 : Nat) : Int) - 1)), some (.tup ps), some (.str z), o4] ∧ M2 = M' ∧ ascF z (ps.drop j) = ascF "" ps) ps (fun _ _ _ _ => True.intro) ?_ ?_ ⟨_, _, rfl, rfl, rfl⟩
                · rintro j p σ M2 N2 hj ⟨o4, z, rfl, rfl, ha⟩ hN2
                  have hlt := (List.getElem?_eq_some_iff.mp hj).1
                  have hp2 := (List.getElem?_eq_some_iff.mp hj).2
                  rw [List.drop_eq_getElem_cons hlt, hp2] at ha
                  simp only [ascF] at ha
                  have op : okR p := ok.mem (List.mem_of_getElem? hj)
                  have fail2 : (pairU p && (decide (slt z (nameOf p)) && ascF (nameOf p) (ps.drop (j + 1)))) = false → ZQ Q (.bl false) M2 := fun h => fail (by rw [← ascF_part, ← ha, h])
                  cases p with
                  | tup ys =>
                    by_cases h2 : ys.length = 2
                    · match ys, h2 with
                      | [c, d], _ =>
                        have oc : okR c := op.mem (by simp)
                        walk_at "q8"
                        refine ⟨oc.1, ?_⟩
                        cases hc : isNameU c with
                        | false =>
                          walk_at "q0"
                          exact fail2 (by simp only [pairU,hc,Bool.false_and])
                        | true =>
                          cases c with
                          | str y =>
                            walk_at "q0"
                            refine iteI (fun hh => ?_) (fun hh => ?_)
                            · have hz : decide (slt z y) = false := by rw [Bool.not_eq_true'] at hh; exact hh
                              exact fail2 (by show (pairU _ && (decide (slt z y) && _)) = false; rw [hz, Bool.false_and, Bool.and_false])
                            · have hz : decide (slt z y) = true := by rw [Bool.not_eq_true', Bool.not_eq_false] at hh; exact hh
                              refine hN2 _ _ ⟨_, y, rfl, rfl, ?_⟩
                              rw [← ha]
                              show ascF y (ps.drop (j + 1)) = (isNameU (.str y) && (decide (slt z y) && ascF y (ps.drop (j + 1))))
                              rw [hc, hz]; rfl
                          | _ => simp [isNameU] at hc
                    · have h3 : (ys.length == 2) = false := beq_eq_false_iff_ne.mpr h2
                      simp only [z8i,uOr,z8d,z8m,uCB,z7t,z8l,uC,z8o,z7w,uOp,uUn,z8s,z8j,uIf,z8e,z7v,z7u,z7s,uBM,z8g,uSl,z4x,z8r,z72,z8q,z7x,List.append_nil,z8t,z80,z8y,z7z,z8u,z81,z8w,z8v,xIf,z74,z8x,z8p,z3t,z8n,z7m,z7q,z7o,z7p,z5w,z5v,z7a,z3l,z3m,z75,z5g,z8k,asD,uXf,z8f,z5n,z7y,z6e,z6d,z68,z67,z63,z5h,z5i,z5j,z3v,z3w,z6f,z64,z62,z5r,z6b,z7j,z7k,z7i,z7c,z7b,z7l,z7e,z5o,z2m,z2w,z2k,z2o,z2p,z2l,z2n,z5c,z73,z5a,z5e,z5f,z5b,z3g,z5d,z3e,z2q,z2r,z3i,z3k,z3j,z39,z3a,z37,z38,z4q,z6h,z4o,z4s,z4t,z4p,z3f,z4r,z4e,z4d,z3b,z2s,z3d,z3c,z0h,z0g,z0d,z0a,z0f,z0e,z1o,z1n,z0u,z0j,z0w,z0v,z2d,z2c,z1r,z10,z1t,z1s,z2f,z2e,z1w,z14,z1y,z1x,z16,z15,z0m,z0i,z0o,z0n,z1v,z1u,z11,z0l,z13,z12,z1q,z1p,z0x,z0k,z0z,z0y,z4i,z6g,z4g,z4j,z4k,z4h,z82,z88,z46,z5x,z44,z47,z48,z45,z2v,z2j,z40,z5q,z3y,z41,z42,z3z,z2u,z2i,z6y,z70,z6x,z71,z6z,z59,z56,z57,z58,z87,z86,z7r,z79,z7n,z7d,z5y,z76,z77,z6c,z69,z6a,z8b,z8c,z89,z8a,z85,z83,z84,z4v,z4u,z6i,z78,z5m,z5l,z5k,z6n,z6o,z6p,z6q,z6r,z6s,z6t,z6u,z6v,z6w,z50,z51,z52,z53,z54,z55,z4b,z4c,z49,z27,z26,z1e,z0r,z1g,z1f,z05,z04,z2h,z2g,z1z,z17,z21,z20,z0c,z0b,z23,z22,z18,z0p,z1a,z19,z01,z00,z29,z28,z1h,z0s,z1j,z1i,z07,z06,z2b,z2a,z1k,z0t,z1m,z1l,z09,z08,z25,z24,z1b,z0q,z1d,z1c,z03,z02,z6m,z8h,z4z,z6l,z6k,z4w,z4y,z3s,z6j,z3p,z4f,z3n,z3q,z3r,z3o,z5p,z2t,z3h,z4n,z4l,z4a,z66,z65,z4m,z60,z61,z5z,z32,z2x,z33,z2y,z34,z2z,z35,z30,z36,z31,z7h,z7g,z3u,z5u,z3x,z7f,z5t,z43,z5s,cle,clt,cge,cgt,ceq,cne,lenN,xFor,xTryM,uMix,uEnum,uZip,ltT,uSortK,sortK,sortN,uDNew,uDGet,inN,setN,uDNewS,uDGetS,inS,setS,uDm,uDm0,getR,popS,setdS,getNR,setdN,popNR,itemsR,lenS,dictS,sortItR,uFld,uFst,uMake,uLock,uLockE,uKeys,sortE,sortL,xOp,reprT_1,listN,mulT,gLst_l,gLst_r,sum_l,sum_r,min_ii,max_ii,sortSD,pop1S,dictN,uD1,updN,exists_eq_left',exists_eq_left,Option.some.injEq,U.int.injEq,U.bl.injEq,U.str.injEq,U.ref.injEq,U.tup.injEq,U.lst.injEq,U.ty.injEq,List.cons.injEq,and_true,true_and,and_self,List.map_cons,List.map_nil,List.length_cons,List.length_nil,List.cons_append,List.nil_append,List.append_nil,List.getElem?_cons_zero,List.getElem?_cons_succ,List.set_cons_zero,List.set_cons_succ,List.replicate,↓reduceIte,Bool.false_eq_true,Bool.not_true,Bool.not_false,reduceCtorEq,Nat.reduceAdd,Nat.reduceSub,Nat.reduceLeDiff,Nat.reduceEqDiff,decide_true,decide_false,at0,at1,at2,at3,at4,ix0,ix1,ix2,ix3,ix4,updM_same,beq_self_eq_true,Option.bind,Option.map,wipeU,NT.put,puts,MO.lst.injEq,exists_and_left,decide_eq_true_eq,Bool.and_eq_true,Bool.or_eq_true,exists_eq',Nat.zero_le,true_or,or_true,h3]
                      exact fail2 (by rw [pairU_len h2, Bool.false_and])
                  | ref a => exact absurd op.1 (by simp [isD])
                  | ty n => exact absurd op.1 (by simp [isD])
                  | _ =>
                    walk_at "q0"
                    exact fail2 rfl
                · rintro σ M2 ⟨o4, z, rfl, rfl, ha⟩
                  rw [List.drop_length] at ha
                  refine hN _ _ ⟨_, _, _, rfl, rfl, done (by rw [← ascF_part, ← ha]; rfl)⟩
              | ref a => exact absurd ok.1 (by simp [isD])
              | ty n => exact absurd ok.1 (by simp [isD])
              | _ =>
                walk_at "q4"
                refine ⟨line_le, ⟨True.intro, ?_⟩⟩
                walk_at "q0"
                exact fail rfl
            · rintro σ M' ⟨o2, o3, o4, rfl, rfl, hp⟩
              have hp : partU a = true ∧ partU b = true := by simpa using hp
              obtain ⟨ps, rfl, p1, p2⟩ := part_is hp.1
              obtain ⟨cs, rfl, c1, c2⟩ := part_is hp.2
              simp only [treeN,hp.1,hp.2,Bool.true_and] at q
              walk_at "q2"
              refine lc_map (fun x => .bl (isValueU (sndU x))) (fun _ _ _ => True.intro) (fun D acc hD x hx => ⟨_, rfl, fun Q q => ?_⟩) ?_
              · have dx := oa.mem hx
                obtain ⟨z, b, rfl, _⟩ := pair_is (List.all_eq_true.mp p1 x hx)
                simp only [z8i,uOr,z8d,z8m,uCB,z7t,z8l,uC,z8o,z7w,uOp,uUn,z8s,z8j,uIf,z8e,z7v,z7u,z7s,uBM,z8g,uSl,z4x,z8r,z72,z8q,z7x,List.append_nil,z8t,z80,z8y,z7z,z8u,z81,z8w,z8v,xIf,z74,z8x,z8p,z3t,z8n,z7m,z7q,z7o,z7p,z5w,z5v,z7a,z3l,z3m,z75,z5g,z8k,asD,uXf,z8f,z5n,z7y,z6e,z6d,z68,z67,z63,z5h,z5i,z5j,z3v,z3w,z6f,z64,z62,z5r,z6b,z7j,z7k,z7i,z7c,z7b,z7l,z7e,z5o,z2m,z2w,z2k,z2o,z2p,z2l,z2n,z5c,z73,z5a,z5e,z5f,z5b,z3g,z5d,z3e,z2q,z2r,z3i,z3k,z3j,z39,z3a,z37,z38,z4q,z6h,z4o,z4s,z4t,z4p,z3f,z4r,z4e,z4d,z3b,z2s,z3d,z3c,z0h,z0g,z0d,z0a,z0f,z0e,z1o,z1n,z0u,z0j,z0w,z0v,z2d,z2c,z1r,z10,z1t,z1s,z2f,z2e,z1w,z14,z1y,z1x,z16,z15,z0m,z0i,z0o,z0n,z1v,z1u,z11,z0l,z13,z12,z1q,z1p,z0x,z0k,z0z,z0y,z4i,z6g,z4g,z4j,z4k,z4h,z82,z88,z46,z5x,z44,z47,z48,z45,z2v,z2j,z40,z5q,z3y,z41,z42,z3z,z2u,z2i,z6y,z70,z6x,z71,z6z,z59,z56,z57,z58,z87,z86,z7r,z79,z7n,z7d,z5y,z76,z77,z6c,z69,z6a,z8b,z8c,z89,z8a,z85,z83,z84,z4v,z4u,z6i,z78,z5m,z5l,z5k,z6n,z6o,z6p,z6q,z6r,z6s,z6t,z6u,z6v,z6w,z50,z51,z52,z53,z54,z55,z4b,z4c,z49,z27,z26,z1e,z0r,z1g,z1f,z05,z04,z2h,z2g,z1z,z17,z21,z20,z0c,z0b,z23,z22,z18,z0p,z1a,z19,z01,z00,z29,z28,z1h,z0s,z1j,z1i,z07,z06,z2b,z2a,z1k,z0t,z1m,z1l,z09,z08,z25,z24,z1b,z0q,z1d,z1c,z03,z02,z6m,z8h,z4z,z6l,z6k,z4w,z4y,z3s,z6j,z3p,z4f,z3n,z3q,z3r,z3o,z5p,z2t,z3h,z4n,z4l,z4a,z66,z65,z4m,z60,z61,z5z,z32,z2x,z33,z2y,z34,z2z,z35,z30,z36,z31,z7h,z7g,z3u,z5u,z3x,z7f,z5t,z43,z5s,cle,clt,cge,cgt,ceq,cne,lenN,xFor,xTryM,uMix,uEnum,uZip,ltT,uSortK,sortK,sortN,uDNew,uDGet,inN,setN,uDNewS,uDGetS,inS,setS,uDm,uDm0,getR,popS,setdS,getNR,setdN,popNR,itemsR,lenS,dictS,sortItR,uFld,uFst,uMake,uLock,uLockE,uKeys,sortE,sortL,xOp,reprT_1,listN,mulT,gLst_l,gLst_r,sum_l,sum_r,min_ii,max_ii,sortSD,pop1S,dictN,uD1,updN,exists_eq_left',exists_eq_left,Option.some.injEq,U.int.injEq,U.bl.injEq,U.str.injEq,U.ref.injEq,U.tup.injEq,U.lst.injEq,U.ty.injEq,List.cons.injEq,and_true,true_and,and_self,List.map_cons,List.map_nil,List.length_cons,List.length_nil,List.cons_append,List.nil_append,List.append_nil,List.getElem?_cons_zero,List.getElem?_cons_succ,List.set_cons_zero,List.set_cons_succ,List.replicate,↓reduceIte,Bool.false_eq_true,Bool.not_true,Bool.not_false,reduceCtorEq,Nat.reduceAdd,Nat.reduceSub,Nat.reduceLeDiff,Nat.reduceEqDiff,decide_true,decide_false,at0,at1,at2,at3,at4,ix0,ix1,ix2,ix3,ix4,updM_same,beq_self_eq_true,Option.bind,Option.map,wipeU,NT.put,puts,MO.lst.injEq,exists_and_left,decide_eq_true_eq,Bool.and_eq_true,Bool.or_eq_true,exists_eq',Nat.zero_le,true_or,or_true,sp__law_is_value,sndU] at q ⊢
                exact ⟨dx.mem (by simp), q⟩
              · walk_at "q3"
                cases hv : ps.all (fun p => isValueU (sndU p)) with
                | false =>
                  simp only [hv,Bool.false_and] at q
                  walk_at "q0"
                  exact q
                | true =>
                  simp only [hv,Bool.true_and] at q
                  walk_at "q2"
                  refine lc_map (fun x => .bl (treeN l (sndU x))) (fun _ _ _ => True.intro) (fun D acc hD x hx => ⟨_, rfl, fun Q q => ?_⟩) ?_
                  · have dx := ob.mem hx
                    obtain ⟨z, b, rfl, _⟩ := pair_is (List.all_eq_true.mp c1 x hx)
                    simp only [z8i,uOr,z8d,z8m,uCB,z7t,z8l,uC,z8o,z7w,uOp,uUn,z8s,z8j,uIf,z8e,z7v,z7u,z7s,uBM,z8g,uSl,z4x,z8r,z72,z8q,z7x,List.append_nil,z8t,z80,z8y,z7z,z8u,z81,z8w,z8v,xIf,z74,z8x,z8p,z3t,z8n,z7m,z7q,z7o,z7p,z5w,z5v,z7a,z3l,z3m,z75,z5g,z8k,asD,uXf,z8f,z5n,z7y,z6e,z6d,z68,z67,z63,z5h,z5i,z5j,z3v,z3w,z6f,z64,z62,z5r,z6b,z7j,z7k,z7i,z7c,z7b,z7l,z7e,z5o,z2m,z2w,z2k,z2o,z2p,z2l,z2n,z5c,z73,z5a,z5e,z5f,z5b,z3g,z5d,z3e,z2q,z2r,z3i,z3k,z3j,z39,z3a,z37,z38,z4q,z6h,z4o,z4s,z4t,z4p,z3f,z4r,z4e,z4d,z3b,z2s,z3d,z3c,z0h,z0g,z0d,z0a,z0f,z0e,z1o,z1n,z0u,z0j,z0w,z0v,z2d,z2c,z1r,z10,z1t,z1s,z2f,z2e,z1w,z14,z1y,z1x,z16,z15,z0m,z0i,z0o,z0n,z1v,z1u,z11,z0l,z13,z12,z1q,z1p,z0x,z0k,z0z,z0y,z4i,z6g,z4g,z4j,z4k,z4h,z82,z88,z46,z5x,z44,z47,z48,z45,z2v,z2j,z40,z5q,z3y,z41,z42,z3z,z2u,z2i,z6y,z70,z6x,z71,z6z,z59,z56,z57,z58,z87,z86,z7r,z79,z7n,z7d,z5y,z76,z77,z6c,z69,z6a,z8b,z8c,z89,z8a,z85,z83,z84,z4v,z4u,z6i,z78,z5m,z5l,z5k,z6n,z6o,z6p,z6q,z6r,z6s,z6t,z6u,z6v,z6w,z50,z51,z52,z53,z54,z55,z4b,z4c,z49,z27,z26,z1e,z0r,z1g,z1f,z05,z04,z2h,z2g,z1z,z17,z21,z20,z0c,z0b,z23,z22,z18,z0p,z1a,z19,z01,z00,z29,z28,z1h,z0s,z1j,z1i,z07,z06,z2b,z2a,z1k,z0t,z1m,z1l,z09,z08,z25,z24,z1b,z0q,z1d,z1c,z03,z02,z6m,z8h,z4z,z6l,z6k,z4w,z4y,z3s,z6j,z3p,z4f,z3n,z3q,z3r,z3o,z5p,z2t,z3h,z4n,z4l,z4a,z66,z65,z4m,z60,z61,z5z,z32,z2x,z33,z2y,z34,z2z,z35,z30,z36,z31,z7h,z7g,z3u,z5u,z3x,z7f,z5t,z43,z5s,cle,clt,cge,cgt,ceq,cne,lenN,xFor,xTryM,uMix,uEnum,uZip,ltT,uSortK,sortK,sortN,uDNew,uDGet,inN,setN,uDNewS,uDGetS,inS,setS,uDm,uDm0,getR,popS,setdS,getNR,setdN,popNR,itemsR,lenS,dictS,sortItR,uFld,uFst,uMake,uLock,uLockE,uKeys,sortE,sortL,xOp,reprT_1,listN,mulT,gLst_l,gLst_r,sum_l,sum_r,min_ii,max_ii,sortSD,pop1S,dictN,uD1,updN,exists_eq_left',exists_eq_left,Option.some.injEq,U.int.injEq,U.bl.injEq,U.str.injEq,U.ref.injEq,U.tup.injEq,U.lst.injEq,U.ty.injEq,List.cons.injEq,and_true,true_and,and_self,List.map_cons,List.map_nil,List.length_cons,List.length_nil,List.cons_append,List.nil_append,List.append_nil,List.getElem?_cons_zero,List.getElem?_cons_succ,List.set_cons_zero,List.set_cons_succ,List.replicate,↓reduceIte,Bool.false_eq_true,Bool.not_true,Bool.not_false,reduceCtorEq,Nat.reduceAdd,Nat.reduceSub,Nat.reduceLeDiff,Nat.reduceEqDiff,decide_true,decide_false,at0,at1,at2,at3,at4,ix0,ix1,ix2,ix3,ix4,updM_same,beq_self_eq_true,Option.bind,Option.map,wipeU,NT.put,puts,MO.lst.injEq,exists_and_left,decide_eq_true_eq,Bool.and_eq_true,Bool.or_eq_true,exists_eq',Nat.zero_le,true_or,or_true,sp__law_is_tree,sndU,h1] at q ⊢
                    exact ⟨dx.mem (by simp), q⟩
                  · walk_at "q3"
                    exact q
        · have h3 : (xs.length == 2) = false := beq_eq_false_iff_ne.mpr h2
          simp only [z8i,uOr,z8d,z8m,uCB,z7t,z8l,uC,z8o,z7w,uOp,uUn,z8s,z8j,uIf,z8e,z7v,z7u,z7s,uBM,z8g,uSl,z4x,z8r,z72,z8q,z7x,List.append_nil,z8t,z80,z8y,z7z,z8u,z81,z8w,z8v,xIf,z74,z8x,z8p,z3t,z8n,z7m,z7q,z7o,z7p,z5w,z5v,z7a,z3l,z3m,z75,z5g,z8k,asD,uXf,z8f,z5n,z7y,z6e,z6d,z68,z67,z63,z5h,z5i,z5j,z3v,z3w,z6f,z64,z62,z5r,z6b,z7j,z7k,z7i,z7c,z7b,z7l,z7e,z5o,z2m,z2w,z2k,z2o,z2p,z2l,z2n,z5c,z73,z5a,z5e,z5f,z5b,z3g,z5d,z3e,z2q,z2r,z3i,z3k,z3j,z39,z3a,z37,z38,z4q,z6h,z4o,z4s,z4t,z4p,z3f,z4r,z4e,z4d,z3b,z2s,z3d,z3c,z0h,z0g,z0d,z0a,z0f,z0e,z1o,z1n,z0u,z0j,z0w,z0v,z2d,z2c,z1r,z10,z1t,z1s,z2f,z2e,z1w,z14,z1y,z1x,z16,z15,z0m,z0i,z0o,z0n,z1v,z1u,z11,z0l,z13,z12,z1q,z1p,z0x,z0k,z0z,z0y,z4i,z6g,z4g,z4j,z4k,z4h,z82,z88,z46,z5x,z44,z47,z48,z45,z2v,z2j,z40,z5q,z3y,z41,z42,z3z,z2u,z2i,z6y,z70,z6x,z71,z6z,z59,z56,z57,z58,z87,z86,z7r,z79,z7n,z7d,z5y,z76,z77,z6c,z69,z6a,z8b,z8c,z89,z8a,z85,z83,z84,z4v,z4u,z6i,z78,z5m,z5l,z5k,z6n,z6o,z6p,z6q,z6r,z6s,z6t,z6u,z6v,z6w,z50,z51,z52,z53,z54,z55,z4b,z4c,z49,z27,z26,z1e,z0r,z1g,z1f,z05,z04,z2h,z2g,z1z,z17,z21,z20,z0c,z0b,z23,z22,z18,z0p,z1a,z19,z01,z00,z29,z28,z1h,z0s,z1j,z1i,z07,z06,z2b,z2a,z1k,z0t,z1m,z1l,z09,z08,z25,z24,z1b,z0q,z1d,z1c,z03,z02,z6m,z8h,z4z,z6l,z6k,z4w,z4y,z3s,z6j,z3p,z4f,z3n,z3q,z3r,z3o,z5p,z2t,z3h,z4n,z4l,z4a,z66,z65,z4m,z60,z61,z5z,z32,z2x,z33,z2y,z34,z2z,z35,z30,z36,z31,z7h,z7g,z3u,z5u,z3x,z7f,z5t,z43,z5s,cle,clt,cge,cgt,ceq,cne,lenN,xFor,xTryM,uMix,uEnum,uZip,ltT,uSortK,sortK,sortN,uDNew,uDGet,inN,setN,uDNewS,uDGetS,inS,setS,uDm,uDm0,getR,popS,setdS,getNR,setdN,popNR,itemsR,lenS,dictS,sortItR,uFld,uFst,uMake,uLock,uLockE,uKeys,sortE,sortL,xOp,reprT_1,listN,mulT,gLst_l,gLst_r,sum_l,sum_r,min_ii,max_ii,sortSD,pop1S,dictN,uD1,updN,exists_eq_left',exists_eq_left,Option.some.injEq,U.int.injEq,U.bl.injEq,U.str.injEq,U.ref.injEq,U.tup.injEq,U.lst.injEq,U.ty.injEq,List.cons.injEq,and_true,true_and,and_self,List.map_cons,List.map_nil,List.length_cons,List.length_nil,List.cons_append,List.nil_append,List.append_nil,List.getElem?_cons_zero,List.getElem?_cons_succ,List.set_cons_zero,List.set_cons_succ,List.replicate,↓reduceIte,Bool.false_eq_true,Bool.not_true,Bool.not_false,reduceCtorEq,Nat.reduceAdd,Nat.reduceSub,Nat.reduceLeDiff,Nat.reduceEqDiff,decide_true,decide_false,at0,at1,at2,at3,at4,ix0,ix1,ix2,ix3,ix4,updM_same,beq_self_eq_true,Option.bind,Option.map,wipeU,NT.put,puts,MO.lst.injEq,exists_and_left,decide_eq_true_eq,Bool.and_eq_true,Bool.or_eq_true,exists_eq',Nat.zero_le,true_or,or_true,h0,h3,treeN_len h2] at q ⊢
          exact q
      | ref a => simp [isD] at hx
      | ty n => simp [isD] at hx
      | _ =>
        simp only [z8i,uOr,z8d,z8m,uCB,z7t,z8l,uC,z8o,z7w,uOp,uUn,z8s,z8j,uIf,z8e,z7v,z7u,z7s,uBM,z8g,uSl,z4x,z8r,z72,z8q,z7x,List.append_nil,z8t,z80,z8y,z7z,z8u,z81,z8w,z8v,xIf,z74,z8x,z8p,z3t,z8n,z7m,z7q,z7o,z7p,z5w,z5v,z7a,z3l,z3m,z75,z5g,z8k,asD,uXf,z8f,z5n,z7y,z6e,z6d,z68,z67,z63,z5h,z5i,z5j,z3v,z3w,z6f,z64,z62,z5r,z6b,z7j,z7k,z7i,z7c,z7b,z7l,z7e,z5o,z2m,z2w,z2k,z2o,z2p,z2l,z2n,z5c,z73,z5a,z5e,z5f,z5b,z3g,z5d,z3e,z2q,z2r,z3i,z3k,z3j,z39,z3a,z37,z38,z4q,z6h,z4o,z4s,z4t,z4p,z3f,z4r,z4e,z4d,z3b,z2s,z3d,z3c,z0h,z0g,z0d,z0a,z0f,z0e,z1o,z1n,z0u,z0j,z0w,z0v,z2d,z2c,z1r,z10,z1t,z1s,z2f,z2e,z1w,z14,z1y,z1x,z16,z15,z0m,z0i,z0o,z0n,z1v,z1u,z11,z0l,z13,z12,z1q,z1p,z0x,z0k,z0z,z0y,z4i,z6g,z4g,z4j,z4k,z4h,z82,z88,z46,z5x,z44,z47,z48,z45,z2v,z2j,z40,z5q,z3y,z41,z42,z3z,z2u,z2i,z6y,z70,z6x,z71,z6z,z59,z56,z57,z58,z87,z86,z7r,z79,z7n,z7d,z5y,z76,z77,z6c,z69,z6a,z8b,z8c,z89,z8a,z85,z83,z84,z4v,z4u,z6i,z78,z5m,z5l,z5k,z6n,z6o,z6p,z6q,z6r,z6s,z6t,z6u,z6v,z6w,z50,z51,z52,z53,z54,z55,z4b,z4c,z49,z27,z26,z1e,z0r,z1g,z1f,z05,z04,z2h,z2g,z1z,z17,z21,z20,z0c,z0b,z23,z22,z18,z0p,z1a,z19,z01,z00,z29,z28,z1h,z0s,z1j,z1i,z07,z06,z2b,z2a,z1k,z0t,z1m,z1l,z09,z08,z25,z24,z1b,z0q,z1d,z1c,z03,z02,z6m,z8h,z4z,z6l,z6k,z4w,z4y,z3s,z6j,z3p,z4f,z3n,z3q,z3r,z3o,z5p,z2t,z3h,z4n,z4l,z4a,z66,z65,z4m,z60,z61,z5z,z32,z2x,z33,z2y,z34,z2z,z35,z30,z36,z31,z7h,z7g,z3u,z5u,z3x,z7f,z5t,z43,z5s,cle,clt,cge,cgt,ceq,cne,lenN,xFor,xTryM,uMix,uEnum,uZip,ltT,uSortK,sortK,sortN,uDNew,uDGet,inN,setN,uDNewS,uDGetS,inS,setS,uDm,uDm0,getR,popS,setdS,getNR,setdN,popNR,itemsR,lenS,dictS,sortItR,uFld,uFst,uMake,uLock,uLockE,uKeys,sortE,sortL,xOp,reprT_1,listN,mulT,gLst_l,gLst_r,sum_l,sum_r,min_ii,max_ii,sortSD,pop1S,dictN,uD1,updN,exists_eq_left',exists_eq_left,Option.some.injEq,U.int.injEq,U.bl.injEq,U.str.injEq,U.ref.injEq,U.tup.injEq,U.lst.injEq,U.ty.injEq,List.cons.injEq,and_true,true_and,and_self,List.map_cons,List.map_nil,List.length_cons,List.length_nil,List.cons_append,List.nil_append,List.append_nil,List.getElem?_cons_zero,List.getElem?_cons_succ,List.set_cons_zero,List.set_cons_succ,List.replicate,↓reduceIte,Bool.false_eq_true,Bool.not_true,Bool.not_false,reduceCtorEq,Nat.reduceAdd,Nat.reduceSub,Nat.reduceLeDiff,Nat.reduceEqDiff,decide_true,decide_false,at0,at1,at2,at3,at4,ix0,ix1,ix2,ix3,ix4,updM_same,beq_self_eq_true,Option.bind,Option.map,wipeU,NT.put,puts,MO.lst.injEq,exists_and_left,decide_eq_true_eq,Bool.and_eq_true,Bool.or_eq_true,exists_eq',Nat.zero_le,true_or,or_true,h0,treeN] at q ⊢
        exact q

theorem ok__law_is_tree (L : Lw K mg) : ∀ l : Nat, UFn P w K mg base CX0 (4 + l + 1) L.f__law_is_tree L.fd__law_is_tree ["_law_thing_here", "_law_levels"] (sp__law_is_tree l)
  | 0 => step__law_is_tree L (k := 0) (sp' := fun _ _ _ _ => False) 0 ufn_none (fun l' h => by cases h)
  | l + 1 => step__law_is_tree L (k := l + 1) (sp' := sp__law_is_tree l) (l + 1) (ok__law_is_tree L l) (fun l' h => by cases h; rfl)
/-! ### _law_bent_pairs -/
theorem deps_app (xs ys : List U) : deps (xs ++ ys) = max (deps xs) (deps ys) := by
  induction xs with
  | nil => simp [deps]
  | cons x xs ih => simp [deps, ih, Nat.max_assoc]
theorem wids_app (xs ys : List U) : wids (xs ++ ys) = max (wids xs) (wids ys) := by
  induction xs with
  | nil => simp [wids]
  | cons x xs ih => simp [wids, ih, Nat.max_assoc]
theorem shws_app (xs ys : List U) : shws (xs ++ ys) = (shws xs && shws ys) := by
  induction xs with
  | nil => simp [shws]
  | cons x xs ih => simp [shws, ih, Bool.and_assoc]
/-- data, of a depth, a size, a width -/
structure Db (k n w : Nat) (x : U) : Prop where
  d : isD x = true
  s : shw x = true
  p : dep x ≤ k
  z : sz x ≤ n
  w : wid x ≤ w
theorem Dt.db {k n : Nat} {x : U} (h : Dt k n x) : Db k n 60 x := ⟨h.d, h.s, h.p, h.z, h.w⟩
theorem Db.mono {k n w k' n' w' : Nat} {x : U} (h : Db k n w x) (hk : k ≤ k') (hn : n ≤ n') (hw : w ≤ w') : Db k' n' w' x := ⟨h.d, h.s, Nat.le_trans h.p hk, Nat.le_trans h.z hn, Nat.le_trans h.w hw⟩
theorem Db.okR {k n w : Nat} {x : U} (h : Db k n w x) (hk : k ≤ 150) (hn : n ≤ 16000000) : okR x := ⟨h.d, h.s, Nat.le_trans h.p hk, Nat.le_trans h.z hn⟩
/-- items -/
structure Ds (k n w : Nat) (xs : List U) : Prop where
  d : isDs xs = true
  s : shws xs = true
  p : deps xs ≤ k
  z : szs xs ≤ n
  w : wids xs ≤ w
theorem Ds.tup {k n w : Nat} {xs : List U} (h : Ds k n w xs) (hl : xs.length ≤ w) : Db (k + 1) (n + 4) w (.tup xs) := ⟨by simpa [isD] using h.d, by simpa [shw] using h.s, by simp only [dep]; have := h.p; omega, by simp only [sz]; have := h.z; omega, by simp only [wid]; have := h.w; omega⟩
theorem Ds.lst {k n w : Nat} {xs : List U} (h : Ds k n w xs) (hl : xs.length ≤ w) : Db (k + 1) (n + 4) w (.lst xs) := ⟨by simpa [isD] using h.d, by simpa [shw] using h.s, by simp only [dep]; have := h.p; omega, by simp only [sz]; have := h.z; omega, by simp only [wid]; have := h.w; omega⟩
theorem Db.items {k n w : Nat} {xs : List U} (h : Db (k + 1) n w (.tup xs)) : Ds k n w xs ∧ szs xs + 4 ≤ n ∧ xs.length ≤ w := by
  obtain ⟨h1, h2, h3, h4, h5⟩ := h
  simp only [isD,shw,dep,sz,wid] at h1 h2 h3 h4 h5
  exact ⟨⟨h1, h2, by omega, by omega, by omega⟩, h4, by omega⟩
theorem Ds.mono {k n w k' n' w' : Nat} {x : List U} (h : Ds k n w x) (hk : k ≤ k') (hn : n ≤ n') (hw : w ≤ w') : Ds k' n' w' x := ⟨h.d, h.s, Nat.le_trans h.p hk, Nat.le_trans h.z hn, Nat.le_trans h.w hw⟩
theorem Ds.nil {k n w : Nat} : Ds k n w [] := ⟨rfl, rfl, Nat.zero_le _, Nat.zero_le _, Nat.zero_le _⟩
theorem Ds.cons {k n m w : Nat} {x : U} {xs : List U} (h : Db k m w x) (t : Ds k n w xs) : Ds k (m + 2 + n) w (x :: xs) :=
  ⟨by simp [isDs, h.d, t.d], by simp [shws, h.s, t.s], by simp only [deps]; have := h.p; have := t.p; omega, by simp only [szs]; have := h.z; have := t.z; omega, by simp only [wids]; have := h.w; have := t.w; omega⟩
theorem Ds.app {k n m w : Nat} {xs ys : List U} (h : Ds k n w xs) (t : Ds k m w ys) : Ds k (n + m) w (xs ++ ys) :=
  ⟨by simp [isDs_app, h.d, t.d], by simp [shws_app, h.s, t.s], by rw [deps_app]; have := h.p; have := t.p; omega, by rw [szs_app]; have := h.z; have := t.z; omega, by rw [wids_app]; have := h.w; have := t.w; omega⟩
theorem Ds.sub {k n w : Nat} {xs ys : List U} (h : Ds k n w ys) (s : xs.Sublist ys) : Ds k n w xs := by
  induction s generalizing n with
  | slnil => exact h
  | cons a s ih =>
    obtain ⟨h1, h2, h3, h4, h5⟩ := h
    simp only [isDs,shws,deps,szs,wids,Bool.and_eq_true] at h1 h2 h3 h4 h5
    exact ih ⟨h1.2, h2.2, by omega, by omega, by omega⟩
  | cons_cons a s ih =>
    obtain ⟨h1, h2, h3, h4, h5⟩ := h
    simp only [isDs,shws,deps,szs,wids,Bool.and_eq_true] at h1 h2 h3 h4 h5
    have q := ih (n := n - sz a - 2) ⟨h1.2, h2.2, by omega, by omega, by omega⟩
    exact ⟨by simp [isDs, h1.1, q.d], by simp [shws, h2.1, q.s], by simp only [deps]; have := q.p; omega, by simp only [szs]; have := q.z; omega, by simp only [wids]; have := q.w; omega⟩
theorem Ds.at {k n w i : Nat} {xs : List U} {p : U} (h : Ds k n w xs) (e : xs[i]? = some p) : Db k n w p := by
  have m := List.mem_of_getElem? e
  have := mem_szs m
  exact ⟨isDs_iff.mp h.d p m, shws_iff.mp h.s p m, deps_le.mp h.p p m, Nat.le_trans this h.z, wids_le.mp h.w p m⟩
theorem szs_at {i : Nat} {xs : List U} {p : U} (e : xs[i]? = some p) : szs (xs.take i) + (sz p + 2) + szs (xs.drop (i + 1)) = szs xs := by
  obtain ⟨h, rfl⟩ := List.getElem?_eq_some_iff.mp e
  have : xs = xs.take i ++ (xs[i] :: xs.drop (i + 1)) := by rw [← List.drop_eq_getElem_cons h, List.take_append_drop]
  conv => rhs; rw [this, szs_app]
  simp only [szs]; omega
/-- one item replaced -/
theorem Ds.swap {k n w m i : Nat} {xs : List U} {p x : U} (h : Ds k n w xs) (e : xs[i]? = some p) (X : Db k m w x) : Ds k (n + m) w (xs.take i ++ [x] ++ xs.drop (i + 1)) ∧ szs (xs.take i ++ [x] ++ xs.drop (i + 1)) + sz p ≤ szs xs + m := by
  have e2 := szs_at e
  have t1 := h.sub (List.take_sublist i xs)
  have t2 := h.sub (List.drop_sublist (i + 1) xs)
  have A : Ds k (n + (m + 2 + 0) + n) w (xs.take i ++ [x] ++ xs.drop (i + 1)) := (t1.app (Ds.cons X (Ds.nil (n := 0)))).app t2
  have z : szs (xs.take i ++ [x] ++ xs.drop (i + 1)) = szs (xs.take i) + (sz x + 2) + szs (xs.drop (i + 1)) := by rw [szs_app, szs_app]; simp [szs]
  have hx := X.z
  have hn := h.z
  exact ⟨⟨A.d, A.s, A.p, by rw [z]; omega, A.w⟩, by rw [z]; omega⟩
theorem six_nat {n d i : Nat} (h : i ≤ n) : HT.sIx n d (some (i : Int)) = i := by
  show (if (i : Int) < 0 then ((i : Int) + (n : Int)).toNat else min (i : Int).toNat n) = i
  rw [if_neg (by omega), Int.toNat_natCast, Nat.min_eq_left h]
theorem cut_take {α : Type} {xs : List α} {i : Nat} (h : i ≤ xs.length) : cutL xs none (some (i : Int)) = xs.take i := by
  unfold cutL
  rw [six_nat h, show HT.sIx xs.length 0 none = 0 from rfl, Nat.sub_zero, List.drop_zero]
theorem cut_drop {α : Type} {xs : List α} {i : Nat} (h : i ≤ xs.length) : cutL xs (some (i : Int)) none = xs.drop i := by
  unfold cutL
  rw [six_nat h, show HT.sIx xs.length xs.length none = xs.length from rfl, List.take_of_length_le (by simp)]
theorem cut_one {α : Type} {xs : List α} {i : Nat} (h : i + 1 ≤ xs.length) : (cutL xs (some (i : Int)) (some ((i : Int) + 1))).length ≤ 1 := by
  unfold cutL
  rw [six_nat (by omega), show ((i : Int) + 1) = ((i + 1 : Nat) : Int) from rfl, six_nat h, List.length_take]
  omega
theorem szs_rev : ∀ xs : List U, szs xs.reverse = szs xs
  | [] => rfl
  | x :: xs => by rw [List.reverse_cons, szs_app, szs_rev xs]; simp only [szs]; omega
theorem deps_rev : ∀ xs : List U, deps xs.reverse = deps xs
  | [] => rfl
  | x :: xs => by rw [List.reverse_cons, deps_app, deps_rev xs]; simp only [deps]; omega
theorem wids_rev : ∀ xs : List U, wids xs.reverse = wids xs
  | [] => rfl
  | x :: xs => by rw [List.reverse_cons, wids_app, wids_rev xs]; simp only [wids]; omega
theorem Ds.rev {k n w : Nat} {xs : List U} (h : Ds k n w xs) : Ds k n w xs.reverse :=
  ⟨isDs_iff.mpr fun x hx => isDs_iff.mp h.d x (List.mem_reverse.mp hx), shws_iff.mpr fun x hx => shws_iff.mp h.s x (List.mem_reverse.mp hx), by rw [deps_rev]; exact h.p, by rw [szs_rev]; exact h.z, by rw [wids_rev]; exact h.w⟩
theorem cut_sub {α : Type} (xs : List α) (lo hi : Option Int) : (cutL xs lo hi).Sublist xs := by
  unfold cutL
  exact (List.take_sublist ..).trans (List.drop_sublist ..)
def sp__law_bent_pairs : USp := fun us M Q _ => ∃ (s c : Addr) (n k m w : Nat) (ps : List U), us = [.ref s, .tup ps] ∧ ps.all pairU = true ∧ Db (k + 3) m w (.tup ps) ∧ 60 ≤ w ∧ w ≤ 1000 ∧ Strm M s c (n + 310) ∧
  ∀ y M', Db (k + 10) (2 * m + 30000) (w + 1) y → Strm M' s c n → But s c M M' → Q y M'
theorem ok__law_bent_pairs (L : Lw K mg) : UFn P w K mg base CX0 10 L.f__law_bent_pairs L.fd__law_bent_pairs ["_law_stream", "_law_pairs"] (sp__law_bent_pairs) := by
  refine ufn_ok L.D__law_bent_pairs.F sc__law_bent_pairs (fun us M Q E h => ?_) (fun cdv A outer s H E hr hG =>
      (uss_cons (us_if (ut_cmp (uo_eq (hu6 hr)) (uv 1) (ue_tup ua_nil) (nomark _)) (uss_one (us_ret (ue_ix (ue_lst false (ua_cons (ue_tup ua_nil) (ua_cons (ue_lst false ua_nil) (ua_cons ue_non (ua_cons ue_str (ua_cons (ue_tup (ua_cons (ue_tup ua_nil) ua_nil)) (ua_cons ue_int ua_nil))))))) (ue_call (ok__law_draw L) (hr.mono (by decide)) hG rfl L.D__law_draw.g L.D__law_draw.F.kp L.D__law_draw.b .nil (fun _ => RelUs.nil) (ua_cons (uv 0) (ua_cons ue_int ua_nil)))))) uss_nil)
      (uss_cons (us_set (i := 2) sc__law_bent_pairs.nd rfl (.inr rfl) (ue_call (ok__law_draw L) (hr.mono (by decide)) hG rfl L.D__law_draw.g L.D__law_draw.F.kp L.D__law_draw.b .nil (fun _ => RelUs.nil) (ua_cons (uv 0) (ua_cons (ue_callB uc_len (by rfl) L.n_len bt_len (ua_cons (uv 1) ua_nil)) ua_nil))))
      (uss_cons (us_asg (ue_ix (uv 1) (uv 2)) (ug_tup (n := 2) rfl (ugs_cons (ug_name (i := 3) sc__law_bent_pairs.nd rfl (.inl rfl)) (ugs_cons (ug_name (i := 4) sc__law_bent_pairs.nd rfl (.inl rfl)) ugs_nil))))
      (uss_cons (us_set (i := 5) sc__law_bent_pairs.nd rfl (.inl rfl) (ue_lst false (ua_cons (ue_lst false (ua_cons (uv 3) (ua_cons (uv 4) ua_nil))) (ua_cons (ue_tup (ua_cons (uv 3) ua_nil)) (ua_cons (ue_tup (ua_cons (uv 3) (ua_cons (uv 4) (ua_cons (uv 4) ua_nil)))) (ua_cons (ue_tup (ua_cons (ue_call (ok__law_near_name L) (hr.mono (by decide)) hG rfl L.D__law_near_name.g L.D__law_near_name.F.kp L.D__law_near_name.b .nil (fun _ => RelUs.nil) (ua_cons (uv 0) ua_nil)) (ua_cons (uv 4) ua_nil))) ua_nil))))))
      (uss_cons (us_set (i := 5) sc__law_bent_pairs.nd rfl (.inl rfl) (ue_op (uo_add false) (uv 5) (ue_lst false (ua_cons (ue_tup (ua_cons (uv 3) (ua_cons (ue_call (ok__law_near_value L) (hr.mono (by decide)) hG rfl L.D__law_near_value.g L.D__law_near_value.F.kp L.D__law_near_value.b .nil (fun _ => RelUs.nil) (ua_cons (uv 0) ua_nil)) ua_nil))) (ua_cons (ue_tup (ua_cons (uv 3) (ua_cons (ue_call (ok__law_thing L 2) (hr.mono (by decide)) hG rfl L.D__law_thing.g L.D__law_thing.F.kp L.D__law_thing.b .nil (fun _ => RelUs.nil) (ua_cons (uv 0) (ua_cons ue_int ua_nil))) ua_nil))) (ua_cons ue_non (ua_cons (uv 3) ua_nil)))))))
      (uss_cons (us_setLc (i := 5) (own := [("_law_one", 6)]) (n := (.one 6)) false rfl sc__law_bent_pairs.nd rfl rfl (sw_true rfl rfl rfl (by decide +kernel)) (ui_any (uv 5)) (blkOk_by (own := [("_law_one", 6)]) (N := ["_law_stream", "_law_pairs", "_law_at", "_law_name", "_law_value_here", "_law_some", "_law_one"]) (sc := defScope s__law_bent_pairs) (by decide +kernel)) (by decide) (fun _ _ _ _ _ => (pg_nt sc__law_bent_pairs.nd rfl (.inl rfl))) (fun _ _ _ _ _ => uts_nil) (fun _ _ _ _ _ => (ue_op (uo_add false) (ue_op (uo_add false) (ue_slice false (uv 1) uo_none (uo_some (uv 2))) (ue_tup (ua_cons (uv 6) ua_nil))) (ue_slice false (uv 1) (uo_some (ue_op (uo_add false) (uv 2) ue_int)) uo_none))))
      (uss_one (us_ret (ue_ix (ue_op (uo_add false) (uv 5) (ue_lst false (ua_cons (ue_callTy (uc_list false) (by rfl) L.n_list bt_list (ua_cons (uv 1) ua_nil)) (ua_cons (ue_op (uo_add false) (uv 1) (ue_slice false (uv 1) (uo_some (uv 2)) (uo_some (ue_op (uo_add false) (uv 2) ue_int)))) (ua_cons (ue_rev false (uv 1)) ua_nil))))) (ue_call (ok__law_draw L) (hr.mono (by decide)) hG rfl L.D__law_draw.g L.D__law_draw.F.kp L.D__law_draw.b .nil (fun _ => RelUs.nil) (ua_cons (uv 0) (ua_cons ue_int ua_nil))))))))))))) (fun us M Q E h => ?_)
  · obtain ⟨s, c, n, k, m, w, ps, rfl, _⟩ := h
    rfl
  · obtain ⟨s, c, n, k, m, w, ps, rfl, hp, hd, hw, hw2, hS, q⟩ := h
    have q : ∀ y M', Db (k + 10) (2 * m + 30000) (w + 1) y → Strm M' s c n → But s c M M' → ZQ Q y M' := fun y M' h1 h2 h3 => .inl (q y M' h1 h2 h3)
    obtain ⟨hit, hsz, hlen⟩ := Db.items (k := k + 2) hd
    walk_at "q2"
    refine ⟨hit.d, iteI (fun e => ?_) (fun e => ?_)⟩
    · refine ⟨line_le, line_le, draw_use (n := n) (hS.le (by omega)) (by decide) (by decide) fun r M1 h0 h1 hS1 hB1 => ?_⟩
      obtain ⟨v, e2, hv⟩ := at_draw (xs := [.tup [], .lst [], .non, .str "", .tup [.tup []], .int 0]) h0 h1
      walk_at "q0"
      exact ⟨v, e2, q v M1 ((Dt.ofs (k := 3) (n := 1000) (by decide +kernel) v hv).db.mono (by omega) (by omega) (by omega)) hS1 hB1⟩
    have hpos : 0 < ps.length := by
      cases ps with
      | nil => exact absurd rfl e
      | cons _ _ => simp
    refine draw_use (n := n + 309) hS (by omega) (by omega) fun r M1 h0 h1 hS1 hB1 => ?_
    obtain ⟨i, rfl, hi⟩ : ∃ i : Nat, r = i ∧ i < ps.length := ⟨r.toNat, by omega, by omega⟩
    have hat : ps[i]? = some ps[i] := List.getElem?_eq_getElem hi
    obtain ⟨z, b, hpr, hz⟩ := pair_is (List.all_eq_true.mp hp _ (List.getElem_mem hi))
    rw [hpr] at hat
    have P := hit.at hat
    obtain ⟨pit, psz, _⟩ := Db.items (k := k + 1) P
    have Z : Db (k + 1) 82 w (.str z) := by
      have h1 := pit.d
      simp only [isDs,isD,Bool.and_eq_true] at h1
      have h2 : z.length ≤ 8 := by simp only [isNameU,Bool.and_eq_true,decide_eq_true_eq] at hz; exact hz.2.1
      exact (Dt.str (n := 82) h1.1 (by omega)).db.mono (by omega) (Nat.le_refl _) hw
    have B : Db (k + 1) (sz b) w b := by
      have := pit.at (i := 1) (p := b) rfl
      exact ⟨this.d, this.s, this.p, Nat.le_refl _, this.w⟩
    have psz2 : sz (.tup [.str z, b]) = 10 * z.length + 2 + 2 + (sz b + 2) + 4 := by simp only [sz,szs] <;> omega
    have ixe : atI ps (i : Int) = some (.tup [.str z, b]) := atI_nat hat
    simp only [z8i,uOr,z8d,z8m,uCB,z7t,z8l,uC,z8o,z7w,uOp,uUn,z8s,z8j,uIf,z8e,z7v,z7u,z7s,uBM,z8g,uSl,z4x,z8r,z72,z8q,z7x,List.append_nil,z8t,z80,z8y,z7z,z8u,z81,z8w,z8v,xIf,z74,z8x,z8p,z3t,z8n,z7m,z7q,z7o,z7p,z5w,z5v,z7a,z3l,z3m,z75,z5g,z8k,asD,uXf,z8f,z5n,z7y,z6e,z6d,z68,z67,z63,z5h,z5i,z5j,z3v,z3w,z6f,z64,z62,z5r,z6b,z7j,z7k,z7i,z7c,z7b,z7l,z7e,z5o,z2m,z2w,z2k,z2o,z2p,z2l,z2n,z5c,z73,z5a,z5e,z5f,z5b,z3g,z5d,z3e,z2q,z2r,z3i,z3k,z3j,z39,z3a,z37,z38,z4q,z6h,z4o,z4s,z4t,z4p,z3f,z4r,z4e,z4d,z3b,z2s,z3d,z3c,z0h,z0g,z0d,z0a,z0f,z0e,z1o,z1n,z0u,z0j,z0w,z0v,z2d,z2c,z1r,z10,z1t,z1s,z2f,z2e,z1w,z14,z1y,z1x,z16,z15,z0m,z0i,z0o,z0n,z1v,z1u,z11,z0l,z13,z12,z1q,z1p,z0x,z0k,z0z,z0y,z4i,z6g,z4g,z4j,z4k,z4h,z82,z88,z46,z5x,z44,z47,z48,z45,z2v,z2j,z40,z5q,z3y,z41,z42,z3z,z2u,z2i,z6y,z70,z6x,z71,z6z,z59,z56,z57,z58,z87,z86,z7r,z79,z7n,z7d,z5y,z76,z77,z6c,z69,z6a,z8b,z8c,z89,z8a,z85,z83,z84,z4v,z4u,z6i,z78,z5m,z5l,z5k,z6n,z6o,z6p,z6q,z6r,z6s,z6t,z6u,z6v,z6w,z50,z51,z52,z53,z54,z55,z4b,z4c,z49,z27,z26,z1e,z0r,z1g,z1f,z05,z04,z2h,z2g,z1z,z17,z21,z20,z0c,z0b,z23,z22,z18,z0p,z1a,z19,z01,z00,z29,z28,z1h,z0s,z1j,z1i,z07,z06,z2b,z2a,z1k,z0t,z1m,z1l,z09,z08,z25,z24,z1b,z0q,z1d,z1c,z03,z02,z6m,z8h,z4z,z6l,z6k,z4w,z4y,z3s,z6j,z3p,z4f,z3n,z3q,z3r,z3o,z5p,z2t,z3h,z4n,z4l,z4a,z66,z65,z4m,z60,z61,z5z,z32,z2x,z33,z2y,z34,z2z,z35,z30,z36,z31,z7h,z7g,z3u,z5u,z3x,z7f,z5t,z43,z5s,cle,clt,cge,cgt,ceq,cne,lenN,xFor,xTryM,uMix,uEnum,uZip,ltT,uSortK,sortK,sortN,uDNew,uDGet,inN,setN,uDNewS,uDGetS,inS,setS,uDm,uDm0,getR,popS,setdS,getNR,setdN,popNR,itemsR,lenS,dictS,sortItR,uFld,uFst,uMake,uLock,uLockE,uKeys,sortE,sortL,xOp,reprT_1,listN,mulT,gLst_l,gLst_r,sum_l,sum_r,min_ii,max_ii,sortSD,pop1S,dictN,uD1,updN,exists_eq_left',exists_eq_left,Option.some.injEq,U.int.injEq,U.bl.injEq,U.str.injEq,U.ref.injEq,U.tup.injEq,U.lst.injEq,U.ty.injEq,List.cons.injEq,and_true,true_and,and_self,List.map_cons,List.map_nil,List.length_cons,List.length_nil,List.cons_append,List.nil_append,List.append_nil,List.getElem?_cons_zero,List.getElem?_cons_succ,List.set_cons_zero,List.set_cons_succ,List.replicate,↓reduceIte,Bool.false_eq_true,Bool.not_true,Bool.not_false,reduceCtorEq,Nat.reduceAdd,Nat.reduceSub,Nat.reduceLeDiff,Nat.reduceEqDiff,decide_true,decide_false,at0,at1,at2,at3,at4,ix0,ix1,ix2,ix3,ix4,updM_same,beq_self_eq_true,Option.bind,Option.map,wipeU,NT.put,puts,MO.lst.injEq,exists_and_left,decide_eq_true_eq,Bool.and_eq_true,Bool.or_eq_true,exists_eq',Nat.zero_le,true_or,or_true,ixe]
    refine ⟨line_le, line_le, line_le, near_name_use (n := n + 288) (hS1.le (by omega)) fun z2 M2 hz2 hz2o hS2 hB2 => ⟨line_le, line_le, near_value_use (n := n + 28) hS2 fun y1 M3 hy1 hS3 hB3 => ⟨line_le, thing_use (d := 2) (n := n + 1) (hS3.le (by simp only [tC]; omega)) fun y2 M4 hy2 hS4 hB4 => ⟨line_le, line_le, line_le, ?_⟩⟩⟩⟩
    have c1 := cut_take (xs := ps) (i := i) (by omega)
    have c2 : cutL ps (some ((i : Int) + 1)) none = ps.drop (i + 1) := cut_drop (xs := ps) (i := i + 1) (by omega)
    have c3 := cut_one (xs := ps) (i := i) (by omega)
    have hB14 := ((hB1.trans hB2).trans hB3).trans hB4
    walk_at "q2"
    have all8 : ∀ x ∈ [U.lst [.str z, b], .tup [.str z], .tup [.str z, b, b], .tup [.str z2, b], .tup [.str z, y1], .tup [.str z, y2], .non, .str z], Db (k + 8) (2 * sz b + 22600) w x := fun x hx => by
      have Z' : Db (k + 7) 82 w (.str z) := Z.mono (by omega) (Nat.le_refl _) (Nat.le_refl _)
      have B' : Db (k + 7) (sz b) w b := B.mono (by omega) (Nat.le_refl _) (Nat.le_refl _)
      have Z2 : Db (k + 7) 172 w (.str z2) := (Dt.str (n := 172) hz2o (by omega)).db.mono (by omega) (Nat.le_refl _) hw
      have Y1 : Db (k + 7) 22000 w y1 := hy1.db.mono (by omega) (Nat.le_refl _) hw
      have Y2 : Db (k + 7) 1030 w y2 := hy2.db.mono (by omega) (by decide) hw
      simp only [List.mem_cons,List.not_mem_nil,or_false] at hx
      rcases hx with rfl | rfl | rfl | rfl | rfl | rfl | rfl | rfl
      · exact (Ds.cons Z' (Ds.cons B' (Ds.nil (n := 0)))).lst (by simp; omega) |>.mono (by omega) (by omega) (by omega)
      · exact (Ds.cons Z' (Ds.nil (n := 0))).tup (by simp; omega) |>.mono (by omega) (by omega) (by omega)
      · exact (Ds.cons Z' (Ds.cons B' (Ds.cons B' (Ds.nil (n := 0))))).tup (by simp; omega) |>.mono (by omega) (by omega) (by omega)
      · exact (Ds.cons Z2 (Ds.cons B' (Ds.nil (n := 0)))).tup (by simp; omega) |>.mono (by omega) (by omega) (by omega)
      · exact (Ds.cons Z' (Ds.cons Y1 (Ds.nil (n := 0)))).tup (by simp; omega) |>.mono (by omega) (by omega) (by omega)
      · exact (Ds.cons Z' (Ds.cons Y2 (Ds.nil (n := 0)))).tup (by simp; omega) |>.mono (by omega) (by omega) (by omega)
      · exact ⟨rfl, rfl, Nat.zero_le _, by simp only [sz]; omega, Nat.zero_le _⟩
      · exact Z.mono (by omega) (by omega) (Nat.le_refl _)
    refine lc_map (fun x => .tup (ps.take i ++ [x] ++ ps.drop (i + 1))) (fun _ _ _ => True.intro) (fun D acc hD x hx => ⟨_, rfl, fun Q q => ?_⟩) ?_
    · simp only [z8i,uOr,z8d,z8m,uCB,z7t,z8l,uC,z8o,z7w,uOp,uUn,z8s,z8j,uIf,z8e,z7v,z7u,z7s,uBM,z8g,uSl,z4x,z8r,z72,z8q,z7x,List.append_nil,z8t,z80,z8y,z7z,z8u,z81,z8w,z8v,xIf,z74,z8x,z8p,z3t,z8n,z7m,z7q,z7o,z7p,z5w,z5v,z7a,z3l,z3m,z75,z5g,z8k,asD,uXf,z8f,z5n,z7y,z6e,z6d,z68,z67,z63,z5h,z5i,z5j,z3v,z3w,z6f,z64,z62,z5r,z6b,z7j,z7k,z7i,z7c,z7b,z7l,z7e,z5o,z2m,z2w,z2k,z2o,z2p,z2l,z2n,z5c,z73,z5a,z5e,z5f,z5b,z3g,z5d,z3e,z2q,z2r,z3i,z3k,z3j,z39,z3a,z37,z38,z4q,z6h,z4o,z4s,z4t,z4p,z3f,z4r,z4e,z4d,z3b,z2s,z3d,z3c,z0h,z0g,z0d,z0a,z0f,z0e,z1o,z1n,z0u,z0j,z0w,z0v,z2d,z2c,z1r,z10,z1t,z1s,z2f,z2e,z1w,z14,z1y,z1x,z16,z15,z0m,z0i,z0o,z0n,z1v,z1u,z11,z0l,z13,z12,z1q,z1p,z0x,z0k,z0z,z0y,z4i,z6g,z4g,z4j,z4k,z4h,z82,z88,z46,z5x,z44,z47,z48,z45,z2v,z2j,z40,z5q,z3y,z41,z42,z3z,z2u,z2i,z6y,z70,z6x,z71,z6z,z59,z56,z57,z58,z87,z86,z7r,z79,z7n,z7d,z5y,z76,z77,z6c,z69,z6a,z8b,z8c,z89,z8a,z85,z83,z84,z4v,z4u,z6i,z78,z5m,z5l,z5k,z6n,z6o,z6p,z6q,z6r,z6s,z6t,z6u,z6v,z6w,z50,z51,z52,z53,z54,z55,z4b,z4c,z49,z27,z26,z1e,z0r,z1g,z1f,z05,z04,z2h,z2g,z1z,z17,z21,z20,z0c,z0b,z23,z22,z18,z0p,z1a,z19,z01,z00,z29,z28,z1h,z0s,z1j,z1i,z07,z06,z2b,z2a,z1k,z0t,z1m,z1l,z09,z08,z25,z24,z1b,z0q,z1d,z1c,z03,z02,z6m,z8h,z4z,z6l,z6k,z4w,z4y,z3s,z6j,z3p,z4f,z3n,z3q,z3r,z3o,z5p,z2t,z3h,z4n,z4l,z4a,z66,z65,z4m,z60,z61,z5z,z32,z2x,z33,z2y,z34,z2z,z35,z30,z36,z31,z7h,z7g,z3u,z5u,z3x,z7f,z5t,z43,z5s,cle,clt,cge,cgt,ceq,cne,lenN,xFor,xTryM,uMix,uEnum,uZip,ltT,uSortK,sortK,sortN,uDNew,uDGet,inN,setN,uDNewS,uDGetS,inS,setS,uDm,uDm0,getR,popS,setdS,getNR,setdN,popNR,itemsR,lenS,dictS,sortItR,uFld,uFst,uMake,uLock,uLockE,uKeys,sortE,sortL,xOp,reprT_1,listN,mulT,gLst_l,gLst_r,sum_l,sum_r,min_ii,max_ii,sortSD,pop1S,dictN,uD1,updN,exists_eq_left',exists_eq_left,Option.some.injEq,U.int.injEq,U.bl.injEq,U.str.injEq,U.ref.injEq,U.tup.injEq,U.lst.injEq,U.ty.injEq,List.cons.injEq,and_true,true_and,and_self,List.map_cons,List.map_nil,List.length_cons,List.length_nil,List.cons_append,List.nil_append,List.append_nil,List.getElem?_cons_zero,List.getElem?_cons_succ,List.set_cons_zero,List.set_cons_succ,List.replicate,↓reduceIte,Bool.false_eq_true,Bool.not_true,Bool.not_false,reduceCtorEq,Nat.reduceAdd,Nat.reduceSub,Nat.reduceLeDiff,Nat.reduceEqDiff,decide_true,decide_false,at0,at1,at2,at3,at4,ix0,ix1,ix2,ix3,ix4,updM_same,beq_self_eq_true,Option.bind,Option.map,wipeU,NT.put,puts,MO.lst.injEq,exists_and_left,decide_eq_true_eq,Bool.and_eq_true,Bool.or_eq_true,exists_eq',Nat.zero_le,true_or,or_true,c1,c2]
      refine ⟨line_le, line_le ?_, line_le ?_, q⟩
      · simp; omega
      · simp; omega
    walk_at "q0"
    refine ⟨line_le (by omega), line_le, line_le, draw_use (n := n) hS4 (by decide) (by decide) fun r2 M5 h2 h3 hS5 hB5 => ?_⟩
    walk_at "q0"
    have hR : Ds (k + 8) m w ps := hit.mono (by omega) (Nat.le_refl _) (Nat.le_refl _)
    have F : ∀ x, Db (k + 8) (2 * sz b + 22600) w x → Db (k + 10) (2 * m + 30000) (w + 1) (.tup (ps.take i ++ [x] ++ ps.drop (i + 1))) := fun x hx => by
      obtain ⟨A, A2⟩ := hR.swap hat hx
      have hl : (ps.take i ++ [x] ++ ps.drop (i + 1)).length ≤ w := by simp; omega
      have T := A.tup hl
      have pz := P.z
      rw [psz2] at pz A2
      refine ⟨T.d, T.s, Nat.le_trans T.p (by omega), ?_, Nat.le_trans T.w (by omega)⟩
      simp only [sz]
      omega
    obtain ⟨v, e2, hv⟩ := at_draw (xs := [U.tup (List.take i ps ++ [U.lst [U.str z, b]] ++ List.drop (i + 1) ps), U.tup (List.take i ps ++ [U.tup [U.str z]] ++ List.drop (i + 1) ps), U.tup (List.take i ps ++ [U.tup [U.str z, b, b]] ++ List.drop (i + 1) ps), U.tup (List.take i ps ++ [U.tup [U.str z2, b]] ++ List.drop (i + 1) ps), U.tup (List.take i ps ++ [U.tup [U.str z, y1]] ++ List.drop (i + 1) ps), U.tup (List.take i ps ++ [U.tup [U.str z, y2]] ++ List.drop (i + 1) ps),
      U.tup (List.take i ps ++ [U.non] ++ List.drop (i + 1) ps), U.tup (List.take i ps ++ [U.str z] ++ List.drop (i + 1) ps), U.lst ps, U.tup (ps ++ cutL ps (some ↑i) (some (↑i + 1))), U.tup ps.reverse]) h2 h3
    refine ⟨v, e2, q v M5 ?_ hS5 (hB14.trans hB5)⟩
    have m8 : ∀ {x : U}, x ∈ [U.lst [.str z, b], .tup [.str z], .tup [.str z, b, b], .tup [.str z2, b], .tup [.str z, y1], .tup [.str z, y2], .non, .str z] → Db (k + 10) (2 * m + 30000) (w + 1) (.tup (ps.take i ++ [x] ++ ps.drop (i + 1))) := fun h => F _ (all8 _ h)
    clear F all8
    simp only [List.mem_cons,List.not_mem_nil,or_false] at hv
    rcases hv with rfl | rfl | rfl | rfl | rfl | rfl | rfl | rfl | rfl | rfl | rfl
    · exact m8 (by simp)
    · exact m8 (by simp)
    · exact m8 (by simp)
    · exact m8 (by simp)
    · exact m8 (by simp)
    · exact m8 (by simp)
    · exact m8 (by simp)
    · exact m8 (by simp)
    · exact (hR.lst hlen).mono (by omega) (by omega) (by omega)
    · refine ((hR.app (hR.sub (cut_sub ps _ _))).mono (Nat.le_refl _) (Nat.le_refl _) (Nat.le_succ w)).tup ?_ |>.mono (by omega) (by omega) (Nat.le_refl _)
      rw [List.length_append]; omega
    · exact (hR.rev.tup (by rw [List.length_reverse]; exact hlen)).mono (by omega) (by omega) (by omega)

/-! ### _law_bent_tree -/
def sp__law_bent_tree (l : Nat) : USp := fun us M Q _ => ∃ (s c : Addr) (n k m w : Nat) (x : U), us = [.ref s, x] ∧ treeN l x = true ∧ Db (k + 1) m w x ∧ 60 ≤ w ∧ w ≤ 1000 ∧ Strm M s c (n + 2 * l + 340) ∧
  ∀ y M', Db (k + 11) (2 * m + 30100) (w + 1) y → Strm M' s c n → But s c M M' → Q y M'
theorem tree_is {l : Nat} {x : U} (h : treeN (l + 1) x = true) : ∃ ps cs, x = .tup [.tup ps, .tup cs] ∧ ps.all pairU = true ∧ cs.all pairU = true ∧ cs.all (fun c => treeN l (sndU c)) = true := by
  cases x with
  | tup xs =>
    match xs, h with
    | [a, b], h =>
      cases hp : (partU a && partU b) with
      | false => rw [treeN_part hp] at h; cases h
      | true =>
        rw [Bool.and_eq_true] at hp
        obtain ⟨ps, rfl, p1, _⟩ := part_is hp.1
        obtain ⟨cs, rfl, c1, _⟩ := part_is hp.2
        simp only [treeN,Bool.and_eq_true] at h
        exact ⟨ps, cs, rfl, p1, c1, h.2⟩
    | [], h => simp [treeN] at h
    | [_], h => simp [treeN] at h
    | _ :: _ :: _ :: _, h => simp [treeN] at h
  | _ => simp [treeN] at h
theorem step__law_bent_tree (L : Lw K mg) {k : Nat} {sp' : USp} (l : Nat) (G : UFn P w K mg base CX0 (11 + k) L.f__law_bent_tree L.fd__law_bent_tree ["_law_stream", "_law_part"] sp') (hsp : ∀ l', l = l' + 1 → sp' = sp__law_bent_tree l') : UFn P w K mg base CX0 (11 + k + 1) L.f__law_bent_tree L.fd__law_bent_tree ["_law_stream", "_law_part"] (sp__law_bent_tree l) := by
  refine ufn_ok L.D__law_bent_tree.F sc__law_bent_tree (fun us M Q E h => ?_) (fun cdv A outer s H E hr hG =>
      (uss_cons (us_if (PW.pt (uw_and (ut_cmp (uo_ne (hu6 hr)) (ue_ix (uv 1) ue_int) (ue_tup ua_nil) (nomark _)) (uw_and1 (ut_cmp uo_gt (ue_call (ok__law_draw L) (hr.mono (by omega)) hG rfl L.D__law_draw.g L.D__law_draw.F.kp L.D__law_draw.b .nil (fun _ => RelUs.nil) (ua_cons (uv 0) (ua_cons ue_int ua_nil))) ue_int (nomark _))))) (uss_cons (us_set (i := 4) sc__law_bent_tree.nd rfl (.inl rfl) (ue_call (ok__law_draw L) (hr.mono (by omega)) hG rfl L.D__law_draw.g L.D__law_draw.F.kp L.D__law_draw.b .nil (fun _ => RelUs.nil) (ua_cons (uv 0) (ua_cons (ue_callB uc_len (by rfl) L.n_len bt_len (ua_cons (ue_ix (uv 1) ue_int) ua_nil)) ua_nil))))
      (uss_cons (us_asg (ue_ix (ue_ix (uv 1) ue_int) (uv 4)) (ug_tup (n := 2) rfl (ugs_cons (ug_name (i := 5) sc__law_bent_tree.nd rfl (.inl rfl)) (ugs_cons (ug_name (i := 6) sc__law_bent_tree.nd rfl (.inl rfl)) ugs_nil))))
      (uss_one (us_ret (ue_tup (ua_cons (ue_ix (uv 1) ue_int) (ua_cons (ue_op (uo_add false) (ue_op (uo_add false) (ue_slice false (ue_ix (uv 1) ue_int) uo_none (uo_some (uv 4))) (ue_tup (ua_cons (ue_tup (ua_cons (uv 5) (ua_cons (ue_call G (hr.mono (by omega)) hG rfl L.D__law_bent_tree.g L.D__law_bent_tree.F.kp L.D__law_bent_tree.b .nil (fun _ => RelUs.nil) (ua_cons (uv 0) (ua_cons (uv 6) ua_nil))) ua_nil))) ua_nil))) (ue_slice false (ue_ix (uv 1) ue_int) (uo_some (ue_op (uo_add false) (uv 4) ue_int)) uo_none)) ua_nil))))))) uss_nil)
      (uss_cons (us_set (i := 2) sc__law_bent_tree.nd rfl (.inl rfl) (ue_call (ok__law_draw L) (hr.mono (by omega)) hG rfl L.D__law_draw.g L.D__law_draw.F.kp L.D__law_draw.b .nil (fun _ => RelUs.nil) (ua_cons (uv 0) (ua_cons ue_int ua_nil))))
      (uss_cons (us_if (ut_cmp (uo_eq (hu6 hr)) (uv 2) ue_int (nomark _)) (uss_one (us_ret (ue_ix (ue_lst false (ua_cons (ue_callTy (uc_list false) (by rfl) L.n_list bt_list (ua_cons (uv 1) ua_nil)) (ua_cons (ue_op (uo_add false) (uv 1) (ue_tup (ua_cons (ue_tup ua_nil) ua_nil))) (ua_cons (ue_slice false (uv 1) uo_none (uo_some ue_int)) (ua_cons (ue_call (ok__law_thing L 2) (hr.mono (by omega)) hG rfl L.D__law_thing.g L.D__law_thing.F.kp L.D__law_thing.b .nil (fun _ => RelUs.nil) (ua_cons (uv 0) (ua_cons ue_int ua_nil))) ua_nil))))) (ue_call (ok__law_draw L) (hr.mono (by omega)) hG rfl L.D__law_draw.g L.D__law_draw.F.kp L.D__law_draw.b .nil (fun _ => RelUs.nil) (ua_cons (uv 0) (ua_cons ue_int ua_nil)))))) uss_nil)
      (uss_cons (us_set (i := 3) sc__law_bent_tree.nd rfl (.inl rfl) (ue_callTy (uc_list true) (by rfl) L.n_list bt_list (ua_cons (uv 1) ua_nil)))
      (uss_cons (us_asg (ue_call (ok__law_bent_pairs L) (hr.mono (by omega)) hG rfl L.D__law_bent_pairs.g L.D__law_bent_pairs.F.kp L.D__law_bent_pairs.b .nil (fun _ => RelUs.nil) (ua_cons (uv 0) (ua_cons (ue_ix (uv 1) (ue_op uo_mod (ue_callTy uc_int2 (by rfl) L.n_int bt_int (ua_cons (uv 2) ua_nil)) ue_int)) ua_nil))) (ug_sub ui_set (uv 3) (ue_op uo_mod (ue_callTy uc_int2 (by rfl) L.n_int bt_int (ua_cons (uv 2) ua_nil)) ue_int)))
      (uss_one (us_ret (ue_callTy uc_tuple (by rfl) L.n_tuple bt_tuple (ua_cons (uv 3) ua_nil)))))))))) (fun us M Q E h => ?_)
  · obtain ⟨s, c, n, k, m, w, x, rfl, _⟩ := h
    rfl
  · obtain ⟨s, c, n, k, m, w, x, rfl, ht, hd, hw, hw2, hS, q⟩ := h
    have q : ∀ y M', Db (k + 11) (2 * m + 30100) (w + 1) y → Strm M' s c n → But s c M M' → ZQ Q y M' := fun y M' h1 h2 h3 => .inl (q y M' h1 h2 h3)
    cases l with
    | zero => simp [treeN] at ht
    | succ l =>
      obtain rfl := hsp l rfl
      obtain ⟨ps, cs, rfl, hps, hcs, hsub⟩ := tree_is ht
      obtain ⟨hit, hsz, _⟩ := Db.items (k := k) hd
      have hsz2 : sz (.tup ps) + 2 + (sz (.tup cs) + 2 + 0) + 4 ≤ m := hsz
      have P0 := hit.at (i := 0) (p := .tup ps) rfl
      have C0 := hit.at (i := 1) (p := .tup cs) rfl
      have P : Db k (sz (.tup ps)) w (.tup ps) := ⟨P0.d, P0.s, P0.p, Nat.le_refl _, P0.w⟩
      have C : Db k (sz (.tup cs)) w (.tup cs) := ⟨C0.d, C0.s, C0.p, Nat.le_refl _, C0.w⟩
      have cl : cs.length ≤ w := by have := C.w; simp only [wid] at this; omega
      have dcs : isDs cs = true := by simpa [isD] using C.d
      have fin : ∀ M1, Strm M1 s c (n + 335) → But s c M M1 → sp__law_draw [.ref s, .int 8] M1 (fun x M1 => isD (val M1 x) = true ∧ @ite Prop (ueq (val M1 x) (.int 7) = true) (instDecidableEqBool (ueq (val M1 x) (.int 7)) true) (1 ≤ sizeLine ∧ 3 ≤ sizeLine ∧ sp__law_thing 2 [.ref s, .int 2] M1 (fun x M1 => 4 ≤ sizeLine ∧ sp__law_draw [.ref s, .int 4] M1 (fun y M2 => ixR (.lst [.lst [.tup ps, .tup cs], .tup [.tup ps, .tup cs, .tup []], .tup (cutL [.tup ps, .tup cs] none (some 1)), x]) y M2 (ZQ Q)) EU0) EU0)
          (∀ (p : Addr), M1 p = none → int2R [x] (updM M1 p (.lst [.tup ps, .tup cs])) fun x_1 M1 => modR x_1 (.int 2) M1 fun y M2 => ixR (.tup [.tup ps, .tup cs]) y M2 fun x_2 M1 => sp__law_bent_pairs [.ref s, x_2] M1 (fun x_3 M1 => int2R [x] M1 fun x M1 => modR x (.int 2) M1 fun i M2 => setR (.ref p) i x_3 M2 fun M3 => ∃ ys, refL (M3 p) = some ys ∧ ZQ Q (.tup ys) M3) EU0)) EU0 := by
        intro M1 hS1 hB1
        refine draw_use (n := n + 334) hS1 (by decide) (by decide) fun r M2 h0 h1 hS2 hB2 => ?_
        walk_at "q0"
        refine iteI (fun e => ?_) (fun e => ?_)
        · refine ⟨line_le, line_le, thing_use (d := 2) (n := n + 1) (hS2.le (by simp only [tC]; omega)) fun y2 M3 hy2 hS3 hB3 => ⟨line_le, draw_use hS3 (by decide) (by decide) fun r2 M4 h2 h3 hS4 hB4 => ?_⟩⟩
          walk_at "q0"
          obtain ⟨v, e2, hv⟩ := at_draw (xs := [U.lst [.tup ps, .tup cs], .tup [.tup ps, .tup cs, .tup []], .tup (cutL [.tup ps, .tup cs] none (some 1)), y2]) h2 h3
          refine ⟨v, e2, q v M4 ?_ hS4 (((hB1.trans hB2).trans hB3).trans hB4)⟩
          simp only [List.mem_cons,List.not_mem_nil,or_false] at hv
          rcases hv with rfl | rfl | rfl | rfl
          · exact (hit.lst (by simp; omega)).mono (by omega) (by omega) (by omega)
          · have N : Db (k + 1) 4 w (.tup []) := ⟨rfl, rfl, by simp only [dep,deps]; omega, by simp [sz, szs], by simp [wid, wids]⟩
            exact (Ds.cons (P.mono (Nat.le_succ k) (Nat.le_refl _) (Nat.le_refl _)) (Ds.cons (C.mono (Nat.le_succ k) (Nat.le_refl _) (Nat.le_refl _)) (Ds.cons N (Ds.nil (n := 0))))).tup (by simp; omega) |>.mono (by omega) (by omega) (by omega)
          · exact ((hit.sub (cut_sub _ _ _)).tup (by have := (cut_sub [U.tup ps, .tup cs] none (some 1)).length_le; simp at this; omega)).mono (by omega) (by omega) (by omega)
          · exact hy2.db.mono (by omega) (by simp only [tZ]; omega) (by omega)
        · intro p hp
          obtain ⟨g1, g2⟩ := hS2.sp hp
          have hMp : M p = none := by
            cases z : M p with
            | none => rfl
            | some o => rw [(hB1.trans hB2) p (Ne.symm g1) (Ne.symm g2) o z] at hp; cases hp
          rcases (show r % 2 = 0 ∨ r % 2 = 1 by omega) with h | h
          · simp only [z8i,uOr,z8d,z8m,uCB,z7t,z8l,uC,z8o,z7w,uOp,uUn,z8s,z8j,uIf,z8e,z7v,z7u,z7s,uBM,z8g,uSl,z4x,z8r,z72,z8q,z7x,List.append_nil,z8t,z80,z8y,z7z,z8u,z81,z8w,z8v,xIf,z74,z8x,z8p,z3t,z8n,z7m,z7q,z7o,z7p,z5w,z5v,z7a,z3l,z3m,z75,z5g,z8k,asD,uXf,z8f,z5n,z7y,z6e,z6d,z68,z67,z63,z5h,z5i,z5j,z3v,z3w,z6f,z64,z62,z5r,z6b,z7j,z7k,z7i,z7c,z7b,z7l,z7e,z5o,z2m,z2w,z2k,z2o,z2p,z2l,z2n,z5c,z73,z5a,z5e,z5f,z5b,z3g,z5d,z3e,z2q,z2r,z3i,z3k,z3j,z39,z3a,z37,z38,z4q,z6h,z4o,z4s,z4t,z4p,z3f,z4r,z4e,z4d,z3b,z2s,z3d,z3c,z0h,z0g,z0d,z0a,z0f,z0e,z1o,z1n,z0u,z0j,z0w,z0v,z2d,z2c,z1r,z10,z1t,z1s,z2f,z2e,z1w,z14,z1y,z1x,z16,z15,z0m,z0i,z0o,z0n,z1v,z1u,z11,z0l,z13,z12,z1q,z1p,z0x,z0k,z0z,z0y,z4i,z6g,z4g,z4j,z4k,z4h,z82,z88,z46,z5x,z44,z47,z48,z45,z2v,z2j,z40,z5q,z3y,z41,z42,z3z,z2u,z2i,z6y,z70,z6x,z71,z6z,z59,z56,z57,z58,z87,z86,z7r,z79,z7n,z7d,z5y,z76,z77,z6c,z69,z6a,z8b,z8c,z89,z8a,z85,z83,z84,z4v,z4u,z6i,z78,z5m,z5l,z5k,z6n,z6o,z6p,z6q,z6r,z6s,z6t,z6u,z6v,z6w,z50,z51,z52,z53,z54,z55,z4b,z4c,z49,z27,z26,z1e,z0r,z1g,z1f,z05,z04,z2h,z2g,z1z,z17,z21,z20,z0c,z0b,z23,z22,z18,z0p,z1a,z19,z01,z00,z29,z28,z1h,z0s,z1j,z1i,z07,z06,z2b,z2a,z1k,z0t,z1m,z1l,z09,z08,z25,z24,z1b,z0q,z1d,z1c,z03,z02,z6m,z8h,z4z,z6l,z6k,z4w,z4y,z3s,z6j,z3p,z4f,z3n,z3q,z3r,z3o,z5p,z2t,z3h,z4n,z4l,z4a,z66,z65,z4m,z60,z61,z5z,z32,z2x,z33,z2y,z34,z2z,z35,z30,z36,z31,z7h,z7g,z3u,z5u,z3x,z7f,z5t,z43,z5s,cle,clt,cge,cgt,ceq,cne,lenN,xFor,xTryM,uMix,uEnum,uZip,ltT,uSortK,sortK,sortN,uDNew,uDGet,inN,setN,uDNewS,uDGetS,inS,setS,uDm,uDm0,getR,popS,setdS,getNR,setdN,popNR,itemsR,lenS,dictS,sortItR,uFld,uFst,uMake,uLock,uLockE,uKeys,sortE,sortL,xOp,reprT_1,listN,mulT,gLst_l,gLst_r,sum_l,sum_r,min_ii,max_ii,sortSD,pop1S,dictN,uD1,updN,exists_eq_left',exists_eq_left,Option.some.injEq,U.int.injEq,U.bl.injEq,U.str.injEq,U.ref.injEq,U.tup.injEq,U.lst.injEq,U.ty.injEq,List.cons.injEq,and_true,true_and,and_self,List.map_cons,List.map_nil,List.length_cons,List.length_nil,List.cons_append,List.nil_append,List.append_nil,List.getElem?_cons_zero,List.getElem?_cons_succ,List.set_cons_zero,List.set_cons_succ,List.replicate,↓reduceIte,Bool.false_eq_true,Bool.not_true,Bool.not_false,reduceCtorEq,Nat.reduceAdd,Nat.reduceSub,Nat.reduceLeDiff,Nat.reduceEqDiff,decide_true,decide_false,at0,at1,at2,at3,at4,ix0,ix1,ix2,ix3,ix4,updM_same,beq_self_eq_true,Option.bind,Option.map,wipeU,NT.put,puts,MO.lst.injEq,exists_and_left,decide_eq_true_eq,Bool.and_eq_true,Bool.or_eq_true,exists_eq',Nat.zero_le,true_or,or_true,h]
            refine ⟨by decide, s, c, n, k, sz (.tup ps), w, ps, rfl, hps, P.mono (by omega) (Nat.le_refl _) (Nat.le_refl _), hw, hw2, ((hS2.upd g1 g2).le (by omega)), fun y M3 hy hS3 hB3 => ?_⟩
            have hp3 := hB3 p (Ne.symm g1) (Ne.symm g2) _ updM_same
            simp only [z8i,uOr,z8d,z8m,uCB,z7t,z8l,uC,z8o,z7w,uOp,uUn,z8s,z8j,uIf,z8e,z7v,z7u,z7s,uBM,z8g,uSl,z4x,z8r,z72,z8q,z7x,List.append_nil,z8t,z80,z8y,z7z,z8u,z81,z8w,z8v,xIf,z74,z8x,z8p,z3t,z8n,z7m,z7q,z7o,z7p,z5w,z5v,z7a,z3l,z3m,z75,z5g,z8k,asD,uXf,z8f,z5n,z7y,z6e,z6d,z68,z67,z63,z5h,z5i,z5j,z3v,z3w,z6f,z64,z62,z5r,z6b,z7j,z7k,z7i,z7c,z7b,z7l,z7e,z5o,z2m,z2w,z2k,z2o,z2p,z2l,z2n,z5c,z73,z5a,z5e,z5f,z5b,z3g,z5d,z3e,z2q,z2r,z3i,z3k,z3j,z39,z3a,z37,z38,z4q,z6h,z4o,z4s,z4t,z4p,z3f,z4r,z4e,z4d,z3b,z2s,z3d,z3c,z0h,z0g,z0d,z0a,z0f,z0e,z1o,z1n,z0u,z0j,z0w,z0v,z2d,z2c,z1r,z10,z1t,z1s,z2f,z2e,z1w,z14,z1y,z1x,z16,z15,z0m,z0i,z0o,z0n,z1v,z1u,z11,z0l,z13,z12,z1q,z1p,z0x,z0k,z0z,z0y,z4i,z6g,z4g,z4j,z4k,z4h,z82,z88,z46,z5x,z44,z47,z48,z45,z2v,z2j,z40,z5q,z3y,z41,z42,z3z,z2u,z2i,z6y,z70,z6x,z71,z6z,z59,z56,z57,z58,z87,z86,z7r,z79,z7n,z7d,z5y,z76,z77,z6c,z69,z6a,z8b,z8c,z89,z8a,z85,z83,z84,z4v,z4u,z6i,z78,z5m,z5l,z5k,z6n,z6o,z6p,z6q,z6r,z6s,z6t,z6u,z6v,z6w,z50,z51,z52,z53,z54,z55,z4b,z4c,z49,z27,z26,z1e,z0r,z1g,z1f,z05,z04,z2h,z2g,z1z,z17,z21,z20,z0c,z0b,z23,z22,z18,z0p,z1a,z19,z01,z00,z29,z28,z1h,z0s,z1j,z1i,z07,z06,z2b,z2a,z1k,z0t,z1m,z1l,z09,z08,z25,z24,z1b,z0q,z1d,z1c,z03,z02,z6m,z8h,z4z,z6l,z6k,z4w,z4y,z3s,z6j,z3p,z4f,z3n,z3q,z3r,z3o,z5p,z2t,z3h,z4n,z4l,z4a,z66,z65,z4m,z60,z61,z5z,z32,z2x,z33,z2y,z34,z2z,z35,z30,z36,z31,z7h,z7g,z3u,z5u,z3x,z7f,z5t,z43,z5s,cle,clt,cge,cgt,ceq,cne,lenN,xFor,xTryM,uMix,uEnum,uZip,ltT,uSortK,sortK,sortN,uDNew,uDGet,inN,setN,uDNewS,uDGetS,inS,setS,uDm,uDm0,getR,popS,setdS,getNR,setdN,popNR,itemsR,lenS,dictS,sortItR,uFld,uFst,uMake,uLock,uLockE,uKeys,sortE,sortL,xOp,reprT_1,listN,mulT,gLst_l,gLst_r,sum_l,sum_r,min_ii,max_ii,sortSD,pop1S,dictN,uD1,updN,exists_eq_left',exists_eq_left,Option.some.injEq,U.int.injEq,U.bl.injEq,U.str.injEq,U.ref.injEq,U.tup.injEq,U.lst.injEq,U.ty.injEq,List.cons.injEq,and_true,true_and,and_self,List.map_cons,List.map_nil,List.length_cons,List.length_nil,List.cons_append,List.nil_append,List.append_nil,List.getElem?_cons_zero,List.getElem?_cons_succ,List.set_cons_zero,List.set_cons_succ,List.replicate,↓reduceIte,Bool.false_eq_true,Bool.not_true,Bool.not_false,reduceCtorEq,Nat.reduceAdd,Nat.reduceSub,Nat.reduceLeDiff,Nat.reduceEqDiff,decide_true,decide_false,at0,at1,at2,at3,at4,ix0,ix1,ix2,ix3,ix4,updM_same,beq_self_eq_true,Option.bind,Option.map,wipeU,NT.put,puts,MO.lst.injEq,exists_and_left,decide_eq_true_eq,Bool.and_eq_true,Bool.or_eq_true,exists_eq',Nat.zero_le,true_or,or_true,h,hp3]
            refine ⟨by decide, q _ _ ?_ (hS3.upd g1 g2) ?_⟩
            · exact (Ds.cons hy (Ds.cons (C.mono (by omega) (Nat.le_refl _) (Nat.le_succ w)) (Ds.nil (n := 0)))).tup (by simp; omega) |>.mono (Nat.le_refl _) (by omega) (Nat.le_refl _)
            · exact ((((hB1.trans hB2).upd hMp).trans hB3)).upd hMp
          · simp only [z8i,uOr,z8d,z8m,uCB,z7t,z8l,uC,z8o,z7w,uOp,uUn,z8s,z8j,uIf,z8e,z7v,z7u,z7s,uBM,z8g,uSl,z4x,z8r,z72,z8q,z7x,List.append_nil,z8t,z80,z8y,z7z,z8u,z81,z8w,z8v,xIf,z74,z8x,z8p,z3t,z8n,z7m,z7q,z7o,z7p,z5w,z5v,z7a,z3l,z3m,z75,z5g,z8k,asD,uXf,z8f,z5n,z7y,z6e,z6d,z68,z67,z63,z5h,z5i,z5j,z3v,z3w,z6f,z64,z62,z5r,z6b,z7j,z7k,z7i,z7c,z7b,z7l,z7e,z5o,z2m,z2w,z2k,z2o,z2p,z2l,z2n,z5c,z73,z5a,z5e,z5f,z5b,z3g,z5d,z3e,z2q,z2r,z3i,z3k,z3j,z39,z3a,z37,z38,z4q,z6h,z4o,z4s,z4t,z4p,z3f,z4r,z4e,z4d,z3b,z2s,z3d,z3c,z0h,z0g,z0d,z0a,z0f,z0e,z1o,z1n,z0u,z0j,z0w,z0v,z2d,z2c,z1r,z10,z1t,z1s,z2f,z2e,z1w,z14,z1y,z1x,z16,z15,z0m,z0i,z0o,z0n,z1v,z1u,z11,z0l,z13,z12,z1q,z1p,z0x,z0k,z0z,z0y,z4i,z6g,z4g,z4j,z4k,z4h,z82,z88,z46,z5x,z44,z47,z48,z45,z2v,z2j,z40,z5q,z3y,z41,z42,z3z,z2u,z2i,z6y,z70,z6x,z71,z6z,z59,z56,z57,z58,z87,z86,z7r,z79,z7n,z7d,z5y,z76,z77,z6c,z69,z6a,z8b,z8c,z89,z8a,z85,z83,z84,z4v,z4u,z6i,z78,z5m,z5l,z5k,z6n,z6o,z6p,z6q,z6r,z6s,z6t,z6u,z6v,z6w,z50,z51,z52,z53,z54,z55,z4b,z4c,z49,z27,z26,z1e,z0r,z1g,z1f,z05,z04,z2h,z2g,z1z,z17,z21,z20,z0c,z0b,z23,z22,z18,z0p,z1a,z19,z01,z00,z29,z28,z1h,z0s,z1j,z1i,z07,z06,z2b,z2a,z1k,z0t,z1m,z1l,z09,z08,z25,z24,z1b,z0q,z1d,z1c,z03,z02,z6m,z8h,z4z,z6l,z6k,z4w,z4y,z3s,z6j,z3p,z4f,z3n,z3q,z3r,z3o,z5p,z2t,z3h,z4n,z4l,z4a,z66,z65,z4m,z60,z61,z5z,z32,z2x,z33,z2y,z34,z2z,z35,z30,z36,z31,z7h,z7g,z3u,z5u,z3x,z7f,z5t,z43,z5s,cle,clt,cge,cgt,ceq,cne,lenN,xFor,xTryM,uMix,uEnum,uZip,ltT,uSortK,sortK,sortN,uDNew,uDGet,inN,setN,uDNewS,uDGetS,inS,setS,uDm,uDm0,getR,popS,setdS,getNR,setdN,popNR,itemsR,lenS,dictS,sortItR,uFld,uFst,uMake,uLock,uLockE,uKeys,sortE,sortL,xOp,reprT_1,listN,mulT,gLst_l,gLst_r,sum_l,sum_r,min_ii,max_ii,sortSD,pop1S,dictN,uD1,updN,exists_eq_left',exists_eq_left,Option.some.injEq,U.int.injEq,U.bl.injEq,U.str.injEq,U.ref.injEq,U.tup.injEq,U.lst.injEq,U.ty.injEq,List.cons.injEq,and_true,true_and,and_self,List.map_cons,List.map_nil,List.length_cons,List.length_nil,List.cons_append,List.nil_append,List.append_nil,List.getElem?_cons_zero,List.getElem?_cons_succ,List.set_cons_zero,List.set_cons_succ,List.replicate,↓reduceIte,Bool.false_eq_true,Bool.not_true,Bool.not_false,reduceCtorEq,Nat.reduceAdd,Nat.reduceSub,Nat.reduceLeDiff,Nat.reduceEqDiff,decide_true,decide_false,at0,at1,at2,at3,at4,ix0,ix1,ix2,ix3,ix4,updM_same,beq_self_eq_true,Option.bind,Option.map,wipeU,NT.put,puts,MO.lst.injEq,exists_and_left,decide_eq_true_eq,Bool.and_eq_true,Bool.or_eq_true,exists_eq',Nat.zero_le,true_or,or_true,h]
            refine ⟨by decide, s, c, n, k, sz (.tup cs), w, cs, rfl, hcs, C.mono (by omega) (Nat.le_refl _) (Nat.le_refl _), hw, hw2, ((hS2.upd g1 g2).le (by omega)), fun y M3 hy hS3 hB3 => ?_⟩
            have hp3 := hB3 p (Ne.symm g1) (Ne.symm g2) _ updM_same
            simp only [z8i,uOr,z8d,z8m,uCB,z7t,z8l,uC,z8o,z7w,uOp,uUn,z8s,z8j,uIf,z8e,z7v,z7u,z7s,uBM,z8g,uSl,z4x,z8r,z72,z8q,z7x,List.append_nil,z8t,z80,z8y,z7z,z8u,z81,z8w,z8v,xIf,z74,z8x,z8p,z3t,z8n,z7m,z7q,z7o,z7p,z5w,z5v,z7a,z3l,z3m,z75,z5g,z8k,asD,uXf,z8f,z5n,z7y,z6e,z6d,z68,z67,z63,z5h,z5i,z5j,z3v,z3w,z6f,z64,z62,z5r,z6b,z7j,z7k,z7i,z7c,z7b,z7l,z7e,z5o,z2m,z2w,z2k,z2o,z2p,z2l,z2n,z5c,z73,z5a,z5e,z5f,z5b,z3g,z5d,z3e,z2q,z2r,z3i,z3k,z3j,z39,z3a,z37,z38,z4q,z6h,z4o,z4s,z4t,z4p,z3f,z4r,z4e,z4d,z3b,z2s,z3d,z3c,z0h,z0g,z0d,z0a,z0f,z0e,z1o,z1n,z0u,z0j,z0w,z0v,z2d,z2c,z1r,z10,z1t,z1s,z2f,z2e,z1w,z14,z1y,z1x,z16,z15,z0m,z0i,z0o,z0n,z1v,z1u,z11,z0l,z13,z12,z1q,z1p,z0x,z0k,z0z,z0y,z4i,z6g,z4g,z4j,z4k,z4h,z82,z88,z46,z5x,z44,z47,z48,z45,z2v,z2j,z40,z5q,z3y,z41,z42,z3z,z2u,z2i,z6y,z70,z6x,z71,z6z,z59,z56,z57,z58,z87,z86,z7r,z79,z7n,z7d,z5y,z76,z77,z6c,z69,z6a,z8b,z8c,z89,z8a,z85,z83,z84,z4v,z4u,z6i,z78,z5m,z5l,z5k,z6n,z6o,z6p,z6q,z6r,z6s,z6t,z6u,z6v,z6w,z50,z51,z52,z53,z54,z55,z4b,z4c,z49,z27,z26,z1e,z0r,z1g,z1f,z05,z04,z2h,z2g,z1z,z17,z21,z20,z0c,z0b,z23,z22,z18,z0p,z1a,z19,z01,z00,z29,z28,z1h,z0s,z1j,z1i,z07,z06,z2b,z2a,z1k,z0t,z1m,z1l,z09,z08,z25,z24,z1b,z0q,z1d,z1c,z03,z02,z6m,z8h,z4z,z6l,z6k,z4w,z4y,z3s,z6j,z3p,z4f,z3n,z3q,z3r,z3o,z5p,z2t,z3h,z4n,z4l,z4a,z66,z65,z4m,z60,z61,z5z,z32,z2x,z33,z2y,z34,z2z,z35,z30,z36,z31,z7h,z7g,z3u,z5u,z3x,z7f,z5t,z43,z5s,cle,clt,cge,cgt,ceq,cne,lenN,xFor,xTryM,uMix,uEnum,uZip,ltT,uSortK,sortK,sortN,uDNew,uDGet,inN,setN,uDNewS,uDGetS,inS,setS,uDm,uDm0,getR,popS,setdS,getNR,setdN,popNR,itemsR,lenS,dictS,sortItR,uFld,uFst,uMake,uLock,uLockE,uKeys,sortE,sortL,xOp,reprT_1,listN,mulT,gLst_l,gLst_r,sum_l,sum_r,min_ii,max_ii,sortSD,pop1S,dictN,uD1,updN,exists_eq_left',exists_eq_left,Option.some.injEq,U.int.injEq,U.bl.injEq,U.str.injEq,U.ref.injEq,U.tup.injEq,U.lst.injEq,U.ty.injEq,List.cons.injEq,and_true,true_and,and_self,List.map_cons,List.map_nil,List.length_cons,List.length_nil,List.cons_append,List.nil_append,List.append_nil,List.getElem?_cons_zero,List.getElem?_cons_succ,List.set_cons_zero,List.set_cons_succ,List.replicate,↓reduceIte,Bool.false_eq_true,Bool.not_true,Bool.not_false,reduceCtorEq,Nat.reduceAdd,Nat.reduceSub,Nat.reduceLeDiff,Nat.reduceEqDiff,decide_true,decide_false,at0,at1,at2,at3,at4,ix0,ix1,ix2,ix3,ix4,updM_same,beq_self_eq_true,Option.bind,Option.map,wipeU,NT.put,puts,MO.lst.injEq,exists_and_left,decide_eq_true_eq,Bool.and_eq_true,Bool.or_eq_true,exists_eq',Nat.zero_le,true_or,or_true,h,hp3]
            refine ⟨by decide, q _ _ ?_ (hS3.upd g1 g2) ?_⟩
            · exact (Ds.cons (P.mono (by omega) (Nat.le_refl _) (Nat.le_succ w)) (Ds.cons hy (Ds.nil (n := 0)))).tup (by simp; omega) |>.mono (Nat.le_refl _) (by omega) (Nat.le_refl _)
            · exact ((((hB1.trans hB2).upd hMp).trans hB3)).upd hMp
      walk_at "q0"
      refine ⟨dcs, iteI (fun e => ?_) (fun e => ?_)⟩
      · have hpos : 0 < cs.length := by
          cases cs with
          | nil => simp [ueqs] at e
          | cons _ _ => simp
        refine draw_use (n := n + 2 * l + 341) (hS.le (by omega)) (by decide) (by decide) fun r M1 h0 h1 hS1 hB1 => ?_
        walk_at "q0"
        refine iteI (fun e => ?_) (fun e => ?_)
        · refine draw_use (n := n + 2 * l + 340) hS1 (by omega) (by omega) fun r2 M2 h2 h3 hS2 hB2 => ?_
          obtain ⟨i, rfl, hi⟩ : ∃ i : Nat, r2 = i ∧ i < cs.length := ⟨r2.toNat, by omega, by omega⟩
          have hat : cs[i]? = some cs[i] := List.getElem?_eq_getElem hi
          have hb : treeN l (sndU cs[i]) = true := List.all_eq_true.mp hsub _ (List.getElem_mem hi)
          obtain ⟨z, b, hpr, hz⟩ := pair_is (List.all_eq_true.mp hcs _ (List.getElem_mem hi))
          rw [hpr] at hat hb
          have ixe : atI cs (i : Int) = some (.tup [.str z, b]) := atI_nat hat
          obtain ⟨k1, rfl⟩ : ∃ k1, k = k1 + 1 := ⟨k - 1, by have := C.p; simp only [dep] at this; omega⟩
          obtain ⟨Ci, Csz, Cl⟩ := Db.items (k := k1) C
          have T := Ci.at hat
          obtain ⟨k2, rfl⟩ : ∃ k2, k1 = k2 + 1 := ⟨k1 - 1, by have := T.p; simp only [dep] at this; omega⟩
          obtain ⟨Ti, _, _⟩ := Db.items (k := k2) T
          have B0 := Ti.at (i := 1) (p := b) rfl
          have Z0 := Ti.at (i := 0) (p := .str z) rfl
          have bt : ∃ xs, b = .tup xs := by
            have hb : treeN l b = true := hb
            cases l with
            | zero => simp [treeN] at hb
            | succ l => obtain ⟨ps, cs, rfl, _⟩ := tree_is hb; exact ⟨_, rfl⟩
          obtain ⟨k3, rfl⟩ : ∃ k3, k2 = k3 + 1 := ⟨k2 - 1, by obtain ⟨xs, rfl⟩ := bt; have := B0.p; simp only [dep] at this; omega⟩
          simp only [z8i,uOr,z8d,z8m,uCB,z7t,z8l,uC,z8o,z7w,uOp,uUn,z8s,z8j,uIf,z8e,z7v,z7u,z7s,uBM,z8g,uSl,z4x,z8r,z72,z8q,z7x,List.append_nil,z8t,z80,z8y,z7z,z8u,z81,z8w,z8v,xIf,z74,z8x,z8p,z3t,z8n,z7m,z7q,z7o,z7p,z5w,z5v,z7a,z3l,z3m,z75,z5g,z8k,asD,uXf,z8f,z5n,z7y,z6e,z6d,z68,z67,z63,z5h,z5i,z5j,z3v,z3w,z6f,z64,z62,z5r,z6b,z7j,z7k,z7i,z7c,z7b,z7l,z7e,z5o,z2m,z2w,z2k,z2o,z2p,z2l,z2n,z5c,z73,z5a,z5e,z5f,z5b,z3g,z5d,z3e,z2q,z2r,z3i,z3k,z3j,z39,z3a,z37,z38,z4q,z6h,z4o,z4s,z4t,z4p,z3f,z4r,z4e,z4d,z3b,z2s,z3d,z3c,z0h,z0g,z0d,z0a,z0f,z0e,z1o,z1n,z0u,z0j,z0w,z0v,z2d,z2c,z1r,z10,z1t,z1s,z2f,z2e,z1w,z14,z1y,z1x,z16,z15,z0m,z0i,z0o,z0n,z1v,z1u,z11,z0l,z13,z12,z1q,z1p,z0x,z0k,z0z,z0y,z4i,z6g,z4g,z4j,z4k,z4h,z82,z88,z46,z5x,z44,z47,z48,z45,z2v,z2j,z40,z5q,z3y,z41,z42,z3z,z2u,z2i,z6y,z70,z6x,z71,z6z,z59,z56,z57,z58,z87,z86,z7r,z79,z7n,z7d,z5y,z76,z77,z6c,z69,z6a,z8b,z8c,z89,z8a,z85,z83,z84,z4v,z4u,z6i,z78,z5m,z5l,z5k,z6n,z6o,z6p,z6q,z6r,z6s,z6t,z6u,z6v,z6w,z50,z51,z52,z53,z54,z55,z4b,z4c,z49,z27,z26,z1e,z0r,z1g,z1f,z05,z04,z2h,z2g,z1z,z17,z21,z20,z0c,z0b,z23,z22,z18,z0p,z1a,z19,z01,z00,z29,z28,z1h,z0s,z1j,z1i,z07,z06,z2b,z2a,z1k,z0t,z1m,z1l,z09,z08,z25,z24,z1b,z0q,z1d,z1c,z03,z02,z6m,z8h,z4z,z6l,z6k,z4w,z4y,z3s,z6j,z3p,z4f,z3n,z3q,z3r,z3o,z5p,z2t,z3h,z4n,z4l,z4a,z66,z65,z4m,z60,z61,z5z,z32,z2x,z33,z2y,z34,z2z,z35,z30,z36,z31,z7h,z7g,z3u,z5u,z3x,z7f,z5t,z43,z5s,cle,clt,cge,cgt,ceq,cne,lenN,xFor,xTryM,uMix,uEnum,uZip,ltT,uSortK,sortK,sortN,uDNew,uDGet,inN,setN,uDNewS,uDGetS,inS,setS,uDm,uDm0,getR,popS,setdS,getNR,setdN,popNR,itemsR,lenS,dictS,sortItR,uFld,uFst,uMake,uLock,uLockE,uKeys,sortE,sortL,xOp,reprT_1,listN,mulT,gLst_l,gLst_r,sum_l,sum_r,min_ii,max_ii,sortSD,pop1S,dictN,uD1,updN,exists_eq_left',exists_eq_left,Option.some.injEq,U.int.injEq,U.bl.injEq,U.str.injEq,U.ref.injEq,U.tup.injEq,U.lst.injEq,U.ty.injEq,List.cons.injEq,and_true,true_and,and_self,List.map_cons,List.map_nil,List.length_cons,List.length_nil,List.cons_append,List.nil_append,List.append_nil,List.getElem?_cons_zero,List.getElem?_cons_succ,List.set_cons_zero,List.set_cons_succ,List.replicate,↓reduceIte,Bool.false_eq_true,Bool.not_true,Bool.not_false,reduceCtorEq,Nat.reduceAdd,Nat.reduceSub,Nat.reduceLeDiff,Nat.reduceEqDiff,decide_true,decide_false,at0,at1,at2,at3,at4,ix0,ix1,ix2,ix3,ix4,updM_same,beq_self_eq_true,Option.bind,Option.map,wipeU,NT.put,puts,MO.lst.injEq,exists_and_left,decide_eq_true_eq,Bool.and_eq_true,Bool.or_eq_true,exists_eq',Nat.zero_le,true_or,or_true,ixe]
          refine ⟨s, c, n, k3, sz b, w, b, rfl, hb, ⟨B0.d, B0.s, B0.p, Nat.le_refl _, B0.w⟩, hw, hw2, hS2, fun y M3 hy hS3 hB3 => ?_⟩
          have c1 := cut_take (xs := cs) (i := i) (by omega)
          have c2 : cutL cs (some ((i : Int) + 1)) none = cs.drop (i + 1) := cut_drop (xs := cs) (i := i + 1) (by omega)
          have X : Db (k3 + 12) (sz (.str z) + 2 + (2 * sz b + 30100 + 2 + 0) + 4) (w + 1) (.tup [.str z, y]) := by
            have Z1 : Db (k3 + 11) (sz (.str z)) (w + 1) (.str z) := ⟨Z0.d, Z0.s, Nat.zero_le _, Nat.le_refl _, Nat.zero_le _⟩
            exact (Ds.cons Z1 (Ds.cons hy (Ds.nil (n := 0)))).tup (by simp; omega)
          have Ci2 : Ds (k3 + 12) (szs cs) (w + 1) cs := ⟨Ci.d, Ci.s, Nat.le_trans Ci.p (by omega), Nat.le_refl _, Nat.le_trans Ci.w (Nat.le_succ w)⟩
          obtain ⟨A, A2⟩ := Ci2.swap hat X
          have hl : (cs.take i ++ [U.tup [.str z, y]] ++ cs.drop (i + 1)).length ≤ w := by simp; omega
          have A3 : Ds (k3 + 12) (szs (cs.take i ++ [U.tup [.str z, y]] ++ cs.drop (i + 1))) (w + 1) _ := ⟨A.d, A.s, A.p, Nat.le_refl _, A.w⟩
          have T3 := A3.tup (Nat.le_trans hl (Nat.le_succ w))
          have e1 : sz (.tup cs) = szs cs + 4 := by simp only [sz]
          have e2 : sz (.tup [.str z, b]) = sz (.str z) + 2 + (sz b + 2 + 0) + 4 := by simp only [sz,szs]
          rw [e2] at A2
          rw [e1] at hsz2
          have pb : sz b + 4 ≤ szs cs := by have := T.z; rw [e2] at this; have := mem_szs (List.mem_of_getElem? hat); rw [e2] at this; omega
          show _ ∧ _
          rw [c1, c2]
          refine ⟨line_le, line_le, line_le (by simp; omega), line_le (by simp; omega), line_le, q _ _ ?_ hS3 ((hB1.trans hB2).trans hB3)⟩
          refine (Ds.cons (P.mono (by omega) (Nat.le_refl _) (Nat.le_succ w)) (Ds.cons (T3.mono (Nat.le_refl (k3 + 13)) (Nat.le_refl _) (Nat.le_refl _)) (Ds.nil (n := 0)))).tup (by simp; omega) |>.mono (by omega) (by omega) (Nat.le_refl _)
        · exact fin M1 (hS1.le (by omega)) hB1
      · exact fin M (hS.le (by omega)) But.refl

theorem ok__law_bent_tree (L : Lw K mg) : ∀ l : Nat, UFn P w K mg base CX0 (11 + l + 1) L.f__law_bent_tree L.fd__law_bent_tree ["_law_stream", "_law_part"] (sp__law_bent_tree l)
  | 0 => step__law_bent_tree L (k := 0) (sp' := fun _ _ _ _ => False) 0 ufn_none (fun l' h => by cases h)
  | l + 1 => step__law_bent_tree L (k := l + 1) (sp' := sp__law_bent_tree l) (l + 1) (ok__law_bent_tree L l) (fun l' h => by cases h; rfl)
/-! ### _law_tupled -/
def sp__law_tupled (k : Nat) : USp := fun us M Q _ => ∃ x, us = [x] ∧ isD x = true ∧ dep x ≤ k ∧ Q (tupU x) M
local macro_rules | `(tactic| walk_at "q9") => `(tactic| simp only [z8i,uOr,z8d,z8m,uCB,z7t,z8l,uC,z8o,z7w,uOp,uUn,z8s,z8j,uIf,z8e,z7v,z7u,z7s,uBM,z8g,uSl,z4x,z8r,z72,z8q,z7x,List.append_nil,z8t,z80,z8y,z7z,z8u,z81,z8w,z8v,xIf,z74,z8x,z8p,z3t,z8n,z7m,z7q,z7o,z7p,z5w,z5v,z7a,z3l,z3m,z75,z5g,z8k,asD,uXf,z8f,z5n,z7y,z6e,z6d,z68,z67,z63,z5h,z5i,z5j,z3v,z3w,z6f,z64,z62,z5r,z6b,z7j,z7k,z7i,z7c,z7b,z7l,z7e,z5o,z2m,z2w,z2k,z2o,z2p,z2l,z2n,z5c,z73,z5a,z5e,z5f,z5b,z3g,z5d,z3e,z2q,z2r,z3i,z3k,z3j,z39,z3a,z37,z38,z4q,z6h,z4o,z4s,z4t,z4p,z3f,z4r,z4e,z4d,z3b,z2s,z3d,z3c,z0h,z0g,z0d,z0a,z0f,z0e,z1o,z1n,z0u,z0j,z0w,z0v,z2d,z2c,z1r,z10,z1t,z1s,z2f,z2e,z1w,z14,z1y,z1x,z16,z15,z0m,z0i,z0o,z0n,z1v,z1u,z11,z0l,z13,z12,z1q,z1p,z0x,z0k,z0z,z0y,z4i,z6g,z4g,z4j,z4k,z4h,z82,z88,z46,z5x,z44,z47,z48,z45,z2v,z2j,z40,z5q,z3y,z41,z42,z3z,z2u,z2i,z6y,z70,z6x,z71,z6z,z59,z56,z57,z58,z87,z86,z7r,z79,z7n,z7d,z5y,z76,z77,z6c,z69,z6a,z8b,z8c,z89,z8a,z85,z83,z84,z4v,z4u,z6i,z78,z5m,z5l,z5k,z6n,z6o,z6p,z6q,z6r,z6s,z6t,z6u,z6v,z6w,z50,z51,z52,z53,z54,z55,z4b,z4c,z49,z27,z26,z1e,z0r,z1g,z1f,z05,z04,z2h,z2g,z1z,z17,z21,z20,z0c,z0b,z23,z22,z18,z0p,z1a,z19,z01,z00,z29,z28,z1h,z0s,z1j,z1i,z07,z06,z2b,z2a,z1k,z0t,z1m,z1l,z09,z08,z25,z24,z1b,z0q,z1d,z1c,z03,z02,z6m,z8h,z4z,z6l,z6k,z4w,z4y,z3s,z6j,z3p,z4f,z3n,z3q,z3r,z3o,z5p,z2t,z3h,z4n,z4l,z4a,z66,z65,z4m,z60,z61,z5z,z32,z2x,z33,z2y,z34,z2z,z35,z30,z36,z31,z7h,z7g,z3u,z5u,z3x,z7f,z5t,z43,z5s,cle,clt,cge,cgt,ceq,cne,lenN,xFor,xTryM,uMix,uEnum,uZip,ltT,uSortK,sortK,sortN,uDNew,uDGet,inN,setN,uDNewS,uDGetS,inS,setS,uDm,uDm0,getR,popS,setdS,getNR,setdN,popNR,itemsR,lenS,dictS,sortItR,uFld,uFst,uMake,uLock,uLockE,uKeys,sortE,sortL,xOp,reprT_1,listN,mulT,gLst_l,gLst_r,sum_l,sum_r,min_ii,max_ii,sortSD,pop1S,dictN,uD1,updN,exists_eq_left',exists_eq_left,Option.some.injEq,U.int.injEq,U.bl.injEq,U.str.injEq,U.ref.injEq,U.tup.injEq,U.lst.injEq,U.ty.injEq,List.cons.injEq,and_true,true_and,and_self,List.map_cons,List.map_nil,List.length_cons,List.length_nil,List.cons_append,List.nil_append,List.append_nil,List.getElem?_cons_zero,List.getElem?_cons_succ,List.set_cons_zero,List.set_cons_succ,List.replicate,↓reduceIte,Bool.false_eq_true,Bool.not_true,Bool.not_false,reduceCtorEq,Nat.reduceAdd,Nat.reduceSub,Nat.reduceLeDiff,Nat.reduceEqDiff,decide_true,decide_false,at0,at1,at2,at3,at4,ix0,ix1,ix2,ix3,ix4,updM_same,beq_self_eq_true,Option.bind,Option.map,wipeU,NT.put,puts,MO.lst.injEq,exists_and_left,decide_eq_true_eq,Bool.and_eq_true,Bool.or_eq_true,exists_eq',Nat.zero_le,true_or,or_true,sp__law_tupled])
theorem step__law_tupled (L : Lw K mg) {k : Nat} {sp' : USp} (k0 : Nat) (G : UFn P w K mg base CX0 (1 + k) L.f__law_tupled L.fd__law_tupled ["_law_thing_here"] sp') (hsp : ∀ k', k0 = k' + 1 → sp' = sp__law_tupled k') : UFn P w K mg base CX0 (1 + k + 1) L.f__law_tupled L.fd__law_tupled ["_law_thing_here"] (sp__law_tupled k0) := by
  refine ufn_ok L.D__law_tupled.F sc__law_tupled (fun us M Q E h => ?_) (fun cdv A outer s H E hr hG =>
      (uss_one (us_ret (ue_if (ut_val (ue_callB uc_isi (by rfl) L.n_isinstance bt_isi (ua_cons (uv 0) (ua_cons (ue_tup (ua_cons (ue_bltn (by rfl) L.n_list bt_list) (ua_cons (ue_bltn (by rfl) L.n_tuple bt_tuple) ua_nil))) ua_nil)))) (ue_callTy uc_tuple (by rfl) L.n_tuple bt_tuple (ua_cons (ue_lc (own := [("_law_part", 1)]) (n := (.one 1)) false rfl sc__law_tupled.nd (ui_any (uv 0)) (blkOk_by (own := [("_law_part", 1)]) (N := ["_law_thing_here", "_law_part"]) (sc := defScope s__law_tupled) (by decide +kernel)) (by decide) (fun _ _ _ _ _ => (pg_nt sc__law_tupled.nd rfl (.inl rfl))) (fun _ _ _ _ _ => uts_nil) (fun _ _ _ _ _ => (ue_call G (hr.mono (by omega)) hG rfl L.D__law_tupled.g L.D__law_tupled.F.kp L.D__law_tupled.b .nil (fun _ => RelUs.nil) (ua_cons (uv 1) ua_nil)))) ua_nil)) (uv 0))))) (fun us M Q E h => ?_)
  · obtain ⟨x, rfl, _⟩ := h
    rfl
  · obtain ⟨x, rfl, hx, hk, q⟩ := h
    have q : ZQ Q (tupU x) M := .inl q
    have go : ∀ xs : List U, (x = .tup xs ∨ x = .lst xs) → ∃ k', k0 = k' + 1 ∧ isDs xs = true ∧ deps xs ≤ k' ∧ tupU x = .tup (xs.map tupU) := fun xs h => by
      rcases h with rfl | rfl
      · simp only [isD,dep] at hx hk
        exact ⟨k0 - 1, by omega, hx, by omega, by simp only [tupU,tupUs_map]⟩
      · simp only [isD,dep] at hx hk
        exact ⟨k0 - 1, by omega, hx, by omega, by simp only [tupU,tupUs_map]⟩
    cases x with
    | tup xs =>
      obtain ⟨k', e, h1, h2, h3⟩ := go xs (.inl rfl)
      obtain rfl := hsp k' e
      rw [h3] at q
      walk_at "q2"
      refine ⟨line_le, ?_⟩
      refine lc_map tupU (fun _ _ _ => True.intro) (fun D acc hD x hx => ⟨_, rfl, fun Q q => ?_⟩) ?_
      · walk_at "q9"
        exact ⟨isDs_iff.mp h1 x hx, deps_le.mp h2 x hx, q⟩
      · walk_at "q0"
        exact q
    | lst xs =>
      obtain ⟨k', e, h1, h2, h3⟩ := go xs (.inr rfl)
      obtain rfl := hsp k' e
      rw [h3] at q
      walk_at "q2"
      refine ⟨line_le, ?_⟩
      refine lc_map tupU (fun _ _ _ => True.intro) (fun D acc hD x hx => ⟨_, rfl, fun Q q => ?_⟩) ?_
      · walk_at "q9"
        exact ⟨isDs_iff.mp h1 x hx, deps_le.mp h2 x hx, q⟩
      · walk_at "q0"
        exact q
    | ref a => simp [isD] at hx
    | ty n => simp [isD] at hx
    | _ =>
      simp only [z8i,uOr,z8d,z8m,uCB,z7t,z8l,uC,z8o,z7w,uOp,uUn,z8s,z8j,uIf,z8e,z7v,z7u,z7s,uBM,z8g,uSl,z4x,z8r,z72,z8q,z7x,List.append_nil,z8t,z80,z8y,z7z,z8u,z81,z8w,z8v,xIf,z74,z8x,z8p,z3t,z8n,z7m,z7q,z7o,z7p,z5w,z5v,z7a,z3l,z3m,z75,z5g,z8k,asD,uXf,z8f,z5n,z7y,z6e,z6d,z68,z67,z63,z5h,z5i,z5j,z3v,z3w,z6f,z64,z62,z5r,z6b,z7j,z7k,z7i,z7c,z7b,z7l,z7e,z5o,z2m,z2w,z2k,z2o,z2p,z2l,z2n,z5c,z73,z5a,z5e,z5f,z5b,z3g,z5d,z3e,z2q,z2r,z3i,z3k,z3j,z39,z3a,z37,z38,z4q,z6h,z4o,z4s,z4t,z4p,z3f,z4r,z4e,z4d,z3b,z2s,z3d,z3c,z0h,z0g,z0d,z0a,z0f,z0e,z1o,z1n,z0u,z0j,z0w,z0v,z2d,z2c,z1r,z10,z1t,z1s,z2f,z2e,z1w,z14,z1y,z1x,z16,z15,z0m,z0i,z0o,z0n,z1v,z1u,z11,z0l,z13,z12,z1q,z1p,z0x,z0k,z0z,z0y,z4i,z6g,z4g,z4j,z4k,z4h,z82,z88,z46,z5x,z44,z47,z48,z45,z2v,z2j,z40,z5q,z3y,z41,z42,z3z,z2u,z2i,z6y,z70,z6x,z71,z6z,z59,z56,z57,z58,z87,z86,z7r,z79,z7n,z7d,z5y,z76,z77,z6c,z69,z6a,z8b,z8c,z89,z8a,z85,z83,z84,z4v,z4u,z6i,z78,z5m,z5l,z5k,z6n,z6o,z6p,z6q,z6r,z6s,z6t,z6u,z6v,z6w,z50,z51,z52,z53,z54,z55,z4b,z4c,z49,z27,z26,z1e,z0r,z1g,z1f,z05,z04,z2h,z2g,z1z,z17,z21,z20,z0c,z0b,z23,z22,z18,z0p,z1a,z19,z01,z00,z29,z28,z1h,z0s,z1j,z1i,z07,z06,z2b,z2a,z1k,z0t,z1m,z1l,z09,z08,z25,z24,z1b,z0q,z1d,z1c,z03,z02,z6m,z8h,z4z,z6l,z6k,z4w,z4y,z3s,z6j,z3p,z4f,z3n,z3q,z3r,z3o,z5p,z2t,z3h,z4n,z4l,z4a,z66,z65,z4m,z60,z61,z5z,z32,z2x,z33,z2y,z34,z2z,z35,z30,z36,z31,z7h,z7g,z3u,z5u,z3x,z7f,z5t,z43,z5s,cle,clt,cge,cgt,ceq,cne,lenN,xFor,xTryM,uMix,uEnum,uZip,ltT,uSortK,sortK,sortN,uDNew,uDGet,inN,setN,uDNewS,uDGetS,inS,setS,uDm,uDm0,getR,popS,setdS,getNR,setdN,popNR,itemsR,lenS,dictS,sortItR,uFld,uFst,uMake,uLock,uLockE,uKeys,sortE,sortL,xOp,reprT_1,listN,mulT,gLst_l,gLst_r,sum_l,sum_r,min_ii,max_ii,sortSD,pop1S,dictN,uD1,updN,exists_eq_left',exists_eq_left,Option.some.injEq,U.int.injEq,U.bl.injEq,U.str.injEq,U.ref.injEq,U.tup.injEq,U.lst.injEq,U.ty.injEq,List.cons.injEq,and_true,true_and,and_self,List.map_cons,List.map_nil,List.length_cons,List.length_nil,List.cons_append,List.nil_append,List.append_nil,List.getElem?_cons_zero,List.getElem?_cons_succ,List.set_cons_zero,List.set_cons_succ,List.replicate,↓reduceIte,Bool.false_eq_true,Bool.not_true,Bool.not_false,reduceCtorEq,Nat.reduceAdd,Nat.reduceSub,Nat.reduceLeDiff,Nat.reduceEqDiff,decide_true,decide_false,at0,at1,at2,at3,at4,ix0,ix1,ix2,ix3,ix4,updM_same,beq_self_eq_true,Option.bind,Option.map,wipeU,NT.put,puts,MO.lst.injEq,exists_and_left,decide_eq_true_eq,Bool.and_eq_true,Bool.or_eq_true,exists_eq',Nat.zero_le,true_or,or_true,tupU] at q ⊢
      exact ⟨line_le, q⟩

theorem ok__law_tupled (L : Lw K mg) : ∀ k : Nat, UFn P w K mg base CX0 (1 + k + 1) L.f__law_tupled L.fd__law_tupled ["_law_thing_here"] (sp__law_tupled k)
  | 0 => step__law_tupled L (k := 0) (sp' := fun _ _ _ _ => False) 0 ufn_none (fun k' h => by cases h)
  | k + 1 => step__law_tupled L (k := k + 1) (sp' := sp__law_tupled k) (k + 1) (ok__law_tupled L k) (fun k' h => by cases h; rfl)
/-! ### _law_parts -/
/-! ### names, and what is compared (parts of keys, tabo, rules) -/
theorem encU_str (z : Str) : encU (.str z) = .str z := rfl
theorem encs_map : ∀ {xs : List U}, isDs xs = true → toDs xs = some (xs.map encU)
  | [], _ => rfl
  | x :: xs, h => by
    simp only [isDs,Bool.and_eq_true] at h
    simp only [toDs,encU_of h.1,encs_map h.2,List.map_cons]
theorem encU_tup {xs : List U} (h : isDs xs = true) : encU (.tup xs) = .tuple (xs.map encU) := by
  unfold encU
  simp only [toD,encs_map h]
  rfl
theorem name_str {y : U} (h : isNameU y = true) : ∃ z, y = .str z ∧ z.length ≤ 8 := by
  cases y with
  | str z => simp only [isNameU,Bool.and_eq_true,decide_eq_true_eq] at h; exact ⟨z, rfl, h.2.1⟩
  | _ => simp [isNameU] at h
theorem name_okS {z : Str} (h : isNameU (.str z) = true) : okS z = true := by
  simp only [isNameU,Bool.and_eq_true,decide_eq_true_eq] at h
  refine okS_iff.mpr ⟨by rw [sizeLine_eq]; omega, fun c hc => ?_⟩
  have h2 : isLow c = true := List.all_eq_true.mp h.2.2 c hc
  have h3 : (!(Builtin.Str.occurrences ("abcdefghijklmnopqrstuvwxyz" : Str) ⟨#[c]⟩ 0 ("abcdefghijklmnopqrstuvwxyz" : Str).length 1).isEmpty) = true := h2
  rw [StrLaws.found_one] at h3
  have h4 := of_decide_eq_true h3
  have all : ∀ d ∈ ("abcdefghijklmnopqrstuvwxyz" : Str).cps.toList, d < 0x110000 := by decide +kernel
  exact all c (by simpa using h4)
/-- a key's shape -/
theorem name_isD {y : U} (h : isNameU y = true) : isD y = true := by
  obtain ⟨z, rfl, _⟩ := name_str h
  exact name_okS h
theorem names_isD {xs : List U} (h : ∀ y ∈ xs, isNameU y = true) : isDs xs = true := isDs_iff.mpr fun y hy => name_isD (h y hy)
theorem name_dep {y : U} (h : isNameU y = true) : dep y = 0 := by
  obtain ⟨z, rfl, _⟩ := name_str h
  rfl
theorem names_dep {xs : List U} (h : ∀ y ∈ xs, isNameU y = true) : deps xs = 0 := Nat.le_zero.mp (deps_le.mpr fun y hy => by rw [name_dep (h y hy)]; exact Nat.le_refl _)
def ltK (a b : U) : Bool := PySem.W.dataLt (encU a) (encU b)
theorem nkU_inj : ∀ (a b : U) (q : NestedKey), nkU a = some q → nkU b = some q → a = b := by
  have main : ∀ n : Nat, (∀ (a b : U) (q : NestedKey), sizeOf a < n → nkU a = some q → nkU b = some q → a = b) ∧ (∀ (xs ys : List U) (q : List NestedKey), sizeOf xs < n → nkUs xs = some q → nkUs ys = some q → xs = ys) := by
    intro n
    induction n with
    | zero => exact ⟨fun _ _ _ h => absurd h (Nat.not_lt_zero _), fun _ _ _ h => absurd h (Nat.not_lt_zero _)⟩
    | succ n ih =>
      refine ⟨fun a b q hs ha hb => ?_, fun xs ys q hs hx hy => ?_⟩
      · cases a with
        | tup xs =>
          simp only [nkU,Option.map_eq_some_iff] at ha
          obtain ⟨ks, h1, rfl⟩ := ha
          cases b with
          | tup ys =>
            simp only [nkU,Option.map_eq_some_iff,NestedKey.tup.injEq] at hb
            obtain ⟨ks2, h2, rfl⟩ := hb
            rw [ih.2 xs ys _ (by simp at hs; omega) h1 h2]
          | _ => simp [nkU] at hb
        | non => simp only [nkU,Option.some.injEq] at ha; subst ha; cases b <;> simp [nkU] at hb; rfl
        | int i => simp only [nkU,Option.some.injEq] at ha; subst ha; cases b <;> simp [nkU] at hb; rw [hb]
        | str i => simp only [nkU,Option.some.injEq] at ha; subst ha; cases b <;> simp [nkU] at hb; rw [hb]
        | _ => simp [nkU] at ha
      · cases xs with
        | nil =>
          simp only [nkUs,Option.some.injEq] at hx
          subst hx
          cases ys with
          | nil => rfl
          | cons y ys =>
            simp only [nkUs] at hy
            split at hy
            · simp at hy
            · cases hy
        | cons x xs =>
          simp only [nkUs] at hx
          split at hx
          · rename_i k ks e1 e2
            simp only [Option.some.injEq] at hx
            subst hx
            cases ys with
            | nil => simp [nkUs] at hy
            | cons y ys =>
              simp only [nkUs] at hy
              split at hy
              · rename_i k2 ks2 e3 e4
                simp only [Option.some.injEq,List.cons.injEq] at hy
                obtain ⟨rfl, rfl⟩ := hy
                simp only [List.cons.sizeOf_spec] at hs
                rw [ih.1 x y _ (by omega) e1 e3, ih.2 xs ys _ (by omega) e2 e4]
              · cases hy
          · cases hx
  exact fun a b q => (main (sizeOf a + 1)).1 a b q (Nat.lt_succ_self _)
theorem ltK_irr {k : U} : ltK k k = false := lex_irrefl _
theorem names_kOk {xs : List U} (hx : ∀ y ∈ xs, isNameU y = true) : kOk (.tup xs) := by
  have nn : ∀ {xs : List U}, (∀ y ∈ xs, isNameU y = true) → ∃ ks, nkUs xs = some ks ∧ NestedKey.depthAll ks = 0 := by
    intro xs
    induction xs with
    | nil => exact fun _ => ⟨[], rfl, rfl⟩
    | cons x xs ih =>
      intro hx
      obtain ⟨z, rfl, _⟩ := name_str (hx x (by simp))
      obtain ⟨ks, e, hk⟩ := ih fun y hy => hx y (by simp [hy])
      exact ⟨.text z :: ks, by simp only [nkUs,nkU,e], by simp only [NestedKey.depthAll,NestedKey.depth,hk]; rfl⟩
  obtain ⟨ks, e, hd⟩ := nn hx
  exact ⟨.tup ks, by simp only [nkU,e,Option.map_some], by simp only [NestedKey.depth,hd]; decide⟩

/-! ### the paths of a tree, ascending -/
def pToks (ps : List U) : List (Int ⊕ List Nat) := (ps.map fun y => Sum.inl 1 :: PySem.W.keyToks (encU y)).flatten
theorem toks_app (ps : List U) (ds : List PyData) : PySem.W.keyToksAll (ps.map encU ++ ds) = pToks ps ++ PySem.W.keyToksAll ds := by
  induction ps with
  | nil => rfl
  | cons p ps ih =>
    simp only [List.map_cons,List.cons_append,PySem.W.toks_all_cons,ih,pToks,List.flatten_cons]
    rw [List.append_assoc]
theorem lt_pre {a b c : List U} (ha : isDs (a ++ b) = true) (hb : isDs (a ++ c) = true) : ltK (.tup (a ++ b)) (.tup (a ++ c)) = PyProof.Rows.lexLt itemOrd (PySem.W.keyToksAll (b.map encU)) (PySem.W.keyToksAll (c.map encU)) := by
  unfold ltK
  rw [encU_tup ha, encU_tup hb, PySem.W.dataLt_tuple, List.map_append, List.map_append, toks_app, toks_app, PySem.W.lex_pre]
theorem lt_below {a b : List U} {n : U} (hb : isDs (a ++ n :: b) = true) : ltK (.tup a) (.tup (a ++ n :: b)) = true := by
  have ha : isDs (a ++ []) = true := by
    rw [isDs_app, Bool.and_eq_true] at hb
    rw [List.append_nil]; exact hb.1
  have := lt_pre ha hb
  rw [List.append_nil] at this
  rw [this, List.map_cons, PySem.W.toks_all_cons, List.map_nil]
  simp only [PySem.W.keyToksAll]
  rw [PyProof.Rows.lex_diff (O := itemOrd) (by simp)]
  rfl
theorem lt_side {a b c : List U} {x y : Str} (h : slt x y) (hb : isDs (a ++ .str x :: b) = true) (hc : isDs (a ++ .str y :: c) = true) : ltK (.tup (a ++ .str x :: b)) (.tup (a ++ .str y :: c)) = true := by
  rw [lt_pre hb hc, List.map_cons, List.map_cons, encU_str, encU_str, PySem.W.dataLt_all_no (by simp [PySem.W.alike]) ?_, PySem.W.dataLt_str]
  · exact decide_eq_true h
  · have : x ≠ y := fun e => by rw [e] at h; exact slt_irrefl y h
    simpa [PyData.eqv] using this
theorem paths_form : ∀ (l : Nat) (x : U) (pre : List U), treeN l x = true → ∀ p ∈ pathsL l x pre, ∃ r, p = .tup (pre ++ r) ∧ ∀ y ∈ r, isNameU y = true
  | 0, x, pre, h, _, _ => by simp [treeN] at h
  | l + 1, x, pre, h, p, hp => by
    obtain ⟨ps, cs, rfl, hps, hcs, hvs, hts⟩ := tree_sh h
    simp only [partU,Bool.and_eq_true] at hcs
    simp only [pathsL] at hp
    rcases List.mem_cons.mp hp with rfl | hp
    · exact ⟨[], by rw [List.append_nil], fun _ h => absurd h List.not_mem_nil⟩
    · obtain ⟨c, hc, hp⟩ := List.mem_flatMap.mp hp
      obtain ⟨z, b, rfl, hz⟩ := pair_is (List.all_eq_true.mp hcs.1 c hc)
      have hp : p ∈ pathsL l b (pre ++ [.str z]) := hp
      obtain ⟨r, e, hn⟩ := paths_form l b (pre ++ [.str z]) (List.all_eq_true.mp hts _ hc) p hp
      refine ⟨.str z :: r, by rw [e, List.append_assoc]; rfl, fun y hy => ?_⟩
      rcases List.mem_cons.mp hy with rfl | hy
      · exact hz
      · exact hn y hy
theorem paths_asc : ∀ (l : Nat) (x : U) (pre : List U), treeN l x = true → (∀ y ∈ pre, isNameU y = true) → (pathsL l x pre).Pairwise fun p q => ltK p q = true
  | 0, x, pre, h, _ => by simp [treeN] at h
  | l + 1, x, pre, h, hpre => by
    obtain ⟨ps, cs, rfl, hps, hcs, hvs, hts⟩ := tree_sh h
    simp only [partU,Bool.and_eq_true] at hcs
    have dsn : ∀ {r : List U} {z : Str}, isNameU (.str z) = true → (∀ y ∈ r, isNameU y = true) → isDs (pre ++ .str z :: r) = true := fun {r z} hz hr => names_isD fun y hy => by
      rcases List.mem_append.mp hy with h | h
      · exact hpre y h
      · rcases List.mem_cons.mp h with rfl | h
        · exact hz
        · exact hr y h
    have low : ∀ c ∈ cs, ∀ p ∈ pathsL l (sndU c) (pre ++ [.str (nameOf c)]), isNameU (.str (nameOf c)) = true ∧ ∃ r, p = .tup (pre ++ .str (nameOf c) :: r) ∧ ∀ y ∈ r, isNameU y = true := fun c hc p hp => by
      obtain ⟨z, b, rfl, hz⟩ := pair_is (List.all_eq_true.mp hcs.1 c hc)
      have hp : p ∈ pathsL l b (pre ++ [.str z]) := hp
      obtain ⟨r, e, hn⟩ := paths_form l b (pre ++ [.str z]) (List.all_eq_true.mp hts _ hc) p hp
      exact ⟨hz, r, by rw [e, List.append_assoc]; rfl, hn⟩
    simp only [pathsL]
    refine List.pairwise_cons.mpr ⟨fun p hp => ?_, List.pairwise_flatMap.mpr ⟨fun c hc => ?_, ?_⟩⟩
    · obtain ⟨c, hc, hp⟩ := List.mem_flatMap.mp hp
      obtain ⟨hz, r, rfl, hn⟩ := low c hc p hp
      exact lt_below (dsn hz hn)
    · obtain ⟨z, b, rfl, hz⟩ := pair_is (List.all_eq_true.mp hcs.1 c hc)
      refine paths_asc l b _ (List.all_eq_true.mp hts _ hc) fun y hy => ?_
      rcases List.mem_append.mp hy with h | h
      · exact hpre y h
      · rw [List.mem_singleton.mp h]; exact hz
    · have hd : cs.Pairwise fun a b => slt (nameOf a) (nameOf b) := by
        have h0 := of_decide_eq_true hcs.2
        rw [List.pairwise_map] at h0
        exact h0
      refine (List.Pairwise.and_mem.mp hd).imp fun {a b} ⟨ha, hb, hlt⟩ p hp q hq => ?_
      obtain ⟨h1, r1, rfl, n1⟩ := low a ha p hp
      obtain ⟨h2, r2, rfl, n2⟩ := low b hb q hq
      exact lt_side hlt (dsn h1 n1) (dsn h2 n2)
/-! ### the parts of a tree by their paths -/
def partsK : Nat → U → List U → List (U × U)
  | l + 1, .tup [p, .tup cs], pre => (.tup pre, .tup [p, .tup cs]) :: cs.flatMap fun c => partsK l (sndU c) (pre ++ [.str (nameOf c)])
  | _, _, _ => []
theorem flatMap_mapF {f : U → List (U × U)} {g : U → List U} : ∀ {cs : List U}, (∀ c ∈ cs, (f c).map (·.1) = g c) → (cs.flatMap f).map (·.1) = cs.flatMap g
  | [], _ => rfl
  | c :: cs, h => by rw [List.flatMap_cons, List.map_append, h c (List.mem_cons_self ..), flatMap_mapF fun y hy => h y (List.mem_cons_of_mem _ hy)]; rfl
theorem partsK_keys : ∀ (l : Nat) (x : U) (pre : List U), treeN l x = true → (partsK l x pre).map (·.1) = pathsL l x pre
  | 0, x, pre, h => by simp [treeN] at h
  | l + 1, x, pre, h => by
    obtain ⟨ps, cs, rfl, hps, hcs, hvs, hts⟩ := tree_sh h
    simp only [partsK,pathsL,List.map_cons]
    rw [flatMap_mapF fun c hc => partsK_keys l _ _ (List.all_eq_true.mp hts c hc)]
theorem path_nk {a b : List U} (ha : ∀ y ∈ a, isNameU y = true) (h : nkU (.tup a) = nkU (.tup b)) : a = b := by
  obtain ⟨q, h1, _⟩ := names_kOk ha
  exact U.tup.inj (nkU_inj _ _ q h1 (by rw [← h]; exact h1))
theorem putN_new {kvs : List (U × U)} {k v : U} (h : ∀ q ∈ kvs, nkU q.1 ≠ nkU k) : putN kvs k v = kvs ++ [(k, v)] := by
  unfold putN
  have : getN kvs k = none := by
    unfold getN
    rw [List.find?_eq_none.mpr fun q hq => by simpa using h q hq]; rfl
  rw [this]; rfl
theorem mergeN_app : ∀ (more kvs : List (U × U)), (kvs ++ more).Pairwise (fun a b => nkU a.1 ≠ nkU b.1) → mergeN kvs more = kvs ++ more
  | [], kvs, _ => by rw [List.append_nil]; rfl
  | q :: more, kvs, h => by
    have h1 : putN kvs q.1 q.2 = kvs ++ [q] := putN_new fun p hp => (List.pairwise_append.mp h).2.2 p hp q (List.mem_cons_self ..)
    have e : mergeN kvs (q :: more) = mergeN (putN kvs q.1 q.2) more := rfl
    rw [e, h1, mergeN_app more (kvs ++ [q]) (by rw [List.append_assoc]; exact h), List.append_assoc]; rfl
theorem parts_nd {l : Nat} {x : U} {pre : List U} (h : treeN l x = true) (hp : ∀ y ∈ pre, isNameU y = true) : (partsK l x pre).Pairwise fun a b => nkU a.1 ≠ nkU b.1 := by
  have h1 := paths_asc l x pre h hp
  rw [← partsK_keys l x pre h, List.pairwise_map] at h1
  refine (List.Pairwise.and_mem.mp h1).imp fun {a b} ⟨ha, hb, hlt⟩ e => ?_
  have ma : a.1 ∈ pathsL l x pre := by rw [← partsK_keys l x pre h]; exact List.mem_map.mpr ⟨a, ha, rfl⟩
  have mb : b.1 ∈ pathsL l x pre := by rw [← partsK_keys l x pre h]; exact List.mem_map.mpr ⟨b, hb, rfl⟩
  obtain ⟨r, e1, n1⟩ := paths_form l x pre h _ ma
  obtain ⟨r2, e2, _⟩ := paths_form l x pre h _ mb
  rw [e1, e2] at e hlt
  have hn : ∀ y ∈ pre ++ r, isNameU y = true := fun y hy => by
    rcases List.mem_append.mp hy with h | h
    · exact hp y h
    · exact n1 y h
  rw [path_nk hn e, ltK_irr] at hlt
  cases hlt

def sp__law_parts (φ : DPhi) (l : Nat) : USp := fun us M Q _ => ∃ x pre, us = [x, .tup pre] ∧ treeN l x = true ∧ (∀ y ∈ pre, isNameU y = true) ∧ pre.length + l ≤ 9 ∧ (pathsL l x pre).length ≤ 100000 ∧ ∀ d M', M d = none → M' d = some (.dN φ (partsK l x pre)) → Ext M M' → Q (.ref d) M'
theorem step__law_parts (L : Lw K mg) {k : Nat} {sp' : USp} (l : Nat) (G : UFn P w K mg base CX0 (1 + k) L.f__law_parts L.fd__law_parts ["_law_part", "_law_path_here"] sp') (hsp : ∀ l', l = l' + 1 → sp' = sp__law_parts (DNo P w) l') : UFn P w K mg base CX0 (1 + k + 1) L.f__law_parts L.fd__law_parts ["_law_part", "_law_path_here"] (sp__law_parts (DNo P w) l) := by
  refine ufn_ok L.D__law_parts.F sc__law_parts (fun us M Q E h => ?_) (fun cdv A outer s H E hr hG =>
      (uss_cons (us_set (i := 2) sc__law_parts.nd rfl (.inl rfl) (ue_disp1 (φ := DNo P w) rfl (hu2 hr) (uv 1) (uv 0)))
      (uss_cons (us_for PassesOwn.never rfl (ui_any (ue_ix (uv 0) ue_int)) (ug_tup (n := 2) rfl (ugs_cons (ug_name (i := 3) sc__law_parts.nd rfl (.inl rfl)) (ugs_cons (ug_name (i := 4) sc__law_parts.nd rfl (.inl rfl)) ugs_nil))) (uss_one (us_expr (ue_dm (φ := DNo P w) rfl PySem.F.slot_dict_update type_dict_update (um_updN (φ := DNo P w) rfl (hu2 hr)) (uv 2) (ua_cons (ue_call G (hr.mono (by omega)) hG rfl L.D__law_parts.g L.D__law_parts.F.kp L.D__law_parts.b .nil (fun _ => RelUs.nil) (ua_cons (uv 4) (ua_cons (ue_op (uo_add false) (uv 1) (ue_tup (ua_cons (uv 3) ua_nil))) ua_nil))) ua_nil) rfl rfl rfl rfl rfl))))
      (uss_one (us_ret (uv 2)))))) (fun us M Q E h => ?_)
  · obtain ⟨x, pre, rfl, _⟩ := h
    rfl
  · obtain ⟨x, pre, rfl, ht, hpre, hl, hpl, q⟩ := h
    cases l with
    | zero => simp [treeN] at ht
    | succ l =>
      obtain rfl := hsp l rfl
      obtain ⟨ps, cs, rfl, hps, hcs, hvs, hts⟩ := tree_sh ht
      simp only [partU,Bool.and_eq_true] at hcs
      walk_at "q4"
      intro d hd
      refine ⟨names_kOk hpre, ?_⟩
      rw [updM_updM]
      have hnd := parts_nd ht hpre
      have hfl : ∀ c ∈ cs, ∀ i, i ≤ cs.length → ((cs.take i).flatMap fun c => partsK l (sndU c) (pre ++ [.str (nameOf c)])).length ≤ 100000 ∧ (partsK l (sndU c) (pre ++ [.str (nameOf c)])).length ≤ 100000 := fun c hc i hi => by
        have e1 : (partsK (l + 1) (.tup [.tup ps, .tup cs]) pre).length ≤ 100000 := by
          rw [← List.length_map (f := fun q : U × U => q.1), partsK_keys _ _ _ ht]; exact hpl
        simp only [partsK,List.length_cons] at e1
        have e2 : ((cs.take i).flatMap fun c => partsK l (sndU c) (pre ++ [.str (nameOf c)])).length ≤ (cs.flatMap fun c => partsK l (sndU c) (pre ++ [.str (nameOf c)])).length := by
          conv => rhs; rw [← List.take_append_drop i cs, List.flatMap_append, List.length_append]
          omega
        have e3 : (partsK l (sndU c) (pre ++ [.str (nameOf c)])).length ≤ (cs.flatMap fun c => partsK l (sndU c) (pre ++ [.str (nameOf c)])).length := by
          obtain ⟨a, b, rfl⟩ := List.append_of_mem hc
          rw [List.flatMap_append, List.flatMap_cons, List.length_append, List.length_append]
          omega
        omega
      refine for_inv (fun i σ M' => ∃ o3 o4, σ = [some (.tup [.tup ps, .tup cs]), some (.tup pre), some (.ref d), o3, o4] ∧ M' d = some (.dN (DNo P w) ((.tup pre, .tup [.tup ps, .tup cs]) :: (cs.take i).flatMap fun c => partsK l (sndU c) (pre ++ [.str (nameOf c)]))) ∧ Ext M M') _ (fun _ _ _ _ => True.intro) ?_ ?_ ⟨_, _, rfl, by rw [updM_same]; rfl, Ext.refl.upd hd⟩
      · rintro i c σ M1 N hc ⟨o3, o4, rfl, hd1, hE1⟩ hN
        have hcm := List.mem_of_getElem? hc
        have hil := (List.getElem?_eq_some_iff.mp hc).1
        have hfc := hfl c hcm i (by omega)
        have hsn : cs.take (i + 1) = cs.take i ++ [c] := by rw [List.take_add_one, hc]; rfl
        obtain ⟨z, b, rfl, hz⟩ := pair_is (List.all_eq_true.mp hcs.1 c hcm)
        have hb : treeN l b = true := List.all_eq_true.mp hts _ hcm
        have hpz : ∀ y ∈ pre ++ [.str z], isNameU y = true := fun y hy => by
          rcases List.mem_append.mp hy with h | h
          · exact hpre y h
          · rw [List.mem_singleton.mp h]; exact hz
        have hkk := partsK_keys l b (pre ++ [.str z]) hb
        have hpb : (pathsL l b (pre ++ [.str z])).length ≤ 100000 := by
          rw [← hkk, List.length_map]; exact hfc.2
        have hl0 : 1 ≤ l := by
          cases l with
          | zero => simp [treeN] at hb
          | succ l => omega
        walk_at "q0"
        refine ⟨⟨d, rfl, .inr ⟨_, hd1⟩⟩, line_le, line_le (by omega), b, pre ++ [.str z], rfl, hb, hpz, by rw [List.length_append]; simp only [List.length_cons,List.length_nil]; omega, hpb, fun d2 M2 h1 h2 hE2 => ?_⟩
        have hd2 := hE2 d _ hd1
        have hne : d ≠ d2 := fun e => by rw [← e, hd1] at h1; cases h1
        refine ⟨d2, rfl, hne, _, hd2, _, h2, by simp, line_le (by simp only [List.length_cons]; have := hfc.1; have := hfc.2; simp only [sndU,nameOf] at this; omega), ?_⟩
        have em : mergeN ((.tup pre, .tup [.tup ps, .tup cs]) :: (cs.take i).flatMap fun c => partsK l (sndU c) (pre ++ [.str (nameOf c)])) (partsK l b (pre ++ [.str z])) = (.tup pre, .tup [.tup ps, .tup cs]) :: (cs.take (i + 1)).flatMap fun c => partsK l (sndU c) (pre ++ [.str (nameOf c)]) := by
          have e1 : (.tup pre, .tup [.tup ps, .tup cs]) :: (cs.take (i + 1)).flatMap (fun c => partsK l (sndU c) (pre ++ [.str (nameOf c)])) = ((.tup pre, .tup [.tup ps, .tup cs]) :: (cs.take i).flatMap fun c => partsK l (sndU c) (pre ++ [.str (nameOf c)])) ++ partsK l b (pre ++ [.str z]) := by
            rw [hsn, List.flatMap_append, List.cons_append, List.flatMap_cons, List.flatMap_nil, List.append_nil]; rfl
          rw [e1]
          refine mergeN_app _ _ ?_
          rw [← e1]
          refine hnd.sublist ?_
          simp only [partsK]
          refine List.Sublist.cons₂ _ ?_
          conv => rhs; rw [← List.take_append_drop (i + 1) cs, List.flatMap_append]
          exact List.sublist_append_left ..
        rw [em]
        exact hN _ _ ⟨_, _, rfl, updM_same, (hE1.trans hE2).upd hd⟩
      · rintro σ M1 ⟨o3, o4, rfl, hd1, hE1⟩
        rw [List.take_length] at hd1
        walk_at "q0"
        exact .inl (q d M1 hd hd1 hE1)

theorem ok__law_parts (L : Lw K mg) : ∀ l : Nat, UFn P w K mg base CX0 (1 + l + 1) L.f__law_parts L.fd__law_parts ["_law_part", "_law_path_here"] (sp__law_parts (DNo P w) l)
  | 0 => step__law_parts L (k := 0) (sp' := fun _ _ _ _ => False) 0 ufn_none (fun l' h => by cases h)
  | l + 1 => step__law_parts L (k := l + 1) (sp' := sp__law_parts (DNo P w) l) (l + 1) (ok__law_parts L l) (fun l' h => by cases h; rfl)
/-! ### _law_ranked -/
theorem seq_one {t u : UTS} {D : UEnds} {σ : USt} {M : UHp} (h : t { D with nx := u D } σ M) : z8q t u D σ M := h
theorem seq_gen {t u : UTS} {D : UEnds} {σ : USt} {M : UHp} (I : USt → UHp → Prop) (h : ∀ N : USt → UHp → Prop, (∀ σ M, I σ M → N σ M) → t { D with nx := N } σ M) (hI : ∀ σ M, I σ M → u D σ M) : z8q t u D σ M := h _ hI
theorem range_nth {n i : Nat} {x : U} (h : (rangeU 0 n)[i]? = some x) : x = .int i ∧ i < n := by
  have h1 := (List.getElem?_eq_some_iff.mp h).1
  rw [range_len] at h1
  unfold rangeU at h
  rw [List.getElem?_map, List.getElem?_range h1, Option.map_some, Option.some.injEq] at h
  refine ⟨?_, h1⟩
  rw [← h]
  simp
def seqOf : U → List U
  | .tup xs => xs
  | _ => []
theorem Dt.twoR {k n : Nat} {a b : U} (h : Dt (k + 1) n (.tup [a, b])) : Dt k n a ∧ Dt k n b := by
  obtain ⟨h1, h2, h3, h4, h5⟩ := h
  simp only [isD,isDs,shw,shws,dep,deps,sz,szs,wid,wids,Bool.and_eq_true,Nat.max_le,Nat.zero_le,and_true] at h1 h2 h3 h4 h5
  exact ⟨⟨h1.1, h2.1, by omega, by omega, by omega⟩, ⟨h1.2, h2.2, by omega, by omega, by omega⟩⟩
theorem paths_lenR : ∀ (l : Nat) (x : U) (a b : List U), treeN l x = true → (pathsL l x a).length = (pathsL l x b).length
  | 0, x, a, b, h => by simp [treeN] at h
  | l + 1, x, a, b, h => by
    obtain ⟨ps, cs, rfl, h1, h2, h3, h4⟩ := tree_sh h
    simp only [pathsL,List.length_cons]
    congr 1
    rw [List.length_flatMap, List.length_flatMap]
    congr 1
    refine List.map_congr_left fun c hc => ?_
    exact paths_lenR l (sndU c) _ _ (List.all_eq_true.mp h4 c hc)
theorem sum_constR (n : Nat) : ∀ (cs : List U), (cs.map fun _ => n).sum = cs.length * n
  | [] => by simp
  | c :: cs => by rw [List.map_cons, List.sum_cons, sum_constR n cs, List.length_cons, Nat.add_mul]; omega
/-- what is drawn at a depth -/
structure RkU (k : Nat) (y : U) : Prop where
  t : treeN (k + 1) y = true
  d : Dt (5 * k + 10) (40000 * 9 ^ k) y
  n : (pathsL (k + 1) y []).length ≤ 9 ^ (k + 1)
/-- the same with other props -/
structure RkC (k : Nat) (y : U) : Prop where
  t : treeN (k + 1) y = true
  d : Dt (5 * k + 10) (40000 * 9 ^ k + 1000) y
  n : (pathsL (k + 1) y []).length ≤ 9 ^ (k + 1)
/-- props: rank and size, each there or not -/
structure PrR (v : U) : Prop where
  p : ∃ ps, v = .tup ps ∧ partU (.tup ps) = true ∧ ps.all (fun p => isValueU (sndU p)) = true
  d : Dt 5 900 v
theorem prR {rk mr : List U} {u : U} {r : Int} (h1 : rk = [] ∨ rk = [.tup [.str "rank", u]]) (h2 : mr = [] ∨ mr = [.tup [.str "size", .int r]]) (hu : isValueU u = true) (hd : Dt 2 200 u) (hr : Dt 0 100 (.int r)) : PrR (.tup (rk ++ mr)) := by
  have r1 : isNameU (.str "rank") = true := by decide +kernel
  have s1 : isNameU (.str "size") = true := by decide +kernel
  have a1 : ascL (["rank", "size"] : List Str) = true := by decide +kernel
  have a2 : ascL (["rank"] : List Str) = true := by decide +kernel
  have a3 : ascL (["size"] : List Str) = true := by decide +kernel
  have d1 : Dt 3 300 (.tup [.str "rank", u]) := (Dt.pair ((Dt.of (k := 0) (n := 60) (x := .str "rank") (by decide +kernel)).mono (by decide) (Nat.le_refl _)) hd).mono (by decide) (by decide)
  have d2 : Dt 3 300 (.tup [.str "size", .int r]) := (Dt.pair (Dt.of (k := 0) (n := 60) (x := .str "size") (by decide +kernel)) hr).mono (by decide) (by decide)
  have dd : ∀ x ∈ rk ++ mr, Dt 3 300 x := fun x hx => by
    rcases List.mem_append.mp hx with hx | hx
    · rcases h1 with rfl | rfl
      · cases hx
      · rw [List.mem_singleton.mp hx]; exact d1
    · rcases h2 with rfl | rfl
      · cases hx
      · rw [List.mem_singleton.mp hx]; exact d2
  have ll : (rk ++ mr).length ≤ 2 := by rcases h1 with rfl | rfl <;> rcases h2 with rfl | rfl <;> simp
  refine ⟨⟨_, rfl, ?_⟩, (Dt.many dd ll).mono (by decide) (by decide)⟩
  rcases h1 with rfl | rfl <;> rcases h2 with rfl | rfl
  · exact ⟨by decide +kernel, rfl⟩
  · exact ⟨by simp only [partU,List.nil_append,List.all_cons,List.all_nil,pairU,s1,List.map_cons,List.map_nil,nameOf,a3,Bool.and_self], rfl⟩
  · exact ⟨by simp only [partU,List.append_nil,List.all_cons,List.all_nil,pairU,r1,List.map_cons,List.map_nil,nameOf,a2,Bool.and_self], by simp only [List.append_nil,List.all_cons,List.all_nil,sndU,hu,Bool.and_self]⟩
  · exact ⟨by simp only [partU,List.cons_append,List.nil_append,List.all_cons,List.all_nil,pairU,r1,s1,List.map_cons,List.map_nil,nameOf,a1,Bool.and_self], by simp only [List.cons_append,List.nil_append,List.all_cons,List.all_nil,sndU,hu,Bool.true_and,Bool.and_true]; rfl⟩
theorem RkU.child {k : Nat} {ps cs : List U} {v : U} (h : RkU k (.tup [.tup ps, .tup cs])) (hv : PrR v) : RkC k (.tup [v, .tup cs]) := by
  obtain ⟨qs, rfl, p1, p2⟩ := hv.p
  have ht := h.t
  simp only [treeN,Bool.and_eq_true] at ht
  refine ⟨?_, ?_, ?_⟩
  · simp only [treeN,p1,p2,ht.1.1.2,Bool.true_and]
    exact ht.2
  · have d2 := (Dt.twoR (k := 5 * k + 9) h.d).2
    exact (Dt.pair (hv.d.mono (by omega) (Nat.le_refl _)) d2).mono (by omega) (by omega)
  · exact h.n
/-- a node of such children -/
theorem rkU_node {k : Nat} {v : U} {acc : List U} {ws : List Str} (hv : PrR v) (ha : acc.map nameOf = ws) (hl : ws.length ≤ 8) (hw : ∀ w ∈ ws, WordU w) (hs : ws.Pairwise slt) (hc : ∀ a ∈ acc, ∃ z y k', k = k' + 1 ∧ a = .tup [.str z, y] ∧ RkC k' y) : RkU k (.tup [v, .tup acc]) := by
  obtain ⟨ps, rfl, p1, p2⟩ := hv.p
  have al : acc.length ≤ 8 := by rw [← ha, List.length_map] at hl; exact hl
  have nm : ∀ a ∈ acc, ∃ z, nameOf a = z ∧ WordU z := fun a h => ⟨_, rfl, hw _ (by rw [← ha]; exact List.mem_map_of_mem h)⟩
  have h9 : 0 < 9 ^ k := Nat.pos_of_ne_zero (by simp)
  have p3 : partU (.tup acc) = true := by
    simp only [partU,Bool.and_eq_true]
    refine ⟨List.all_eq_true.mpr fun a h => ?_, by rw [ha]; exact decide_eq_true hs⟩
    obtain ⟨z, y, k', _, rfl, _⟩ := hc a h
    obtain ⟨z2, e, w⟩ := nm _ h
    obtain rfl : z = z2 := e
    exact w.1
  refine ⟨?_, ?_, ?_⟩
  · simp only [treeN,p1,p2,p3,Bool.true_and]
    refine List.all_eq_true.mpr fun a h => ?_
    obtain ⟨z, y, k', rfl, rfl, q⟩ := hc a h
    exact q.t
  · cases k with
    | zero =>
      cases acc with
      | nil => exact (Dt.pair (k := 9) (hv.d.mono (by decide) (Nat.le_refl _)) ((Dt.of (k := 9) (n := 4) (x := .tup []) (by decide +kernel)))).mono (by omega) (by decide)
      | cons a as => obtain ⟨_, _, _, e, _⟩ := hc a List.mem_cons_self; cases e
    | succ k =>
      have each : ∀ a ∈ acc, Dt (5 * k + 11) (40000 * 9 ^ k + 1200) a := fun a h => by
        obtain ⟨z, y, k', e, rfl, q⟩ := hc a h
        cases e
        obtain ⟨z2, e, w⟩ := nm _ h
        obtain rfl : z = z2 := e
        exact (Dt.pair (w.dt.mono (Nat.zero_le _) (Nat.le_refl _)) q.d).mono (Nat.le_refl _) (by omega)
      have d1 := Dt.many each al
      rw [Nat.pow_succ]
      have h9' : 0 < 9 ^ k := Nat.pos_of_ne_zero (by simp)
      exact (Dt.pair (hv.d.mono (by omega) (Nat.le_refl _)) d1).mono (by omega) (by omega)
  · simp only [pathsL,List.length_cons]
    cases k with
    | zero =>
      cases acc with
      | nil => simp
      | cons a as => obtain ⟨_, _, _, e, _⟩ := hc a List.mem_cons_self; cases e
    | succ k =>
      have h1 := flat_len (f := fun c => pathsL (k + 1) (sndU c) ([] ++ [.str (nameOf c)])) (g := fun _ => 9 ^ (k + 1)) (cs := acc) fun c h => by
        obtain ⟨z, y, k', e, rfl, q⟩ := hc c h
        cases e
        exact Nat.le_trans (Nat.le_of_eq (paths_lenR _ _ _ _ q.t)) q.n
      rw [sum_constR] at h1
      have h2 : acc.length * 9 ^ (k + 1) ≤ 8 * 9 ^ (k + 1) := Nat.mul_le_mul_right _ al
      have h3 : 0 < 9 ^ (k + 1) := Nat.pos_of_ne_zero (by simp)
      rw [Nat.pow_succ 9 (k + 1)]
      omega
def sp__law_ranked (k : Nat) : USp := fun us M Q _ => ∃ (s c : Addr) (n : Nat) (j : Int), us = [.ref s, .int j] ∧ j ≤ k ∧ j ≤ 2 ∧ Strm M s c (n + 200 * 9 ^ (k + 1)) ∧ ∀ y M', RkU k y → Strm M' s c n → But s c M M' → Q y M'
local macro_rules | `(tactic| walk_at "q1") => `(tactic| simp only [z8i,uOr,z8d,z8m,uCB,z7t,z8l,uC,z8o,z7w,uOp,uUn,z8s,z8j,uIf,z8e,z7v,z7u,z7s,uBM,z8g,uSl,z4x,z8r,z72,z7x,List.append_nil,z8t,z80,z8y,z7z,z8u,z81,z8w,z8v,xIf,z74,z8x,z8p,z3t,z8n,z7m,z7q,z7o,z7p,z5w,z5v,z7a,z3l,z3m,z75,z5g,z8k,asD,uXf,z8f,z5n,z7y,z6e,z6d,z68,z67,z63,z5h,z5i,z5j,z3v,z3w,z6f,z64,z62,z5r,z6b,z7j,z7k,z7i,z7c,z7b,z7l,z7e,z5o,z2m,z2w,z2k,z2o,z2p,z2l,z2n,z5c,z73,z5a,z5e,z5f,z5b,z3g,z5d,z3e,z2q,z2r,z3i,z3k,z3j,z39,z3a,z37,z38,z4q,z6h,z4o,z4s,z4t,z4p,z3f,z4r,z4e,z4d,z3b,z2s,z3d,z3c,z0h,z0g,z0d,z0a,z0f,z0e,z1o,z1n,z0u,z0j,z0w,z0v,z2d,z2c,z1r,z10,z1t,z1s,z2f,z2e,z1w,z14,z1y,z1x,z16,z15,z0m,z0i,z0o,z0n,z1v,z1u,z11,z0l,z13,z12,z1q,z1p,z0x,z0k,z0z,z0y,z4i,z6g,z4g,z4j,z4k,z4h,z82,z88,z46,z5x,z44,z47,z48,z45,z2v,z2j,z40,z5q,z3y,z41,z42,z3z,z2u,z2i,z6y,z70,z6x,z71,z6z,z59,z56,z57,z58,z87,z86,z7r,z79,z7n,z7d,z5y,z76,z77,z6c,z69,z6a,z8b,z8c,z89,z8a,z85,z83,z84,z4v,z4u,z6i,z78,z5m,z5l,z5k,z6n,z6o,z6p,z6q,z6r,z6s,z6t,z6u,z6v,z6w,z50,z51,z52,z53,z54,z55,z4b,z4c,z49,z27,z26,z1e,z0r,z1g,z1f,z05,z04,z2h,z2g,z1z,z17,z21,z20,z0c,z0b,z23,z22,z18,z0p,z1a,z19,z01,z00,z29,z28,z1h,z0s,z1j,z1i,z07,z06,z2b,z2a,z1k,z0t,z1m,z1l,z09,z08,z25,z24,z1b,z0q,z1d,z1c,z03,z02,z6m,z8h,z4z,z6l,z6k,z4w,z4y,z3s,z6j,z3p,z4f,z3n,z3q,z3r,z3o,z5p,z2t,z3h,z4n,z4l,z4a,z66,z65,z4m,z60,z61,z5z,z32,z2x,z33,z2y,z34,z2z,z35,z30,z36,z31,z7h,z7g,z3u,z5u,z3x,z7f,z5t,z43,z5s,cle,clt,cge,cgt,ceq,cne,lenN,xFor,xTryM,uMix,uEnum,uZip,ltT,uSortK,sortK,sortN,uDNew,uDGet,inN,setN,uDNewS,uDGetS,inS,setS,uDm,uDm0,getR,popS,setdS,getNR,setdN,popNR,itemsR,lenS,dictS,sortItR,uFld,uFst,uMake,uLock,uLockE,uKeys,sortE,sortL,xOp,reprT_1,listN,mulT,gLst_l,gLst_r,sum_l,sum_r,min_ii,max_ii,sortSD,pop1S,dictN,uD1,updN,exists_eq_left',exists_eq_left,Option.some.injEq,U.int.injEq,U.bl.injEq,U.str.injEq,U.ref.injEq,U.tup.injEq,U.lst.injEq,U.ty.injEq,List.cons.injEq,and_true,true_and,and_self,List.map_cons,List.map_nil,List.length_cons,List.length_nil,List.cons_append,List.nil_append,List.append_nil,List.getElem?_cons_zero,List.getElem?_cons_succ,List.set_cons_zero,List.set_cons_succ,List.replicate,↓reduceIte,Bool.false_eq_true,Bool.not_true,Bool.not_false,reduceCtorEq,Nat.reduceAdd,Nat.reduceSub,Nat.reduceLeDiff,Nat.reduceEqDiff,decide_true,decide_false,at0,at1,at2,at3,at4,ix0,ix1,ix2,ix3,ix4,updM_same,beq_self_eq_true,Option.bind,Option.map,wipeU,NT.put,puts,MO.lst.injEq,exists_and_left,decide_eq_true_eq,Bool.and_eq_true,Bool.or_eq_true,exists_eq',Nat.zero_le,true_or,or_true])
local macro_rules | `(tactic| walk_at "q10") => `(tactic| simp only [uFor,z8i,uOr,z8d,z8m,uCB,z7t,z8l,uC,z8o,z7w,uOp,uUn,z8s,z8j,uIf,z8e,z7v,z7u,z7s,uBM,z8g,uSl,z4x,z8r,z72,z7x,List.append_nil,z8t,z80,z8y,z7z,z8u,z81,z8w,z8v,xIf,z74,z8x,z8p,z3t,z8n,z7m,z7q,z7o,z7p,z5w,z5v,z7a,z3l,z3m,z75,z5g,z8k,asD,uXf,z8f,z5n,z7y,z6e,z6d,z68,z67,z63,z5h,z5i,z5j,z3v,z3w,z6f,z64,z62,z5r,z6b,z7j,z7k,z7i,z7c,z7b,z7l,z7e,z5o,z2m,z2w,z2k,z2o,z2p,z2l,z2n,z5c,z73,z5a,z5e,z5f,z5b,z3g,z5d,z3e,z2q,z2r,z3i,z3k,z3j,z39,z3a,z37,z38,z4q,z6h,z4o,z4s,z4t,z4p,z3f,z4r,z4e,z4d,z3b,z2s,z3d,z3c,z0h,z0g,z0d,z0a,z0f,z0e,z1o,z1n,z0u,z0j,z0w,z0v,z2d,z2c,z1r,z10,z1t,z1s,z2f,z2e,z1w,z14,z1y,z1x,z16,z15,z0m,z0i,z0o,z0n,z1v,z1u,z11,z0l,z13,z12,z1q,z1p,z0x,z0k,z0z,z0y,z4i,z6g,z4g,z4j,z4k,z4h,z82,z88,z46,z5x,z44,z47,z48,z45,z2v,z2j,z40,z5q,z3y,z41,z42,z3z,z2u,z2i,z6y,z70,z6x,z71,z6z,z59,z56,z57,z58,z87,z86,z7r,z79,z7n,z7d,z5y,z76,z77,z6c,z69,z6a,z8b,z8c,z89,z8a,z85,z83,z84,z4v,z4u,z6i,z78,z5m,z5l,z5k,z6n,z6o,z6p,z6q,z6r,z6s,z6t,z6u,z6v,z6w,z50,z51,z52,z53,z54,z55,z4b,z4c,z49,z27,z26,z1e,z0r,z1g,z1f,z05,z04,z2h,z2g,z1z,z17,z21,z20,z0c,z0b,z23,z22,z18,z0p,z1a,z19,z01,z00,z29,z28,z1h,z0s,z1j,z1i,z07,z06,z2b,z2a,z1k,z0t,z1m,z1l,z09,z08,z25,z24,z1b,z0q,z1d,z1c,z03,z02,z6m,z8h,z4z,z6l,z6k,z4w,z4y,z3s,z6j,z3p,z4f,z3n,z3q,z3r,z3o,z5p,z2t,z3h,z4n,z4l,z4a,z66,z65,z4m,z60,z61,z5z,z32,z2x,z33,z2y,z34,z2z,z35,z30,z36,z31,z7h,z7g,z3u,z5u,z3x,z7f,z5t,z43,z5s,cle,clt,cge,cgt,ceq,cne,lenN,xFor,xTryM,uMix,uEnum,uZip,ltT,uSortK,sortK,sortN,uDNew,uDGet,inN,setN,uDNewS,uDGetS,inS,setS,uDm,uDm0,getR,popS,setdS,getNR,setdN,popNR,itemsR,lenS,dictS,sortItR,uFld,uFst,uMake,uLock,uLockE,uKeys,sortE,sortL,xOp,reprT_1,listN,mulT,gLst_l,gLst_r,sum_l,sum_r,min_ii,max_ii,sortSD,pop1S,dictN,uD1,updN,exists_eq_left',exists_eq_left,Option.some.injEq,U.int.injEq,U.bl.injEq,U.str.injEq,U.ref.injEq,U.tup.injEq,U.lst.injEq,U.ty.injEq,List.cons.injEq,and_true,true_and,and_self,List.map_cons,List.map_nil,List.length_cons,List.length_nil,List.cons_append,List.nil_append,List.append_nil,List.getElem?_cons_zero,List.getElem?_cons_succ,List.set_cons_zero,List.set_cons_succ,List.replicate,↓reduceIte,Bool.false_eq_true,Bool.not_true,Bool.not_false,reduceCtorEq,Nat.reduceAdd,Nat.reduceSub,Nat.reduceLeDiff,Nat.reduceEqDiff,decide_true,decide_false,at0,at1,at2,at3,at4,ix0,ix1,ix2,ix3,ix4,updM_same,beq_self_eq_true,Option.bind,Option.map,wipeU,NT.put,puts,MO.lst.injEq,exists_and_left,decide_eq_true_eq,Bool.and_eq_true,Bool.or_eq_true,exists_eq',Nat.zero_le,true_or,or_true])
theorem step__law_ranked (L : Lw K mg) {k : Nat} {sp' : USp} (k0 : Nat) (G : UFn P w K mg base CX0 (4 + k) L.f__law_ranked L.fd__law_ranked ["_law_stream", "_law_deep"] sp') (hsp : ∀ k', k0 = k' + 1 → sp' = sp__law_ranked k') : UFn P w K mg base CX0 (4 + k + 1) L.f__law_ranked L.fd__law_ranked ["_law_stream", "_law_deep"] (sp__law_ranked k0) := by
  refine ufn_ok L.D__law_ranked.F sc__law_ranked (fun us M Q E h => ?_) (fun cdv A outer s H E hr hG =>
      (uss_cons (us_set (i := 2) sc__law_ranked.nd rfl (.inl rfl) (ue_lst true ua_nil))
      (uss_cons (us_set (i := 3) sc__law_ranked.nd rfl (.inl rfl) (ue_ix (ue_lst false (ua_cons (ue_lst false (ua_cons ue_int ua_nil)) (ua_cons (ue_lst false (ua_cons ue_int (ua_cons ue_int (ua_cons ue_int (ua_cons ue_int ua_nil))))) (ua_cons (ue_lst false (ua_cons ue_int (ua_cons ue_int (ua_cons ue_int (ua_cons ue_int ua_nil))))) ua_nil)))) (ue_callB (uc_max rfl) (by rfl) L.n_max bt_max (ua_cons ue_int (ua_cons (uv 1) ua_nil)))))
      (uss_cons (us_for PassesOwn.never rfl (ui_any (ue_call (ok__law_some_names L) (hr.mono (by omega)) hG rfl L.D__law_some_names.g L.D__law_some_names.F.kp L.D__law_some_names.b .nil (fun _ => RelUs.nil) (ua_cons (uv 0) (ua_cons (ue_ix (uv 3) (ue_call (ok__law_draw L) (hr.mono (by omega)) hG rfl L.D__law_draw.g L.D__law_draw.F.kp L.D__law_draw.b .nil (fun _ => RelUs.nil) (ua_cons (uv 0) (ua_cons (ue_callB uc_len (by rfl) L.n_len bt_len (ua_cons (uv 3) ua_nil)) ua_nil)))) ua_nil)))) (ug_name (i := 4) sc__law_ranked.nd rfl (.inl rfl)) (uss_cons (us_set (i := 5) sc__law_ranked.nd rfl (.inl rfl) (ue_lst false (ua_cons ue_int (ua_cons ue_int (ua_cons ue_int (ua_cons ue_int (ua_cons (ue_un uu_neg ue_int) (ua_cons ue_int (ua_cons ue_int (ua_cons ue_int (ua_cons (ue_op uo_sub (ue_op uo_pow ue_int ue_int) ue_int) (ua_cons (ue_op uo_sub ue_int (ue_op uo_pow ue_int ue_int)) (ua_cons ue_str (ua_cons ue_str (ua_cons (ue_tup (ua_cons ue_str (ua_cons (ue_tup ua_nil) ua_nil))) (ua_cons (ue_tup (ua_cons ue_str (ua_cons (ue_tup (ua_cons ue_str ua_nil)) ua_nil))) ua_nil))))))))))))))))
      (uss_cons (us_set (i := 6) sc__law_ranked.nd rfl (.inl rfl) (ue_call G (hr.mono (by omega)) hG rfl L.D__law_ranked.g L.D__law_ranked.F.kp L.D__law_ranked.b .nil (fun _ => RelUs.nil) (ua_cons (uv 0) (ua_cons (ue_op uo_sub (ue_op uo_sub (uv 1) ue_int) (ue_call (ok__law_draw L) (hr.mono (by omega)) hG rfl L.D__law_draw.g L.D__law_draw.F.kp L.D__law_draw.b .nil (fun _ => RelUs.nil) (ua_cons (uv 0) (ua_cons ue_int ua_nil)))) ua_nil))))
      (uss_cons (us_set (i := 7) sc__law_ranked.nd rfl (.inl rfl) (ue_op uo_mulT (ue_tup (ua_cons (ue_tup (ua_cons ue_str (ua_cons (ue_ix (uv 5) (ue_call (ok__law_draw L) (hr.mono (by omega)) hG rfl L.D__law_draw.g L.D__law_draw.F.kp L.D__law_draw.b .nil (fun _ => RelUs.nil) (ua_cons (uv 0) (ua_cons ue_int ua_nil)))) ua_nil))) ua_nil)) (ue_callTy uc_int2 (by rfl) L.n_int bt_int (ua_cons (ue_cmp uo_gt (ue_call (ok__law_draw L) (hr.mono (by omega)) hG rfl L.D__law_draw.g L.D__law_draw.F.kp L.D__law_draw.b .nil (fun _ => RelUs.nil) (ua_cons (uv 0) (ua_cons ue_int ua_nil))) ue_int (nomark _)) ua_nil))))
      (uss_cons (us_set (i := 8) sc__law_ranked.nd rfl (.inl rfl) (ue_op uo_mulT (ue_tup (ua_cons (ue_tup (ua_cons ue_str (ua_cons (ue_call (ok__law_draw L) (hr.mono (by omega)) hG rfl L.D__law_draw.g L.D__law_draw.F.kp L.D__law_draw.b .nil (fun _ => RelUs.nil) (ua_cons (uv 0) (ua_cons ue_int ua_nil))) ua_nil))) ua_nil)) (ue_call (ok__law_draw L) (hr.mono (by omega)) hG rfl L.D__law_draw.g L.D__law_draw.F.kp L.D__law_draw.b .nil (fun _ => RelUs.nil) (ua_cons (uv 0) (ua_cons ue_int ua_nil)))))
      (uss_one (us_expr (ue_bm PySem.F.plainAttrs_list PySem.F.slot_list_append PySem.F.type_list_append um_append (uv 2) (ua_cons (ue_tup (ua_cons (uv 4) (ua_cons (ue_tup (ua_cons (ue_op (uo_add false) (uv 7) (uv 8)) (ua_cons (ue_ix (uv 6) ue_int) ua_nil))) ua_nil))) ua_nil)))))))))
      (uss_one (us_ret (ue_tup (ua_cons (ue_op uo_mulT (ue_tup (ua_cons (ue_tup (ua_cons ue_str (ua_cons ue_int ua_nil))) ua_nil)) (ue_call (ok__law_draw L) (hr.mono (by omega)) hG rfl L.D__law_draw.g L.D__law_draw.F.kp L.D__law_draw.b .nil (fun _ => RelUs.nil) (ua_cons (uv 0) (ua_cons ue_int ua_nil)))) (ua_cons (ue_callTy uc_tuple (by rfl) L.n_tuple bt_tuple (ua_cons (uv 2) ua_nil)) ua_nil))))))))) (fun us M Q E h => ?_)
  · obtain ⟨s, c, n, j, rfl, _⟩ := h
    rfl
  · obtain ⟨s, c, n, j, rfl, hj, hj2, hS, q⟩ := h
    refine seq_one ?_
    walk_at "q1"
    intro p hp
    obtain ⟨hsp1, hcp⟩ := hS.sp hp
    refine seq_one ?_
    walk_at "q1"
    obtain ⟨xs, hxs, hx8, hxz⟩ : ∃ xs : List Nat, atI [U.lst [U.int 0], U.lst [U.int 0, U.int 1, U.int 2, U.int 3], U.lst [U.int 0, U.int 2, U.int 5, U.int 8]] (if j > 0 then j else 0) = some (.lst (xs.map fun v => .int ((v : Nat) : Int))) ∧ (xs.length = 4 ∧ (∀ v ∈ xs, v ≤ 8) ∨ xs = [0]) ∧ (j ≤ 0 → xs = [0]) := by
      by_cases h : j > 0
      · rcases (by omega : j = 1 ∨ j = 2) with rfl | rfl
        · exact ⟨[0, 1, 2, 3], rfl, .inl ⟨rfl, by decide⟩, fun h => by omega⟩
        · exact ⟨[0, 2, 5, 8], rfl, .inl ⟨rfl, by decide⟩, fun h => by omega⟩
      · rw [if_neg h]
        exact ⟨[0], rfl, .inr rfl, fun _ => rfl⟩
    refine ⟨line_le, line_le, line_le, line_le, _, hxs, ?_⟩
    have hl0 : 1 ≤ xs.length ∧ xs.length ≤ 4 ∧ ∀ v ∈ xs, v ≤ 8 := by
      rcases hx8 with ⟨h1, h2⟩ | rfl
      · exact ⟨by omega, by omega, h2⟩
      · exact ⟨by decide, by decide, by decide⟩
    obtain ⟨C, hC, hC0, hC2⟩ : ∃ C, 200 * 9 ^ (k0 + 1) = 9 * C ∧ 200 ≤ C ∧ ∀ k', k0 = k' + 1 → C = 200 * 9 ^ (k' + 1) := by
      refine ⟨200 * 9 ^ k0, by rw [Nat.pow_succ]; omega, Nat.le_mul_of_pos_right _ (Nat.pos_of_ne_zero (by simp)), fun k' h => by rw [h]⟩
    rw [hC] at hS
    refine seq_one ?_
    walk_at "q10"
    refine draw_use (n := n + 9 * C - 1) (by rw [show n + 9 * C - 1 + 1 = n + 9 * C by omega]; exact hS.upd hsp1 hcp) (by simp; omega) (by simp; omega) fun r M1 h0 h1 hS1 hB1 => ?_
    obtain ⟨v, hv, hvm⟩ := at_draw h0 h1
    obtain ⟨m, hm, rfl⟩ := List.mem_map.mp hvm
    have hm8 := hl0.2.2 m hm
    have hp1 := hB1 p (Ne.symm hsp1) (Ne.symm hcp) _ updM_same
    have hMB : But s c M M1 := fun b b1 b2 o e => hB1 b b1 b2 o (by rw [updM_ne (fun z => by rw [z, hp] at e; cases e)]; exact e)
    walk_at "q1"
    refine ⟨_, hv, names_use (n := n + 9 * C - 1 - 10 * m) (many := m) (by omega) (hS1.le (by omega)) fun ws M2 hwl hww hwa hS2 hB2 => ?_⟩
    have hp2 := hB2 p (Ne.symm hsp1) (Ne.symm hcp) _ hp1
    have hw0 : j ≤ 0 → ws = [] := fun h => by
      have := hxz h
      subst this
      have : m = 0 := by simpa using hm
      exact List.length_eq_zero_iff.mp (by omega)
    walk_at "q1"
    refine for_inv (fun i σ M' => ∃ o5 o6 o7 o8 o9 acc, σ = [some (U.ref s), some (U.int j), some (U.ref p), some (.lst (xs.map fun v => .int ((v : Nat) : Int))), o5, o6, o7, o8, o9] ∧ M' p = some (.lst acc) ∧ acc.map nameOf = ws.take i ∧ (∀ k', k0 = k' + 1 → ∀ a ∈ acc, ∃ z y, a = .tup [.str z, y] ∧ RkC k' y) ∧ Strm M' s c (n + 1 + (ws.length - i) * (C + 6)) ∧ But s c M M') _ (fun _ _ _ _ => True.intro) ?_ ?_
      ⟨_, _, _, _, _, [], rfl, hp2, by simp, fun _ _ _ h => absurd h List.not_mem_nil, hS2.le ?_, hMB.trans hB2⟩
    · rintro i x σ M3 N hx ⟨o5, o6, o7, o8, o9, acc, rfl, hp3, hnm, hok, hS3, hB3⟩ hN
      rw [List.getElem?_map] at hx
      obtain ⟨w, hw, rfl⟩ : ∃ w, ws[i]? = some w ∧ U.str w = x := by
        cases e : ws[i]? with
        | none => rw [e] at hx; cases hx
        | some w => rw [e] at hx; exact ⟨w, rfl, by simpa using hx⟩
      have hlt := (List.getElem?_eq_some_iff.mp hw).1
      have ww := hww w (List.mem_of_getElem? hw)
      have hj0 : 0 < j := by
        rcases (by omega : j ≤ 0 ∨ 0 < j) with h | h
        · rw [hw0 h] at hlt; simp at hlt
        · exact h
      obtain ⟨k', rfl⟩ : ∃ k', k0 = k' + 1 := ⟨k0 - 1, by omega⟩
      obtain rfl := hsp k' rfl
      have hCk := hC2 k' rfl
      simp only [z7v,List.set]
      refine seq_one ?_
      walk_at "q1"
      refine ⟨⟨by decide, by decide, by decide⟩, ⟨by decide, by decide, by decide⟩, line_le, line_le, line_le, line_le, ?_⟩
      obtain ⟨R, hR, hR2⟩ : ∃ R, n + 1 + (ws.length - (i + 1)) * (C + 6) = R ∧ n + 1 + (ws.length - i) * (C + 6) = R + C + 6 := ⟨_, rfl, by
        rw [show ws.length - i = (ws.length - (i + 1)) + 1 by omega, Nat.add_mul]; omega⟩
      rw [hR] at hN
      rw [hR2] at hS3
      have g14 : ∀ v ∈ [U.int 0, U.int 0, U.int 1, U.int 1, U.int (-1), U.int 2, U.int 10, U.int 9, U.int (10 ^ Int.toNat 30 - 1), U.int (1 - 10 ^ Int.toNat 30), U.str (Str.ofString "a"), U.str (Str.ofString "rank"), U.tup [U.str (Str.ofString "link"), U.tup []], U.tup [U.str (Str.ofString "link"), U.tup [U.str (Str.ofString "a")]]], (isValueU v && isD v && shw v && decide (dep v ≤ 2) && decide (sz v ≤ 200) && decide (wid v ≤ 2)) = true := by decide +kernel
      generalize hL : [U.int 0, U.int 0, U.int 1, U.int 1, U.int (-1), U.int 2, U.int 10, U.int 9, U.int (10 ^ Int.toNat 30 - 1), U.int (1 - 10 ^ Int.toNat 30), U.str (Str.ofString "a"), U.str (Str.ofString "rank"), U.tup [U.str (Str.ofString "link"), U.tup []], U.tup [U.str (Str.ofString "link"), U.tup [U.str (Str.ofString "a")]]] = L14 at g14 ⊢
      have l14 : L14.length = 14 := by rw [← hL]; rfl
      clear hL
      refine seq_one ?_
      walk_at "q1"
      refine draw_use (n := R + C + 5) hS3 (by decide) (by decide) fun r2 M4 h2 h3 hS4 hB4 => ?_
      walk_at "q1"
      refine ⟨s, c, R + 5, _, rfl, by omega, by omega, hS4.le (by omega), fun y M5 hy hS5 hB5 => ?_⟩
      have hp5 := hB5 p (Ne.symm hsp1) (Ne.symm hcp) _ (hB4 p (Ne.symm hsp1) (Ne.symm hcp) _ hp3)
      obtain ⟨ps0, cs0, rfl, hps0, hcs0, hvs0, hts0⟩ := tree_sh hy.t
      refine seq_one ?_
      walk_at "q1"
      refine draw_use (n := R + 4) hS5 (by decide) (by decide) fun r3 M6 h4 h5 hS6 hB6 => ?_
      obtain ⟨u, hu, hum⟩ := at_draw (xs := L14) h4 (by rw [l14]; exact h5)
      walk_at "q1"
      refine ⟨u, hu, line_le, line_le, ?_⟩
      refine draw_use (n := R + 3) hS6 (by decide) (by decide) fun r4 M7 h6 h7 hS7 hB7 => ?_
      walk_at "q1"
      have hu := g14 u hum
      simp only [Bool.and_eq_true,decide_eq_true_eq] at hu
      obtain ⟨⟨⟨⟨⟨u1, u2⟩, u3⟩, u4⟩, u5⟩, u6⟩ := hu
      have hub : Dt 2 200 u := ⟨u2, u3, u4, u5, Nat.le_trans u6 (by decide)⟩
      refine ⟨by simp, by split <;> simp, ?_⟩
      obtain ⟨rk, hrk, hrk2⟩ : ∃ rk, (List.replicate (if 0 < r4 then (1 : Int) else 0).toNat [U.tup [U.str (Str.ofString "rank"), u]]).flatten = rk ∧ (rk = [] ∨ rk = [.tup [.str "rank", u]]) := ⟨_, rfl, by split <;> simp⟩
      rw [hrk]
      refine seq_one ?_
      walk_at "q1"
      refine draw_use (n := R + 2) hS7 (by decide) (by decide) fun r5 M8 h8 h9 hS8 hB8 => ?_
      refine ⟨line_le, line_le, ?_⟩
      refine draw_use (n := R + 1) hS8 (by decide) (by decide) fun r6 M9 h10 h11 hS9 hB9 => ?_
      refine ⟨r6, rfl, by simp, by omega, ?_⟩
      obtain ⟨mr, hmr, hmr2⟩ : ∃ mr, (List.replicate r6.toNat [U.tup [U.str (Str.ofString "size"), U.int r5]]).flatten = mr ∧ (mr = [] ∨ mr = [.tup [.str "size", .int r5]]) := ⟨_, rfl, by rcases (by omega : r6 = 0 ∨ r6 = 1) with rfl | rfl <;> simp⟩
      rw [hmr]
      have hp9 := hB9 p (Ne.symm hsp1) (Ne.symm hcp) _ (hB8 p (Ne.symm hsp1) (Ne.symm hcp) _ (hB7 p (Ne.symm hsp1) (Ne.symm hcp) _ (hB6 p (Ne.symm hsp1) (Ne.symm hcp) _ hp5)))
      have l5 : r5.natAbs.log2 ≤ 8 := Nat.le_trans (Nat.log2_le_self _) (by omega)
      have PR : PrR (.tup (rk ++ mr)) := prR hrk2 hmr2 u1 hub (Dt.int (by omega) (by omega))
      have al : acc.length ≤ 8 := by
        have := congrArg List.length hnm
        rw [List.length_map, List.length_take] at this
        omega
      have ll : rk.length + mr.length ≤ 2 := by rcases hrk2 with rfl | rfl <;> rcases hmr2 with rfl | rfl <;> simp
      refine ⟨⟨_, hp9⟩, line_le (by omega), line_le, line_le, _, hp9, line_lt (by omega), hN _ _ ⟨_, _, _, _, _, _, rfl, updM_same, ?_, fun k2 e a h => ?_, (hS9.le (by omega)).upd hsp1 hcp, ((((((hB3.trans hB4).trans hB5).trans hB6).trans hB7).trans hB8).trans hB9).upd hp⟩⟩
      · rw [List.map_append, hnm, List.take_add_one, hw]; rfl
      · cases e
        rcases List.mem_append.mp h with h | h
        · exact hok k' rfl a h
        · rw [List.mem_singleton.mp h]
          exact ⟨w, _, rfl, hy.child PR⟩
    · rintro σ M3 ⟨o5, o6, o7, o8, o9, acc, rfl, hp3, hnm, hok, hS3, hB3⟩
      walk_at "q0"
      have hnm : acc.map nameOf = ws := by rw [hnm, List.take_of_length_le (by simp)]
      refine ⟨line_le, line_le, ?_⟩
      refine draw_use (n := n) (hS3.le (by omega)) (by decide) (by decide) fun r2 M4 h2 h3 hS4 hB4 => ?_
      have hp4 := hB4 p (Ne.symm hsp1) (Ne.symm hcp) _ hp3
      refine ⟨r2, rfl, by simp, by omega, ?_⟩
      obtain ⟨mr, hmr, hmr2⟩ : ∃ mr, (List.replicate r2.toNat [U.tup [U.str (Str.ofString "rank"), U.int 5]]).flatten = mr ∧ (mr = [] ∨ mr = [.tup [.str "rank", .int 5]]) := ⟨_, rfl, by rcases (by omega : r2 = 0 ∨ r2 = 1) with rfl | rfl <;> simp⟩
      rw [hmr]
      simp only [hp4,z8i,uOr,z8d,z8m,uCB,z7t,z8l,uC,z8o,z7w,uOp,uUn,z8s,z8j,uIf,z8e,z7v,z7u,z7s,uBM,z8g,uSl,z4x,z8r,z72,z8q,z7x,List.append_nil,z8t,z80,z8y,z7z,z8u,z81,z8w,z8v,xIf,z74,z8x,z8p,z3t,z8n,z7m,z7q,z7o,z7p,z5w,z5v,z7a,z3l,z3m,z75,z5g,z8k,asD,uXf,z8f,z5n,z7y,z6e,z6d,z68,z67,z63,z5h,z5i,z5j,z3v,z3w,z6f,z64,z62,z5r,z6b,z7j,z7k,z7i,z7c,z7b,z7l,z7e,z5o,z2m,z2w,z2k,z2o,z2p,z2l,z2n,z5c,z73,z5a,z5e,z5f,z5b,z3g,z5d,z3e,z2q,z2r,z3i,z3k,z3j,z39,z3a,z37,z38,z4q,z6h,z4o,z4s,z4t,z4p,z3f,z4r,z4e,z4d,z3b,z2s,z3d,z3c,z0h,z0g,z0d,z0a,z0f,z0e,z1o,z1n,z0u,z0j,z0w,z0v,z2d,z2c,z1r,z10,z1t,z1s,z2f,z2e,z1w,z14,z1y,z1x,z16,z15,z0m,z0i,z0o,z0n,z1v,z1u,z11,z0l,z13,z12,z1q,z1p,z0x,z0k,z0z,z0y,z4i,z6g,z4g,z4j,z4k,z4h,z82,z88,z46,z5x,z44,z47,z48,z45,z2v,z2j,z40,z5q,z3y,z41,z42,z3z,z2u,z2i,z6y,z70,z6x,z71,z6z,z59,z56,z57,z58,z87,z86,z7r,z79,z7n,z7d,z5y,z76,z77,z6c,z69,z6a,z8b,z8c,z89,z8a,z85,z83,z84,z4v,z4u,z6i,z78,z5m,z5l,z5k,z6n,z6o,z6p,z6q,z6r,z6s,z6t,z6u,z6v,z6w,z50,z51,z52,z53,z54,z55,z4b,z4c,z49,z27,z26,z1e,z0r,z1g,z1f,z05,z04,z2h,z2g,z1z,z17,z21,z20,z0c,z0b,z23,z22,z18,z0p,z1a,z19,z01,z00,z29,z28,z1h,z0s,z1j,z1i,z07,z06,z2b,z2a,z1k,z0t,z1m,z1l,z09,z08,z25,z24,z1b,z0q,z1d,z1c,z03,z02,z6m,z8h,z4z,z6l,z6k,z4w,z4y,z3s,z6j,z3p,z4f,z3n,z3q,z3r,z3o,z5p,z2t,z3h,z4n,z4l,z4a,z66,z65,z4m,z60,z61,z5z,z32,z2x,z33,z2y,z34,z2z,z35,z30,z36,z31,z7h,z7g,z3u,z5u,z3x,z7f,z5t,z43,z5s,cle,clt,cge,cgt,ceq,cne,lenN,xFor,xTryM,uMix,uEnum,uZip,ltT,uSortK,sortK,sortN,uDNew,uDGet,inN,setN,uDNewS,uDGetS,inS,setS,uDm,uDm0,getR,popS,setdS,getNR,setdN,popNR,itemsR,lenS,dictS,sortItR,uFld,uFst,uMake,uLock,uLockE,uKeys,sortE,sortL,xOp,reprT_1,listN,mulT,gLst_l,gLst_r,sum_l,sum_r,min_ii,max_ii,sortSD,pop1S,dictN,uD1,updN,exists_eq_left',exists_eq_left,Option.some.injEq,U.int.injEq,U.bl.injEq,U.str.injEq,U.ref.injEq,U.tup.injEq,U.lst.injEq,U.ty.injEq,List.cons.injEq,and_true,true_and,and_self,List.map_cons,List.map_nil,List.length_cons,List.length_nil,List.cons_append,List.nil_append,List.append_nil,List.getElem?_cons_zero,List.getElem?_cons_succ,List.set_cons_zero,List.set_cons_succ,List.replicate,↓reduceIte,Bool.false_eq_true,Bool.not_true,Bool.not_false,reduceCtorEq,Nat.reduceAdd,Nat.reduceSub,Nat.reduceLeDiff,Nat.reduceEqDiff,decide_true,decide_false,at0,at1,at2,at3,at4,ix0,ix1,ix2,ix3,ix4,updM_same,beq_self_eq_true,Option.bind,Option.map,wipeU,NT.put,puts,MO.lst.injEq,exists_and_left,decide_eq_true_eq,Bool.and_eq_true,Bool.or_eq_true,exists_eq',Nat.zero_le,true_or,or_true]
      have PR : PrR (.tup (mr ++ [])) := prR (r := 0) hmr2 (.inl rfl) rfl (Dt.of (by decide +kernel)) (Dt.of (by decide +kernel))
      rw [List.append_nil] at PR
      refine ⟨line_le, .inl (q _ _ (rkU_node PR hnm (by omega) hww hwa fun a h => ?_) hS4 (hB3.trans hB4))⟩
      have hj0 : 0 < j := by
        rcases (by omega : j ≤ 0 ∨ 0 < j) with h2 | h2
        · have h3 := congrArg List.length hnm
          rw [hw0 h2, List.length_map] at h3
          rw [List.eq_nil_of_length_eq_zero h3] at h; cases h
        · exact h2
      obtain ⟨k', e⟩ : ∃ k', k0 = k' + 1 := ⟨k0 - 1, by omega⟩
      obtain ⟨z, y, e2, r⟩ := hok k' e a h
      exact ⟨z, y, k', e, e2, r⟩
    · rw [Nat.sub_zero]
      have : ws.length * (C + 6) ≤ 8 * (C + 6) := Nat.mul_le_mul_right _ (by omega)
      omega

theorem ok__law_ranked (L : Lw K mg) : ∀ k : Nat, UFn P w K mg base CX0 (4 + k + 1) L.f__law_ranked L.fd__law_ranked ["_law_stream", "_law_deep"] (sp__law_ranked k)
  | 0 => step__law_ranked L (k := 0) (sp' := fun _ _ _ _ => False) 0 ufn_none (fun k' h => by cases h)
  | k + 1 => step__law_ranked L (k := k + 1) (sp' := sp__law_ranked k) (k + 1) (ok__law_ranked L k) (fun k' h => by cases h; rfl)
/-! ### _law_order -/
def sp__law_order : USp := fun us M Q _ => ∃ m y, us = [y] ∧ treeN (m + 1) y = true ∧ wid y ≤ 62 ∧ ∀ M', Ext M M' → Q (.lst (orderU y)) M'
theorem ok__law_order (L : Lw K mg) : UFn P w K mg base CX0 1 L.f__law_order L.fd__law_order ["_law_part"] (sp__law_order) := by
  refine ufn_ok L.D__law_order.F sc__law_order (fun us M Q E h => ?_) (fun cdv A outer s H E hr hG =>
      (uss_cons (us_set (i := 1) sc__law_order.nd rfl (.inl rfl) (ue_lst true ua_nil))
      (uss_cons (us_for PassesOwn.never rfl (ui_any (ue_ix (uv 0) ue_int)) (ug_tup (n := 2) rfl (ugs_cons (ug_name (i := 2) sc__law_order.nd rfl (.inl rfl)) (ugs_cons (ug_name (i := 3) sc__law_order.nd rfl (.inl rfl)) ugs_nil))) (uss_cons (us_set (i := 4) sc__law_order.nd rfl (.inl rfl) (ue_dm (φ := DNo P w) rfl PySem.F.slot_dict_get PySem.F.type_dict_get (um_getS (hu2 hr)) (ue_callTy (uc_dictS rfl) (by rfl) L.n_dict bt_dict (ua_cons (ue_ix (uv 3) ue_int) ua_nil)) (ua_cons ue_str (ua_cons ue_int ua_nil)) rfl rfl rfl rfl rfl))
      (uss_one (us_expr (ue_bm PySem.F.plainAttrs_list PySem.F.slot_list_append PySem.F.type_list_append um_append (uv 1) (ua_cons (ue_tup (ua_cons (ue_if (ut_val (ue_callB uc_isi (by rfl) L.n_isinstance bt_isi (ua_cons (uv 4) (ua_cons (ue_bltn (by rfl) L.n_int bt_int) ua_nil)))) (uv 4) ue_int) (ua_cons (uv 2) ua_nil))) ua_nil))))))
      (uss_one (us_ret (ue_lc (own := [("_law_rank", 4), ("_law_name", 2)]) (n := (.tup [(.one 4), (.one 2)])) false rfl sc__law_order.nd (ui_any (ue_callB (uc_sortedL false (hu2 hr)) (by rfl) L.n_sorted bt_sorted (ua_cons (uv 1) ua_nil))) (blkOk_by (own := [("_law_rank", 4), ("_law_name", 2)]) (N := ["_law_part", "_law_found", "_law_name", "_law_child", "_law_rank"]) (sc := defScope s__law_order) (by decide +kernel)) (by decide) (fun _ _ _ _ _ => (pg_ntt rfl (pgs_nt_cons (pg_nt sc__law_order.nd rfl (.inl rfl)) (pgs_nt_cons (pg_nt sc__law_order.nd rfl (.inl rfl)) pgs_nt_nil)))) (fun _ _ _ _ _ => uts_nil) (fun _ _ _ _ _ => (uv 2)))))))) (fun us M Q E h => ?_)
  · obtain ⟨m, y, rfl, _⟩ := h
    rfl
  · obtain ⟨m, y, rfl, hm, hw, q⟩ := h
    obtain ⟨ps, cs, rfl, hps, hcs, hvs, hts⟩ := tree_sh hm
    simp only [partU,Bool.and_eq_true] at hcs
    have hci : ∀ c ∈ cs, ∃ z qs ds, c = .tup [.str z, .tup [.tup qs, .tup ds]] ∧ propsOk qs ∧ okS z = true := fun c hc => by
      obtain ⟨z, b, rfl, hz⟩ := pair_is (List.all_eq_true.mp hcs.1 c hc)
      have hb := List.all_eq_true.mp hts _ hc
      cases m with
      | zero => simp [treeN, sndU] at hb
      | succ m =>
        obtain ⟨qs, ds, e, h1, h2, h3, _⟩ := tree_sh hb
        simp only [sndU] at e
        simp only [partU,Bool.and_eq_true] at h1
        exact ⟨z, qs, ds, by rw [e], ⟨h1.1, fun q hq => List.all_eq_true.mp h3 q hq⟩, nm_okS hz⟩
    have hst : SrtA (cs.map fun c => irU (irOf c)) := by
      have e : (cs.map fun c => irU (irOf c)) = (cs.map irOf).map irU := by rw [List.map_map]; rfl
      rw [e]
      refine irU_srt fun p hp => ?_
      obtain ⟨c, hc, rfl⟩ := List.mem_map.mp hp
      obtain ⟨z, qs, ds, rfl, _, hz⟩ := hci c hc
      simp only [irOf,irU,isD,isDs,hz]; rfl
    have hcl : cs.length ≤ 62 := by
      simp only [wid,wids] at hw
      omega
    walk_at "q4"
    intro f hf
    have hE0 : Ext M (updM M f (.lst [])) := Ext.refl.upd hf
    have hf0 : updM M f (.lst []) f = some (.lst []) := updM_same
    generalize updM M f (.lst []) = M0 at hE0 hf0 ⊢
    refine for_inv (fun i σ M' => ∃ o2 o3 o4, σ = [some (.tup [.tup ps, .tup cs]), some (.ref f), o2, o3, o4] ∧ M' f = some (.lst ((cs.take i).map fun c => irU (irOf c))) ∧ Ext M M') _ (fun _ _ _ _ => True.intro) ?_ ?_ ⟨_, _, _, rfl, hf0, hE0⟩
    · rintro i c σ M1 N hc ⟨o2, o3, o4, rfl, hf1, hE1⟩ hN
      have hcm := List.mem_of_getElem? hc
      have hs2 : (cs.take (i + 1)).map (fun c => irU (irOf c)) = (cs.take i).map (fun c => irU (irOf c)) ++ [irU (irOf c)] := by rw [List.take_add_one, hc, List.map_append]; rfl
      have hil : ((cs.take i).map fun c => irU (irOf c)).length ≤ 62 := by rw [List.length_map, List.length_take]; omega
      rw [hs2] at hN
      generalize (cs.take i).map (fun c => irU (irOf c)) = acc at hf1 hN hil
      obtain ⟨z, qs, ds, rfl, hq, hz⟩ := hci c hcm
      walk_at "q0"
      refine ⟨qs, .inl rfl, _, pairs_of hq.1, fun p hp => ⟨⟨p, rfl, .inl ⟨_, _, updM_same, sok⟩⟩, _, _, rfl, sok, _, .inr ⟨_, ⟨rfl, rfl⟩, ?_⟩⟩⟩
      have hfp : f ≠ p := fun e => by rw [← e, hf1] at hp; cases hp
      have hf2 : updM M1 p (.sD HO.dK (mergeS [] (qs.map pairS))) f = some (.lst acc) := by rw [updM_ne hfp]; exact hf1
      have hE2 := hE1.upd (o := .sD HO.dK (mergeS [] (qs.map pairS))) (hE1.none hp)
      generalize updM M1 p (.sD HO.dK (mergeS [] (qs.map pairS))) = M2 at hf2 hE2 ⊢
      refine ⟨⟨_, hf2⟩, ?_⟩
      have er : irU (irOf (.tup [.str z, .tup [.tup qs, .tup ds]])) = .tup [.int (rankO (getS (mergeS [] (qs.map pairS)) (Str.ofString "rank"))), .str z] := rfl
      rw [er] at hN
      have fin : ∀ v : U, N [some (U.tup [U.tup ps, U.tup cs]), some (U.ref f), some (U.str z), some (U.tup [U.tup qs, U.tup ds]), some v] (updM M2 f (MO.lst (acc ++ [.tup [.int (rankO (getS (mergeS [] (qs.map pairS)) (Str.ofString "rank"))), .str z]]))) := fun v => hN _ _ ⟨_, _, _, rfl, updM_same, hE2.upd hf⟩
      cases hg : getS (mergeS [] (qs.map pairS)) (Str.ofString "rank") with
      | none =>
        rw [hg] at fin
        show isiR [.int 0, .ty "int"] _ _
        walk_at "q0"
        exact ⟨line_le, _, hf2, line_lt (by omega), fin _⟩
      | some v =>
        rw [hg] at fin
        have hv := rank_val hq hg
        show isiR [v, .ty "int"] _ _
        cases v with
        | int i =>
          walk_at "q0"
          exact ⟨line_le, _, hf2, line_lt (by omega), fin _⟩
        | str y =>
          walk_at "q0"
          exact ⟨line_le, _, hf2, line_lt (by omega), fin _⟩
        | tup ys =>
          walk_at "q0"
          exact ⟨line_le, _, hf2, line_lt (by omega), fin _⟩
        | _ => simp [isValueU, isIntU, isNameU, isLinkU] at hv
    · rintro σ M1 ⟨o2, o3, o4, rfl, hf1, hE1⟩
      rw [List.take_length] at hf1
      walk_at "q6"
      refine ⟨_, by rw [hf1]; rfl, line_le (by rw [List.length_map]; omega), hst, ?_⟩
      refine lc_ext sndS _ (fun _ _ => True.intro) (fun c hc => ?_) fun M2 hE2 => .inl (q M2 (hE1.trans hE2))
      obtain ⟨c0, hc0, rfl⟩ : ∃ c0, c0 ∈ cs ∧ c = irU (irOf c0) := by
        have h1 := (List.mergeSort_perm (cs.map fun c => irU (irOf c)) kleU).mem_iff.mp hc
        obtain ⟨c0, h2, rfl⟩ := List.mem_map.mp h1
        exact ⟨c0, h2, rfl⟩
      refine ⟨_, rfl, fun M2 K hE2 k => ?_⟩
      walk_at "q0"
      exact k M2 Ext.refl

/-! ### _law_order_told -/
def sp__law_order_told : USp := fun us M Q _ => ∃ x p, us = [x, p] ∧ isD x = true ∧ dep x ≤ 60 ∧ wid (tupU x) ≤ 62 ∧ isD (tupU x) = true ∧ isD p = true ∧ dep p ≤ 60 ∧ isD (tupU p) = true ∧
  (treeN 9 (tupU x) = false → ∀ M', Ext M M' → Q (.tup [.str "bad"]) M') ∧ (treeN 9 (tupU x) = true → (isNon (partU' (tupU x) (tupU p)) = true → ∀ M', Ext M M' → Q (.tup [.str "none", tupU p]) M') ∧
  (isNon (partU' (tupU x) (tupU p)) = false → ∀ g M', M g = none → M' g = some (.lst (orderU (partU' (tupU x) (tupU p)))) → Ext M M' → Q (.tup [.str "told", .ref g]) M'))
theorem ok__law_order_told (L : Lw K mg) : UFn P w K mg base CX0 67 L.f__law_order_told L.fd__law_order_told ["_law_thing_here", "_law_path_here"] (sp__law_order_told) := by
  refine ufn_ok L.D__law_order_told.F sc__law_order_told (fun us M Q E h => ?_) (fun cdv A outer s H E hr hG =>
      (uss_cons (us_set (i := 2) sc__law_order_told.nd rfl (.inl rfl) ue_non)
      (uss_cons (us_ofx (xs_tryM (K := K) rfl rfl rfl takes0 (fun W pn xe tk hp => (xss_one (xs_set (i := 2) sc__law_order_told.nd rfl (.inl rfl) (xe_tup (xa_cons (xe_of ue_str) (xa_cons (xe_call tk (ok_in_order L) (hr.mono (by decide)) hG rfl L.D_in_order.g L.D_in_order.F.kp L.D_in_order.b .nil (fun _ => RelUs.nil) (xa_cons (xe_of (uv 0)) (xa_cons (xe_of (uv 1)) (xa_of ua_nil)))) (xa_of ua_nil))))))) (UHds.named (i := 3) ⟨rfl, by decide, .inl L.g_NoNode⟩ sc__law_order_told.nd rfl rfl (fun a oe cls d pn hz hf => (uss_one (us_set (i := 2) sc__law_order_told.nd rfl (.inl rfl) (ue_tup (ua_cons ue_str (ua_cons (ue_xf L.xf_NoNode L.no_NoNode_path hz hf (uv 3)) ua_nil)))))) (UHds.bare ⟨rfl, by decide, .inl L.g_BadTree⟩ (fun a oe cls d pn hz hf => (uss_one (us_set (i := 2) sc__law_order_told.nd rfl (.inl rfl) (ue_tup (ua_cons ue_str ua_nil))))) UHds.nil))))
      (uss_one (us_ret (uv 2)))))) (fun us M Q E h => ?_)
  · obtain ⟨x, p, rfl, _⟩ := h
    rfl
  · obtain ⟨x, p, rfl, h1, h2, h3, h4, h5, h6, h7, qb, qg⟩ := h
    walk_at "q0"
    refine ⟨x, p, rfl, h1, h2, h3, h4, h5, h6, h7, fun ht => ?_, fun ht M' hE => ⟨fun hn g M2 hg0 hg1 hE2 => ?_, fun hn d hd => ?_⟩⟩
    · have q2 := qb ht M Ext.refl
      exact ⟨false, L.mm_BadTree_NoNode, nofun, fun _ => ⟨true, L.m_BadTree, fun _ _ _ => ⟨line_le, .inl q2⟩, nofun⟩⟩
    · have q2 := (qg ht).2 hn g M2 (hE.none hg0) hg1 (hE.trans hE2)
      exact ⟨line_le, .inl q2⟩
    · have q2 := (qg ht).1 hn _ (hE.upd (o := .xd [(("path" : Str), tupU p)]) (hE.none hd))
      exact ⟨true, L.m_NoNode, fun _ a ha => ⟨by first | rfl | exact True.intro, d, rfl, _, updM_same, _, rfl, line_le, .inl q2⟩, nofun⟩

/-! ### law -/

theorem name_tup {x : U} (h : isNameU x = true) : tupU x = x := by
  cases x <;> simp [isNameU] at h ⊢ <;> simp [tupU]
theorem names_tup : ∀ {xs : List U}, xs.all isNameU = true → tupUs xs = xs
  | [], _ => rfl
  | x :: xs, h => by
    simp only [List.all_cons,Bool.and_eq_true] at h
    simp only [tupUs,name_tup h.1,names_tup h.2]
theorem path_tup {x : U} (h : isPathU x = true) : tupU x = x := by
  cases x <;> simp only [isPathU,Bool.false_eq_true,Bool.and_eq_true] at h
  simp only [tupU,names_tup h.2]
theorem value_tup {x : U} (h : isValueU x = true) : tupU x = x := by
  simp only [isValueU,Bool.or_eq_true] at h
  rcases h with (h | h) | h
  · cases x <;> simp [isIntU] at h ⊢ <;> simp [tupU]
  · exact name_tup h
  · cases x with
    | tup xs =>
      match xs, h with
      | [a, b], h =>
        simp only [isLinkU,Bool.and_eq_true] at h
        have ha : a = .str "link" := by cases a <;> simp [ueq] at h ⊢; exact h.1
        rw [ha]
        simp only [tupU,tupUs,path_tup h.2]
      | [], h => simp [isLinkU] at h
      | [_], h => simp [isLinkU] at h
      | _ :: _ :: _ :: _, h => simp [isLinkU] at h
    | _ => simp [isLinkU] at h
theorem pairs_tup : ∀ {ps : List U}, ps.all pairU = true → (∀ p ∈ ps, tupU (sndU p) = sndU p) → tupUs ps = ps
  | [], _, _ => rfl
  | p :: ps, h, k => by
    simp only [List.all_cons,Bool.and_eq_true] at h
    have e1 : tupU p = p := by
      obtain ⟨z, b, rfl, hz⟩ := pair_is h.1
      have := k _ List.mem_cons_self
      simp only [sndU] at this
      simp only [tupU,tupUs,this]
    simp only [tupUs,e1,pairs_tup h.2 fun q hq => k q (List.mem_cons_of_mem _ hq)]
theorem tree_tup : ∀ (l : Nat) (t : U), treeN l t = true → tupU t = t
  | 0, t, h => by simp [treeN] at h
  | l + 1, t, h => by
    obtain ⟨ps, cs, rfl, hp, hc, hv, ht⟩ := tree_sh h
    simp only [partU,Bool.and_eq_true] at hp hc
    simp only [tupU,tupUs,pairs_tup hp.1 fun p hp => value_tup (List.all_eq_true.mp hv p hp),pairs_tup hc.1 fun c hc => tree_tup l _ (List.all_eq_true.mp ht c hc)]
theorem treeN_mono : ∀ {l m : Nat} {t : U}, l ≤ m → treeN l t = true → treeN m t = true
  | 0, _, t, _, h => by simp [treeN] at h
  | l + 1, 0, t, hl, _ => absurd hl (by omega)
  | l + 1, m + 1, t, hl, h => by
    obtain ⟨ps, cs, rfl, hp, hc, hv, ht⟩ := tree_sh h
    simp only [treeN,hp,hc,hv,Bool.true_and]
    exact List.all_eq_true.mpr fun c hcm => treeN_mono (by omega) (List.all_eq_true.mp ht c hcm)
/-! ### paths and parts -/
theorem pathsL_pre : ∀ (l : Nat) (x : U) (pre : List U) (p : U), treeN l x = true → p ∈ pathsL l x pre → ∃ r, p = .tup (pre ++ r)
  | 0, x, pre, p, h, _ => by simp [treeN] at h
  | l + 1, x, pre, p, h, hp => by
    obtain ⟨ps, cs, rfl, hps, hcs, hvs, hts⟩ := tree_sh h
    simp only [pathsL] at hp
    rcases List.mem_cons.mp hp with rfl | hp
    · exact ⟨[], by simp⟩
    · obtain ⟨c, hc, hp⟩ := List.mem_flatMap.mp hp
      obtain ⟨r, rfl⟩ := pathsL_pre l _ _ p (List.all_eq_true.mp hts c hc) hp
      exact ⟨.str (nameOf c) :: r, by simp⟩
theorem child_get {cs : List U} (h : ascL (cs.map nameOf) = true) {c : U} (hc : c ∈ cs) : getS (cs.map pairS) (nameOf c) = some (sndU c) := by
  have hn := pairs_nd h
  induction cs with
  | nil => cases hc
  | cons d cs ih =>
    rw [List.map_cons, List.pairwise_cons] at hn
    have h2 : ascL (cs.map nameOf) = true := by
      have := of_decide_eq_true h
      rw [List.map_cons, List.pairwise_cons] at this
      exact decide_eq_true this.2
    rw [List.map_cons, getS_cons]
    rcases List.mem_cons.mp hc with rfl | hc
    · rw [if_pos (show (pairS c).1 = nameOf c from rfl)]; rfl
    · rw [if_neg (show ¬ (pairS d).1 = nameOf c from hn.1 _ (List.mem_map.mpr ⟨c, hc, rfl⟩))]
      exact ih h2 hc hn.2
theorem paths_part : ∀ (l : Nat) (x : U) (pre r : List U), treeN l x = true → (.tup (pre ++ r) ∈ pathsL l x pre ↔ ∃ y, partAt x r = some y)
  | 0, x, pre, r, h => by simp [treeN] at h
  | l + 1, x, pre, [], h => by
    obtain ⟨ps, cs, rfl, _⟩ := tree_sh h
    rw [List.append_nil]
    exact ⟨fun _ => ⟨_, rfl⟩, fun _ => by simp only [pathsL]; exact List.mem_cons_self ..⟩
  | l + 1, x, pre, n :: r, h => by
    obtain ⟨ps, cs, rfl, hps, hcs, hvs, hts⟩ := tree_sh h
    simp only [partU,Bool.and_eq_true] at hcs
    constructor
    · intro hp
      simp only [pathsL] at hp
      rcases List.mem_cons.mp hp with hp | hp
      · have := congrArg (fun u => (seqOf u).length) hp
        simp [seqOf] at this
      · obtain ⟨c, hc, hp⟩ := List.mem_flatMap.mp hp
        have hb := List.all_eq_true.mp hts c hc
        obtain ⟨r2, e⟩ := pathsL_pre l _ _ _ hb hp
        have e2 := U.tup.inj e
        rw [List.append_assoc, List.append_cancel_left_eq] at e2
        obtain ⟨rfl, rfl⟩ : n = .str (nameOf c) ∧ r = r2 := by simpa using e2
        have hp' : U.tup ((pre ++ [.str (nameOf c)]) ++ r) ∈ pathsL l (sndU c) (pre ++ [.str (nameOf c)]) := by simpa using hp
        obtain ⟨y, hy⟩ := (paths_part l _ _ r hb).mp hp'
        exact ⟨y, by simp only [partAt,child_get hcs.2 hc]; exact hy⟩
    · rintro ⟨y, hy⟩
      cases n with
      | str z =>
        simp only [partAt] at hy
        obtain ⟨c, h1, h2⟩ := Option.bind_eq_some_iff.mp hy
        obtain ⟨q, hq, rfl, rfl⟩ := child_mem h1
        have hb := List.all_eq_true.mp hts q hq
        have := (paths_part l _ (pre ++ [.str (nameOf q)]) r hb).mpr ⟨y, h2⟩
        simp only [pathsL]
        refine List.mem_cons_of_mem _ (List.mem_flatMap.mpr ⟨q, hq, ?_⟩)
        simpa using this
      | _ => simp [partAt] at hy

/-! ### what stands at a path -/
theorem parts_mem : ∀ (l : Nat) (x : U) (pre r : List U) (v : U), treeN l x = true → ((U.tup (pre ++ r), v) ∈ partsK l x pre ↔ partAt x r = some v)
  | 0, x, pre, r, v, h => by simp [treeN] at h
  | l + 1, x, pre, r, v, h => by
    obtain ⟨ps, cs, rfl, hps, hcs, hvs, hts⟩ := tree_sh h
    simp only [partU,Bool.and_eq_true] at hcs
    have key : ∀ c ∈ cs, ∀ p ∈ partsK l (sndU c) (pre ++ [.str (nameOf c)]), ∃ r2, p.1 = .tup (pre ++ .str (nameOf c) :: r2) := fun c hc p hp => by
      have hb := List.all_eq_true.mp hts c hc
      have hm : p.1 ∈ pathsL l (sndU c) (pre ++ [.str (nameOf c)]) := by rw [← partsK_keys l _ _ hb]; exact List.mem_map.mpr ⟨p, hp, rfl⟩
      obtain ⟨r2, e⟩ := pathsL_pre l _ _ _ hb hm
      exact ⟨r2, by rw [e, List.append_assoc]; rfl⟩
    simp only [partsK,List.mem_cons,List.mem_flatMap]
    cases r with
    | nil =>
      simp only [List.append_nil,partAt,Option.some.injEq]
      constructor
      · rintro (h1 | ⟨c, hc, h1⟩)
        · exact (Prod.mk.inj h1).2.symm
        · obtain ⟨r2, e⟩ := key c hc _ h1
          have := congrArg List.length (U.tup.inj e)
          simp at this
      · rintro rfl
        exact .inl rfl
    | cons n r =>
      constructor
      · rintro (h1 | ⟨c, hc, h1⟩)
        · have := congrArg List.length (U.tup.inj (Prod.mk.inj h1).1)
          simp at this
        · obtain ⟨r2, e⟩ := key c hc _ h1
          have e2 := U.tup.inj e
          rw [List.append_cancel_left_eq] at e2
          obtain ⟨rfl, rfl⟩ := List.cons.inj e2
          have h2 : (U.tup ((pre ++ [.str (nameOf c)]) ++ r), v) ∈ partsK l (sndU c) (pre ++ [.str (nameOf c)]) := by
            rw [List.append_assoc]; exact h1
          have h3 := (parts_mem l _ _ r v (List.all_eq_true.mp hts c hc)).mp h2
          simp only [partAt,child_get hcs.2 hc]
          exact h3
      · intro hy
        cases n with
        | str z =>
          simp only [partAt] at hy
          obtain ⟨c, h1, h2⟩ := Option.bind_eq_some_iff.mp hy
          obtain ⟨q, hq, rfl, rfl⟩ := child_mem h1
          have h3 := (parts_mem l _ (pre ++ [.str (nameOf q)]) r v (List.all_eq_true.mp hts q hq)).mpr h2
          rw [List.append_assoc] at h3
          exact .inr ⟨q, hq, h3⟩
        | _ => simp [partAt] at hy
theorem getN_nd : ∀ {kvs : List (U × U)} {q : U × U}, kvs.Pairwise (fun a b => nkU a.1 ≠ nkU b.1) → q ∈ kvs → getN kvs q.1 = some q.2
  | p :: kvs, q, nd, hq => by
    obtain ⟨h1, h2⟩ := List.pairwise_cons.mp nd
    unfold getN
    rcases List.mem_cons.mp hq with rfl | hq
    · rw [List.find?_cons_of_pos (by simp)]; rfl
    · rw [List.find?_cons_of_neg (by simpa using h1 q hq)]
      exact getN_nd h2 hq
theorem parts_get {l : Nat} {x : U} {ks : List U} (h : treeN l x = true) (hk : ∀ y ∈ ks, isNameU y = true) : getN (partsK l x []) (.tup ks) = partAt x ks := by
  have nd := parts_nd (pre := []) h (fun _ h => absurd h List.not_mem_nil)
  cases hp : partAt x ks with
  | some v => exact getN_nd (q := (.tup ks, v)) nd ((parts_mem l x [] ks v h).mpr hp)
  | none =>
    unfold getN
    rw [List.find?_eq_none.mpr fun q hq => ?_]
    · rfl
    · have hm : q.1 ∈ pathsL l x [] := by rw [← partsK_keys l x [] h]; exact List.mem_map.mpr ⟨q, hq, rfl⟩
      obtain ⟨r, e, hn⟩ := paths_form l x [] h _ hm
      rw [List.nil_append] at e
      intro hd
      have hd := of_decide_eq_true hd
      rw [e] at hd
      have er := path_nk hn hd
      subst er
      have := (parts_mem l x [] r q.2 h).mp (by rw [List.nil_append, ← e]; exact hq)
      rw [hp] at this
      cases this
theorem tree_no {m : Nat} {y : U} (h : treeN m y = true) : isNon y = false := by
  cases m with
  | zero => simp [treeN] at h
  | succ m =>
    obtain ⟨ps, cs, rfl, _⟩ := tree_sh h
    rfl
theorem Dt.mem {k n : Nat} {xs : List U} {x : U} (h : Dt (k + 1) n (.tup xs)) (hx : x ∈ xs) : Dt k n x := by
  obtain ⟨h1, h2, h3, h4, h5⟩ := h
  simp only [isD] at h1
  simp only [shw] at h2
  simp only [dep] at h3
  simp only [sz] at h4
  simp only [wid,Nat.max_le] at h5
  have a := mem_szs hx
  exact ⟨isDs_iff.mp h1 x hx, shws_iff.mp h2 x hx, deps_le.mp (by omega : deps xs ≤ k) x hx, by omega, wids_le.mp h5.2 x hx⟩
theorem flat_congrK {α β : Type} {f g : α → List β} : ∀ {xs : List α}, (∀ x ∈ xs, f x = g x) → xs.flatMap f = xs.flatMap g
  | [], _ => rfl
  | x :: xs, h => by rw [List.flatMap_cons, List.flatMap_cons, h x (List.mem_cons_self ..), flat_congrK fun y hy => h y (List.mem_cons_of_mem _ hy)]
theorem paths_mono : ∀ (l m : Nat) (x : U) (pre : List U), treeN l x = true → l ≤ m → pathsL m x pre = pathsL l x pre
  | 0, m, x, pre, h, _ => by simp [treeN] at h
  | l + 1, 0, x, pre, h, hl => absurd hl (by omega)
  | l + 1, m + 1, x, pre, h, hl => by
    obtain ⟨ps, cs, rfl, hps, hcs, hvs, hts⟩ := tree_sh h
    simp only [pathsL]
    congr 1
    exact flat_congrK fun c hc => paths_mono l m _ _ (List.all_eq_true.mp hts c hc) (by omega)

mutual
theorem tup_same : ∀ x : U, isD (tupU x) = isD x ∧ dep (tupU x) = dep x ∧ wid (tupU x) = wid x ∧ sz (tupU x) = sz x ∧ shw (tupU x) = shw x
  | .non => ⟨rfl, rfl, rfl, rfl, rfl⟩
  | .bl _ => ⟨rfl, rfl, rfl, rfl, rfl⟩
  | .int _ => ⟨rfl, rfl, rfl, rfl, rfl⟩
  | .str _ => ⟨rfl, rfl, rfl, rfl, rfl⟩
  | .ref _ => ⟨rfl, rfl, rfl, rfl, rfl⟩
  | .ty _ => ⟨rfl, rfl, rfl, rfl, rfl⟩
  | .tup xs => by
    obtain ⟨h1, h2, h3, h4, h5, h6⟩ := tups_same xs
    exact ⟨by simp only [tupU,isD,h1], by simp only [tupU,dep,h2], by simp only [tupU,wid,h3,h6], by simp only [tupU,sz,h4], by simp only [tupU,shw,h5]⟩
  | .lst xs => by
    obtain ⟨h1, h2, h3, h4, h5, h6⟩ := tups_same xs
    exact ⟨by simp only [tupU,isD,h1], by simp only [tupU,dep,h2], by simp only [tupU,wid,h3,h6], by simp only [tupU,sz,h4], by simp only [tupU,shw,h5]⟩
theorem tups_same : ∀ xs : List U, isDs (tupUs xs) = isDs xs ∧ deps (tupUs xs) = deps xs ∧ wids (tupUs xs) = wids xs ∧ szs (tupUs xs) = szs xs ∧ shws (tupUs xs) = shws xs ∧ (tupUs xs).length = xs.length
  | [] => ⟨rfl, rfl, rfl, rfl, rfl, rfl⟩
  | x :: xs => by
    obtain ⟨a1, a2, a3, a4, a5⟩ := tup_same x
    obtain ⟨h1, h2, h3, h4, h5, h6⟩ := tups_same xs
    exact ⟨by simp only [tupUs,isDs,a1,h1], by simp only [tupUs,deps,a2,h2], by simp only [tupUs,wids,a3,h3], by simp only [tupUs,szs,a4,h4], by simp only [tupUs,shws,a5,h5], by simp only [tupUs,List.length_cons,h6]⟩
end
mutual
theorem tups_sz : ∀ x : U, 4 * tupsU x ≤ sz x
  | .tup xs => by have := tupss_sz xs; simp only [tupsU,sz]; omega
  | .non => by simp [tupsU]
  | .bl _ => by simp [tupsU]
  | .int _ => by simp [tupsU]
  | .str _ => by simp [tupsU]
  | .ref _ => by simp [tupsU]
  | .ty _ => by simp [tupsU]
  | .lst _ => by simp [tupsU]
theorem tupss_sz : ∀ xs : List U, 4 * tupsUs xs ≤ szs xs
  | [] => by simp [tupsUs]
  | x :: xs => by
    have h1 := tups_sz x
    have h2 := tupss_sz xs
    simp only [tupsUs,szs]
    omega
end
theorem Strm.ext {M M' : UHp} {s c : Addr} {n : Nat} (h : Strm M s c n) (e : Ext M M') : Strm M' s c n := by
  obtain ⟨h1, ks, a, b, d, e1, e2, r⟩ := h
  exact ⟨h1, ks, a, b, d, e _ _ e1, e _ _ e2, r⟩
theorem pathsL_shA : ∀ (l : Nat) (x : U) (pre : List U), treeN l x = true → (∀ y ∈ pre, isNameU y = true) → ∀ p ∈ pathsL l x pre, ∃ ys, p = .tup ys ∧ ys.length ≤ pre.length + (l - 1) ∧ ∀ y ∈ ys, isNameU y = true
  | 0, x, pre, h, _ => by simp [treeN] at h
  | l + 1, x, pre, h, hpre => by
    obtain ⟨ps, cs, rfl, hps, hcs, hvs, hts⟩ := tree_sh h
    simp only [partU,Bool.and_eq_true] at hcs
    intro p hp
    simp only [pathsL] at hp
    rcases List.mem_cons.mp hp with rfl | hp
    · exact ⟨pre, rfl, by omega, hpre⟩
    · obtain ⟨c, hc, hp⟩ := List.mem_flatMap.mp hp
      obtain ⟨z, b, rfl, hz⟩ := pair_is (List.all_eq_true.mp hcs.1 c hc)
      have hp : p ∈ pathsL l b (pre ++ [.str z]) := hp
      have hb : treeN l b = true := List.all_eq_true.mp hts _ hc
      have hl : 0 < l := by
        cases l with
        | zero => simp [treeN] at hb
        | succ l => omega
      obtain ⟨ys, e1, e2, e3⟩ := pathsL_shA l b (pre ++ [.str z]) hb (fun y hy => by
        rcases List.mem_append.mp hy with hy | hy
        · exact hpre y hy
        · rw [List.mem_singleton.mp hy]; exact hz) p hp
      refine ⟨ys, e1, ?_, e3⟩
      rw [List.length_append] at e2
      simp only [List.length_cons,List.length_nil] at e2
      omega

/-- a drawn tree -/
structure X08 (x : U) : Prop where
  t : treeN 9 x = true
  d : Dt 20 3240000 x
  n : (pathsL 9 x []).length ≤ 729
theorem RkU.x08 {x : U} (h : RkU 2 x) : X08 x := ⟨treeN_mono (by decide) h.t, h.d, by rw [paths_mono 3 9 x [] h.t (by decide)]; exact h.n⟩
theorem SameU.okR {x y : U} (h : SameU x y) (o : okR x) : okR y := ⟨by rw [h.d]; exact o.1, by rw [h.s]; exact o.2.1, by rw [h.p]; exact o.2.2.1, by rw [h.z]; exact o.2.2.2⟩
theorem nr_rep (z : U) : ¬ ((!rep z == rep z) = true) := by rw [beq_self_eq_true]; decide
theorem same_useT {x : U} {M : UHp} {Q : UK} {E : UXK} (h : okR x) (q : Q (.bl true) M) : sp__law_same [x, x] M Q E := ⟨x, x, rfl, by rw [valT_isD h.1]; exact h, by rw [valT_isD h.1]; exact h, by rw [beq_self_eq_true]; exact q⟩
theorem order_mem {m : Nat} {y : U} (hm : treeN (m + 1) y = true) (hw : wid y ≤ 60) : (orderU y).length ≤ 60 ∧ ∀ e ∈ orderU y, Dt 0 82 e := by
  obtain ⟨ps, cs, rfl, hps, hcs, hvs, hts⟩ := tree_sh hm
  simp only [partU,Bool.and_eq_true] at hcs
  have hl : cs.length ≤ 60 := by simp only [wid,wids] at hw; omega
  have pm := List.mergeSort_perm (cs.map fun c => irU (irOf c)) kleU
  refine ⟨?_, fun e he => ?_⟩
  · show ((srtU _).map sndS).length ≤ 60
    rw [List.length_map]
    show (List.mergeSort _ kleU).length ≤ 60
    rw [pm.length_eq, List.length_map]; exact hl
  · obtain ⟨q, hq, rfl⟩ := List.mem_map.mp he
    obtain ⟨c, hc, rfl⟩ := List.mem_map.mp (pm.mem_iff.mp hq)
    obtain ⟨z, b, rfl, hz⟩ := pair_is (List.all_eq_true.mp hcs.1 c hc)
    have hb := List.all_eq_true.mp hts _ hc
    cases m with
    | zero => simp [treeN, sndU] at hb
    | succ m =>
      obtain ⟨qs, ds, e, h1, h2, h3, _⟩ := tree_sh hb
      simp only [sndU] at e
      rw [e]
      obtain ⟨w, ew, hwl⟩ := name_str hz
      cases ew
      exact (show Dt 0 82 (.str z) from Dt.str (nm_okS hz) (by omega))
theorem order_ok {m : Nat} {y : U} (hm : treeN (m + 1) y = true) (hw : wid y ≤ 60) : okR (.tup [.str "told", .lst (orderU y)]) := by
  obtain ⟨h1, h2⟩ := order_mem hm hw
  have d1 : Dt 1 5044 (.lst (orderU y)) := Dt.lst h2 (by omega) h1
  exact (Dt.pair ((Dt.of (k := 0) (n := 60) (x := .str "told") (by decide +kernel)).mono (by decide) (Nat.le_refl _)) d1).okR (by decide) (by decide)
theorem tupUs_nm : ∀ {ks : List U}, (∀ y ∈ ks, isNameU y = true) → tupUs ks = ks
  | [], _ => rfl
  | k :: ks, h => by
    obtain ⟨z, rfl, _⟩ := name_str (h k List.mem_cons_self)
    simp only [tupUs,tupU]
    rw [tupUs_nm fun y hy => h y (List.mem_cons_of_mem _ hy)]
def sp_law : USp := fun us M Q _ => ∃ ns : List Int, us = [.lst (ns.map .int)] ∧ ns.length ≤ 63 ∧ ∀ M', Q (.bl true) M'
local macro_rules | `(tactic| walk_at "q11") => `(tactic| simp only [uFor,uRng1,z8i,uOr,z8d,z8m,uCB,z7t,z8l,uC,z8o,z7w,uOp,uUn,z8s,z8j,uIf,z8e,z7v,z7u,z7s,uBM,z8g,uSl,z4x,z8r,z72,z7x,List.append_nil,z8t,z80,z8y,z7z,z8u,z81,z8w,z8v,xIf,z74,z8x,z8p,z3t,z8n,z7m,z7q,z7o,z7p,z5w,z5v,z7a,z3l,z3m,z75,z5g,z8k,asD,uXf,z8f,z5n,z7y,z6e,z6d,z68,z67,z63,z5h,z5i,z5j,z3v,z3w,z6f,z64,z62,z5r,z6b,z7j,z7k,z7i,z7c,z7b,z7l,z7e,z5o,z2m,z2w,z2k,z2o,z2p,z2l,z2n,z5c,z73,z5a,z5e,z5f,z5b,z3g,z5d,z3e,z2q,z2r,z3i,z3k,z3j,z39,z3a,z37,z38,z4q,z6h,z4o,z4s,z4t,z4p,z3f,z4r,z4e,z4d,z3b,z2s,z3d,z3c,z0h,z0g,z0d,z0a,z0f,z0e,z1o,z1n,z0u,z0j,z0w,z0v,z2d,z2c,z1r,z10,z1t,z1s,z2f,z2e,z1w,z14,z1y,z1x,z16,z15,z0m,z0i,z0o,z0n,z1v,z1u,z11,z0l,z13,z12,z1q,z1p,z0x,z0k,z0z,z0y,z4i,z6g,z4g,z4j,z4k,z4h,z82,z88,z46,z5x,z44,z47,z48,z45,z2v,z2j,z40,z5q,z3y,z41,z42,z3z,z2u,z2i,z6y,z70,z6x,z71,z6z,z59,z56,z57,z58,z87,z86,z7r,z79,z7n,z7d,z5y,z76,z77,z6c,z69,z6a,z8b,z8c,z89,z8a,z85,z83,z84,z4v,z4u,z6i,z78,z5m,z5l,z5k,z6n,z6o,z6p,z6q,z6r,z6s,z6t,z6u,z6v,z6w,z50,z51,z52,z53,z54,z55,z4b,z4c,z49,z27,z26,z1e,z0r,z1g,z1f,z05,z04,z2h,z2g,z1z,z17,z21,z20,z0c,z0b,z23,z22,z18,z0p,z1a,z19,z01,z00,z29,z28,z1h,z0s,z1j,z1i,z07,z06,z2b,z2a,z1k,z0t,z1m,z1l,z09,z08,z25,z24,z1b,z0q,z1d,z1c,z03,z02,z6m,z8h,z4z,z6l,z6k,z4w,z4y,z3s,z6j,z3p,z4f,z3n,z3q,z3r,z3o,z5p,z2t,z3h,z4n,z4l,z4a,z66,z65,z4m,z60,z61,z5z,z32,z2x,z33,z2y,z34,z2z,z35,z30,z36,z31,z7h,z7g,z3u,z5u,z3x,z7f,z5t,z43,z5s,cle,clt,cge,cgt,ceq,cne,lenN,xFor,xTryM,uMix,uEnum,uZip,ltT,uSortK,sortK,sortN,uDNew,uDGet,inN,setN,uDNewS,uDGetS,inS,setS,uDm,uDm0,getR,popS,setdS,getNR,setdN,popNR,itemsR,lenS,dictS,sortItR,uFld,uFst,uMake,uLock,uLockE,uKeys,sortE,sortL,xOp,reprT_1,listN,mulT,gLst_l,gLst_r,sum_l,sum_r,min_ii,max_ii,sortSD,pop1S,dictN,uD1,updN,exists_eq_left',exists_eq_left,Option.some.injEq,U.int.injEq,U.bl.injEq,U.str.injEq,U.ref.injEq,U.tup.injEq,U.lst.injEq,U.ty.injEq,List.cons.injEq,and_true,true_and,and_self,List.map_cons,List.map_nil,List.length_cons,List.length_nil,List.cons_append,List.nil_append,List.append_nil,List.getElem?_cons_zero,List.getElem?_cons_succ,List.set_cons_zero,List.set_cons_succ,List.replicate,↓reduceIte,Bool.false_eq_true,Bool.not_true,Bool.not_false,reduceCtorEq,Nat.reduceAdd,Nat.reduceSub,Nat.reduceLeDiff,Nat.reduceEqDiff,decide_true,decide_false,at0,at1,at2,at3,at4,ix0,ix1,ix2,ix3,ix4,updM_same,beq_self_eq_true,Option.bind,Option.map,wipeU,NT.put,puts,MO.lst.injEq,exists_and_left,decide_eq_true_eq,Bool.and_eq_true,Bool.or_eq_true,exists_eq',Nat.zero_le,true_or,or_true])
theorem ok_law (L : Lw K mg) : UFn P w K mg base CX0 68 L.f_law L.fd_law ["_law_script"] (sp_law) := by
  refine ufn_ok L.D_law.F sc_law (fun us M Q E h => ?_) (fun cdv A outer s H E hr hG =>
      (uss_cons (us_set (i := 1) sc_law.nd rfl (.inl rfl) (ue_lst true (ua_cons (ue_callTy (uc_list true) (by rfl) L.n_list bt_list (ua_cons (uv 0) ua_nil)) (ua_cons ue_int (ua_cons ue_int (ua_cons ue_int ua_nil))))))
      (uss_cons (us_for PassesOwn.never rfl (ui_range1 (by rfl) L.n_range (ua_cons ue_int ua_nil)) (ug_name (i := 2) sc_law.nd rfl (.inl rfl)) (uss_cons (us_set (i := 3) sc_law.nd rfl (.inl rfl) (ue_call (ok__law_ranked L 2) (hr.mono (by decide)) hG rfl L.D__law_ranked.g L.D__law_ranked.F.kp L.D__law_ranked.b .nil (fun _ => RelUs.nil) (ua_cons (uv 1) (ua_cons ue_int ua_nil))))
      (uss_cons (us_set (i := 4) sc_law.nd rfl (.inl rfl) (ue_call (ok__law_parts (P := P) (w := w) L 9) (hr.mono (by decide)) hG rfl L.D__law_parts.g L.D__law_parts.F.kp L.D__law_parts.b .nil (fun _ => RelUs.nil) (ua_cons (uv 3) (ua_cons (ue_tup ua_nil) ua_nil))))
      (uss_cons (us_set (i := 5) sc_law.nd rfl (.inl rfl) (ue_call (ok__law_listed L 60) (hr.mono (by decide)) hG rfl L.D__law_listed.g L.D__law_listed.F.kp L.D__law_listed.b .nil (fun _ => RelUs.nil) (ua_cons (uv 1) (ua_cons (uv 3) ua_nil))))
      (uss_cons (us_set (i := 6) sc_law.nd rfl (.inl rfl) (ue_callB (uc_repr hG (hu2 hr)) (by rfl) L.n_repr bt_repr (ua_cons (uv 5) ua_nil)))
      (uss_cons (us_for PassesOwn.never rfl (ui_any (ue_slice false (ue_call (ok__law_mixed (P := P) (w := w) L) (hr.mono (by decide)) hG rfl L.D__law_mixed.g L.D__law_mixed.F.kp L.D__law_mixed.b .nil (fun _ => RelUs.nil) (ua_cons (uv 1) (ua_cons (uv 4) ua_nil))) uo_none (uo_some ue_int))) (ug_name (i := 7) sc_law.nd rfl (.inl rfl)) (uss_one (us_for PassesOwn.never rfl (ui_range1 (by rfl) L.n_range (ua_cons ue_int ua_nil)) (ug_name (i := 10) sc_law.nd rfl (.inl rfl)) (uss_cons (us_set (i := 11) sc_law.nd rfl (.inl rfl) (ue_call (ok__law_order_told L) (hr.mono (by decide)) hG rfl L.D__law_order_told.g L.D__law_order_told.F.kp L.D__law_order_told.b .nil (fun _ => RelUs.nil) (ua_cons (uv 5) (ua_cons (ue_ix (ue_lst false (ua_cons (uv 7) (ua_cons (ue_callTy (uc_list false) (by rfl) L.n_list bt_list (ua_cons (uv 7) ua_nil)) ua_nil))) (uv 10)) ua_nil))))
      (uss_cons (us_if (ut_not (ut_val (ue_call (ok__law_same L) (hr.mono (by decide)) hG rfl L.D__law_same.g L.D__law_same.F.kp L.D__law_same.b .nil (fun _ => RelUs.nil) (ua_cons (uv 11) (ua_cons (ue_tup (ua_cons ue_str (ua_cons (ue_call (ok__law_order L) (hr.mono (by decide)) hG rfl L.D__law_order.g L.D__law_order.F.kp L.D__law_order.b .nil (fun _ => RelUs.nil) (ua_cons (ue_dget (φ := DNo P w) rfl (hu2 hr) (uv 4) (uv 7) (fun _ _ => rfl)) ua_nil)) ua_nil))) ua_nil))))) (uss_one (us_ret ue_bl)) uss_nil)
      (uss_one (us_expr (ue_bm PySem.F.plainAttrs_list PySem.F.slot_list_append PySem.F.type_list_append um_append (ue_ix (uv 11) ue_int) (ua_cons ue_str ua_nil)))))))))
      (uss_cons (us_set (i := 7) sc_law.nd rfl (.inl rfl) (ue_ix (ue_lst false (ua_cons (ue_call (ok__law_near_path L) (hr.mono (by decide)) hG rfl L.D__law_near_path.g L.D__law_near_path.F.kp L.D__law_near_path.b .nil (fun _ => RelUs.nil) (ua_cons (uv 1) ua_nil)) (ua_cons (ue_call (ok__law_thing L 2) (hr.mono (by decide)) hG rfl L.D__law_thing.g L.D__law_thing.F.kp L.D__law_thing.b .nil (fun _ => RelUs.nil) (ua_cons (uv 1) (ua_cons ue_int ua_nil))) ua_nil))) (ue_call (ok__law_draw L) (hr.mono (by decide)) hG rfl L.D__law_draw.g L.D__law_draw.F.kp L.D__law_draw.b .nil (fun _ => RelUs.nil) (ua_cons (uv 1) (ua_cons ue_int ua_nil)))))
      (uss_cons (us_set (i := 8) sc_law.nd rfl (.inl rfl) (ue_call (ok__law_tupled L 60) (hr.mono (by decide)) hG rfl L.D__law_tupled.g L.D__law_tupled.F.kp L.D__law_tupled.b .nil (fun _ => RelUs.nil) (ua_cons (uv 7) ua_nil)))
      (uss_cons (us_if (PW.pt (uw_or (ut_not (ut_val (ue_call (ok__law_is_path L) (hr.mono (by decide)) hG rfl L.D__law_is_path.g L.D__law_is_path.F.kp L.D__law_is_path.b .nil (fun _ => RelUs.nil) (ua_cons (uv 8) ua_nil)))) (uw_or1 (ut_cmp (uo_notinN (φ := DNo P w) rfl (hu2 hr)) (uv 8) (uv 4) (by rfl))))) (uss_one (us_if (ut_not (ut_val (ue_call (ok__law_same L) (hr.mono (by decide)) hG rfl L.D__law_same.g L.D__law_same.F.kp L.D__law_same.b .nil (fun _ => RelUs.nil) (ua_cons (ue_call (ok__law_order_told L) (hr.mono (by decide)) hG rfl L.D__law_order_told.g L.D__law_order_told.F.kp L.D__law_order_told.b .nil (fun _ => RelUs.nil) (ua_cons (uv 5) (ua_cons (uv 7) ua_nil))) (ua_cons (ue_tup (ua_cons ue_str (ua_cons (uv 8) ua_nil))) ua_nil))))) (uss_one (us_ret ue_bl)) uss_nil)) uss_nil)
      (uss_cons (us_set (i := 9) sc_law.nd rfl (.inl rfl) (ue_call (ok__law_bent_tree L 9) (hr.mono (by decide)) hG rfl L.D__law_bent_tree.g L.D__law_bent_tree.F.kp L.D__law_bent_tree.b .nil (fun _ => RelUs.nil) (ua_cons (uv 1) (ua_cons (uv 3) ua_nil))))
      (uss_cons (us_if (PW.pt (uw_and (ut_not (ut_val (ue_call (ok__law_is_tree L 9) (hr.mono (by decide)) hG rfl L.D__law_is_tree.g L.D__law_is_tree.F.kp L.D__law_is_tree.b .nil (fun _ => RelUs.nil) (ua_cons (ue_call (ok__law_tupled L 60) (hr.mono (by decide)) hG rfl L.D__law_tupled.g L.D__law_tupled.F.kp L.D__law_tupled.b .nil (fun _ => RelUs.nil) (ua_cons (uv 9) ua_nil)) (ua_cons ue_int ua_nil))))) (uw_and1 (ut_cmp (uo_ne (hu6 hr)) (ue_call (ok__law_order_told L) (hr.mono (by decide)) hG rfl L.D__law_order_told.g L.D__law_order_told.F.kp L.D__law_order_told.b .nil (fun _ => RelUs.nil) (ua_cons (uv 9) (ua_cons (uv 7) ua_nil))) (ue_tup (ua_cons ue_str ua_nil)) (nomark _))))) (uss_one (us_ret ue_bl)) uss_nil)
      (uss_one (us_if (ut_cmp (uo_ne (hu6 hr)) (ue_callB (uc_repr hG (hu2 hr)) (by rfl) L.n_repr bt_repr (ua_cons (uv 5) ua_nil)) (uv 6) (nomark _)) (uss_one (us_ret ue_bl)) uss_nil)))))))))))))
      (uss_one (us_ret ue_bl))))) (fun us M Q E h => ?_)
  · obtain ⟨ns, rfl, _⟩ := h
    rfl
  · obtain ⟨ns, rfl, hn, q⟩ := h
    have q : ∀ M', ZQ Q (.bl true) M' := fun M' => .inl (q M')
    walk_at "q0"
    refine fun c hc => ⟨line_le, fun s hs => ?_⟩
    have hsc : s ≠ c := fun e => by rw [e, updM_same] at hs; cases hs
    walk_at "q11"
    refine ⟨by decide, by decide, line_le, ?_⟩
    refine for_inv (fun i σ M => ∃ a2 a3 a4 a5 a6 a7 a8 a9 a10 a11, σ = [some (U.lst (List.map U.int ns)), some (U.ref s), a2, a3, a4, a5, a6, a7, a8, a9, a10, a11] ∧ Strm M s c (1000000 * (6 - i))) _ (fun _ _ _ _ => True.intro) ?_ ?_ ⟨_, _, _, _, _, _, _, _, _, _, rfl, ?_⟩
    · rintro i x σ M N hx ⟨a2, a3, a4, a5, a6, a7, a8, a9, a10, a11, rfl, hS⟩ hN
      have hS' : Strm M s c (1000000 * (6 - (i + 1)) + 1000000) := hS.le (by have := (List.getElem?_eq_some_iff.mp hx).1; rw [range_len] at this; omega)
      generalize 1000000 * (6 - (i + 1)) = B at hS' hN
      simp only [z7v,List.set]
      refine seq_one ?_
      walk_at "q1"
      refine ⟨s, c, B + 850000, 2, rfl, by decide, by decide, hS'.le (by simp), fun X M1 hX0 hS1 hB1 => ?_⟩
      have hX := hX0.x08
      have okX : okR X := hX.d.okR (by decide) (by decide)
      have hXw := hX.d.w
      have hXz := hX.d.z
      have hXp := hX.d.p
      have etX : tupU X = X := tree_tup 9 X hX.t
      refine seq_one ?_
      walk_at "q1"
      refine ⟨X, [], rfl, hX.t, (fun _ h => absurd h List.not_mem_nil), by decide, Nat.le_trans hX.n (by decide), fun d M2 hd0 hd1 hE2 => ?_⟩
      obtain ⟨hsd, hcd⟩ := hS1.sp hd0
      have hS2 := strm_ext hS1 hE2
      refine seq_one ?_
      walk_at "q1"
      have htX := tups_sz X
      refine ⟨s, c, B + 10000, X, rfl, okX.1, Nat.le_trans hXp (by decide), hS2.le (by omega), fun y M3 hy hS3 hB3 => ?_⟩
      have hd3 := hB3 d (Ne.symm hsd) (Ne.symm hcd) _ hd1
      have okY := hy.okR okX
      have etY : tupU y = X := by rw [hy.t]; exact etX
      have dY : dep y ≤ 60 := by rw [hy.p]; omega
      have okr := rep_ok okY
      have kk := partsK_keys 9 X [] hX.t
      refine seq_one ?_
      walk_at "q1"
      rw [val_isD okY.1]
      refine ⟨okY, ?_⟩
      refine seq_one ?_
      walk_at "q10"
      refine ⟨s, c, d, B + 9000, _, _, rfl, hd3, kk, Nat.le_trans hX.n (by decide), hS3.le (by have := hX.n; omega), fun ys M4 pm hS4 hB4 => ?_⟩
      have hd4 := hB4 d (Ne.symm hsd) (Ne.symm hcd) _ hd3
      walk_at "q1"
      have okq : ∀ p ∈ cutL ys none (some 6), p ∈ pathsL 9 X [] := fun p hp => pm.mem_iff.mp ((cut_sub _ _ _).subset hp)
      refine for_inv (fun k σ M' => ∃ b7 b10 b11, σ = [some (U.lst (List.map U.int ns)), some (U.ref s), some x, some X, some (.ref d), some y, some (.str (rep y)), b7, a8, a9, b10, b11] ∧ M' d = some (.dN (DNo P w) (partsK 9 X [])) ∧ Strm M' s c (B + 9000)) _ (fun _ _ _ _ => True.intro) ?_ ?_ ⟨_, _, _, rfl, hd4, hS4⟩
      · rintro k x7 σ M5 N3 hx7 ⟨b7, b10, b11, rfl, hd5, hS5⟩ hN3
        have hp7 := okq _ (List.mem_of_getElem? hx7)
        obtain ⟨ks, rfl, hkl, hkn⟩ := pathsL_shA 9 X [] hX.t (fun _ h => absurd h List.not_mem_nil) x7 hp7
        obtain ⟨v, hv⟩ := (paths_part 9 X [] ks hX.t).mp hp7
        have hpk : isPathU (.tup ks) = true := by
          simp only [isPathU,Bool.and_eq_true,decide_eq_true_eq]
          exact ⟨by simpa using hkl, List.all_eq_true.mpr hkn⟩
        have hpu : partU' X (.tup ks) = v := by
          unfold partU'
          rw [if_pos hpk, show seqO (.tup ks) = ks from rfl, hv]; rfl
        obtain ⟨m, hm⟩ := part_tree 9 X ks v hX.t hv
        obtain ⟨m, rfl⟩ : ∃ m', m = m' + 1 := by
          cases m with
          | zero => simp [treeN] at hm
          | succ m => exact ⟨m, rfl⟩
        have hvw : wid v ≤ 60 := Nat.le_trans (part_w ks 9 X v hX.t hv) hXw
        have okO := order_ok hm hvw
        have hol := (order_mem hm hvw).1
        have hdk : isD (.tup ks) = true := by simp only [isD]; exact names_isD hkn
        have htk : tupU (.tup ks) = .tup ks := by simp only [tupU]; rw [tupUs_nm hkn]
        have hpp : dep (.tup ks) ≤ 60 := by simp only [dep,names_dep hkn]; decide
        simp only [z7v,List.set]
        walk_at "q11"
        refine ⟨by decide, by decide, line_le, ?_⟩
        refine for_inv (fun k σ M' => ∃ b10 b11, σ = [some (U.lst (List.map U.int ns)), some (U.ref s), some x, some X, some (.ref d), some y, some (.str (rep y)), some (.tup ks), a8, a9, b10, b11] ∧ M' d = some (.dN (DNo P w) (partsK 9 X [])) ∧ Strm M' s c (B + 9000)) _ (fun _ _ _ _ => True.intro) ?_ ?_ ⟨_, _, rfl, hd5, hS5⟩
        · rintro k2 x10 σ M6 N4 hx10 ⟨b10, b11, rfl, hd6, hS6⟩ hN4
          obtain ⟨rfl, hk2⟩ := range_nth hx10
          simp only [z7v,List.set]
          refine seq_one ?_
          walk_at "q1"
          obtain ⟨v2, hv2, e2, d2, p2⟩ : ∃ v2, atI [U.tup ks, U.lst ks] (k2 : Int) = some v2 ∧ tupU v2 = .tup ks ∧ isD v2 = true ∧ dep v2 ≤ 60 := by
            rcases (by omega : k2 = 0 ∨ k2 = 1) with rfl | rfl
            · exact ⟨_, rfl, htk, hdk, hpp⟩
            · exact ⟨_, rfl, htk, hdk, hpp⟩
          refine ⟨line_le, v2, hv2, y, v2, rfl, okY.1, dY, by rw [etY]; omega, by rw [etY]; exact okX.1, d2, p2, by rw [e2]; exact hdk, fun h => (by rw [etY, hX.t] at h; cases h), fun _ => ⟨fun hn => (by rw [etY, e2, hpu, tree_no hm] at hn; cases hn), fun _ g M7 hg0 hg1 hE7 => ?_⟩⟩
          rw [etY, e2, hpu] at hg1
          have hd7 := hE7 d _ hd6
          refine seq_one ?_
          walk_at "q1"
          have hg7 : valT M7 (.tup [.str "told", .ref g]) = .tup [.str "told", .lst (orderU v)] := by
            show U.tup [val M7 (.str "told"), val M7 (.ref g)] = _
            rw [z5d, hg1]; rfl
          have hgd : g ≠ d := fun e => by rw [e, hd6] at hg0; cases hg0
          obtain ⟨g1, g2⟩ := hS6.sp hg0
          refine ⟨_, hd7, names_kOk hkn, v, (parts_get hX.t hkn).trans hv, m, v, rfl, hm, by omega, fun M8 hE8 => ⟨line_le, ?_⟩⟩
          have hg8 := hE8 g _ hg1
          have hg8' : valT M8 (.tup [.str "told", .ref g]) = .tup [.str "told", .lst (orderU v)] := by
            show U.tup [val M8 (.str "told"), val M8 (.ref g)] = _
            rw [z5d, hg8]; rfl
          refine ⟨_, _, rfl, by rw [hg8']; exact okO, by rw [valT_isD okO.1]; exact okO, ?_⟩
          rw [hg8', valT_isD okO.1, beq_self_eq_true]
          walk_at "q1"
          refine ⟨⟨_, hg8⟩, _, hg8, line_lt (by omega), hN4 _ _ ⟨_, _, rfl, by rw [updM_ne (Ne.symm hgd)]; exact hE8 d _ hd7, (strm_ext (strm_ext hS6 hE7) hE8).upd g1 g2⟩⟩
        · rintro σ M6 ⟨b10, b11, rfl, hd6, hS6⟩
          exact hN3 _ _ ⟨_, _, _, rfl, hd6, hS6⟩
      rintro σ M5 ⟨b7, b10, b11, rfl, hd5, hS5⟩
      walk_at "q1"
      refine seq_one ?_
      walk_at "q1"
      refine near_path_use (n := B + 8000) (hS5.le (by omega)) fun a M6 ha hS6 hB6 => ?_
      refine thing_use (d := 2) (n := B + 7000) (hS6.le (by simp only [tC]; omega)) fun b M7 hb hS7 hB7 => ⟨line_le, draw_use (n := B + 6999) hS7 (by decide) (by decide) fun r M8 h0 h1 hS8 hB8 => ?_⟩
      obtain ⟨z, hz, hzm⟩ := at_draw (xs := [a, b]) h0 h1
      have hzd : Dt 3 7200 z := by
        simp only [List.mem_cons,List.not_mem_nil,or_false] at hzm
        rcases hzm with rfl | rfl
        · exact ha
        · exact hb.mono (by decide) (by decide)
      have hd8 := hB8 d (Ne.symm hsd) (Ne.symm hcd) _ (hB7 d (Ne.symm hsd) (Ne.symm hcd) _ (hB6 d (Ne.symm hsd) (Ne.symm hcd) _ hd5))
      have okZ := hzd.okR (by decide) (by decide)
      obtain ⟨z1, z2, z3, z4, z5⟩ := tup_same z
      have okT : okR (tupU z) := ⟨by rw [z1]; exact okZ.1, by rw [z5]; exact okZ.2.1, by rw [z2]; exact okZ.2.2.1, by rw [z4]; exact okZ.2.2.2⟩
      have dZ : dep z ≤ 60 := Nat.le_trans hzd.p (by decide)
      have okN : okR (.tup [.str "none", tupU z]) := by
        have e1 : okS "none" = true := by decide +kernel
        have e2 : sz (.str "none") ≤ 60 := by decide +kernel
        have zz := hzd.z
        have zp := hzd.p
        refine ⟨?_, ?_, ?_, ?_⟩
        · simp only [isD,isDs,e1,okT.1]; rfl
        · simp only [shw,shws,okT.2.1]; rfl
        · simp only [dep,deps,z2]; omega
        · simp only [sz,szs] at e2 ⊢; omega
      walk_at "q1"
      refine ⟨z, hz, ?_⟩
      refine seq_one ?_
      walk_at "q1"
      refine ⟨z, rfl, okZ.1, dZ, ?_⟩
      have told : ∀ (K : UK), isNon (partU' X (tupU z)) = true → (∀ M', Ext M8 M' → K (.bl true) M') → sp__law_order_told [y, z] M8 (fun v M' => 2 ≤ sizeLine ∧ sp__law_same [v, .tup [.str "none", tupU z]] M' K EU0) EU0 := fun K hq k => by
        refine ⟨y, z, rfl, okY.1, dY, by rw [etY]; omega, by rw [etY]; exact okX.1, okZ.1, dZ, okT.1, fun h => (by rw [etY, hX.t] at h; cases h), fun _ => ⟨fun _ M' hE => ?_, fun hn => (by rw [etY, hq] at hn; cases hn)⟩⟩
        exact ⟨line_le, same_useT okN (k M' hE)⟩
      refine seq_gen (fun σ M' => ∃ b11, σ = [some (U.lst (List.map U.int ns)), some (U.ref s), some x, some X, some (.ref d), some y, some (.str (rep y)), some z, some (tupU z), a9, b10, b11] ∧ Strm M' s c (B + 6999)) (fun N2 hN2 => ?_) ?_
      · have fin : ∀ M', Ext M8 M' → N2 [some (U.lst (List.map U.int ns)), some (U.ref s), some x, some X, some (.ref d), some y, some (.str (rep y)), some z, some (tupU z), a9, b10, b11] M' := fun M' hE => hN2 _ _ ⟨_, rfl, strm_ext hS8 hE⟩
        have none' : isPathU (tupU z) = false ∨ (∃ ks, tupU z = .tup ks ∧ partAt X ks = none) → isNon (partU' X (tupU z)) = true := fun h => by
          unfold partU'
          rcases h with h | ⟨ks, e, h⟩
          · rw [h]; rfl
          · cases hp : isPathU (tupU z) with
            | false => rfl
            | true => rw [if_pos rfl, e, show seqO (.tup ks) = ks from rfl, h]; rfl
        walk_at "q1"
        refine ⟨tupU z, rfl, okT.1, ?_⟩
        cases hp : isPathU (tupU z) with
        | false =>
          walk_at "q0"
          refine told _ (none' (.inl hp)) fun M' hE => ?_
          walk_at "q0"
          exact fin M' hE
        | true =>
          obtain ⟨ks, ek, hkn⟩ := pth_sh hp
          have hget : getN (partsK 9 X []) (tupU z) = partAt X ks := by rw [ek]; exact parts_get hX.t hkn
          have kk2 : kOk (tupU z) := by rw [ek]; exact names_kOk hkn
          walk_at "q0"
          refine ⟨_, _, ek, hd8, kk2, ?_⟩
          rw [hget]
          cases hpa : partAt X ks with
          | none =>
            refine iteT rfl (told _ (none' (.inr ⟨ks, ek, hpa⟩)) fun M' hE => ?_)
            walk_at "q0"
            exact fin M' hE
          | some v => exact iteF (by simp) (fin _ Ext.refl)
      rintro σ M9 ⟨b11, rfl, hS9⟩
      refine seq_one ?_
      walk_at "q1"
      refine ⟨s, c, B + 5000, 19, 3240000, 60, X, rfl, hX.t, hX.d.db, by decide, by decide, hS9.le (by omega), fun o M10 ho hS10 hB10 => ?_⟩
      have okO := ho.okR (by decide) (by decide)
      obtain ⟨o1, o2, o3, o4, o5⟩ := tup_same o
      have okP : okR (tupU o) := ⟨by rw [o1]; exact okO.1, by rw [o5]; exact okO.2.1, by rw [o2]; exact okO.2.2.1, by rw [o4]; exact okO.2.2.2⟩
      have dO : dep o ≤ 60 := Nat.le_trans ho.p (by decide)
      have wO : wid (tupU o) ≤ 62 := by rw [o3]; exact Nat.le_trans ho.w (by decide)
      walk_at "q0"
      refine ⟨o, rfl, okO.1, dO, ?_⟩
      refine ⟨tupU o, rfl, okP, ?_⟩
      cases ht : treeN 9 (tupU o) with
      | true =>
        walk_at "q0"
        rw [val_isD okY.1]
        exact ⟨okY, okr, okr, iteF (nr_rep _) (hN _ _ ⟨_, _, _, _, _, _, _, _, _, _, rfl, hS10.le (by omega)⟩)⟩
      | false =>
        walk_at "q0"
        refine ⟨o, z, rfl, okO.1, dO, wO, okP.1, okZ.1, dZ, okT.1, fun _ M11 hE11 => ?_, fun h => (by rw [ht] at h; cases h)⟩
        have hS11 := strm_ext hS10 hE11
        have d1 : isD (U.tup [U.str "bad"]) = true := by decide +kernel
        refine ⟨line_le, ?_⟩
        rw [val_isD d1]
        refine ⟨d1, by decide +kernel, .inl (by decide), iteF (by decide +kernel) ?_⟩
        rw [val_isD okY.1]
        exact ⟨okY, okr, okr, iteF (nr_rep _) (hN _ _ ⟨_, _, _, _, _, _, _, _, _, _, rfl, hS11.le (by omega)⟩)⟩
    · rintro σ M ⟨a2, a3, a4, a5, a6, a7, a8, a9, a10, a11, rfl, hS⟩
      walk_at "q1"
      exact q _
    · exact ⟨hsc, ns, 0, 0, 0, updM_same, by rw [updM_ne (Ne.symm hsc), updM_same], by decide, by simp, by decide, by decide, hn⟩

end
set_option maxHeartbeats 0 in
theorem all_mk {l : PySem.W.OpenLaw} {w : World} {K : PySem.W.Frag} {h : Heap} {mg : Str → Option Value} {fa f0 f1 f2 f3 f4 f5 f6 f7 f8 f9 f10 f11 f_ini_NoNode f13 f14 f15 f16 f17 f18 f19 f20 f21 f22 f23 f24 f25 f26 f27 f28 f29 f30 f31 f32 f33 f34 f35 f36 f37 f38 f39 : Addr} (X : K.In h) (G : h.Ns mainGlobals mg) (hfa : mg "law" = some (.ref fa))
  {od0 an0 od1 an1 od2 an2 od3 an3 od4 an4 od5 an5 od6 an6 od7 an7 od8 an8 od9 an9 od10 an10 od11 an11 od12 an12 od13 an13 od14 an14 od15 an15 od16 an16 od17 an17 od18 an18 od19 an19 od20 an20 od21 an21 od22 an22 od23 an23 od24 an24 od25 an25 od26 an26 od27 an27 od28 an28 od29 an29 od30 an30 od31 an31 od32 an32 od33 an33 od34 an34 od35 an35 od36 an36 od37 an37 od38 an38 od39 an39 : Option Addr} {sl0 sl1 sl2 sl3 sl4 sl5 sl6 sl7 sl8 sl9 sl10 sl11 sl12 sl13 sl14 sl15 sl16 sl17 sl18 sl19 sl20 sl21 sl22 sl23 sl24 sl25 sl26 sl27 sl28 sl29 sl30 sl31 sl32 sl33 sl34 sl35 sl36 sl37 sl38 sl39 : Array (Option Value)} {oc0 kV0 dc0 pm0 cd0 ct0 oc1 kV1 dc1 pm1 cd1 ct1 oc2 kV2 dc2 pm2 cd2 ct2 oc3 kV3 dc3 pm3 cd3 ct3 oc4 kV4 dc4 pm4 cd4 ct4 oc5 kV5 dc5 pm5 cd5 ct5 oc6 kV6 dc6 pm6 cd6 ct6 oc7 kV7 dc7 pm7 cd7 ct7 oc8 kV8 dc8 pm8 cd8 ct8 oc9 kV9 dc9 pm9 cd9 ct9 oc10 kV10 dc10 pm10 cd10 ct10 oc11 kV11 dc11 pm11 cd11 ct11 oc12 kV12 dc12 pm12 cd12 ct12 oc13 kV13 dc13 pm13 cd13 ct13 oc14 kV14 dc14 pm14 cd14 ct14 oc15 kV15 dc15 pm15 cd15 ct15 oc16 kV16 dc16 pm16 cd16 ct16 oc17 kV17 dc17 pm17 cd17 ct17 oc18 kV18 dc18 pm18 cd18 ct18 oc19 kV19 dc19 pm19 cd19 ct19 oc20 kV20 dc20 pm20 cd20 ct20 oc21 kV21 dc21 pm21 cd21 ct21 oc22 kV22 dc22 pm22 cd22 ct22 oc23 kV23 dc23 pm23 cd23 ct23 oc24 kV24 dc24 pm24 cd24 ct24 oc25 kV25 dc25 pm25 cd25 ct25 oc26 kV26 dc26 pm26 cd26 ct26 oc27 kV27 dc27 pm27 cd27 ct27 oc28 kV28 dc28 pm28 cd28 ct28 oc29 kV29 dc29 pm29 cd29 ct29 oc30 kV30 dc30 pm30 cd30 ct30 oc31 kV31 dc31 pm31 cd31 ct31 oc32 kV32 dc32 pm32 cd32 ct32 oc33 kV33 dc33 pm33 cd33 ct33 oc34 kV34 dc34 pm34 cd34 ct34 oc35 kV35 dc35 pm35 cd35 ct35 oc36 kV36 dc36 pm36 cd36 ct36 oc37 kV37 dc37 pm37 cd37 ct37 oc38 kV38 dc38 pm38 cd38 ct38 oc39 kV39 dc39 pm39 cd39 ct39 : Value} {t_LETTERS t_MOST : Tok} {C_VariantError C_BadTree C_NoNode : Addr}
  {nm_NoNode q_NoNode : Str} {N_NoNode : Addr} {bs_NoNode sub_NoNode : List Value} {sn_NoNode : List Str} {ab_NoNode : Bool} {col_NoNode : Option Bool} {dd_NoNode : Option Addr} {m0_NoNode m1_NoNode m2_NoNode m3_NoNode m5_NoNode : Option Value}
  (g_VariantError : PySem.W.nsIn K mainGlobals "VariantError" = some (some (.ref C_VariantError)))
  (rd_VariantError : PySem.W.readsIn K C_VariantError (.type "type") = true)
  (vg_VariantError : PySem.W.specialIn K (.ref C_VariantError) "__getattribute__" = some (some (.builtin "type.__getattribute__")))
  (va_VariantError : PySem.W.findCls K (.ref C_VariantError) (.type "type") "__init__" = some (.val (.builtin "ValueError.__init__")))
  (g_BadTree : PySem.W.nsIn K mainGlobals "BadTree" = some (some (.ref C_BadTree)))
  (x_BadTree : PySem.W.excIn K C_BadTree [.type "ValueError", .type "Exception", .type "BaseException", .type "object"] "ValueError.__new__" = true)
  (k_BadTree : PySem.W.keepIn K (.ref C_BadTree) = true)
  (b_BadTree : PySem.W.subIn K (.ref C_BadTree) (.type "BaseException") = some true)
  (t_BadTree : PySem.W.typeIn K (.ref C_BadTree) = some (.type "type"))
  (hd_BadTree : PySem.W.hasDictIn K C_BadTree = true)
  (s_BadTree : PySem.W.subIn K (.ref C_BadTree) (.ref C_BadTree) = some true)
  (g_NoNode : PySem.W.nsIn K mainGlobals "NoNode" = some (some (.ref C_NoNode)))
  (xL_NoNode : K.lookup C_NoNode = some (excClassObj nm_NoNode q_NoNode C_NoNode N_NoNode bs_NoNode [.ref C_VariantError, .type "ValueError", .type "Exception", .type "BaseException", .type "object"] true sn_NoNode sub_NoNode ab_NoNode col_NoNode dd_NoNode m0_NoNode m1_NoNode m2_NoNode m3_NoNode m5_NoNode "ValueError.__new__"))
  (sa_NoNode : PySem.W.findIn K (.ref C_NoNode) "__setattr__" = some (some (.builtin "object.__setattr__")))
  (b_NoNode : PySem.W.subIn K (.ref C_NoNode) (.type "BaseException") = some true)
  (t_NoNode : PySem.W.typeIn K (.ref C_NoNode) = some (.type "type"))
  (k_NoNode : PySem.W.keepIn K (.ref C_NoNode) = true)
  (iC_NoNode : PySem.W.findIn K (.ref C_NoNode) "__init__" = some (some (.ref f_ini_NoNode)))
  (tI_NoNode : PySem.W.typeIn K (.ref f_ini_NoNode) = some (.type "function"))
  (ga_NoNode : PySem.W.findIn K (.ref C_NoNode) "__getattribute__" = some (some (.builtin "BaseException.__getattribute__")))
  (gg_NoNode : PySem.W.findIn K (.ref C_NoNode) "__getattr__" = some none)
  (hd_NoNode : PySem.W.hasDictIn K C_NoNode = true)
  (no_NoNode_path : PySem.W.findIn K (.ref C_NoNode) "path" = some none)
  (s_NoNode : PySem.W.subIn K (.ref C_NoNode) (.ref C_NoNode) = some true)
  (s_BadTree_NoNode : PySem.W.subIn K (.ref C_BadTree) (.ref C_NoNode) = some false)
  (s_NoNode_BadTree : PySem.W.subIn K (.ref C_NoNode) (.ref C_BadTree) = some false)
  (a0 : PySem.W.nsIn K mainGlobals "as_tuples" = some (some (.ref f0)))
  (l0 : K.lookup f0 = some ⟨oc0, od0, .func (PySem.W.fnOf "as_tuples" "as_tuples" (defArgs s_as_tuples) (defBody s_as_tuples) (defScope s_as_tuples) .none kV0 dc0 pm0 an0 cd0 ct0), sl0⟩) (c0 : PySem.W.codeIn K cd0 "as_tuples" = true) (k0 : PySem.W.keepIn K (.ref f0) = true)
  (a1 : PySem.W.nsIn K mainGlobals "is_name" = some (some (.ref f1)))
  (l1 : K.lookup f1 = some ⟨oc1, od1, .func (PySem.W.fnOf "is_name" "is_name" (defArgs s_is_name) (defBody s_is_name) (defScope s_is_name) .none kV1 dc1 pm1 an1 cd1 ct1), sl1⟩) (c1 : PySem.W.codeIn K cd1 "is_name" = true) (k1 : PySem.W.keepIn K (.ref f1) = true)
  (a2 : PySem.W.nsIn K mainGlobals "is_integer" = some (some (.ref f2)))
  (l2 : K.lookup f2 = some ⟨oc2, od2, .func (PySem.W.fnOf "is_integer" "is_integer" (defArgs s_is_integer) (defBody s_is_integer) (defScope s_is_integer) .none kV2 dc2 pm2 an2 cd2 ct2), sl2⟩) (c2 : PySem.W.codeIn K cd2 "is_integer" = true) (k2 : PySem.W.keepIn K (.ref f2) = true)
  (a3 : PySem.W.nsIn K mainGlobals "is_path" = some (some (.ref f3)))
  (l3 : K.lookup f3 = some ⟨oc3, od3, .func (PySem.W.fnOf "is_path" "is_path" (defArgs s_is_path) (defBody s_is_path) (defScope s_is_path) .none kV3 dc3 pm3 an3 cd3 ct3), sl3⟩) (c3 : PySem.W.codeIn K cd3 "is_path" = true) (k3 : PySem.W.keepIn K (.ref f3) = true)
  (a4 : PySem.W.nsIn K mainGlobals "is_link" = some (some (.ref f4)))
  (l4 : K.lookup f4 = some ⟨oc4, od4, .func (PySem.W.fnOf "is_link" "is_link" (defArgs s_is_link) (defBody s_is_link) (defScope s_is_link) .none kV4 dc4 pm4 an4 cd4 ct4), sl4⟩) (c4 : PySem.W.codeIn K cd4 "is_link" = true) (k4 : PySem.W.keepIn K (.ref f4) = true)
  (a5 : PySem.W.nsIn K mainGlobals "is_value" = some (some (.ref f5)))
  (l5 : K.lookup f5 = some ⟨oc5, od5, .func (PySem.W.fnOf "is_value" "is_value" (defArgs s_is_value) (defBody s_is_value) (defScope s_is_value) .none kV5 dc5 pm5 an5 cd5 ct5), sl5⟩) (c5 : PySem.W.codeIn K cd5 "is_value" = true) (k5 : PySem.W.keepIn K (.ref f5) = true)
  (a6 : PySem.W.nsIn K mainGlobals "are_named" = some (some (.ref f6)))
  (l6 : K.lookup f6 = some ⟨oc6, od6, .func (PySem.W.fnOf "are_named" "are_named" (defArgs s_are_named) (defBody s_are_named) (defScope s_are_named) .none kV6 dc6 pm6 an6 cd6 ct6), sl6⟩) (c6 : PySem.W.codeIn K cd6 "are_named" = true) (k6 : PySem.W.keepIn K (.ref f6) = true)
  (a7 : PySem.W.nsIn K mainGlobals "is_ascending" = some (some (.ref f7)))
  (l7 : K.lookup f7 = some ⟨oc7, od7, .func (PySem.W.fnOf "is_ascending" "is_ascending" (defArgs s_is_ascending) (defBody s_is_ascending) (defScope s_is_ascending) .none kV7 dc7 pm7 an7 cd7 ct7), sl7⟩) (c7 : PySem.W.codeIn K cd7 "is_ascending" = true) (k7 : PySem.W.keepIn K (.ref f7) = true)
  (a8 : PySem.W.nsIn K mainGlobals "is_tree_of" = some (some (.ref f8)))
  (l8 : K.lookup f8 = some ⟨oc8, od8, .func (PySem.W.fnOf "is_tree_of" "is_tree_of" (defArgs s_is_tree_of) (defBody s_is_tree_of) (defScope s_is_tree_of) .none kV8 dc8 pm8 an8 cd8 ct8), sl8⟩) (c8 : PySem.W.codeIn K cd8 "is_tree_of" = true) (k8 : PySem.W.keepIn K (.ref f8) = true)
  (a9 : PySem.W.nsIn K mainGlobals "is_tree" = some (some (.ref f9)))
  (l9 : K.lookup f9 = some ⟨oc9, od9, .func (PySem.W.fnOf "is_tree" "is_tree" (defArgs s_is_tree) (defBody s_is_tree) (defScope s_is_tree) .none kV9 dc9 pm9 an9 cd9 ct9), sl9⟩) (c9 : PySem.W.codeIn K cd9 "is_tree" = true) (k9 : PySem.W.keepIn K (.ref f9) = true)
  (a10 : PySem.W.nsIn K mainGlobals "checked_tree" = some (some (.ref f10)))
  (l10 : K.lookup f10 = some ⟨oc10, od10, .func (PySem.W.fnOf "checked_tree" "checked_tree" (defArgs s_checked_tree) (defBody s_checked_tree) (defScope s_checked_tree) .none kV10 dc10 pm10 an10 cd10 ct10), sl10⟩) (c10 : PySem.W.codeIn K cd10 "checked_tree" = true) (k10 : PySem.W.keepIn K (.ref f10) = true)
  (a11 : PySem.W.nsIn K mainGlobals "part_at" = some (some (.ref f11)))
  (l11 : K.lookup f11 = some ⟨oc11, od11, .func (PySem.W.fnOf "part_at" "part_at" (defArgs s_part_at) (defBody s_part_at) (defScope s_part_at) .none kV11 dc11 pm11 an11 cd11 ct11), sl11⟩) (c11 : PySem.W.codeIn K cd11 "part_at" = true) (k11 : PySem.W.keepIn K (.ref f11) = true)
  (l12 : K.lookup f_ini_NoNode = some ⟨oc12, od12, .func (PySem.W.fnOf "__init__" "NoNode.__init__" (defArgs s_ini_NoNode) (defBody s_ini_NoNode) (defScope s_ini_NoNode) .none kV12 dc12 pm12 an12 cd12 ct12), sl12⟩) (c12 : PySem.W.codeIn K cd12 "NoNode.__init__" = true) (k12 : PySem.W.keepIn K (.ref f_ini_NoNode) = true)
  (a13 : PySem.W.nsIn K mainGlobals "node" = some (some (.ref f13)))
  (l13 : K.lookup f13 = some ⟨oc13, od13, .func (PySem.W.fnOf "node" "node" (defArgs s_node) (defBody s_node) (defScope s_node) .none kV13 dc13 pm13 an13 cd13 ct13), sl13⟩) (c13 : PySem.W.codeIn K cd13 "node" = true) (k13 : PySem.W.keepIn K (.ref f13) = true)
  (a14 : PySem.W.nsIn K mainGlobals "rank_of" = some (some (.ref f14)))
  (l14 : K.lookup f14 = some ⟨oc14, od14, .func (PySem.W.fnOf "rank_of" "rank_of" (defArgs s_rank_of) (defBody s_rank_of) (defScope s_rank_of) .none kV14 dc14 pm14 an14 cd14 ct14), sl14⟩) (c14 : PySem.W.codeIn K cd14 "rank_of" = true) (k14 : PySem.W.keepIn K (.ref f14) = true)
  (a15 : PySem.W.nsIn K mainGlobals "in_order" = some (some (.ref f15)))
  (l15 : K.lookup f15 = some ⟨oc15, od15, .func (PySem.W.fnOf "in_order" "in_order" (defArgs s_in_order) (defBody s_in_order) (defScope s_in_order) .none kV15 dc15 pm15 an15 cd15 ct15), sl15⟩) (c15 : PySem.W.codeIn K cd15 "in_order" = true) (k15 : PySem.W.keepIn K (.ref f15) = true)
  (a16 : PySem.W.nsIn K mainGlobals "_law_draw" = some (some (.ref f16)))
  (l16 : K.lookup f16 = some ⟨oc16, od16, .func (PySem.W.fnOf "_law_draw" "_law_draw" (defArgs s__law_draw) (defBody s__law_draw) (defScope s__law_draw) .none kV16 dc16 pm16 an16 cd16 ct16), sl16⟩) (c16 : PySem.W.codeIn K cd16 "_law_draw" = true) (k16 : PySem.W.keepIn K (.ref f16) = true)
  (a17 : PySem.W.nsIn K mainGlobals "_law_same" = some (some (.ref f17)))
  (l17 : K.lookup f17 = some ⟨oc17, od17, .func (PySem.W.fnOf "_law_same" "_law_same" (defArgs s__law_same) (defBody s__law_same) (defScope s__law_same) .none kV17 dc17 pm17 an17 cd17 ct17), sl17⟩) (c17 : PySem.W.codeIn K cd17 "_law_same" = true) (k17 : PySem.W.keepIn K (.ref f17) = true)
  (a18 : PySem.W.nsIn K mainGlobals "_law_mixed" = some (some (.ref f18)))
  (l18 : K.lookup f18 = some ⟨oc18, od18, .func (PySem.W.fnOf "_law_mixed" "_law_mixed" (defArgs s__law_mixed) (defBody s__law_mixed) (defScope s__law_mixed) .none kV18 dc18 pm18 an18 cd18 ct18), sl18⟩) (c18 : PySem.W.codeIn K cd18 "_law_mixed" = true) (k18 : PySem.W.keepIn K (.ref f18) = true)
  (a19 : PySem.W.nsIn K mainGlobals "_law_path" = some (some (.ref f19)))
  (l19 : K.lookup f19 = some ⟨oc19, od19, .func (PySem.W.fnOf "_law_path" "_law_path" (defArgs s__law_path) (defBody s__law_path) (defScope s__law_path) .none kV19 dc19 pm19 an19 cd19 ct19), sl19⟩) (c19 : PySem.W.codeIn K cd19 "_law_path" = true) (k19 : PySem.W.keepIn K (.ref f19) = true)
  (a20 : PySem.W.nsIn K mainGlobals "_law_value" = some (some (.ref f20)))
  (l20 : K.lookup f20 = some ⟨oc20, od20, .func (PySem.W.fnOf "_law_value" "_law_value" (defArgs s__law_value) (defBody s__law_value) (defScope s__law_value) .none kV20 dc20 pm20 an20 cd20 ct20), sl20⟩) (c20 : PySem.W.codeIn K cd20 "_law_value" = true) (k20 : PySem.W.keepIn K (.ref f20) = true)
  (a21 : PySem.W.nsIn K mainGlobals "_law_listed" = some (some (.ref f21)))
  (l21 : K.lookup f21 = some ⟨oc21, od21, .func (PySem.W.fnOf "_law_listed" "_law_listed" (defArgs s__law_listed) (defBody s__law_listed) (defScope s__law_listed) .none kV21 dc21 pm21 an21 cd21 ct21), sl21⟩) (c21 : PySem.W.codeIn K cd21 "_law_listed" = true) (k21 : PySem.W.keepIn K (.ref f21) = true)
  (a22 : PySem.W.nsIn K mainGlobals "_law_is_name" = some (some (.ref f22)))
  (l22 : K.lookup f22 = some ⟨oc22, od22, .func (PySem.W.fnOf "_law_is_name" "_law_is_name" (defArgs s__law_is_name) (defBody s__law_is_name) (defScope s__law_is_name) .none kV22 dc22 pm22 an22 cd22 ct22), sl22⟩) (c22 : PySem.W.codeIn K cd22 "_law_is_name" = true) (k22 : PySem.W.keepIn K (.ref f22) = true)
  (a23 : PySem.W.nsIn K mainGlobals "_law_is_path" = some (some (.ref f23)))
  (l23 : K.lookup f23 = some ⟨oc23, od23, .func (PySem.W.fnOf "_law_is_path" "_law_is_path" (defArgs s__law_is_path) (defBody s__law_is_path) (defScope s__law_is_path) .none kV23 dc23 pm23 an23 cd23 ct23), sl23⟩) (c23 : PySem.W.codeIn K cd23 "_law_is_path" = true) (k23 : PySem.W.keepIn K (.ref f23) = true)
  (a24 : PySem.W.nsIn K mainGlobals "_law_is_value" = some (some (.ref f24)))
  (l24 : K.lookup f24 = some ⟨oc24, od24, .func (PySem.W.fnOf "_law_is_value" "_law_is_value" (defArgs s__law_is_value) (defBody s__law_is_value) (defScope s__law_is_value) .none kV24 dc24 pm24 an24 cd24 ct24), sl24⟩) (c24 : PySem.W.codeIn K cd24 "_law_is_value" = true) (k24 : PySem.W.keepIn K (.ref f24) = true)
  (a25 : PySem.W.nsIn K mainGlobals "_law_letters" = some (some (.ref f25)))
  (l25 : K.lookup f25 = some ⟨oc25, od25, .func (PySem.W.fnOf "_law_letters" "_law_letters" (defArgs s__law_letters) (defBody s__law_letters) (defScope s__law_letters) .none kV25 dc25 pm25 an25 cd25 ct25), sl25⟩) (c25 : PySem.W.codeIn K cd25 "_law_letters" = true) (k25 : PySem.W.keepIn K (.ref f25) = true)
  (a26 : PySem.W.nsIn K mainGlobals "_law_near_name" = some (some (.ref f26)))
  (l26 : K.lookup f26 = some ⟨oc26, od26, .func (PySem.W.fnOf "_law_near_name" "_law_near_name" (defArgs s__law_near_name) (defBody s__law_near_name) (defScope s__law_near_name) .none kV26 dc26 pm26 an26 cd26 ct26), sl26⟩) (c26 : PySem.W.codeIn K cd26 "_law_near_name" = true) (k26 : PySem.W.keepIn K (.ref f26) = true)
  (a27 : PySem.W.nsIn K mainGlobals "_law_thing" = some (some (.ref f27)))
  (l27 : K.lookup f27 = some ⟨oc27, od27, .func (PySem.W.fnOf "_law_thing" "_law_thing" (defArgs s__law_thing) (defBody s__law_thing) (defScope s__law_thing) .none kV27 dc27 pm27 an27 cd27 ct27), sl27⟩) (c27 : PySem.W.codeIn K cd27 "_law_thing" = true) (k27 : PySem.W.keepIn K (.ref f27) = true)
  (a28 : PySem.W.nsIn K mainGlobals "_law_near_path" = some (some (.ref f28)))
  (l28 : K.lookup f28 = some ⟨oc28, od28, .func (PySem.W.fnOf "_law_near_path" "_law_near_path" (defArgs s__law_near_path) (defBody s__law_near_path) (defScope s__law_near_path) .none kV28 dc28 pm28 an28 cd28 ct28), sl28⟩) (c28 : PySem.W.codeIn K cd28 "_law_near_path" = true) (k28 : PySem.W.keepIn K (.ref f28) = true)
  (a29 : PySem.W.nsIn K mainGlobals "_law_near_value" = some (some (.ref f29)))
  (l29 : K.lookup f29 = some ⟨oc29, od29, .func (PySem.W.fnOf "_law_near_value" "_law_near_value" (defArgs s__law_near_value) (defBody s__law_near_value) (defScope s__law_near_value) .none kV29 dc29 pm29 an29 cd29 ct29), sl29⟩) (c29 : PySem.W.codeIn K cd29 "_law_near_value" = true) (k29 : PySem.W.keepIn K (.ref f29) = true)
  (a30 : PySem.W.nsIn K mainGlobals "_law_some_names" = some (some (.ref f30)))
  (l30 : K.lookup f30 = some ⟨oc30, od30, .func (PySem.W.fnOf "_law_some_names" "_law_some_names" (defArgs s__law_some_names) (defBody s__law_some_names) (defScope s__law_some_names) .none kV30 dc30 pm30 an30 cd30 ct30), sl30⟩) (c30 : PySem.W.codeIn K cd30 "_law_some_names" = true) (k30 : PySem.W.keepIn K (.ref f30) = true)
  (a31 : PySem.W.nsIn K mainGlobals "_law_is_tree" = some (some (.ref f31)))
  (l31 : K.lookup f31 = some ⟨oc31, od31, .func (PySem.W.fnOf "_law_is_tree" "_law_is_tree" (defArgs s__law_is_tree) (defBody s__law_is_tree) (defScope s__law_is_tree) .none kV31 dc31 pm31 an31 cd31 ct31), sl31⟩) (c31 : PySem.W.codeIn K cd31 "_law_is_tree" = true) (k31 : PySem.W.keepIn K (.ref f31) = true)
  (a32 : PySem.W.nsIn K mainGlobals "_law_bent_pairs" = some (some (.ref f32)))
  (l32 : K.lookup f32 = some ⟨oc32, od32, .func (PySem.W.fnOf "_law_bent_pairs" "_law_bent_pairs" (defArgs s__law_bent_pairs) (defBody s__law_bent_pairs) (defScope s__law_bent_pairs) .none kV32 dc32 pm32 an32 cd32 ct32), sl32⟩) (c32 : PySem.W.codeIn K cd32 "_law_bent_pairs" = true) (k32 : PySem.W.keepIn K (.ref f32) = true)
  (a33 : PySem.W.nsIn K mainGlobals "_law_bent_tree" = some (some (.ref f33)))
  (l33 : K.lookup f33 = some ⟨oc33, od33, .func (PySem.W.fnOf "_law_bent_tree" "_law_bent_tree" (defArgs s__law_bent_tree) (defBody s__law_bent_tree) (defScope s__law_bent_tree) .none kV33 dc33 pm33 an33 cd33 ct33), sl33⟩) (c33 : PySem.W.codeIn K cd33 "_law_bent_tree" = true) (k33 : PySem.W.keepIn K (.ref f33) = true)
  (a34 : PySem.W.nsIn K mainGlobals "_law_tupled" = some (some (.ref f34)))
  (l34 : K.lookup f34 = some ⟨oc34, od34, .func (PySem.W.fnOf "_law_tupled" "_law_tupled" (defArgs s__law_tupled) (defBody s__law_tupled) (defScope s__law_tupled) .none kV34 dc34 pm34 an34 cd34 ct34), sl34⟩) (c34 : PySem.W.codeIn K cd34 "_law_tupled" = true) (k34 : PySem.W.keepIn K (.ref f34) = true)
  (a35 : PySem.W.nsIn K mainGlobals "_law_parts" = some (some (.ref f35)))
  (l35 : K.lookup f35 = some ⟨oc35, od35, .func (PySem.W.fnOf "_law_parts" "_law_parts" (defArgs s__law_parts) (defBody s__law_parts) (defScope s__law_parts) .none kV35 dc35 pm35 an35 cd35 ct35), sl35⟩) (c35 : PySem.W.codeIn K cd35 "_law_parts" = true) (k35 : PySem.W.keepIn K (.ref f35) = true)
  (a36 : PySem.W.nsIn K mainGlobals "_law_ranked" = some (some (.ref f36)))
  (l36 : K.lookup f36 = some ⟨oc36, od36, .func (PySem.W.fnOf "_law_ranked" "_law_ranked" (defArgs s__law_ranked) (defBody s__law_ranked) (defScope s__law_ranked) .none kV36 dc36 pm36 an36 cd36 ct36), sl36⟩) (c36 : PySem.W.codeIn K cd36 "_law_ranked" = true) (k36 : PySem.W.keepIn K (.ref f36) = true)
  (a37 : PySem.W.nsIn K mainGlobals "_law_order" = some (some (.ref f37)))
  (l37 : K.lookup f37 = some ⟨oc37, od37, .func (PySem.W.fnOf "_law_order" "_law_order" (defArgs s__law_order) (defBody s__law_order) (defScope s__law_order) .none kV37 dc37 pm37 an37 cd37 ct37), sl37⟩) (c37 : PySem.W.codeIn K cd37 "_law_order" = true) (k37 : PySem.W.keepIn K (.ref f37) = true)
  (a38 : PySem.W.nsIn K mainGlobals "_law_order_told" = some (some (.ref f38)))
  (l38 : K.lookup f38 = some ⟨oc38, od38, .func (PySem.W.fnOf "_law_order_told" "_law_order_told" (defArgs s__law_order_told) (defBody s__law_order_told) (defScope s__law_order_told) .none kV38 dc38 pm38 an38 cd38 ct38), sl38⟩) (c38 : PySem.W.codeIn K cd38 "_law_order_told" = true) (k38 : PySem.W.keepIn K (.ref f38) = true)
  (a39 : PySem.W.nsIn K mainGlobals "law" = some (some (.ref f39)))
  (l39 : K.lookup f39 = some ⟨oc39, od39, .func (PySem.W.fnOf "law" "law" (defArgs s_law) (defBody s_law) (defScope s_law) .none kV39 dc39 pm39 an39 cd39 ct39), sl39⟩) (c39 : PySem.W.codeIn K cd39 "law" = true) (k39 : PySem.W.keepIn K (.ref f39) = true)
  (g_LETTERS : PySem.W.nsIn K mainGlobals "LETTERS" = some (some (.str "abcdefghijklmnopqrstuvwxyz" t_LETTERS)))
  (g_MOST : PySem.W.nsIn K mainGlobals "MOST" = some (some (.int 8 t_MOST)))
  (n_all : PySem.W.nsIn K mainGlobals "all" = some none)
  (n_bool : PySem.W.nsIn K mainGlobals "bool" = some none)
  (n_dict : PySem.W.nsIn K mainGlobals "dict" = some none)
  (n_int : PySem.W.nsIn K mainGlobals "int" = some none)
  (n_isinstance : PySem.W.nsIn K mainGlobals "isinstance" = some none)
  (n_len : PySem.W.nsIn K mainGlobals "len" = some none)
  (n_list : PySem.W.nsIn K mainGlobals "list" = some none)
  (n_max : PySem.W.nsIn K mainGlobals "max" = some none)
  (n_range : PySem.W.nsIn K mainGlobals "range" = some none)
  (n_repr : PySem.W.nsIn K mainGlobals "repr" = some none)
  (n_set : PySem.W.nsIn K mainGlobals "set" = some none)
  (n_sorted : PySem.W.nsIn K mainGlobals "sorted" = some none)
  (n_str : PySem.W.nsIn K mainGlobals "str" = some none)
  (n_tuple : PySem.W.nsIn K mainGlobals "tuple" = some none)
  : ∃ fd : FuncData, (∀ (s : Shared) (v : Value), BindsTo s fd ⟨[v], []⟩ [("_law_script", v)]) ∧ ∀ base : Heap, K.In base → base.Ns mainGlobals mg → UFn l.prog w K mg base CX0 68 fa fd ["_law_script"] sp_law := by
  have e := hfa.symm.trans (PySem.W.mg_of X G a39)
  cases e
  have F0 := fun_mk (st := s_as_tuples) l0 c0 k0
  have D0 : Df K mg "as_tuples" s_as_tuples _ _ ["thing"] := ⟨F0, PySem.W.mg_of X G a0, F0.binds (ps := ["thing"]) fun _ _ _ _ _ _ us hl => match us, hl with | [_], _ => rfl⟩
  have F1 := fun_mk (st := s_is_name) l1 c1 k1
  have D1 : Df K mg "is_name" s_is_name _ _ ["value"] := ⟨F1, PySem.W.mg_of X G a1, F1.binds (ps := ["value"]) fun _ _ _ _ _ _ us hl => match us, hl with | [_], _ => rfl⟩
  have F2 := fun_mk (st := s_is_integer) l2 c2 k2
  have D2 : Df K mg "is_integer" s_is_integer _ _ ["value"] := ⟨F2, PySem.W.mg_of X G a2, F2.binds (ps := ["value"]) fun _ _ _ _ _ _ us hl => match us, hl with | [_], _ => rfl⟩
  have F3 := fun_mk (st := s_is_path) l3 c3 k3
  have D3 : Df K mg "is_path" s_is_path _ _ ["value"] := ⟨F3, PySem.W.mg_of X G a3, F3.binds (ps := ["value"]) fun _ _ _ _ _ _ us hl => match us, hl with | [_], _ => rfl⟩
  have F4 := fun_mk (st := s_is_link) l4 c4 k4
  have D4 : Df K mg "is_link" s_is_link _ _ ["value"] := ⟨F4, PySem.W.mg_of X G a4, F4.binds (ps := ["value"]) fun _ _ _ _ _ _ us hl => match us, hl with | [_], _ => rfl⟩
  have F5 := fun_mk (st := s_is_value) l5 c5 k5
  have D5 : Df K mg "is_value" s_is_value _ _ ["value"] := ⟨F5, PySem.W.mg_of X G a5, F5.binds (ps := ["value"]) fun _ _ _ _ _ _ us hl => match us, hl with | [_], _ => rfl⟩
  have F6 := fun_mk (st := s_are_named) l6 c6 k6
  have D6 : Df K mg "are_named" s_are_named _ _ ["pairs"] := ⟨F6, PySem.W.mg_of X G a6, F6.binds (ps := ["pairs"]) fun _ _ _ _ _ _ us hl => match us, hl with | [_], _ => rfl⟩
  have F7 := fun_mk (st := s_is_ascending) l7 c7 k7
  have D7 : Df K mg "is_ascending" s_is_ascending _ _ ["pairs"] := ⟨F7, PySem.W.mg_of X G a7, F7.binds (ps := ["pairs"]) fun _ _ _ _ _ _ us hl => match us, hl with | [_], _ => rfl⟩
  have F8 := fun_mk (st := s_is_tree_of) l8 c8 k8
  have D8 : Df K mg "is_tree_of" s_is_tree_of _ _ ["value", "levels"] := ⟨F8, PySem.W.mg_of X G a8, F8.binds (ps := ["value", "levels"]) fun _ _ _ _ _ _ us hl => match us, hl with | [_, _], _ => rfl⟩
  have F9 := fun_mk (st := s_is_tree) l9 c9 k9
  have D9 : Df K mg "is_tree" s_is_tree _ _ ["value"] := ⟨F9, PySem.W.mg_of X G a9, F9.binds (ps := ["value"]) fun _ _ _ _ _ _ us hl => match us, hl with | [_], _ => rfl⟩
  have F10 := fun_mk (st := s_checked_tree) l10 c10 k10
  have D10 : Df K mg "checked_tree" s_checked_tree _ _ ["value"] := ⟨F10, PySem.W.mg_of X G a10, F10.binds (ps := ["value"]) fun _ _ _ _ _ _ us hl => match us, hl with | [_], _ => rfl⟩
  have F11 := fun_mk (st := s_part_at) l11 c11 k11
  have D11 : Df K mg "part_at" s_part_at _ _ ["part", "path"] := ⟨F11, PySem.W.mg_of X G a11, F11.binds (ps := ["part", "path"]) fun _ _ _ _ _ _ us hl => match us, hl with | [_, _], _ => rfl⟩
  have F12 := fun_mk (st := s_ini_NoNode) l12 c12 k12
  have D12 : Di K "NoNode.__init__" s_ini_NoNode _ _ ["self", "path"] := ⟨F12, F12.binds (ps := ["self", "path"]) fun _ _ _ _ _ _ us hl => match us, hl with | [_, _], _ => rfl⟩
  have F13 := fun_mk (st := s_node) l13 c13 k13
  have D13 : Df K mg "node" s_node _ _ ["tree", "path"] := ⟨F13, PySem.W.mg_of X G a13, F13.binds (ps := ["tree", "path"]) fun _ _ _ _ _ _ us hl => match us, hl with | [_, _], _ => rfl⟩
  have F14 := fun_mk (st := s_rank_of) l14 c14 k14
  have D14 : Df K mg "rank_of" s_rank_of _ _ ["part"] := ⟨F14, PySem.W.mg_of X G a14, F14.binds (ps := ["part"]) fun _ _ _ _ _ _ us hl => match us, hl with | [_], _ => rfl⟩
  have F15 := fun_mk (st := s_in_order) l15 c15 k15
  have D15 : Df K mg "in_order" s_in_order _ _ ["tree", "path"] := ⟨F15, PySem.W.mg_of X G a15, F15.binds (ps := ["tree", "path"]) fun _ _ _ _ _ _ us hl => match us, hl with | [_, _], _ => rfl⟩
  have F16 := fun_mk (st := s__law_draw) l16 c16 k16
  have D16 : Df K mg "_law_draw" s__law_draw _ _ ["_law_stream", "_law_many"] := ⟨F16, PySem.W.mg_of X G a16, F16.binds (ps := ["_law_stream", "_law_many"]) fun _ _ _ _ _ _ us hl => match us, hl with | [_, _], _ => rfl⟩
  have F17 := fun_mk (st := s__law_same) l17 c17 k17
  have D17 : Df K mg "_law_same" s__law_same _ _ ["_law_found", "_law_due"] := ⟨F17, PySem.W.mg_of X G a17, F17.binds (ps := ["_law_found", "_law_due"]) fun _ _ _ _ _ _ us hl => match us, hl with | [_, _], _ => rfl⟩
  have F18 := fun_mk (st := s__law_mixed) l18 c18 k18
  have D18 : Df K mg "_law_mixed" s__law_mixed _ _ ["_law_stream", "_law_some"] := ⟨F18, PySem.W.mg_of X G a18, F18.binds (ps := ["_law_stream", "_law_some"]) fun _ _ _ _ _ _ us hl => match us, hl with | [_, _], _ => rfl⟩
  have F19 := fun_mk (st := s__law_path) l19 c19 k19
  have D19 : Df K mg "_law_path" s__law_path _ _ ["_law_stream", "_law_most"] := ⟨F19, PySem.W.mg_of X G a19, F19.binds (ps := ["_law_stream", "_law_most"]) fun _ _ _ _ _ _ us hl => match us, hl with | [_, _], _ => rfl⟩
  have F20 := fun_mk (st := s__law_value) l20 c20 k20
  have D20 : Df K mg "_law_value" s__law_value _ _ ["_law_stream"] := ⟨F20, PySem.W.mg_of X G a20, F20.binds (ps := ["_law_stream"]) fun _ _ _ _ _ _ us hl => match us, hl with | [_], _ => rfl⟩
  have F21 := fun_mk (st := s__law_listed) l21 c21 k21
  have D21 : Df K mg "_law_listed" s__law_listed _ _ ["_law_stream", "_law_thing_here"] := ⟨F21, PySem.W.mg_of X G a21, F21.binds (ps := ["_law_stream", "_law_thing_here"]) fun _ _ _ _ _ _ us hl => match us, hl with | [_, _], _ => rfl⟩
  have F22 := fun_mk (st := s__law_is_name) l22 c22 k22
  have D22 : Df K mg "_law_is_name" s__law_is_name _ _ ["_law_thing_here"] := ⟨F22, PySem.W.mg_of X G a22, F22.binds (ps := ["_law_thing_here"]) fun _ _ _ _ _ _ us hl => match us, hl with | [_], _ => rfl⟩
  have F23 := fun_mk (st := s__law_is_path) l23 c23 k23
  have D23 : Df K mg "_law_is_path" s__law_is_path _ _ ["_law_thing_here"] := ⟨F23, PySem.W.mg_of X G a23, F23.binds (ps := ["_law_thing_here"]) fun _ _ _ _ _ _ us hl => match us, hl with | [_], _ => rfl⟩
  have F24 := fun_mk (st := s__law_is_value) l24 c24 k24
  have D24 : Df K mg "_law_is_value" s__law_is_value _ _ ["_law_thing_here"] := ⟨F24, PySem.W.mg_of X G a24, F24.binds (ps := ["_law_thing_here"]) fun _ _ _ _ _ _ us hl => match us, hl with | [_], _ => rfl⟩
  have F25 := fun_mk (st := s__law_letters) l25 c25 k25
  have D25 : Df K mg "_law_letters" s__law_letters _ _ ["_law_stream", "_law_many"] := ⟨F25, PySem.W.mg_of X G a25, F25.binds (ps := ["_law_stream", "_law_many"]) fun _ _ _ _ _ _ us hl => match us, hl with | [_, _], _ => rfl⟩
  have F26 := fun_mk (st := s__law_near_name) l26 c26 k26
  have D26 : Df K mg "_law_near_name" s__law_near_name _ _ ["_law_stream"] := ⟨F26, PySem.W.mg_of X G a26, F26.binds (ps := ["_law_stream"]) fun _ _ _ _ _ _ us hl => match us, hl with | [_], _ => rfl⟩
  have F27 := fun_mk (st := s__law_thing) l27 c27 k27
  have D27 : Df K mg "_law_thing" s__law_thing _ _ ["_law_stream", "_law_deep"] := ⟨F27, PySem.W.mg_of X G a27, F27.binds (ps := ["_law_stream", "_law_deep"]) fun _ _ _ _ _ _ us hl => match us, hl with | [_, _], _ => rfl⟩
  have F28 := fun_mk (st := s__law_near_path) l28 c28 k28
  have D28 : Df K mg "_law_near_path" s__law_near_path _ _ ["_law_stream"] := ⟨F28, PySem.W.mg_of X G a28, F28.binds (ps := ["_law_stream"]) fun _ _ _ _ _ _ us hl => match us, hl with | [_], _ => rfl⟩
  have F29 := fun_mk (st := s__law_near_value) l29 c29 k29
  have D29 : Df K mg "_law_near_value" s__law_near_value _ _ ["_law_stream"] := ⟨F29, PySem.W.mg_of X G a29, F29.binds (ps := ["_law_stream"]) fun _ _ _ _ _ _ us hl => match us, hl with | [_], _ => rfl⟩
  have F30 := fun_mk (st := s__law_some_names) l30 c30 k30
  have D30 : Df K mg "_law_some_names" s__law_some_names _ _ ["_law_stream", "_law_many"] := ⟨F30, PySem.W.mg_of X G a30, F30.binds (ps := ["_law_stream", "_law_many"]) fun _ _ _ _ _ _ us hl => match us, hl with | [_, _], _ => rfl⟩
  have F31 := fun_mk (st := s__law_is_tree) l31 c31 k31
  have D31 : Df K mg "_law_is_tree" s__law_is_tree _ _ ["_law_thing_here", "_law_levels"] := ⟨F31, PySem.W.mg_of X G a31, F31.binds (ps := ["_law_thing_here", "_law_levels"]) fun _ _ _ _ _ _ us hl => match us, hl with | [_, _], _ => rfl⟩
  have F32 := fun_mk (st := s__law_bent_pairs) l32 c32 k32
  have D32 : Df K mg "_law_bent_pairs" s__law_bent_pairs _ _ ["_law_stream", "_law_pairs"] := ⟨F32, PySem.W.mg_of X G a32, F32.binds (ps := ["_law_stream", "_law_pairs"]) fun _ _ _ _ _ _ us hl => match us, hl with | [_, _], _ => rfl⟩
  have F33 := fun_mk (st := s__law_bent_tree) l33 c33 k33
  have D33 : Df K mg "_law_bent_tree" s__law_bent_tree _ _ ["_law_stream", "_law_part"] := ⟨F33, PySem.W.mg_of X G a33, F33.binds (ps := ["_law_stream", "_law_part"]) fun _ _ _ _ _ _ us hl => match us, hl with | [_, _], _ => rfl⟩
  have F34 := fun_mk (st := s__law_tupled) l34 c34 k34
  have D34 : Df K mg "_law_tupled" s__law_tupled _ _ ["_law_thing_here"] := ⟨F34, PySem.W.mg_of X G a34, F34.binds (ps := ["_law_thing_here"]) fun _ _ _ _ _ _ us hl => match us, hl with | [_], _ => rfl⟩
  have F35 := fun_mk (st := s__law_parts) l35 c35 k35
  have D35 : Df K mg "_law_parts" s__law_parts _ _ ["_law_part", "_law_path_here"] := ⟨F35, PySem.W.mg_of X G a35, F35.binds (ps := ["_law_part", "_law_path_here"]) fun _ _ _ _ _ _ us hl => match us, hl with | [_, _], _ => rfl⟩
  have F36 := fun_mk (st := s__law_ranked) l36 c36 k36
  have D36 : Df K mg "_law_ranked" s__law_ranked _ _ ["_law_stream", "_law_deep"] := ⟨F36, PySem.W.mg_of X G a36, F36.binds (ps := ["_law_stream", "_law_deep"]) fun _ _ _ _ _ _ us hl => match us, hl with | [_, _], _ => rfl⟩
  have F37 := fun_mk (st := s__law_order) l37 c37 k37
  have D37 : Df K mg "_law_order" s__law_order _ _ ["_law_part"] := ⟨F37, PySem.W.mg_of X G a37, F37.binds (ps := ["_law_part"]) fun _ _ _ _ _ _ us hl => match us, hl with | [_], _ => rfl⟩
  have F38 := fun_mk (st := s__law_order_told) l38 c38 k38
  have D38 : Df K mg "_law_order_told" s__law_order_told _ _ ["_law_thing_here", "_law_path_here"] := ⟨F38, PySem.W.mg_of X G a38, F38.binds (ps := ["_law_thing_here", "_law_path_here"]) fun _ _ _ _ _ _ us hl => match us, hl with | [_, _], _ => rfl⟩
  have F39 := fun_mk (st := s_law) l39 c39 k39
  have D39 : Df K mg "law" s_law _ _ ["_law_script"] := ⟨F39, PySem.W.mg_of X G a39, F39.binds (ps := ["_law_script"]) fun _ _ _ _ _ _ us hl => match us, hl with | [_], _ => rfl⟩
  exact ⟨PySem.W.fnOf "law" "law" (defArgs s_law) (defBody s_law) (defScope s_law) .none kV39 dc39 pm39 an39 cd39 ct39, fun s v => .of_eq rfl, fun base _ _ => ok_law ⟨_, _, D0, _, _, D1, _, _, D2, _, _, D3, _, _, D4, _, _, D5, _, _, D6, _, _, D7, _, _, D8, _, _, D9, _, _, D10, _, _, D11, _, _, D12, _, _, D13, _, _, D14, _, _, D15, _, _, D16, _, _, D17, _, _, D18, _, _, D19, _, _, D20, _, _, D21, _, _, D22, _, _, D23, _, _, D24, _, _, D25, _, _, D26, _, _, D27, _, _, D28, _, _, D29, _, _, D30, _, _, D31, _, _, D32, _, _, D33, _, _, D34, _, _, D35, _, _, D36, _, _, D37, _, _, D38, _, _, D39, t_LETTERS, PySem.W.mg_of X G g_LETTERS, t_MOST, PySem.W.mg_of X G g_MOST, PySem.W.mg_none_of X G n_all, PySem.W.mg_none_of X G n_bool, PySem.W.mg_none_of X G n_dict, PySem.W.mg_none_of X G n_int, PySem.W.mg_none_of X G n_isinstance, PySem.W.mg_none_of X G n_len, PySem.W.mg_none_of X G n_list, PySem.W.mg_none_of X G n_max, PySem.W.mg_none_of X G n_range, PySem.W.mg_none_of X G n_repr, PySem.W.mg_none_of X G n_set, PySem.W.mg_none_of X G n_sorted, PySem.W.mg_none_of X G n_str, PySem.W.mg_none_of X G n_tuple, _, _, _, PySem.W.mg_of X G g_VariantError, ⟨rd_VariantError, vg_VariantError, va_VariantError⟩, PySem.W.mg_of X G g_BadTree, x_BadTree, k_BadTree, b_BadTree, t_BadTree, PySem.W.exm_ref b_BadTree hd_BadTree t_BadTree s_BadTree, PySem.W.mg_of X G g_NoNode, ⟨⟨_, _, _, _, _, _, _, _, _, _, _, _, _, _, _, xL_NoNode, (show PySem.HandSPX.refsVE [.type "ValueError", .type "Exception", .type "BaseException", .type "object"] = true from by decide +kernel)⟩, sa_NoNode, b_NoNode, t_NoNode, k_NoNode⟩, iC_NoNode, tI_NoNode, ⟨ga_NoNode, gg_NoNode, b_NoNode, hd_NoNode⟩, no_NoNode_path, PySem.W.exm_ref b_NoNode hd_NoNode t_NoNode s_NoNode, PySem.W.exm_ref b_NoNode hd_NoNode t_NoNode s_BadTree_NoNode, PySem.W.exm_ref b_BadTree hd_BadTree t_BadTree s_NoNode_BadTree⟩⟩
end PU
open PySem PySem.W PyProof.Rows
set_option maxRecDepth 100000 in
set_option maxHeartbeats 0 in
theorem PySem.Challenge.cw_variantnest_k08_children_in_order_holds : PySem.Challenge.rw_variantnest_k08_children_in_order.Holds := by
  w_on; o_law; k_head; (case hw => w_witness2)
  k_fill
  refine PU.law_walk (l := PySem.Challenge.rw_variantnest_k08_children_in_order) (n := 63) (k := 68) (x := "_law_script") (sp := PU.sp_law) rfl (by decide) rfl ⟨rfl, by decide, by decide⟩ rfl (fun w h Y => PySem.W.kIn_of Y) (fun ns hl Q q => ⟨ns, rfl, hl, q⟩) ?F
  case F =>
    intro w mg fa h KX G hmg
    refine' PU.all_mk KX G hmg ?g_VariantError ?rd_VariantError ?vg_VariantError ?va_VariantError ?g_BadTree ?x_BadTree ?k_BadTree ?b_BadTree ?t_BadTree ?hd_BadTree ?s_BadTree ?g_NoNode ?xL_NoNode ?sa_NoNode ?b_NoNode ?t_NoNode ?k_NoNode ?iC_NoNode ?tI_NoNode ?ga_NoNode ?gg_NoNode ?hd_NoNode ?no_NoNode_path ?s_NoNode ?s_BadTree_NoNode ?s_NoNode_BadTree ?a0 ?l0 ?c0 ?k0 ?a1 ?l1 ?c1 ?k1 ?a2 ?l2 ?c2 ?k2 ?a3 ?l3 ?c3 ?k3 ?a4 ?l4 ?c4 ?k4 ?a5 ?l5 ?c5 ?k5 ?a6 ?l6 ?c6 ?k6 ?a7 ?l7 ?c7 ?k7 ?a8 ?l8 ?c8 ?k8 ?a9 ?l9 ?c9 ?k9 ?a10 ?l10 ?c10 ?k10 ?a11 ?l11 ?c11 ?k11 ?l12 ?c12 ?k12 ?a13 ?l13 ?c13 ?k13 ?a14 ?l14 ?c14 ?k14 ?a15 ?l15 ?c15 ?k15 ?a16 ?l16 ?c16 ?k16 ?a17 ?l17 ?c17 ?k17 ?a18 ?l18 ?c18 ?k18 ?a19 ?l19 ?c19 ?k19 ?a20 ?l20 ?c20 ?k20 ?a21 ?l21 ?c21 ?k21 ?a22 ?l22 ?c22 ?k22 ?a23 ?l23 ?c23 ?k23 ?a24 ?l24 ?c24 ?k24 ?a25 ?l25 ?c25 ?k25 ?a26 ?l26 ?c26 ?k26 ?a27 ?l27 ?c27 ?k27 ?a28 ?l28 ?c28 ?k28 ?a29 ?l29 ?c29 ?k29 ?a30 ?l30 ?c30 ?k30 ?a31 ?l31 ?c31 ?k31 ?a32 ?l32 ?c32 ?k32 ?a33 ?l33 ?c33 ?k33 ?a34 ?l34 ?c34 ?k34 ?a35 ?l35 ?c35 ?k35 ?a36 ?l36 ?c36 ?k36 ?a37 ?l37 ?c37 ?k37 ?a38 ?l38 ?c38 ?k38 ?a39 ?l39 ?c39 ?k39 ?g_LETTERS ?g_MOST ?n_all ?n_bool ?n_dict ?n_int ?n_isinstance ?n_len ?n_list ?n_max ?n_range ?n_repr ?n_set ?n_sorted ?n_str ?n_tuple
    (case g_VariantError => k_is)
    (case rd_VariantError => k_is)
    (case vg_VariantError => k_is)
    (case va_VariantError => k_is)
    (case g_BadTree => k_is)
    (case x_BadTree => k_exc)
    (case k_BadTree => k_is)
    (case b_BadTree => k_is)
    (case t_BadTree => k_is)
    (case hd_BadTree => k_is)
    (case s_BadTree => k_is)
    (case g_NoNode => k_is)
    (case xL_NoNode => k_is)
    (case sa_NoNode => k_is)
    (case b_NoNode => k_is)
    (case t_NoNode => k_is)
    (case k_NoNode => k_is)
    (case iC_NoNode => k_is)
    (case tI_NoNode => k_is)
    (case ga_NoNode => k_is)
    (case gg_NoNode => k_is)
    (case hd_NoNode => k_is)
    (case no_NoNode_path => k_is)
    (case s_NoNode => k_is)
    (case s_BadTree_NoNode => k_is)
    (case s_NoNode_BadTree => k_is)
    (case a0 => k_is)
    (case l0 => k_is)
    (case c0 => k_is)
    (case k0 => k_is)
    (case a1 => k_is)
    (case l1 => k_is)
    (case c1 => k_is)
    (case k1 => k_is)
    (case a2 => k_is)
    (case l2 => k_is)
    (case c2 => k_is)
    (case k2 => k_is)
    (case a3 => k_is)
    (case l3 => k_is)
    (case c3 => k_is)
    (case k3 => k_is)
    (case a4 => k_is)
    (case l4 => k_is)
    (case c4 => k_is)
    (case k4 => k_is)
    (case a5 => k_is)
    (case l5 => k_is)
    (case c5 => k_is)
    (case k5 => k_is)
    (case a6 => k_is)
    (case l6 => k_is)
    (case c6 => k_is)
    (case k6 => k_is)
    (case a7 => k_is)
    (case l7 => k_is)
    (case c7 => k_is)
    (case k7 => k_is)
    (case a8 => k_is)
    (case l8 => k_is)
    (case c8 => k_is)
    (case k8 => k_is)
    (case a9 => k_is)
    (case l9 => k_is)
    (case c9 => k_is)
    (case k9 => k_is)
    (case a10 => k_is)
    (case l10 => k_is)
    (case c10 => k_is)
    (case k10 => k_is)
    (case a11 => k_is)
    (case l11 => k_is)
    (case c11 => k_is)
    (case k11 => k_is)
    (case l12 => k_is)
    (case c12 => k_is)
    (case k12 => k_is)
    (case a13 => k_is)
    (case l13 => k_is)
    (case c13 => k_is)
    (case k13 => k_is)
    (case a14 => k_is)
    (case l14 => k_is)
    (case c14 => k_is)
    (case k14 => k_is)
    (case a15 => k_is)
    (case l15 => k_is)
    (case c15 => k_is)
    (case k15 => k_is)
    (case a16 => k_is)
    (case l16 => k_is)
    (case c16 => k_is)
    (case k16 => k_is)
    (case a17 => k_is)
    (case l17 => k_is)
    (case c17 => k_is)
    (case k17 => k_is)
    (case a18 => k_is)
    (case l18 => k_is)
    (case c18 => k_is)
    (case k18 => k_is)
    (case a19 => k_is)
    (case l19 => k_is)
    (case c19 => k_is)
    (case k19 => k_is)
    (case a20 => k_is)
    (case l20 => k_is)
    (case c20 => k_is)
    (case k20 => k_is)
    (case a21 => k_is)
    (case l21 => k_is)
    (case c21 => k_is)
    (case k21 => k_is)
    (case a22 => k_is)
    (case l22 => k_is)
    (case c22 => k_is)
    (case k22 => k_is)
    (case a23 => k_is)
    (case l23 => k_is)
    (case c23 => k_is)
    (case k23 => k_is)
    (case a24 => k_is)
    (case l24 => k_is)
    (case c24 => k_is)
    (case k24 => k_is)
    (case a25 => k_is)
    (case l25 => k_is)
    (case c25 => k_is)
    (case k25 => k_is)
    (case a26 => k_is)
    (case l26 => k_is)
    (case c26 => k_is)
    (case k26 => k_is)
    (case a27 => k_is)
    (case l27 => k_is)
    (case c27 => k_is)
    (case k27 => k_is)
    (case a28 => k_is)
    (case l28 => k_is)
    (case c28 => k_is)
    (case k28 => k_is)
    (case a29 => k_is)
    (case l29 => k_is)
    (case c29 => k_is)
    (case k29 => k_is)
    (case a30 => k_is)
    (case l30 => k_is)
    (case c30 => k_is)
    (case k30 => k_is)
    (case a31 => k_is)
    (case l31 => k_is)
    (case c31 => k_is)
    (case k31 => k_is)
    (case a32 => k_is)
    (case l32 => k_is)
    (case c32 => k_is)
    (case k32 => k_is)
    (case a33 => k_is)
    (case l33 => k_is)
    (case c33 => k_is)
    (case k33 => k_is)
    (case a34 => k_is)
    (case l34 => k_is)
    (case c34 => k_is)
    (case k34 => k_is)
    (case a35 => k_is)
    (case l35 => k_is)
    (case c35 => k_is)
    (case k35 => k_is)
    (case a36 => k_is)
    (case l36 => k_is)
    (case c36 => k_is)
    (case k36 => k_is)
    (case a37 => k_is)
    (case l37 => k_is)
    (case c37 => k_is)
    (case k37 => k_is)
    (case a38 => k_is)
    (case l38 => k_is)
    (case c38 => k_is)
    (case k38 => k_is)
    (case a39 => k_is)
    (case l39 => k_is)
    (case c39 => k_is)
    (case k39 => k_is)
    (case g_LETTERS => k_is)
    (case g_MOST => k_is)
    (case n_all => k_is)
    (case n_bool => k_is)
    (case n_dict => k_is)
    (case n_int => k_is)
    (case n_isinstance => k_is)
    (case n_len => k_is)
    (case n_list => k_is)
    (case n_max => k_is)
    (case n_range => k_is)
    (case n_repr => k_is)
    (case n_set => k_is)
    (case n_sorted => k_is)
    (case n_str => k_is)
    (case n_tuple => k_is)


