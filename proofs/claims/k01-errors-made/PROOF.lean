import PyProof.Rows.All
import Wide.All
import OpenK.AllK
import Wide.FinOn
import PyProof.EqAt
import PyProof.EqKinds
import PyProof.TupleCall
import HandS.ForMost
import HandS.IsInst
import KE.KeyNested
import HandS.ExcInit
import PyProof.CodeObj
import HandS.Deep
import HandS.Style
import HandS.TupAny
import HandS.More
import HandS.Flow
import HandS.Zip
import HandS.TupSets
import HandS.Exc
import HandS.TryOnly
import HandS.ExcOwn
import HandS.ExcField
import HandS.ExcIs
import HandS.ClsMeth
import HandS.Text
import KE.KDictSum
import KE.KDictWalk
import KE.SortData
import KE.SortKeyHeap
import KE.KDictCopyH
import HandS.SortKw
import HandS.ExcValue
import HandS.TryMany
import HandS.Iter
import KE.DataCmp
import HandS.SetKeys
import HandS.DictComp
import HandS.ListItems
import KE.KDictPairs
import HandS.DictTup
import KE.KSortTup
import KE.SortCalls
import KE.RegKIsAll
import KE.KExcIs
import HandS.MakeKwOnly
import PySem.Challenge.RW_variantnest_k01_errors_made
set_option Elab.async false
set_option linter.all false
set_option maxRecDepth 100000
/-! UBase: values that carry tuples, and lists that nobody changes any more, by value; the judgements of HandS read over them. -/
namespace PU
open PySem PySem.Spec PyProof.Rows L2

inductive U where
  | non | bl (b : Bool) | int (i : Int) | str (x : Str) | ref (a : Addr) | ty (n : String)
  | tup (xs : List U) | lst (xs : List U)

/-- a text that may stand anywhere -/
def okS (x : Str) : Bool := decide (x.length ≤ sizeLine) && PyData.strOk x
theorem okS.len {x : Str} (h : okS x = true) : x.length ≤ sizeLine := of_decide_eq_true (Bool.and_eq_true_iff.mp h).1
theorem okS.ok {x : Str} (h : okS x = true) : PyData.strOk x = true := (Bool.and_eq_true_iff.mp h).2
/-- a list that is not changed any more -/
def FzL (K : PySem.W.Frag) (H : Hp) (a : Addr) (xs : List V) : Prop :=
  (∃ o, H a = some (.frz o (.lst xs))) ∨
    ∃ (o : Obj) (its : Array Value) (n : Nat), K.lookup a = some o ∧ o.cls = .type "list" ∧ o.dict = none ∧ o.data = .seq its n ∧ its.size ≤ sizeLine ∧ Vals xs its.toList
theorem FzL.sq {K : PySem.W.Frag} {H : Hp} {a : Addr} {xs : List V} (h : FzL K H a xs) : SqL K H a xs := by
  rcases h with ⟨o, h⟩ | h
  · exact .inl (.inr ⟨o, h⟩)
  · exact .inr h

/-- a tuple of which it is known that it has no dict of its own -/
def SqD (K : PySem.W.Frag) (H : Hp) (a : Addr) (xs : List V) : Prop :=
  (∃ o, H a = some (.frz o (.tup xs)) ∧ o.dict = none) ∨
    ∃ (o : Obj) (its : Array Value) (n : Nat), K.lookup a = some o ∧ o.cls = .type "tuple" ∧ o.dict = none ∧ o.data = .seq its n ∧ its.size ≤ sizeLine ∧ Vals xs its.toList
theorem SqD.t {K : PySem.W.Frag} {H : Hp} {a : Addr} {xs : List V} (h : SqD K H a xs) : SqT K H a xs := by
  rcases h with ⟨o, h, _⟩ | ⟨o, its, n, h1, h2, _, h4, h5, h6⟩
  · exact .inl (.inr ⟨o, h⟩)
  · exact .inr ⟨o, its, n, h1, h2, h4, h5, h6⟩
def intHead : List V → Bool
  | .int _ :: _ => true
  | _ => false
/-- a pair of an enumerate need not be so -/
def SqX (K : PySem.W.Frag) (H : Hp) (a : Addr) (xs : List V) : Prop := SqD K H a xs ∨ (SqT K H a xs ∧ intHead xs = true)
theorem SqX.t {K : PySem.W.Frag} {H : Hp} {a : Addr} {xs : List V} (h : SqX K H a xs) : SqT K H a xs := h.elim (fun h => h.t) fun h => h.1
instance {K : PySem.W.Frag} {H : Hp} {a : Addr} {xs : List V} : Coe (SqX K H a xs) (SqT K H a xs) := ⟨SqX.t⟩
mutual
/-- u, carried by value, stands as v in the heap H -/
def RelU (K : PySem.W.Frag) (H : Hp) : U → V → Prop
  | .non, v => v = .non
  | .bl b, v => v = .bl b
  | .int i, v => v = .int i
  | .str x, v => v = .str x ∧ okS x = true
  | .ref a, v => v = .ref a
  | .ty n, v => v = .ty n
  | .tup xs, v => ∃ a vs, v = .ref a ∧ SqX K H a vs ∧ RelUs K H xs vs
  | .lst xs, v => ∃ a vs, v = .ref a ∧ FzL K H a vs ∧ RelUs K H xs vs
def RelUs (K : PySem.W.Frag) (H : Hp) : List U → List V → Prop
  | [], vs => vs = []
  | x :: xs, vs => ∃ v r, vs = v :: r ∧ RelU K H x v ∧ RelUs K H xs r
end

/-- what never changes stands as it did -/
structure Stab (H H' : Hp) : Prop where
  tups : ∀ b xs, H b = some (.tup xs) → H' b = some (.tup xs)
  frzs : ∀ b o u, H b = some (.frz o u) → H' b = some (.frz o u)
theorem Stab.refl (H : Hp) : Stab H H := ⟨fun _ _ h => h, fun _ _ _ h => h⟩
theorem Stab.trans {H H1 H2 : Hp} (a : Stab H H1) (b : Stab H1 H2) : Stab H H2 := ⟨fun c xs h => b.tups c xs (a.tups c xs h), fun c o u h => b.frzs c o u (a.frzs c o u h)⟩
theorem Stab.upd {H : Hp} {p : Addr} {o : HO} (h1 : ∀ xs, H p ≠ some (.tup xs)) (h2 : ∀ ob u, H p ≠ some (.frz ob u)) : Stab H (upd H p o) :=
  ⟨fun b xs h => by
    by_cases e : b = p
    · subst e; exact absurd h (h1 _)
    · rw [upd_ne e]; exact h,
   fun b ob u h => by
    by_cases e : b = p
    · subst e; exact absurd h (h2 _ _)
    · rw [upd_ne e]; exact h⟩
theorem Stab.new {H : Hp} {p : Addr} {o : HO} (h : H p = none) : Stab H (L2.upd H p o) := Stab.upd (fun xs e => by rw [h] at e; cases e) (fun ob u e => by rw [h] at e; cases e)
theorem Stab.lst {H : Hp} {p : Addr} {o : HO} {xs : List V} (h : H p = some (.lst xs)) : Stab H (L2.upd H p o) := Stab.upd (fun xs e => by rw [h] at e; cases e) (fun ob u e => by rw [h] at e; cases e)

theorem SqT.stab {K : PySem.W.Frag} {H H' : Hp} {a : Addr} {xs : List V} (s : Stab H H') (h : SqT K H a xs) : SqT K H' a xs := by
  rcases h with (h | ⟨o, h⟩) | h
  · exact .inl (.inl (s.tups _ _ h))
  · exact .inl (.inr ⟨o, s.frzs _ _ _ h⟩)
  · exact .inr h
theorem SqX.stab {K : PySem.W.Frag} {H H' : Hp} {a : Addr} {xs : List V} (s : Stab H H') (h : SqX K H a xs) : SqX K H' a xs := by
  rcases h with (⟨o, h, k⟩ | h) | ⟨h, k⟩
  · exact .inl (.inl ⟨o, s.frzs _ _ _ h, k⟩)
  · exact .inl (.inr h)
  · exact .inr ⟨SqT.stab s h, k⟩
theorem FzL.stab {K : PySem.W.Frag} {H H' : Hp} {a : Addr} {xs : List V} (s : Stab H H') (h : FzL K H a xs) : FzL K H' a xs := by
  rcases h with ⟨o, h⟩ | h
  · exact .inl ⟨o, s.frzs _ _ _ h⟩
  · exact .inr h
mutual
theorem RelU.stab {K : PySem.W.Frag} {H H' : Hp} (s : Stab H H') : ∀ {u : U} {v : V}, RelU K H u v → RelU K H' u v
  | .non, _, h => h
  | .bl _, _, h => h
  | .int _, _, h => h
  | .str _, _, h => h
  | .ref _, _, h => h
  | .ty _, _, h => h
  | .tup xs, v, h => by
    simp only [RelU] at h ⊢
    obtain ⟨a, vs, e, q, r⟩ := h
    exact ⟨a, vs, e, SqX.stab s q, RelUs.stab s r⟩
  | .lst xs, v, h => by
    simp only [RelU] at h ⊢
    obtain ⟨a, vs, e, q, r⟩ := h
    exact ⟨a, vs, e, q.stab s, RelUs.stab s r⟩
theorem RelUs.stab {K : PySem.W.Frag} {H H' : Hp} (s : Stab H H') : ∀ {us : List U} {vs : List V}, RelUs K H us vs → RelUs K H' us vs
  | [], _, h => h
  | x :: xs, vs, h => by
    simp only [RelUs] at h ⊢
    obtain ⟨v, r, e, q, t⟩ := h
    exact ⟨v, r, e, RelU.stab s q, RelUs.stab s t⟩
end
section
variable {K : PySem.W.Frag} {H : Hp}
theorem RelUs.nil : RelUs K H [] [] := rfl
theorem RelUs.cons {x : U} {v : V} {xs : List U} {vs : List V} (h : RelU K H x v) (t : RelUs K H xs vs) : RelUs K H (x :: xs) (v :: vs) := ⟨v, vs, rfl, h, t⟩
theorem RelUs.length : ∀ {xs : List U} {vs : List V}, RelUs K H xs vs → xs.length = vs.length
  | [], _, h => by obtain rfl := h; rfl
  | x :: xs, _, h => by
    obtain ⟨v, r, rfl, _, t⟩ := h
    simp [RelUs.length t]
theorem RelUs.get : ∀ {xs : List U} {vs : List V} {i : Nat} {x : U}, RelUs K H xs vs → xs[i]? = some x → ∃ v, vs[i]? = some v ∧ RelU K H x v
  | [], _, _, _, _, e => by simp at e
  | x :: xs, _, 0, _, h, e => by
    obtain ⟨v, r, rfl, q, t⟩ := h
    simp at e; subst e
    exact ⟨v, rfl, q⟩
  | x :: xs, _, i + 1, y, h, e => by
    obtain ⟨v, r, rfl, q, t⟩ := h
    obtain ⟨w, e1, e2⟩ := RelUs.get (i := i) t (by simpa using e)
    exact ⟨w, by simpa using e1, e2⟩
theorem RelUs.append : ∀ {xs ys : List U} {vs ws : List V}, RelUs K H xs vs → RelUs K H ys ws → RelUs K H (xs ++ ys) (vs ++ ws)
  | [], _, _, _, h, k => by obtain rfl := h; exact k
  | x :: xs, ys, _, ws, h, k => by
    obtain ⟨v, r, rfl, q, t⟩ := h
    exact ⟨v, r ++ ws, rfl, q, RelUs.append t k⟩
theorem RelUs.set {x : U} {v : V} (q : RelU K H x v) : ∀ {xs : List U} {vs : List V} (i : Nat), RelUs K H xs vs → RelUs K H (xs.set i x) (vs.set i v)
  | [], _, _, h => by obtain rfl := h; exact RelUs.nil
  | y :: ys, _, 0, h => by
    obtain ⟨w, r, rfl, p, t⟩ := h
    exact ⟨v, r, rfl, q, t⟩
  | y :: ys, _, i + 1, h => by
    obtain ⟨w, r, rfl, p, t⟩ := h
    exact ⟨w, r.set i v, rfl, p, RelUs.set q i t⟩
theorem RelUs.take (n : Nat) : ∀ {xs : List U} {vs : List V}, RelUs K H xs vs → RelUs K H (xs.take n) (vs.take n) := by
  induction n with
  | zero => intro xs vs _; simp; exact RelUs.nil
  | succ n ih =>
    intro xs vs h
    cases xs with
    | nil => obtain rfl := h; exact RelUs.nil
    | cons x xs =>
      obtain ⟨v, r, rfl, q, t⟩ := h
      exact ⟨v, r.take n, rfl, q, ih t⟩
theorem RelUs.drop (n : Nat) : ∀ {xs : List U} {vs : List V}, RelUs K H xs vs → RelUs K H (xs.drop n) (vs.drop n) := by
  induction n with
  | zero => intro xs vs h; exact h
  | succ n ih =>
    intro xs vs h
    cases xs with
    | nil => obtain rfl := h; exact RelUs.nil
    | cons x xs =>
      obtain ⟨v, r, rfl, q, t⟩ := h
      exact ih t
theorem RelUs.eraseIdx : ∀ {xs : List U} {vs : List V} (i : Nat), RelUs K H xs vs → RelUs K H (xs.eraseIdx i) (vs.eraseIdx i)
  | [], _, _, h => by obtain rfl := h; exact RelUs.nil
  | y :: ys, _, 0, h => by
    obtain ⟨w, r, rfl, p, t⟩ := h
    exact t
  | y :: ys, _, i + 1, h => by
    obtain ⟨w, r, rfl, p, t⟩ := h
    exact ⟨w, r.eraseIdx i, rfl, p, RelUs.eraseIdx i t⟩
theorem RelUs.mem : ∀ {xs : List U} {vs : List V}, (∀ x ∈ xs, ∃ v, RelU K H x v) → ∃ vs, RelUs K H xs vs
  | [], _, _ => ⟨[], RelUs.nil⟩
  | x :: xs, vs, h => by
    obtain ⟨v, q⟩ := h x (by simp)
    obtain ⟨r, t⟩ := RelUs.mem (xs := xs) (vs := vs) fun y hy => h y (by simp [hy])
    exact ⟨v :: r, RelUs.cons q t⟩
end

/-- what may change: by address -/
inductive MO where
  | lst (xs : List U)
  | ins (C dx : Addr) (fs : List (Str × U))
  | xd (fs : List (Str × U))
  | dK (kvs : List (Key × U))
  | raw (u : HO)
  | exd (fs : List (Str × U))
  | dN (φ : Addr → List (NestedKey × Addr × V) → HO) (kvs : List (U × U))
  | sD (φ : List (Key × V) → HO) (kvs : List (Str × U))
  | tab (q : Str)
/-- a text's key -/
def skp (p : Str × U) : Key × U := (Sum.inr p.1, p.2)
mutual
/-- a key of any depth: texts, ints, None, tuples of these -/
def nkU : U → Option NestedKey
  | .non => some .none
  | .int i => some (.num i)
  | .str x => some (.text x)
  | .tup xs => (nkUs xs).map .tup
  | _ => none
def nkUs : List U → Option (List NestedKey)
  | [] => some []
  | x :: xs => match nkU x, nkUs xs with
    | some k, some ks => some (k :: ks)
    | _, _ => none
end
def RelKs {κ : Type} (K : PySem.W.Frag) (H : Hp) : List (κ × U) → List (κ × V) → Prop
  | [], vs => vs = []
  | (k, x) :: xs, vs => ∃ v r, vs = (k, v) :: r ∧ RelU K H x v ∧ RelKs K H xs r
theorem RelKs.stab {κ : Type} {K : PySem.W.Frag} {H H' : Hp} (s : Stab H H') : ∀ {us : List (κ × U)} {vs : List (κ × V)}, RelKs K H us vs → RelKs K H' us vs
  | [], _, h => h
  | (k, x) :: xs, vs, h => by
    simp only [RelKs] at h ⊢
    obtain ⟨v, r, e, q, t⟩ := h
    exact ⟨v, r, e, RelU.stab s q, RelKs.stab s t⟩
def RelDs (K : PySem.W.Frag) (H : Hp) : List (U × U) → List (NestedKey × Addr × V) → Prop
  | [], vs => vs = []
  | (k, x) :: xs, vs => ∃ nk b v r, vs = (nk, b, v) :: r ∧ nkU k = some nk ∧ nk.depth ≤ 8 ∧ RelU K H k (.ref b) ∧ RelU K H x v ∧ RelDs K H xs r
theorem RelDs.stab {K : PySem.W.Frag} {H H' : Hp} (s : Stab H H') : ∀ {us : List (U × U)} {vs : List (NestedKey × Addr × V)}, RelDs K H us vs → RelDs K H' us vs
  | [], _, h => h
  | (k, x) :: xs, vs, h => by
    simp only [RelDs] at h ⊢
    obtain ⟨nk, b, v, r, e, hk, hd, kb, q, t⟩ := h
    exact ⟨nk, b, v, r, e, hk, hd, RelU.stab s kb, RelU.stab s q, RelDs.stab s t⟩
abbrev UHp := Addr → Option MO
/-- a code object that a table tells -/
def CodeF (H : Hp) (cv : Value) (q : Str) : Prop := ∃ (c : Addr) (oc : Obj) (vs : Array Value) (t : Tok), cv = .ref c ∧ H c = some (.frz oc (.own 0)) ∧ oc.data = .fields vs ∧ vs[1]? = some (.str q t)
/-- a def's table of code objects, all of one name -/
def TabU (H : Hp) (P : Addr) (q : Str) : Prop := ∃ ps : Array Value, H P = some (.tbl ps) ∧ TriplesOk ps.toList ∧ ∀ (pos : Pos) (cv : Value), codeAmong pos ps.toList = some cv → CodeF H cv q
theorem CodeF.keep {H H' : Hp} {cv : Value} {q : Str} (s : ∀ b o x, H b = some (.frz o (.own x)) → H' b = some (.frz o (.own x))) (h : CodeF H cv q) : CodeF H' cv q := by
  obtain ⟨c, oc, vs, t, e1, e2, e3⟩ := h
  exact ⟨c, oc, vs, t, e1, s _ _ _ e2, e3⟩
def RelO (K : PySem.W.Frag) (H : Hp) (a : Addr) : MO → Prop
  | .lst xs => ∃ vs, H a = some (.lst vs) ∧ RelUs K H xs vs
  | .ins C dx fs => ∃ vs, H a = some (.ins C dx vs) ∧ RelKs K H fs vs
  | .xd fs => ∃ vs, H a = some (.xd vs) ∧ RelKs K H fs vs
  | .dK kvs => ∃ vs, H a = some (.dK vs) ∧ RelKs K H kvs vs
  | .raw u => H a = some u
  | .exd fs => ∃ vs, H a = some (L2.exd a vs) ∧ RelKs K H fs vs
  | .dN φ kvs => ∃ vs, H a = some (φ a vs) ∧ RelDs K H kvs vs
  | .sD φ kvs => ∃ vs, H a = some (φ vs) ∧ RelKs K H (kvs.map skp) vs
  | .tab q => TabU H a q
def RelM (K : PySem.W.Frag) (H : Hp) (M : UHp) : Prop := ∀ a o, M a = some o → RelO K H a o
def updM (M : UHp) (a : Addr) (o : MO) : UHp := fun b => if b = a then some o else M b
theorem updM_same {M : UHp} {a : Addr} {o : MO} : updM M a o a = some o := by unfold updM; rw [if_pos rfl]
theorem updM_ne {M : UHp} {a b : Addr} {o : MO} (h : b ≠ a) : updM M a o b = M b := by unfold updM; rw [if_neg h]
theorem updM_updM {M : UHp} {a : Addr} {o u : MO} : updM (updM M a o) a u = updM M a u := by
  funext b; unfold updM; split <;> rfl
theorem updM_comm {M : UHp} {a b : Addr} {o u : MO} (h : a ≠ b) : updM (updM M a o) b u = updM (updM M b u) a o := by
  funext c; unfold updM
  by_cases h1 : c = a
  · subst h1; simp [h]
  · simp [h1]
section
variable {K : PySem.W.Frag} {H H' : Hp} {M : UHp} {a p : Addr} {o : MO}
theorem RelO.some (h : RelO K H a o) : ∃ u, H a = some u := by
  cases o with
  | raw u => exact ⟨_, h⟩
  | _ => obtain ⟨vs, e, _⟩ := h; exact ⟨_, e⟩
theorem RelM.none (h : RelM K H M) (e : H p = Option.none) : M p = Option.none := by
  cases q : M p with
  | none => rfl
  | some o => obtain ⟨u, e'⟩ := (h p o q).some; rw [e] at e'; cases e'
/-- an object that stands at another place too -/
theorem RelO.at (s : Stab H H') (h : RelO K H a o) (e : H' a = H a) : RelO K H' a o := by
  cases o with
  | lst xs => obtain ⟨vs, q, r⟩ := h; exact ⟨vs, e.trans q, r.stab s⟩
  | ins C dx fs => obtain ⟨vs, q, r⟩ := h; exact ⟨vs, e.trans q, r.stab s⟩
  | xd fs => obtain ⟨vs, q, r⟩ := h; exact ⟨vs, e.trans q, r.stab s⟩
  | dK kvs => obtain ⟨vs, q, r⟩ := h; exact ⟨vs, e.trans q, r.stab s⟩
  | raw u => exact e.trans h
  | exd fs => obtain ⟨vs, q, r⟩ := h; exact ⟨vs, e.trans q, r.stab s⟩
  | dN φ kvs => obtain ⟨vs, q, r⟩ := h; exact ⟨vs, e.trans q, r.stab s⟩
  | sD φ kvs => obtain ⟨vs, q, r⟩ := h; exact ⟨vs, e.trans q, r.stab s⟩
  | tab q => obtain ⟨ps, e1, e2, e3⟩ := h; exact ⟨ps, e.trans e1, e2, fun pos cv hc => (e3 pos cv hc).keep fun b o x h => s.frzs b o _ h⟩
/-- laid at a place that was free, of no concern to M -/
theorem RelM.beside {u : HO} (h : RelM K H M) (hn : H p = Option.none) : RelM K (upd H p u) M := fun b o e => by
  have hb : b ≠ p := fun z => by subst z; obtain ⟨w, q⟩ := (h b o e).some; rw [hn] at q; cases q
  exact (h b o e).at (Stab.new hn) (upd_ne hb)
theorem RelM.write {u : HO} (h : RelM K H M) (s : Stab H (upd H p u)) (new : RelO K (upd H p u) p o) : RelM K (upd H p u) (updM M p o) := fun b w e => by
  by_cases hb : b = p
  · subst hb; rw [updM_same] at e; cases e; exact new
  · rw [updM_ne hb] at e
    exact (h b w e).at s (upd_ne hb)
end

abbrev USt := List (Option U)
structure RelS (K : PySem.W.Frag) (H : Hp) (σ : USt) (τ : L2.St) : Prop where
  len : σ.length = τ.length
  get : ∀ (i : Nat) (u : U), σ[i]? = some (some u) → ∃ v, τ[i]? = some (some v) ∧ RelU K H u v
theorem RelS.stab {K : PySem.W.Frag} {H H' : Hp} (s : Stab H H') {σ : USt} {τ : L2.St} (h : RelS K H σ τ) : RelS K H' σ τ :=
  ⟨h.len, fun i u e => let ⟨v, e1, e2⟩ := h.get i u e; ⟨v, e1, e2.stab s⟩⟩
theorem RelS.set {K : PySem.W.Frag} {H : Hp} {σ : USt} {τ : L2.St} (h : RelS K H σ τ) {u : U} {v : V} (r : RelU K H u v) (i : Nat) : RelS K H (σ.set i (some u)) (τ.set i (some v)) :=
  ⟨by simp [h.len], fun j w e => by
    by_cases hj : i = j
    · subst hj
      by_cases hl : i < σ.length
      · rw [List.getElem?_set_self hl] at e; cases e
        exact ⟨v, by rw [List.getElem?_set_self (by rw [← h.len]; exact hl)], r⟩
      · rw [List.getElem?_eq_none (by simpa using hl)] at e; cases e
    · rw [List.getElem?_set_ne hj] at e ⊢
      exact h.get j w e⟩
theorem RelS.unset {K : PySem.W.Frag} {H : Hp} {σ : USt} {τ : L2.St} (h : RelS K H σ τ) (i : Nat) (o : Option V) : RelS K H (σ.set i none) (τ.set i o) :=
  ⟨by simp [h.len], fun j w e => by
    by_cases hj : i = j
    · subst hj
      by_cases hl : i < σ.length
      · rw [List.getElem?_set_self hl] at e; cases e
      · rw [List.getElem?_eq_none (by simpa using hl)] at e; cases e
    · rw [List.getElem?_set_ne hj] at e ⊢
      exact h.get j w e⟩

/-! ### the judgements -/
abbrev UK := U → UHp → Prop
abbrev UTE := USt → UHp → UK → Prop
abbrev UTT := USt → UHp → (Bool → UHp → Prop) → Prop
abbrev UTA := USt → UHp → (List U → UHp → Prop) → Prop
structure UEnds where
  nx : USt → UHp → Prop
  rt : UK
  bk : USt → UHp → Prop := fun _ _ => False
  ct : USt → UHp → Prop := fun _ _ => False
abbrev UTS := UEnds → USt → UHp → Prop
abbrev UTG := U → USt → UHp → (USt → UHp → Prop) → Prop

def UpK (K : PySem.W.Frag) (H : Hp) (Qu : UK) (Q : VK) : Prop := ∀ x M' v H', Qu x M' → Stab H H' → RelM K H' M' → RelU K H' x v → Q v H'
def UpB (K : PySem.W.Frag) (H : Hp) (Qu : Bool → UHp → Prop) (Q : Bool → Hp → Prop) : Prop := ∀ b M' H', Qu b M' → Stab H H' → RelM K H' M' → Q b H'
def UpA (K : PySem.W.Frag) (H : Hp) (Qu : List U → UHp → Prop) (Q : List V → Hp → Prop) : Prop := ∀ xs M' vs H', Qu xs M' → Stab H H' → RelM K H' M' → RelUs K H' xs vs → Q vs H'
def UpS (K : PySem.W.Frag) (H : Hp) (Qu : USt → UHp → Prop) (Q : L2.St → Hp → Prop) : Prop := ∀ σ' M' τ' H', Qu σ' M' → Stab H H' → RelM K H' M' → RelS K H' σ' τ' → Q τ' H'
structure UpD (K : PySem.W.Frag) (H : Hp) (Du : UEnds) (D : Ends) : Prop where
  nx : UpS K H Du.nx D.nx
  rt : UpK K H Du.rt D.rt
  bk : UpS K H Du.bk D.bk
  ct : UpS K H Du.ct D.ct
section
variable {K : PySem.W.Frag} {H H' : Hp}
theorem UpK.from {Qu : UK} {Q : VK} (h : UpK K H Qu Q) (s : Stab H H') : UpK K H' Qu Q := fun x M' v H2 q s2 m r => h x M' v H2 q (s.trans s2) m r
theorem UpB.from {Qu : Bool → UHp → Prop} {Q : Bool → Hp → Prop} (h : UpB K H Qu Q) (s : Stab H H') : UpB K H' Qu Q := fun x M' H2 q s2 m => h x M' H2 q (s.trans s2) m
theorem UpA.from {Qu : List U → UHp → Prop} {Q : List V → Hp → Prop} (h : UpA K H Qu Q) (s : Stab H H') : UpA K H' Qu Q := fun x M' v H2 q s2 m r => h x M' v H2 q (s.trans s2) m r
theorem UpS.from {Qu : USt → UHp → Prop} {Q : L2.St → Hp → Prop} (h : UpS K H Qu Q) (s : Stab H H') : UpS K H' Qu Q := fun x M' v H2 q s2 m r => h x M' v H2 q (s.trans s2) m r
theorem UpD.from {Qu : UEnds} {Q : Ends} (h : UpD K H Qu Q) (s : Stab H H') : UpD K H' Qu Q := ⟨h.nx.from s, h.rt.from s, h.bk.from s, h.ct.from s⟩
end
def dnE (K : PySem.W.Frag) (t : UTE) : TE := fun τ H Q => ∃ σ M Qu, RelS K H σ τ ∧ RelM K H M ∧ t σ M Qu ∧ UpK K H Qu Q
def dnT (K : PySem.W.Frag) (t : UTT) : TT := fun τ H Q => ∃ σ M Qu, RelS K H σ τ ∧ RelM K H M ∧ t σ M Qu ∧ UpB K H Qu Q
def dnA (K : PySem.W.Frag) (t : UTA) : TA := fun τ H Q => ∃ σ M Qu, RelS K H σ τ ∧ RelM K H M ∧ t σ M Qu ∧ UpA K H Qu Q
def dnS (K : PySem.W.Frag) (t : UTS) : TS := fun D τ H => ∃ σ M Du, RelS K H σ τ ∧ RelM K H M ∧ t Du σ M ∧ UpD K H Du D
def dnG (K : PySem.W.Frag) (t : UTG) : TG := fun v τ H Q => ∃ u σ M Qu, RelU K H u v ∧ RelS K H σ τ ∧ RelM K H M ∧ t u σ M Qu ∧ UpS K H Qu Q
abbrev UE (X : Cx) (e : Expr) (t : UTE) : Prop := PE X e (dnE X.K t)
abbrev UT (X : Cx) (e : Expr) (t : UTT) : Prop := PT X e (dnT X.K t)
abbrev UW (X : Cx) (e : Expr) (t : UTT) : Prop := PW X e (dnT X.K t)
abbrev UA (X : Cx) (es : List Expr) (t : UTA) : Prop := PA X es (dnA X.K t)
abbrev US (X : Cx) (st : Stmt) (t : UTS) : Prop := PS X st (dnS X.K t)
abbrev USs (X : Cx) (st : List Stmt) (t : UTS) : Prop := PSs X st (dnS X.K t)
abbrev UG (X : Cx) (e : Expr) (t : UTG) : Prop := PG X e (dnG X.K t)
section
variable {X : Cx}
theorem PE.mono {e : Expr} {t t' : TE} (h : PE X e t) (w : ∀ σ H Q, t' σ H Q → t σ H Q) : PE X e t' := ⟨fun pins s σ H Q I q => h.run pins s σ H Q I (w σ H Q q)⟩
theorem PT.mono {e : Expr} {t t' : TT} (h : PT X e t) (w : ∀ σ H Q, t' σ H Q → t σ H Q) : PT X e t' := ⟨fun pins s σ H Q I q => h.run pins s σ H Q I (w σ H Q q)⟩
theorem PW.mono {e : Expr} {t t' : TT} (h : PW X e t) (w : ∀ σ H Q, t' σ H Q → t σ H Q) : PW X e t' := ⟨fun wh pins s σ H Q I q => h.run wh pins s σ H Q I (w σ H Q q)⟩
theorem PA.mono {es : List Expr} {t t' : TA} (h : PA X es t) (w : ∀ σ H Q, t' σ H Q → t σ H Q) : PA X es t' := ⟨fun pos pins s σ H Q I q => h.run pos pins s σ H Q I (w σ H Q q)⟩
theorem PS.mono {st : Stmt} {t t' : TS} (h : PS X st t) (w : ∀ D σ H, t' D σ H → t D σ H) : PS X st t' := ⟨fun pins s σ H D I q => h.run pins s σ H D I (w D σ H q)⟩
theorem PSs.mono {st : List Stmt} {t t' : TS} (h : PSs X st t) (w : ∀ D σ H, t' D σ H → t D σ H) : PSs X st t' := ⟨fun pins s σ H D I q => h.run pins s σ H D I (w D σ H q)⟩
theorem PG.mono {e : Expr} {t t' : TG} (h : PG X e t) (w : ∀ v σ H Q, t' v σ H Q → t v σ H Q) : PG X e t' := ⟨fun pins s σ H v u Q I r q => h.run pins s σ H v u Q I r (w v σ H Q q)⟩

/-! ### names, constants -/
def uVar (i : Nat) (σ : USt) (M : UHp) (Q : UK) : Prop := ∃ v, σ[i]? = some (some v) ∧ Q v M
def uC (v : U) (_ : USt) (M : UHp) (Q : UK) : Prop := Q v M
theorem uv (i : Nat) {x : Str} {pos : Pos} (hN : X.N[i]? = some x := by rfl) (hv : Vis X.env.scope x := by first | exact Or.inl rfl | exact Or.inr (Or.inl rfl) | exact Or.inr (Or.inr rfl)) (hd : (x == ("__debug__" : Str)) = false := by decide)
    (hcd : (x == ("__classdict__" : Str)) = false := by decide) : UE X (.Name x pos) (uVar i) := PE.mono (pe_var hN hv hd hcd) fun τ H Q h => by
  obtain ⟨σ, M, Qu, rs, rm, ⟨u, e, q⟩, up⟩ := h
  obtain ⟨v, e1, r⟩ := rs.get i u e
  exact ⟨v, e1, up u M v H q (Stab.refl H) rm r⟩
theorem dn_c {c : U} {v : V} (r : ∀ H, RelU X.K H c v) : ∀ σ H Q, dnE X.K (uC c) σ H Q → tC v σ H Q := fun τ H Q h => by
  obtain ⟨σ, M, Qu, rs, rm, q, up⟩ := h
  exact up c M v H q (Stab.refl H) rm (r H)
theorem ue_int {i j pos} : UE X (.Constant (.int i) j pos) (uC (.int i)) := PE.mono pe_int (dn_c fun _ => rfl)
theorem ue_bl {b j pos} : UE X (.Constant (.bool b) j pos) (uC (.bl b)) := PE.mono pe_bl (dn_c fun _ => rfl)
theorem ue_non {j pos} : UE X (.Constant .none j pos) (uC .non) := PE.mono pe_non (dn_c fun _ => rfl)
theorem ue_str {x j pos} (hx : okS x = true := by decide +kernel) : UE X (.Constant (.str x) j pos) (uC (.str x)) := PE.mono pe_str (dn_c fun _ => ⟨rfl, hx⟩)
/-- a module's constant -/
theorem ue_glob {x : Str} {c : U} {v : V} {u : Value} {pos : Pos} (hg : Gl X x) (hm : X.mg x = some u) (r : RelV v u) (ru : ∀ H, RelU X.K H c v) (hd : (x == ("__debug__" : Str)) = false := by decide) : UE X (.Name x pos) (uC c) := PE.mono (pe_glob hg hm r hd) (dn_c ru)
theorem ue_bltn {x : Str} {n : String} {pos : Pos} (hg : Gl X x) (hm : X.mg x = none) (hv : bootBuiltins x = some (.type n)) (hn : x ≠ "__name__" := by decide) (hd : (x == ("__debug__" : Str)) = false := by decide) : UE X (.Name x pos) (uC (.ty n)) := PE.mono (pe_bltn (v := .ty n) hg hm hv rfl hn hd) (dn_c fun _ => rfl)

/-! ### operators by values -/
abbrev UR2 := U → U → UHp → UK → Prop
def dn2 (K : PySem.W.Frag) (r : UR2) : R2 := fun v w H Q => ∃ x y M Qu, RelU K H x v ∧ RelU K H y w ∧ RelM K H M ∧ r x y M Qu ∧ UpK K H Qu Q
abbrev UOpR (X : Cx) (f : Value → Value → Sem Value) (r : UR2) : Prop := OpR X f (dn2 X.K r)
theorem OpR.mono {f : Value → Value → Sem Value} {r r' : R2} (h : OpR X f r) (w : ∀ x y H Q, r' x y H Q → r x y H Q) : OpR X f r' := fun pins s σ H x y v u Q I rx ry q => h pins s σ H x y v u Q I rx ry (w x y H Q q)
def uOp (r : UR2) (ta tb : UTE) (σ : USt) (M : UHp) (Q : UK) : Prop := ta σ M fun x M1 => tb σ M1 fun y M2 => r x y M2 Q
theorem dn_op {r : UR2} {ta tb : UTE} : ∀ σ H Q, dnE X.K (uOp r ta tb) σ H Q → tOp (dn2 X.K r) (dnE X.K ta) (dnE X.K tb) σ H Q := fun τ H Q h => by
  obtain ⟨σ, M, Qu, rs, rm, q, up⟩ := h
  refine ⟨σ, M, _, rs, rm, q, fun x M1 v H1 q1 s1 m1 r1 => ?_⟩
  refine ⟨σ, M1, _, rs.stab s1, m1, q1, fun y M2 w H2 q2 s2 m2 r2 => ?_⟩
  exact ⟨x, y, M2, Qu, r1.stab s2, r2, m2, q2, up.from (s1.trans s2)⟩
variable {a b : Expr} {ta tb : UTE} {pos : Pos}
theorem ue_op {op : Operator} {r : UR2} (ho : UOpR X (binaryOp op) r) (ha : UE X a ta) (hb : UE X b tb) : UE X (.BinOp a op b pos) (uOp r ta tb) := PE.mono (pe_op ho ha hb) dn_op
theorem ue_cmp {op : CmpOp} {r : UR2} (ho : UOpR X (compareOp op) r) (ha : UE X a ta) (hb : UE X b tb) (hm : behindInMarks op b = false) : UE X (.Compare a [op] [b] pos) (uOp r ta tb) := PE.mono (pe_cmpR ho ha hb hm) dn_op
/-- a value that is a bool, as a test -/
def uB (t : UTE) (σ : USt) (M : UHp) (Q : Bool → UHp → Prop) : Prop := t σ M fun x M' => ∃ k, x = .bl k ∧ Q k M'
theorem dn_b {t : UTE} {r : TE} (w : ∀ σ H Q, dnE X.K t σ H Q → r σ H Q) : ∀ σ H Q, dnT X.K (uB t) σ H Q → tTest r σ H Q := fun τ H Q h => by
  obtain ⟨σ, M, Qu, rs, rm, q, up⟩ := h
  refine w _ _ _ ⟨σ, M, _, rs, rm, q, fun x M1 v H1 q1 s1 m1 r1 => ?_⟩
  obtain ⟨k, rfl, q⟩ := q1
  obtain rfl := r1
  exact ⟨k, rfl, up k M1 H1 q s1 m1⟩
theorem ut_cmp {op : CmpOp} {r : UR2} (ho : UOpR X (compareOp op) r) (ha : UE X a ta) (hb : UE X b tb) (hm : behindInMarks op b = false) : UT X (.Compare a [op] [b] pos) (uB (uOp r ta tb)) := PT.mono (pt_cmpR ho ha hb hm) (dn_b dn_op)
def uChain (r r' : UR2) (ta tb tc : UTE) (σ : USt) (M : UHp) (Q : UK) : Prop := ta σ M fun x M1 => tb σ M1 fun y M2 => r x y M2 fun z M3 => ∃ k, z = .bl k ∧
  (if k = true then tc σ M3 fun w' M4 => r' y w' M4 Q else Q (.bl false) M3)
abbrev UR1 := U → UHp → UK → Prop
def dn1 (K : PySem.W.Frag) (r : UR1) : V → Hp → VK → Prop := fun v H Q => ∃ x M Qu, RelU K H x v ∧ RelM K H M ∧ r x M Qu ∧ UpK K H Qu Q
def uUn (r : UR1) (ta : UTE) (σ : USt) (M : UHp) (Q : UK) : Prop := ta σ M fun x M1 => r x M1 Q
theorem ue_un {op : UnaryOp} {r : UR1} (ho : UnR X (unaryOp op) (dn1 X.K r)) (ha : UE X a ta) : UE X (.UnaryOp op a pos) (uUn r ta) := PE.mono (pe_un ho ha) fun τ H Q h => by
  obtain ⟨σ, M, Qu, rs, rm, q, up⟩ := h
  refine ⟨σ, M, _, rs, rm, q, fun x M1 v H1 q1 s1 m1 r1 => ?_⟩
  exact ⟨x, M1, Qu, r1, m1, q1, up.from s1⟩

/-! ### truth -/
def truU (M : UHp) : U → Option Bool
  | .non => some false
  | .bl b => some b
  | .int i => some (i != 0)
  | .str x => some ((x.length : Int) != 0)
  | .tup xs => some (!xs.isEmpty)
  | .lst xs => some (!xs.isEmpty)
  | .ref a => match M a with
    | some (.lst xs) => some (!xs.isEmpty)
    | some (.dK kvs) => some (!kvs.isEmpty)
    | _ => none
  | .ty _ => none
theorem isEmpty_us {K : PySem.W.Frag} {H : Hp} {xs : List U} {vs : List V} (r : RelUs K H xs vs) : xs.isEmpty = vs.isEmpty := by
  cases xs with
  | nil => obtain rfl := r; rfl
  | cons x xs => obtain ⟨v, t, rfl, _⟩ := r; rfl
theorem isEmpty_ks {κ : Type} {K : PySem.W.Frag} {H : Hp} {xs : List (κ × U)} {vs : List (κ × V)} (r : RelKs K H xs vs) : xs.isEmpty = vs.isEmpty := by
  cases xs with
  | nil => obtain rfl := r; rfl
  | cons x xs => obtain ⟨v, t, rfl, _⟩ := r; rfl
theorem tru_dn {K : PySem.W.Frag} {H : Hp} {M : UHp} {x : U} {v : V} {k : Bool} (rm : RelM K H M) (r : RelU K H x v) (h : truU M x = some k) : TruV K v H k := by
  cases x with
  | non => obtain rfl := r; simp only [truU,Option.some.injEq] at h; exact h.symm
  | bl b => obtain rfl := r; simp only [truU,Option.some.injEq] at h; exact h.symm
  | int i => obtain rfl := r; simp only [truU,Option.some.injEq] at h; exact h.symm
  | str y => obtain ⟨rfl, z⟩ := r; simp only [truU,Option.some.injEq] at h; exact ⟨okS.len z, h.symm⟩
  | ty n => simp [truU] at h
  | tup xs =>
    obtain ⟨a, vs, rfl, q, t⟩ := r
    simp only [truU,Option.some.injEq] at h
    exact .inr (.inl ⟨vs, q, by rw [← h, isEmpty_us t]⟩)
  | lst xs =>
    obtain ⟨a, vs, rfl, q, t⟩ := r
    simp only [truU,Option.some.injEq] at h
    exact .inl ⟨vs, q.sq, by rw [← h, isEmpty_us t]⟩
  | ref a =>
    obtain rfl := r
    simp only [truU] at h
    cases e : M a with
    | none => rw [e] at h; cases h
    | some o =>
      rw [e] at h
      have ro := rm a o e
      cases o with
      | lst xs => obtain ⟨vs, q, t⟩ := ro; simp only [Option.some.injEq] at h; exact .inl ⟨vs, SqL.of q, by rw [← h, isEmpty_us t]⟩
      | dK kvs => obtain ⟨vs, q, t⟩ := ro; simp only [Option.some.injEq] at h; exact .inr (.inr ⟨vs, q, by rw [← h, isEmpty_ks t]⟩)
      | ins _ _ _ => cases h
      | xd _ => cases h
      | raw _ => cases h
      | exd _ => cases h
      | dN _ _ => cases h
      | sD _ _ => cases h
      | tab _ => cases h
def uTru (t : UTE) (σ : USt) (M : UHp) (Q : Bool → UHp → Prop) : Prop := t σ M fun x M' => ∃ k, truU M' x = some k ∧ Q k M'
theorem ut_val (ha : UE X a ta) (he : ∀ whole, isTrue a X.env whole = (do let v ← whole; standAt a.pos; holding [v] (truthy v)) := by intro _; rfl) : UT X a (uTru ta) := PT.mono (pt_truth ha he) fun τ H Q h => by
  obtain ⟨σ, M, Qu, rs, rm, q, up⟩ := h
  refine ⟨σ, M, _, rs, rm, q, fun x M1 v H1 q1 s1 m1 r1 => ?_⟩
  obtain ⟨k, e, q⟩ := q1
  exact ⟨k, tru_dn m1 r1 e, up k M1 H1 q s1 m1⟩

/-! ### and, or, not, if -/
variable {rest : List Expr} {t u : UTT}
def z8d (t u : UTT) (σ : USt) (M : UHp) (Q : Bool → UHp → Prop) : Prop := t σ M fun c M1 => if c = true then u σ M1 Q else Q false M1
def uOr (t u : UTT) (σ : USt) (M : UHp) (Q : Bool → UHp → Prop) : Prop := t σ M fun c M1 => if c = true then Q true M1 else u σ M1 Q
def z8m (t : UTT) (σ : USt) (M : UHp) (Q : Bool → UHp → Prop) : Prop := t σ M fun c M1 => Q (!c) M1
theorem uw_and1 (ha : UT X a t) : UW X (.BoolOp .And [a] pos) t := pw_and1 ha
theorem uw_or1 (ha : UT X a t) : UW X (.BoolOp .Or [a] pos) t := pw_or1 ha
theorem uw_and (ha : UT X a t) (hb : UW X (.BoolOp .And (b :: rest) pos) u) : UW X (.BoolOp .And (a :: b :: rest) pos) (z8d t u) := PW.mono (pw_and ha hb) fun τ H Q h => by
  obtain ⟨σ, M, Qu, rs, rm, q, up⟩ := h
  refine ⟨σ, M, _, rs, rm, q, fun c M1 H1 q1 s1 m1 => ?_⟩
  cases c with
  | true =>
    simp only [if_true] at q1 ⊢
    exact ⟨σ, M1, _, rs.stab s1, m1, q1, up.from s1⟩
  | false =>
    simp only [Bool.false_eq_true,if_false] at q1 ⊢
    exact up _ M1 H1 q1 s1 m1
theorem uw_or (ha : UT X a t) (hb : UW X (.BoolOp .Or (b :: rest) pos) u) : UW X (.BoolOp .Or (a :: b :: rest) pos) (uOr t u) := PW.mono (pw_or ha hb) fun τ H Q h => by
  obtain ⟨σ, M, Qu, rs, rm, q, up⟩ := h
  refine ⟨σ, M, _, rs, rm, q, fun c M1 H1 q1 s1 m1 => ?_⟩
  cases c with
  | true =>
    simp only [if_true] at q1 ⊢
    exact up _ M1 H1 q1 s1 m1
  | false =>
    simp only [Bool.false_eq_true,if_false] at q1 ⊢
    exact ⟨σ, M1, _, rs.stab s1, m1, q1, up.from s1⟩
theorem ut_not (ha : UT X a t) : UT X (.UnaryOp .Not a pos) (z8m t) := PT.mono (pt_not ha) fun τ H Q h => by
  obtain ⟨σ, M, Qu, rs, rm, q, up⟩ := h
  exact ⟨σ, M, _, rs, rm, q, fun c M1 H1 q1 s1 m1 => up (!c) M1 H1 q1 s1 m1⟩
def uIf (t : UTT) (ta tb : UTE) (σ : USt) (M : UHp) (Q : UK) : Prop := t σ M fun c M1 => if c = true then ta σ M1 Q else tb σ M1 Q
theorem ue_if {c : Expr} (hc : UT X c t) (ha : UE X a ta) (hb : UE X b tb) : UE X (.IfExp c a b pos) (uIf t ta tb) := PE.mono (pe_ifExp hc ha hb) fun τ H Q h => by
  obtain ⟨σ, M, Qu, rs, rm, q, up⟩ := h
  refine ⟨σ, M, _, rs, rm, q, fun c M1 H1 q1 s1 m1 => ?_⟩
  cases c with
  | true =>
    simp only [if_true] at q1 ⊢
    exact ⟨σ, M1, _, rs.stab s1, m1, q1, up.from s1⟩
  | false =>
    simp only [Bool.false_eq_true,if_false] at q1 ⊢
    exact ⟨σ, M1, _, rs.stab s1, m1, q1, up.from s1⟩

/-! ### argument lists -/
def z8l (_ : USt) (M : UHp) (Q : List U → UHp → Prop) : Prop := Q [] M
def z7t (ta : UTE) (tr : UTA) (σ : USt) (M : UHp) (Q : List U → UHp → Prop) : Prop := ta σ M fun x M1 => tr σ M1 fun xs M2 => Q (x :: xs) M2
theorem ua_nil : UA X [] z8l := PA.mono pa_nil fun τ H Q h => by
  obtain ⟨σ, M, Qu, rs, rm, q, up⟩ := h
  exact up [] M [] H q (Stab.refl H) rm RelUs.nil
theorem ua_cons {e : Expr} {es : List Expr} {te : UTE} {tr : UTA} (ha : UE X e te) (hr : UA X es tr) (hs : starEach (e :: es) X.env = (false, eval e X.env) :: starEach es X.env := by rfl) : UA X (e :: es) (z7t te tr) := PA.mono (pa_cons ha hr hs) fun τ H Q h => by
  obtain ⟨σ, M, Qu, rs, rm, q, up⟩ := h
  refine ⟨σ, M, _, rs, rm, q, fun x M1 v H1 q1 s1 m1 r1 => ?_⟩
  refine ⟨σ, M1, _, rs.stab s1, m1, q1, fun xs M2 vs H2 q2 s2 m2 r2 => ?_⟩
  exact up _ M2 _ H2 q2 (s1.trans s2) m2 (RelUs.cons (r1.stab s2) r2)

/-! ### statements -/
variable {st : Stmt} {sts : List Stmt} {p q : UTS} {e : Expr} {te : UTE}
def z7w (D : UEnds) (σ : USt) (M : UHp) : Prop := D.nx σ M
def z8q (t u : UTS) (D : UEnds) (σ : USt) (M : UHp) : Prop := t { D with nx := u D } σ M
theorem uss_nil : USs X [] z7w := PSs.mono pss_nil fun D τ H h => by
  obtain ⟨σ, M, Du, rs, rm, q, up⟩ := h
  exact up.nx σ M τ H q (Stab.refl H) rm rs
theorem uss_cons (h1 : US X st p) (h2 : USs X sts q) : USs X (st :: sts) (z8q p q) := PSs.mono (pss_cons h1 h2) fun D τ H h => by
  obtain ⟨σ, M, Du, rs, rm, q, up⟩ := h
  refine ⟨σ, M, _, rs, rm, q, ⟨fun σ1 M1 τ1 H1 q1 s1 m1 r1 => ?_, up.rt, up.bk, up.ct⟩⟩
  exact ⟨σ1, M1, Du, r1, m1, q1, up.from s1⟩
theorem uss_one (h1 : US X st p) : USs X [st] p := pss_one h1
def z7u (te : UTE) (D : UEnds) (σ : USt) (M : UHp) : Prop := te σ M fun _ M1 => D.nx σ M1
theorem us_expr (he : UE X e te) (hs : swapsWith e none pos.line X.env = pure false := by rfl) : US X (.Expr e pos) (z7u te) := PS.mono (ps_expr he hs) fun D τ H h => by
  obtain ⟨σ, M, Du, rs, rm, q, up⟩ := h
  exact ⟨σ, M, _, rs, rm, q, fun x M1 v H1 q1 s1 m1 r1 => up.nx σ M1 τ H1 q1 s1 m1 (rs.stab s1)⟩
def z8o (te : UTE) (D : UEnds) (σ : USt) (M : UHp) : Prop := te σ M D.rt
theorem us_ret (he : UE X e te) : US X (.Return (some e) pos) (z8o te) := PS.mono (ps_ret he) fun D τ H h => by
  obtain ⟨σ, M, Du, rs, rm, q, up⟩ := h
  exact ⟨σ, M, _, rs, rm, q, up.rt⟩
def z8i (c : UTT) (t u : UTS) (D : UEnds) (σ : USt) (M : UHp) : Prop := c σ M fun b M1 => if b = true then t D σ M1 else u D σ M1
theorem us_if {c : Expr} {as bs : List Stmt} (hc : UT X c t) (ha : USs X as p) (hb : USs X bs q) : US X (.If c as bs pos) (z8i t p q) := PS.mono (ps_if hc ha hb) fun D τ H h => by
  obtain ⟨σ, M, Du, rs, rm, q, up⟩ := h
  refine ⟨σ, M, _, rs, rm, q, fun c M1 H1 q1 s1 m1 => ?_⟩
  cases c with
  | true =>
    simp only [if_true] at q1 ⊢
    exact ⟨σ, M1, _, rs.stab s1, m1, q1, up.from s1⟩
  | false =>
    simp only [Bool.false_eq_true,if_false] at q1 ⊢
    exact ⟨σ, M1, _, rs.stab s1, m1, q1, up.from s1⟩
/-! ### targets -/
def z7v (i : Nat) (v : U) (σ : USt) (M : UHp) (Q : USt → UHp → Prop) : Prop := Q (σ.set i (some v)) M
theorem ug_name {i : Nat} {x : Str} (hN : X.N.Nodup) (hi : X.N[i]? = some x) (hx : Loc X.env.scope x) (hf : X.fn x = true ∨ X.env.scope.names.lookup x = some .local := by first | exact .inl rfl | exact .inr rfl | assumption) : UG X (.Name x pos) (z7v i) :=
  PG.mono (pg_name hN hi hx hf) fun v τ H Q h => by
    obtain ⟨u, σ, M, Qu, ru, rs, rm, q, up⟩ := h
    exact up _ M _ H q (Stab.refl H) rm (rs.set ru i)
def z8e (te : UTE) (g : UTG) (D : UEnds) (σ : USt) (M : UHp) : Prop := te σ M fun x M1 => g x σ M1 D.nx
theorem us_asg {tg : Expr} {g : UTG} (he : UE X e te) (hg : UG X tg g) (hs : swapsWithSole [tg] e pos.line X.env = pure false := by rfl) (hw : swappedStores [tg] e X.env = pure none := by rfl)
    (h1 : (assignEach [tg] X.env).map (·.2) = [assign tg X.env] := by rfl) : US X (.Assign [tg] e pos) (z8e te g) := PS.mono (ps_asg he hg hs hw h1) fun D τ H h => by
  obtain ⟨σ, M, Du, rs, rm, q, up⟩ := h
  refine ⟨σ, M, _, rs, rm, q, fun x M1 v H1 q1 s1 m1 r1 => ?_⟩
  exact ⟨x, σ, M1, _, r1, rs.stab s1, m1, q1, up.nx.from s1⟩
theorem us_set {i : Nat} {x : Str} {pos' : Pos} (hN : X.N.Nodup) (hi : X.N[i]? = some x) (hx : Loc X.env.scope x) (he : UE X e te) (hs : swapsWith e (some (.Name x pos')) pos.line X.env = pure false := by rfl)
    (hf : X.fn x = true ∨ X.env.scope.names.lookup x = some .local := by first | exact .inl rfl | exact .inr rfl | assumption) : US X (.Assign [.Name x pos'] e pos) (z8e te (z7v i)) := PS.mono (ps_set hN hi hx he hs hf) fun D τ H h => by
  obtain ⟨σ, M, Du, rs, rm, q, up⟩ := h
  refine ⟨σ, M, _, rs, rm, q, fun x M1 v H1 q1 s1 m1 r1 => ?_⟩
  exact up.nx _ M1 _ H1 q1 s1 m1 ((rs.stab s1).set r1 i)
/-- a, b = .. of a tuple or a list of that length -/
abbrev UTGs := List U → USt → UHp → (USt → UHp → Prop) → Prop
def dnGs (K : PySem.W.Frag) (t : UTGs) : TGs := fun vs τ H Q => ∃ us σ M Qu, RelUs K H us vs ∧ RelS K H σ τ ∧ RelM K H M ∧ t us σ M Qu ∧ UpS K H Qu Q
abbrev UGs (X : Cx) (es : List Expr) (t : UTGs) : Prop := PGs X es (dnGs X.K t)
def ugNil (us : List U) (σ : USt) (M : UHp) (Q : USt → UHp → Prop) : Prop := us = [] ∧ Q σ M
def ugCons (t : UTG) (u : UTGs) (us : List U) (σ : USt) (M : UHp) (Q : USt → UHp → Prop) : Prop := ∃ v r, us = v :: r ∧ t v σ M fun σ' M' => u r σ' M' Q
theorem PGs.mono {es : List Expr} {t t' : TGs} (h : PGs X es t) (w : ∀ v σ H Q, t' v σ H Q → t v σ H Q) : PGs X es t' := ⟨fun pins s σ H v u Q I r q => h.run pins s σ H v u Q I r (w v σ H Q q)⟩
theorem ugs_nil : UGs X [] ugNil := PGs.mono pgs_nil fun vs τ H Q h => by
  obtain ⟨us, σ, M, Qu, ru, rs, rm, ⟨rfl, q⟩, up⟩ := h
  obtain rfl := ru
  exact ⟨rfl, up _ M _ H q (Stab.refl H) rm rs⟩
theorem ugs_cons {es : List Expr} {g : UTG} {gs : UTGs} (h1 : UG X e g) (h2 : UGs X es gs) (hs : (assignEach (e :: es) X.env).map (·.2) = assign e X.env :: (assignEach es X.env).map (·.2) := by rfl) : UGs X (e :: es) (ugCons g gs) :=
  PGs.mono (pgs_cons h1 h2 hs) fun vs τ H Q h => by
    obtain ⟨us, σ, M, Qu, ru, rs, rm, ⟨x, r, rfl, q⟩, up⟩ := h
    obtain ⟨v, vr, rfl, r1, r2⟩ := ru
    refine ⟨v, vr, rfl, x, σ, M, _, r1, rs, rm, q, fun σ1 M1 τ1 H1 q1 s1 m1 t1 => ?_⟩
    exact ⟨r, σ1, M1, Qu, r2.stab s1, t1, m1, q1, up.from s1⟩
def ugTup (n : Nat) (t : UTGs) (v : U) (σ : USt) (M : UHp) (Q : USt → UHp → Prop) : Prop := ∃ xs, v = .tup xs ∧ xs.length = n ∧ t xs σ M Q
theorem ug_tup {es : List Expr} {k : Nat} {gs : UTGs} {n : Nat} (hc : X.calm = true) (h : UGs X es gs)
    (hn : (assignEach es X.env).length = n := by rfl) (hst : (assignEach es X.env).findIdx? (·.1) = none := by rfl) : UG X (.Tuple es k pos) (ugTup n gs) :=
  PG.mono (pg_tup hc h hn hst) fun v τ H Q h => by
    obtain ⟨u, σ, M, Qu, ru, rs, rm, ⟨xs, rfl, hl, q⟩, up⟩ := h
    obtain ⟨a, vs, rfl, hq, r⟩ := ru
    exact ⟨a, vs, rfl, hq, by rw [← hl, r.length], xs, σ, M, Qu, r, rs, rm, q, up⟩
end
end PU

set_option Elab.async false
set_option linter.all false
set_option maxRecDepth 100000
/-! UOps: operators, built-ins and methods over U. -/
namespace PU
open PySem PySem.Spec PyProof.Rows L2

/-! ### freezing a list -/
def FzQ (Q : VK) : VK := fun v H => Q v H ∨ ∃ a xs, v = .ref a ∧ H a = some (.lst xs) ∧ ∀ o, Q v (upd H a (.frz o (.lst xs)))
theorem ep_fz {X : Cx} {pins : List (Addr × Obj)} {σ : L2.St} {Q : VK} {u : Value} {s : Shared} (h : EP X pins σ (FzQ Q) u s) : EP X pins σ Q u s := by
  obtain ⟨v, H, I, r, q⟩ := h
  rcases q with q | ⟨a, xs, rfl, e, q⟩
  · exact ⟨v, H, I, r, q⟩
  · obtain ⟨od, I1⟩ := I.lock e True.intro
    exact ⟨.ref a, _, I1, r, q od⟩
/-- a new list: by address (m = true), or by value -/
def newL (m : Bool) (xs : List U) (M : UHp) (Q : UK) : Prop := if m = true then ∀ p, M p = none → Q (.ref p) (updM M p (.lst xs)) else Q (.lst xs) M
theorem newL_dn {K : PySem.W.Frag} {H : Hp} {M : UHp} {Qu : UK} {Q : VK} {m : Bool} {xs : List U} {vs : List V} (rm : RelM K H M) (up : UpK K H Qu Q) (r : RelUs K H xs vs) (h : newL m xs M Qu) :
    ∀ p, H p = none → FzQ Q (.ref p) (upd H p (.lst vs)) := fun p hp => by
  cases m with
  | true =>
    have h : ∀ p, M p = none → Qu (.ref p) (updM M p (.lst xs)) := h
    have s := Stab.new (o := .lst vs) hp
    exact .inl (up _ _ _ _ (h p (rm.none hp)) s (rm.write s ⟨vs, upd_same, r.stab s⟩) rfl)
  | false =>
    have h : Qu (.lst xs) M := h
    refine .inr ⟨p, vs, rfl, upd_same, fun o => ?_⟩
    rw [upd_upd]
    have s := Stab.new (o := .frz o (.lst vs)) hp
    exact up _ _ _ _ h s (rm.beside hp) ⟨p, vs, rfl, .inl ⟨o, upd_same⟩, r.stab s⟩
theorem newT_dn {K : PySem.W.Frag} {H : Hp} {M : UHp} {Qu : UK} {Q : VK} {xs : List U} {vs : List V} (rm : RelM K H M) (up : UpK K H Qu Q) (r : RelUs K H xs vs) (h : Qu (.tup xs) M) :
    ∀ p o, H p = none → o.dict = none → Q (.ref p) (upd H p (.frz o (.tup vs))) := fun p o hp ho => by
  have s := Stab.new (o := .frz o (.tup vs)) hp
  exact up _ _ _ _ h s (rm.beside hp) ⟨p, vs, rfl, .inl (.inl ⟨o, upd_same, ho⟩), r.stab s⟩
/-! the rules that make tuples, with the tuple's object known -/
section
variable {X : Cx}
theorem laidT {pins : List (Addr × Obj)} {τ : L2.St} {H : Hp} {s : Shared} {h' : Heap} {tk : Nat} {xs : List V} {its : List Value} (I : Inv X pins τ H s) (k : ∀ b o, s.heap.get? b = some o → h'.get? b = some o) (hn : H h'.objs.size = none) (hs : s.heap.objs.size ≤ h'.objs.size) (r : Vals xs its) (hz : xs.length ≤ sizeLine) :
    Inv X pins τ (upd H h'.objs.size (.frz { cls := .type "tuple", data := .seq its.toArray } (.tup xs))) { s with heap := h'.push { cls := .type "tuple", data := .seq its.toArray }, toks := tk } :=
  I.laid (t' := tk) (a := h'.objs.size) (o := .frz { cls := .type "tuple", data := .seq its.toArray } (.tup xs)) (fun b o e => Heap.get?_push_of_some _ (k b o e)) hs ⟨Heap.get?_push_size _ rfl, hz, its, r, IsTup.new _ _⟩
def tTupD (t : TA) : TE := fun σ H Q => t σ H fun xs H1 => xs.length ≤ sizeLine ∧ ∀ p o, H1 p = none → o.dict = none → Q (.ref p) (upd H1 p (.frz o (.tup xs)))
theorem pe_tupD {es : List Expr} {t : TA} {pos : Pos} {x1} (h : PA X es t) : PE X (.Tuple es x1 pos) (tTupD t) := by
  constructor
  intro pins s σ H Q I hq
  refine wpAny_Tuple_spliced (thn (h.run pos pins s σ H _ I hq) fun us s1 h1 => ?_)
  obtain ⟨xs, H1, I1, r, z, q⟩ := h1
  have hn := I1.hok.fresh (Nat.le_refl s1.heap.objs.size)
  exact ⟨by rw [← r.length]; exact z, .ref s1.heap.objs.size, _, laidT (tk := s1.toks) I1 (fun _ _ e => e) hn (Nat.le_refl _) r z, rfl, q _ _ hn rfl⟩
theorem call_tupleD : CallR X (.type "tuple") (fun xs H Q => ∃ p ys, xs = [.ref p] ∧ ((SqL X.K H p ys ∧ ∀ l o, H l = none → o.dict = none → Q (.ref l) (upd H l (.frz o (.tup ys)))) ∨ (SqT X.K H p ys ∧ Q (.ref p) H))) := by
  intro pins s σ H xs us Q I r h
  obtain ⟨p, ys, rfl, ⟨hq, q⟩ | h⟩ := h
  · cases r with
    | cons r1 r2 =>
      cases r2
      cases r1
      obtain ⟨its, r', pl, hz⟩ := I.list hq
      have hlen := r'.length
      refine call_tuple_list pl.isList (fun h' kp => ?_) (by simp only [List.size_toArray] <;> omega)
      have hn : H h'.objs.size = none := by
        have I1 : Inv X pins σ H { s with heap := h' } := I.kept (t' := s.toks) kp
        exact I1.hok.fresh (Nat.le_refl _)
      have I1 : Inv X pins σ H { s with heap := h' } := I.kept (t' := s.toks) kp
      exact ⟨.ref h'.objs.size, _, laidT (s := { s with heap := h' }) (tk := s.toks) I1 (fun _ _ e => e) hn (Nat.le_refl _) r' hz, rfl, q _ _ hn rfl⟩
  · exact call_tuple_of pins s σ H _ us Q I r ⟨p, ys, rfl, .inr h⟩
def rCatD (K : PySem.W.Frag) : R2 := fun x y H Q => ∃ a b xs ys, x = .ref a ∧ y = .ref b ∧ SqT K H a xs ∧ SqT K H b ys ∧ xs.length + ys.length ≤ sizeLine ∧
  (xs = [] → Q (.ref b) H) ∧ (xs ≠ [] → ys = [] → Q (.ref a) H) ∧ (xs ≠ [] → ys ≠ [] → ∀ p o, H p = none → o.dict = none → Q (.ref p) (upd H p (.frz o (.tup (xs ++ ys)))))
theorem op_catD : OpR X (binaryOp .Add) (rCatD X.K) := by
  intro pins s σ H x y v u Q I rx ry h
  obtain ⟨a, b, xs, ys, rfl, rfl, ha, hb, hz, q0, q1, q2⟩ := h
  cases rx
  cases ry
  obtain ⟨its, r1, p1, _⟩ := I.tuple ha
  obtain ⟨its2, r2, p2, _⟩ := I.tuple hb
  by_cases hx : xs = []
  · subst hx
    cases r1
    exact cat_tup0 p1 p2 ⟨.ref b, H, I, rfl, q0 rfl⟩
  · have hn := I.hok.fresh (Nat.le_refl s.heap.objs.size)
    refine HT.cat_tup p1 p2 (fun z => hx (r1.nil_iff.mp z)) (fun z => ⟨.ref a, H, I, rfl, q1 hx (r2.nil_iff.mp z)⟩) (fun z => ?_) (by rw [← r1.length, ← r2.length]; exact hz)
    exact ⟨.ref s.heap.objs.size, _, laidT (tk := s.toks) I (fun _ _ e => e) hn (Nat.le_refl _) (r1.append r2) (by rw [List.length_append]; exact hz), rfl, q2 hx (fun w => z (r2.nil_iff.mpr w)) _ _ hn rfl⟩
def rSlD (K : PySem.W.Frag) : V → Option Int → Option Int → Hp → VK → Prop := fun x lo hi H Q => ∃ a xs, x = .ref a ∧ SqT K H a xs ∧
  (HT.sIx xs.length 0 lo = 0 ∧ HT.sIx xs.length xs.length hi = xs.length → Q (.ref a) H) ∧ (¬ (HT.sIx xs.length 0 lo = 0 ∧ HT.sIx xs.length xs.length hi = xs.length) → ∀ p o, H p = none → o.dict = none → Q (.ref p) (upd H p (.frz o (.tup (cutV xs lo hi)))))
theorem sl_tupD : SlR X (rSlD X.K) := by
  intro pins s σ H x v vl vu lo hi sl Q I rx hs pl pu h
  obtain ⟨a, xs, rfl, hx, q1, q2⟩ := h
  by_cases hw : HT.sIx xs.length 0 lo = 0 ∧ HT.sIx xs.length xs.length hi = xs.length
  · exact sl_tupA pins s σ H _ v vl vu lo hi sl Q I rx hs pl pu ⟨a, xs, rfl, hx, q1, fun h => absurd hw h⟩
  · cases rx
    obtain ⟨its, r, ht, hz⟩ := I.tuple hx
    have hlen : its.toArray.size = xs.length := by rw [List.size_toArray]; exact r.length.symm
    have hn := I.hok.fresh (Nat.le_refl s.heap.objs.size)
    refine ⟨"tuple", _, PyProof.Rows.slot_tuple_getitem.lookup, ht.typeIs, ?_⟩
    refine HT.getItem_tuple_cut ht hs pl pu (by rw [hlen]; exact hw) ?_ (by rw [hlen]; exact hz)
    rw [hlen]
    have rr := (r.drop (HT.sIx xs.length 0 lo)).take (HT.sIx xs.length xs.length hi - HT.sIx xs.length 0 lo)
    exact ⟨.ref s.heap.objs.size, _, laidT (tk := s.toks) I (fun _ _ e => e) hn (Nat.le_refl _) rr (Nat.le_trans (cutV_length xs lo hi) hz), rfl, q2 hw _ _ hn rfl⟩
end

/-! ### what is a sequence -/
def listU (M : UHp) : U → Option (List U)
  | .lst xs => some xs
  | .ref a => match M a with
    | some (.lst xs) => some xs
    | _ => none
  | _ => none
def seqU (M : UHp) : U → Option (List U)
  | .tup xs => some xs
  | .lst xs => some xs
  | .ref a => match M a with
    | some (.lst xs) => some xs
    | _ => none
  | _ => none
theorem list_dn {K : PySem.W.Frag} {H : Hp} {M : UHp} {x : U} {v : V} {xs : List U} (rm : RelM K H M) (r : RelU K H x v) (h : listU M x = some xs) : ∃ a vs, v = .ref a ∧ SqL K H a vs ∧ RelUs K H xs vs := by
  cases x with
  | lst ys =>
    obtain ⟨a, vs, rfl, q, t⟩ := r
    simp only [listU,Option.some.injEq] at h; subst h
    exact ⟨a, vs, rfl, q.sq, t⟩
  | ref a =>
    obtain rfl := r
    simp only [listU] at h
    cases e : M a with
    | none => rw [e] at h; cases h
    | some o =>
      rw [e] at h
      cases o with
      | lst ys =>
        simp only [Option.some.injEq] at h; subst h
        obtain ⟨vs, q, t⟩ := rm a _ e
        exact ⟨a, vs, rfl, SqL.of q, t⟩
      | _ => cases h
  | _ => simp [listU] at h
theorem seq_dn {K : PySem.W.Frag} {H : Hp} {M : UHp} {x : U} {v : V} {xs : List U} (rm : RelM K H M) (r : RelU K H x v) (h : seqU M x = some xs) : ∃ a vs, v = .ref a ∧ (SqL K H a vs ∨ SqX K H a vs) ∧ RelUs K H xs vs := by
  cases x with
  | tup ys =>
    obtain ⟨a, vs, rfl, q, t⟩ := r
    simp only [seqU,Option.some.injEq] at h; subst h
    exact ⟨a, vs, rfl, .inr q, t⟩
  | lst ys =>
    obtain ⟨a, vs, e, q, t⟩ := list_dn (x := .lst ys) rm r (by simpa [seqU, listU] using h)
    exact ⟨a, vs, e, .inl q, t⟩
  | ref a =>
    obtain ⟨b, vs, e, q, t⟩ := list_dn (x := .ref a) rm r (by simpa [seqU, listU] using h)
    exact ⟨b, vs, e, .inl q, t⟩
  | _ => simp [seqU] at h

/-! ### data, for == and repr -/
mutual
def toD : U → Option PyData
  | .non => some .none
  | .bl b => some (.bool b)
  | .int i => some (.int i)
  | .str x => some (.str x)
  | .tup xs => (toDs xs).map .tuple
  | .lst xs => (toDs xs).map .list
  | .ref _ => none
  | .ty _ => none
def toDs : List U → Option (List PyData)
  | [] => some []
  | x :: xs => match toD x, toDs xs with
    | some d, some ds => some (d :: ds)
    | _, _ => none
end
/-- a mutable list of data by its items -/
def val (M : UHp) : U → U
  | .ref a => match M a with
    | some (.lst xs) => .lst xs
    | _ => .ref a
  | x => x
mutual
def isD : U → Bool
  | .non => true
  | .bl _ => true
  | .int _ => true
  | .str x => okS x
  | .tup xs => isDs xs
  | .lst xs => isDs xs
  | .ref _ => false
  | .ty _ => false
def isDs : List U → Bool
  | [] => true
  | x :: xs => isD x && isDs xs
end
mutual
/-- the depth of nesting -/
def dep : U → Nat
  | .tup xs => deps xs + 1
  | .lst xs => deps xs + 1
  | _ => 0
def deps : List U → Nat
  | [] => 0
  | x :: xs => max (dep x) (deps xs)
end
mutual
/-- == of data -/
def ueq : U → U → Bool
  | .non, .non => true
  | .bl a, .bl b => a == b
  | .bl a, .int j => (if a then 1 else 0) == j
  | .int i, .bl b => i == (if b then 1 else 0)
  | .int i, .int j => i == j
  | .str x, .str y => x == y
  | .lst xs, .lst ys => ueqs xs ys
  | .tup xs, .tup ys => ueqs xs ys
  | _, _ => false
def ueqs : List U → List U → Bool
  | [], [] => true
  | x :: xs, y :: ys => ueq x y && ueqs xs ys
  | _, _ => false
end
mutual
theorem toD_some : ∀ x : U, isD x = true → ∃ d, toD x = some d ∧ d.canLay0 = true
  | .non, _ => ⟨_, rfl, by simp [PyData.canLay0]⟩
  | .bl _, _ => ⟨_, rfl, by simp [PyData.canLay0]⟩
  | .int _, _ => ⟨_, rfl, by simp [PyData.canLay0]⟩
  | .str x, h => ⟨_, rfl, by simp only [PyData.canLay0]; exact okS.ok (by simpa [isD] using h)⟩
  | .tup xs, h => by
    obtain ⟨ds, e, q⟩ := toDs_some xs (by simpa [isD] using h)
    exact ⟨_, by simp [toD, e]; rfl, by simpa [PyData.canLay0] using q⟩
  | .lst xs, h => by
    obtain ⟨ds, e, q⟩ := toDs_some xs (by simpa [isD] using h)
    exact ⟨_, by simp [toD, e]; rfl, by simpa [PyData.canLay0] using q⟩
  | .ref _, h => by simp [isD] at h
  | .ty _, h => by simp [isD] at h
theorem toDs_some : ∀ xs : List U, isDs xs = true → ∃ ds, toDs xs = some ds ∧ PyData.canLayAll0 ds = true
  | [], _ => ⟨[], rfl, by simp [PyData.canLayAll0]⟩
  | x :: xs, h => by
    simp only [isDs,Bool.and_eq_true] at h
    obtain ⟨d, e, q⟩ := toD_some x h.1
    obtain ⟨ds, e2, q2⟩ := toDs_some xs h.2
    exact ⟨d :: ds, by simp [toDs, e, e2], by simp [PyData.canLayAll0, q, q2]⟩
end
mutual
theorem dep_toD : ∀ (x : U) (d : PyData), toD x = some d → d.depth = dep x
  | .non, _, h => by simp [toD] at h; subst h; simp [PyData.depth, dep]
  | .bl _, _, h => by simp [toD] at h; subst h; simp [PyData.depth, dep]
  | .int _, _, h => by simp [toD] at h; subst h; simp [PyData.depth, dep]
  | .str _, _, h => by simp [toD] at h; subst h; simp [PyData.depth, dep]
  | .tup xs, d, h => by
    simp only [toD,Option.map_eq_some_iff] at h
    obtain ⟨ds, e, rfl⟩ := h
    simp [PyData.depth, dep, deps_toD xs ds e]
  | .lst xs, d, h => by
    simp only [toD,Option.map_eq_some_iff] at h
    obtain ⟨ds, e, rfl⟩ := h
    simp [PyData.depth, dep, deps_toD xs ds e]
  | .ref _, _, h => by simp [toD] at h
  | .ty _, _, h => by simp [toD] at h
theorem deps_toD : ∀ (xs : List U) (ds : List PyData), toDs xs = some ds → PyData.depthAll ds = deps xs
  | [], _, h => by simp [toDs] at h; subst h; simp [PyData.depthAll, deps]
  | x :: xs, ds, h => by
    simp only [toDs] at h
    cases e : toD x with
    | none => rw [e] at h; simp at h
    | some d =>
      cases e2 : toDs xs with
      | none => rw [e, e2] at h; simp at h
      | some es =>
        rw [e, e2] at h
        simp only [Option.some.injEq] at h
        subst h
        simp [PyData.depthAll, deps, dep_toD x d e, deps_toD xs es e2]
end
mutual
theorem eqv_toD : ∀ (x y : U) (d e : PyData), toD x = some d → toD y = some e → PyData.eqv d e = ueq x y
  | x, y, d, e, hx, hy => by
    cases x <;> simp only [toD,Option.some.injEq,Option.map_eq_some_iff,reduceCtorEq] at hx <;>
    cases y <;> simp only [toD,Option.some.injEq,Option.map_eq_some_iff,reduceCtorEq] at hy <;>
    (try subst hx) <;> (try subst hy) <;> (try obtain ⟨ds, ex, rfl⟩ := hx) <;> (try obtain ⟨es, ey, rfl⟩ := hy) <;>
    (try simp only [PyData.eqv,ueq]) <;> (try exact eqvs_toD _ _ _ _ ex ey)
theorem eqvs_toD : ∀ (xs ys : List U) (ds es : List PyData), toDs xs = some ds → toDs ys = some es → PyData.eqvAll ds es = ueqs xs ys
  | [], ys, ds, es, hx, hy => by
    simp only [toDs,Option.some.injEq] at hx; subst hx
    cases ys with
    | nil => simp only [toDs,Option.some.injEq] at hy; subst hy; simp [PyData.eqvAll, ueqs]
    | cons y ys =>
      simp only [toDs] at hy
      cases e : toD y <;> cases e2 : toDs ys <;> rw [e, e2] at hy <;> simp at hy
      subst hy; simp [PyData.eqvAll, ueqs]
  | x :: xs, ys, ds, es, hx, hy => by
    simp only [toDs] at hx
    cases ex : toD x <;> cases ex2 : toDs xs <;> rw [ex, ex2] at hx <;> simp at hx
    subst hx
    cases ys with
    | nil => simp only [toDs,Option.some.injEq] at hy; subst hy; simp [PyData.eqvAll, ueqs]
    | cons y ys =>
      simp only [toDs] at hy
      cases ey : toD y <;> cases ey2 : toDs ys <;> rw [ey, ey2] at hy <;> simp at hy
      subst hy
      simp only [PyData.eqvAll,ueqs]
      rw [eqv_toD x y _ _ ex ey, eqvs_toD xs ys _ _ ex2 ey2]
end
mutual
theorem dp_of {K : PySem.W.Frag} {H : Hp} : ∀ (x : U) (v : V) (d : PyData), RelU K H x v → toD x = some d → Dp K H v d
  | .non, _, _, r, h => by obtain rfl := r; simp [toD] at h; subst h; exact .non
  | .bl _, _, _, r, h => by obtain rfl := r; simp [toD] at h; subst h; exact .bl _
  | .int _, _, _, r, h => by obtain rfl := r; simp [toD] at h; subst h; exact .int _
  | .str _, _, _, r, h => by obtain ⟨rfl, _⟩ := r; simp [toD] at h; subst h; exact .str _
  | .ref _, _, _, _, h => by simp [toD] at h
  | .ty _, _, _, _, h => by simp [toD] at h
  | .tup xs, v, d, r, h => by
    simp only [toD,Option.map_eq_some_iff] at h
    obtain ⟨ds, e, rfl⟩ := h
    obtain ⟨a, vs, rfl, q, t⟩ := r
    exact .tup q (dps_of xs vs ds t e)
  | .lst xs, v, d, r, h => by
    simp only [toD,Option.map_eq_some_iff] at h
    obtain ⟨ds, e, rfl⟩ := h
    obtain ⟨a, vs, rfl, q, t⟩ := r
    exact .lst q.sq (dps_of xs vs ds t e)
theorem dps_of {K : PySem.W.Frag} {H : Hp} : ∀ (xs : List U) (vs : List V) (ds : List PyData), RelUs K H xs vs → toDs xs = some ds → DpAll K H vs ds
  | [], _, _, r, h => by obtain rfl := r; simp [toDs] at h; subst h; exact .nil
  | x :: xs, vs, ds, r, h => by
    simp only [toDs] at h
    obtain ⟨v, w, rfl, r1, r2⟩ := r
    cases e : toD x <;> cases e2 : toDs xs <;> rw [e, e2] at h <;> simp at h
    subst h
    exact .cons (dp_of x v _ r1 e) (dps_of xs w _ r2 e2)
end
theorem dp_val {K : PySem.W.Frag} {H : Hp} {M : UHp} {x : U} {v : V} {d : PyData} (rm : RelM K H M) (r : RelU K H x v) (h : toD (val M x) = some d) : Dp K H v d := by
  cases x with
  | ref a =>
    simp only [val] at h
    cases e : M a with
    | none => rw [e] at h; simp [toD] at h
    | some o =>
      rw [e] at h
      cases o with
      | lst xs =>
        simp only [toD,Option.map_eq_some_iff] at h
        obtain ⟨ds, e2, rfl⟩ := h
        obtain rfl := r
        obtain ⟨vs, q, t⟩ := rm a _ e
        exact .lst (SqL.of q) (dps_of xs vs ds t e2)
      | _ => simp [toD] at h
  | _ => exact dp_of _ v d r (by simpa [val] using h)

/-! ### operators -/
section
variable {X : Cx}
def addR (m : Bool) (x : U) (y : U) (M : UHp) (Q : UK) : Prop := match x, y with
  | .int i, .int j => Q (.int (i + j)) M
  | .str a, .str b => a.length + b.length ≤ sizeLine ∧ Q (.str (a ++ b)) M
  | .tup a, .tup b => a.length + b.length ≤ sizeLine ∧ Q (.tup (a ++ b)) M
  | x, y => ∃ xs ys, listU M x = some xs ∧ listU M y = some ys ∧ xs.length + ys.length ≤ sizeLine ∧ newL m (xs ++ ys) M Q
theorem str_len_append (a b : Str) : (a ++ b).length = a.length + b.length := strLen_append a b
theorem okS.app {a b : Str} (ha : okS a = true) (hb : okS b = true) (h : a.length + b.length ≤ sizeLine) : okS (a ++ b) = true := by
  have h1 := okS.ok ha
  have h2 := okS.ok hb
  unfold okS
  rw [Bool.and_eq_true]
  refine ⟨decide_eq_true (by rw [str_len_append]; exact h), ?_⟩
  unfold PyData.strOk at *
  show ((a.cps ++ b.cps).all (· < 0x110000)) = true
  rw [Array.all_append, h1, h2]; rfl
def rCatL (K : PySem.W.Frag) : R2 := fun x y H Q => ∃ l b xs zs, x = .ref l ∧ y = .ref b ∧ SqL K H l xs ∧ SqL K H b zs ∧ xs.length + zs.length ≤ sizeLine ∧ ∀ p, H p = none → FzQ Q (.ref p) (upd H p (.lst (xs ++ zs)))
theorem op_catL : OpR X (binaryOp .Add) (rCatL X.K) := by
  intro pins s σ H x y v u Q I rx ry h
  obtain ⟨l, b, xs, zs, rfl, rfl, hH, hB, hz, q⟩ := h
  cases rx
  cases ry
  obtain ⟨its, r, ⟨⟨cls, dd, data, sl⟩, n, ho, hc, _, hd⟩, _⟩ := I.list hH
  obtain ⟨its2, r2, ⟨⟨cls2, dd2, data2, sl2⟩, n2, ho2, hc2, _, hd2⟩, _⟩ := I.list hB
  simp only at hc hd hc2 hd2
  subst hc hd hc2 hd2
  have hl := r.length
  have hl2 := r2.length
  have hlen : its.length + its2.length ≤ sizeLine := by omega
  refine wpAny_mono (Q := EP X pins σ (FzQ Q)) (E := X.xe) ?_ (fun _ _ => ep_fz) (fun _ _ h => h)
  refine concat_meets ⟨_, ho, rfl⟩ ⟨_, ho2, rfl⟩ noFill_list_add seq_list_add PySem.F.slot_list_add PySem.F.entry_list_add (PySem.F.args_list_add_2 _ _) (list_addW l b its.toArray its2.toArray n n2 dd dd2 sl sl2 (by simpa using hlen)) ⟨ho, ho2, ?_⟩
  have ea : its.toArray ++ its2.toArray = (its ++ its2).toArray := by simp
  rw [ea]
  exact ⟨.ref _, _, I.lnew (t' := s.toks) (r.append r2) (by rw [List.length_append]; omega), rfl, q _ I.fresh⟩
theorem uo_add (m : Bool) : UOpR X (binaryOp .Add) (addR m) := by
  refine OpR.mono (OpR.or op_add (OpR.or op_add_str (OpR.or op_catD op_catL))) fun v w H Q h => ?_
  obtain ⟨x, y, M, Qu, r1, r2, rm, q, up⟩ := h
  unfold addR at q
  split at q
  · obtain rfl := r1; obtain rfl := r2
    exact .inl ⟨_, _, rfl, rfl, up _ _ _ _ q (Stab.refl H) rm rfl⟩
  · obtain ⟨rfl, z1⟩ := r1; obtain ⟨rfl, z2⟩ := r2
    exact .inr (.inl ⟨_, _, rfl, rfl, q.1, up _ _ _ _ q.2 (Stab.refl H) rm ⟨rfl, okS.app z1 z2 q.1⟩⟩)
  · rename_i as bs
    obtain ⟨a, vs, rfl, h1, t1⟩ := r1
    obtain ⟨b, ws, rfl, h2, t2⟩ := r2
    refine .inr (.inr (.inl ⟨a, b, vs, ws, rfl, rfl, h1, h2, by rw [← t1.length, ← t2.length]; exact q.1, fun e => ?_, fun _ e => ?_, fun _ _ => ?_⟩))
    · subst e
      have : as = [] := by cases as with
        | nil => rfl
        | cons _ _ => obtain ⟨_, _, e, _⟩ := t1; cases e
      subst this
      exact up _ _ _ _ q.2 (Stab.refl H) rm ⟨b, ws, rfl, h2, t2⟩
    · subst e
      have : bs = [] := by cases bs with
        | nil => rfl
        | cons _ _ => obtain ⟨_, _, e, _⟩ := t2; cases e
      subst this
      exact up _ _ _ _ q.2 (Stab.refl H) rm ⟨a, vs, rfl, h1, by simpa using t1⟩
    · exact newT_dn rm up (t1.append t2) q.2
  · obtain ⟨xs, ys, e1, e2, hz, q⟩ := q
    obtain ⟨a, vs, rfl, h1, t1⟩ := list_dn rm r1 e1
    obtain ⟨b, ws, rfl, h2, t2⟩ := list_dn rm r2 e2
    exact .inr (.inr (.inr ⟨a, b, vs, ws, rfl, rfl, h1, h2, by rw [← t1.length, ← t2.length]; exact hz, newL_dn rm up (t1.append t2) q⟩))
def subR (x : U) (y : U) (M : UHp) (Q : UK) : Prop := match x, y with
  | .int i, .int j => Q (.int (i - j)) M
  | _, _ => False
theorem uo_sub : UOpR X (binaryOp .Sub) subR := OpR.mono op_sub fun v w H Q h => by
  obtain ⟨x, y, M, Qu, r1, r2, rm, q, up⟩ := h
  unfold subR at q
  split at q
  · obtain rfl := r1; obtain rfl := r2
    exact ⟨_, _, rfl, rfl, up _ _ _ _ q (Stab.refl H) rm rfl⟩
  · exact q.elim
def delM (M : UHp) (a : Addr) : UHp := fun b => if b = a then none else M b
/-- m: the new list by address; d: the old one is of no concern any more -/
def mulR (m d : Bool) (x : U) (y : U) (M : UHp) (Q : UK) : Prop := match x, y with
  | .int i, .int j => CMul i j ∧ Q (.int (i * j)) M
  | .ref a, .int k => ∃ xs, M a = some (.lst xs) ∧ -(2 ^ 63) ≤ k ∧ k < 2 ^ 63 ∧ xs.length * k.toNat ≤ sizeLine ∧ newL m (List.replicate k.toNat xs).flatten (if d = true then delM M a else M) Q
  | _, _ => False
theorem RelM.less {K : PySem.W.Frag} {H : Hp} {M : UHp} (rm : RelM K H M) (d : Bool) (a : Addr) : RelM K H (if d = true then delM M a else M) := by
  cases d with
  | false => exact rm
  | true =>
    intro b o e
    have e : delM M a b = some o := e
    unfold delM at e
    by_cases h : b = a
    · rw [if_pos h] at e; cases e
    · rw [if_neg h] at e; exact rm b o e
theorem RelUs.rep {K : PySem.W.Frag} {H : Hp} {xs : List U} {vs : List V} (r : RelUs K H xs vs) : ∀ n : Nat, RelUs K H (List.replicate n xs).flatten (List.replicate n vs).flatten
  | 0 => RelUs.nil
  | n + 1 => by
    rw [List.replicate_succ, List.replicate_succ, List.flatten_cons, List.flatten_cons]
    exact r.append (RelUs.rep r n)
theorem OpR.fz {f : Value → Value → Sem Value} {r r' : R2} (h : OpR X f r) (w : ∀ x y H Q, r' x y H Q → r x y H (FzQ Q)) : OpR X f r' := fun pins s σ H x y v u Q I rx ry q => thn (h pins s σ H x y v u (FzQ Q) I rx ry (w x y H Q q)) fun _ _ => ep_fz
theorem uo_mul (m d : Bool) : UOpR X (binaryOp .Mult) (mulR m d) := by
  refine OpR.mono (OpR.or op_mul (OpR.fz (r' := fun x y H Q => rRep x y H (FzQ Q)) op_rep fun x y H Q h => h)) fun v w H Q h => ?_
  obtain ⟨x, y, M, Qu, r1, r2, rm, q, up⟩ := h
  unfold mulR at q
  split at q
  · obtain rfl := r1; obtain rfl := r2
    exact .inl ⟨_, _, rfl, rfl, q.1, up _ _ _ _ q.2 (Stab.refl H) rm rfl⟩
  · rename_i a k
    obtain rfl := r1; obtain rfl := r2
    obtain ⟨xs, e, h1, h2, h3, q⟩ := q
    obtain ⟨vs, e2, t⟩ := rm a _ e
    exact .inr ⟨a, k, vs, rfl, rfl, e2, h1, h2, by rw [← t.length]; exact h3, newL_dn (rm.less d a) up (t.rep _) q⟩
  · exact q.elim
def modR (x : U) (y : U) (M : UHp) (Q : UK) : Prop := match x, y with
  | .int i, .int j => 0 < j ∧ Q (.int (i % j)) M
  | _, _ => False
theorem uo_mod : UOpR X (binaryOp .Mod) modR := OpR.mono op_mod fun v w H Q h => by
  obtain ⟨x, y, M, Qu, r1, r2, rm, q, up⟩ := h
  unfold modR at q
  split at q
  · obtain rfl := r1; obtain rfl := r2
    exact ⟨_, _, rfl, rfl, q.1, up _ _ _ _ q.2 (Stab.refl H) rm rfl⟩
  · exact q.elim
def divR (x : U) (y : U) (M : UHp) (Q : UK) : Prop := match x, y with
  | .int i, .int j => CDiv i j ∧ Q (.int (i / j)) M
  | _, _ => False
theorem uo_div : UOpR X (binaryOp .FloorDiv) divR := OpR.mono op_fdiv fun v w H Q h => by
  obtain ⟨x, y, M, Qu, r1, r2, rm, q, up⟩ := h
  unfold divR at q
  split at q
  · obtain rfl := r1; obtain rfl := r2
    exact ⟨_, _, rfl, rfl, q.1, up _ _ _ _ q.2 (Stab.refl H) rm rfl⟩
  · exact q.elim
def powR (x : U) (y : U) (M : UHp) (Q : UK) : Prop := match x, y with
  | .int i, .int j => CPow i j ∧ Q (.int (i ^ j.toNat)) M
  | _, _ => False
theorem uo_pow : UOpR X (binaryOp .Pow) powR := OpR.mono op_pow fun v w H Q h => by
  obtain ⟨x, y, M, Qu, r1, r2, rm, q, up⟩ := h
  unfold powR at q
  split at q
  · obtain rfl := r1; obtain rfl := r2
    exact ⟨_, _, rfl, rfl, q.1, up _ _ _ _ q.2 (Stab.refl H) rm rfl⟩
  · exact q.elim
/-! comparisons -/
def eqR (x : U) (y : U) (M : UHp) (Q : UK) : Prop := isD (val M x) = true ∧ isD (val M y) = true ∧ (dep (val M x) ≤ 64 ∨ dep (val M y) ≤ 64) ∧ Q (.bl (ueq (val M x) (val M y))) M
def neR (x : U) (y : U) (M : UHp) (Q : UK) : Prop := isD (val M x) = true ∧ isD (val M y) = true ∧ (dep (val M x) ≤ 64 ∨ dep (val M y) ≤ 64) ∧ Q (.bl (!ueq (val M x) (val M y))) M
def rEqD2 (K : PySem.W.Frag) : R2 := fun x y H Q => ∃ d e, Dp K H x d ∧ Dp K H y e ∧ d.canLay0 = true ∧ e.canLay0 = true ∧ (d.depth ≤ 64 ∨ e.depth ≤ 64) ∧ Q (.bl (PyData.eqv d e)) H
def rNeD2 (K : PySem.W.Frag) : R2 := fun x y H Q => ∃ d e, Dp K H x d ∧ Dp K H y e ∧ d.canLay0 = true ∧ e.canLay0 = true ∧ (d.depth ≤ 64 ∨ e.depth ≤ 64) ∧ Q (.bl (!PyData.eqv d e)) H
theorem op_eqD2 (hu : X.A.units + 64 < cLine) : OpR X (compareOp .Eq) (rEqD2 X.K) := by
  intro pins s σ H x y v u Q I rx ry h
  obtain ⟨d, e, hd, he, sd, se, hm, q⟩ := h
  obtain ⟨as, r1⟩ := Dp.reads I d x v hd rx
  obtain ⟨bs, r2⟩ := Dp.reads I e y u he ry
  have h2 : min d.depth e.depth ≤ 64 := by
    have a1 : min d.depth e.depth ≤ d.depth := Nat.min_le_left _ _
    have a2 : min d.depth e.depth ≤ e.depth := Nat.min_le_right _ _
    omega
  exact SeqAt.compareEq_reads r1 r2 sd se (by omega) ⟨.bl _, H, I, rfl, q⟩
theorem op_neD2 (hu : X.A.units + 64 < cLine) : OpR X (compareOp .NotEq) (rNeD2 X.K) := by
  intro pins s σ H x y v u Q I rx ry h
  obtain ⟨d, e, hd, he, sd, se, hm, q⟩ := h
  obtain ⟨as, r1⟩ := Dp.reads I d x v hd rx
  obtain ⟨bs, r2⟩ := Dp.reads I e y u he ry
  have h2 : min d.depth e.depth ≤ 64 := by
    have a1 : min d.depth e.depth ≤ d.depth := Nat.min_le_left _ _
    have a2 : min d.depth e.depth ≤ e.depth := Nat.min_le_right _ _
    omega
  exact SeqAt.compareNe_reads r1 r2 sd se (by omega) ⟨.bl _, H, I, rfl, q⟩
theorem uo_eq (hu : X.A.units + 64 < cLine) : UOpR X (compareOp .Eq) eqR := OpR.mono (op_eqD2 hu) fun v w H Q h => by
  obtain ⟨x, y, M, Qu, r1, r2, rm, ⟨h1, h2, h3, q⟩, up⟩ := h
  obtain ⟨d, ed, cd⟩ := toD_some _ h1
  obtain ⟨e, ee, ce⟩ := toD_some _ h2
  refine ⟨d, e, dp_val rm r1 ed, dp_val rm r2 ee, cd, ce, ?_, ?_⟩
  · rw [dep_toD _ _ ed, dep_toD _ _ ee]; exact h3
  · rw [eqv_toD _ _ _ _ ed ee]; exact up _ _ _ _ q (Stab.refl H) rm rfl
theorem uo_ne (hu : X.A.units + 64 < cLine) : UOpR X (compareOp .NotEq) neR := OpR.mono (op_neD2 hu) fun v w H Q h => by
  obtain ⟨x, y, M, Qu, r1, r2, rm, ⟨h1, h2, h3, q⟩, up⟩ := h
  obtain ⟨d, ed, cd⟩ := toD_some _ h1
  obtain ⟨e, ee, ce⟩ := toD_some _ h2
  refine ⟨d, e, dp_val rm r1 ed, dp_val rm r2 ee, cd, ce, ?_, ?_⟩
  · rw [dep_toD _ _ ed, dep_toD _ _ ee]; exact h3
  · rw [eqv_toD _ _ _ _ ed ee]; exact up _ _ _ _ q (Stab.refl H) rm rfl
def ltR (x : U) (y : U) (M : UHp) (Q : UK) : Prop := match x, y with
  | .int i, .int j => Q (.bl (decide (i < j))) M
  | .str a, .str b => Q (.bl (decide (a.cps.toList < b.cps.toList))) M
  | _, _ => False
theorem uo_lt : UOpR X (compareOp .Lt) ltR := OpR.mono (OpR.or op_lt op_lt_str) fun v w H Q h => by
  obtain ⟨x, y, M, Qu, r1, r2, rm, q, up⟩ := h
  unfold ltR at q
  split at q
  · obtain rfl := r1; obtain rfl := r2
    exact .inl ⟨_, _, rfl, rfl, up _ _ _ _ q (Stab.refl H) rm rfl⟩
  · obtain ⟨rfl, _⟩ := r1; obtain ⟨rfl, _⟩ := r2
    exact .inr ⟨_, _, rfl, rfl, up _ _ _ _ q (Stab.refl H) rm rfl⟩
  · exact q.elim
def leR (x : U) (y : U) (M : UHp) (Q : UK) : Prop := match x, y with
  | .int i, .int j => Q (.bl (decide (i ≤ j))) M
  | _, _ => False
def gtR (x : U) (y : U) (M : UHp) (Q : UK) : Prop := match x, y with
  | .int i, .int j => Q (.bl (decide (j < i))) M
  | _, _ => False
theorem uo_gt : UOpR X (compareOp .Gt) gtR := OpR.mono op_gt fun v w H Q h => by
  obtain ⟨x, y, M, Qu, r1, r2, rm, q, up⟩ := h
  unfold gtR at q
  split at q
  · obtain rfl := r1; obtain rfl := r2
    exact ⟨_, _, rfl, rfl, up _ _ _ _ q (Stab.refl H) rm rfl⟩
  · exact q.elim
def geR (x : U) (y : U) (M : UHp) (Q : UK) : Prop := match x, y with
  | .int i, .int j => Q (.bl (decide (j ≤ i))) M
  | _, _ => False
/-- is None -/
def isNon : U → Bool
  | .non => true
  | _ => false
def isnR (neg : Bool) (x : U) (y : U) (M : UHp) (Q : UK) : Prop := y = .non ∧ Q (.bl (if neg then !isNon x else isNon x)) M
def negR (x : U) (M : UHp) (Q : UK) : Prop := match x with
  | .int i => Q (.int (-i)) M
  | _ => False
theorem uu_neg : UnR X (unaryOp .USub) (dn1 X.K negR) := fun pins s σ H v u Q I rv h => by
  obtain ⟨x, M, Qu, r1, rm, q, up⟩ := h
  unfold negR at q
  split at q
  · obtain rfl := r1
    exact un_neg pins s σ H _ u Q I rv ⟨_, rfl, up _ _ _ _ q (Stab.refl H) rm rfl⟩
  · exact q.elim
end
end PU

set_option Elab.async false
set_option linter.all false
set_option maxRecDepth 100000
/-! URepr: repr of data, its size. -/
namespace PU
open PySem PySem.Spec PyProof.Rows L2

def rep (x : U) : Str := match toD x with
  | some d => d.shown
  | none => Str.empty
mutual
/-- the integers are short enough to be written -/
def shw : U → Bool
  | .int i => decide (i.natAbs.log2 < 1920)
  | .tup xs => shws xs
  | .lst xs => shws xs
  | _ => true
def shws : List U → Bool
  | [] => true
  | x :: xs => shw x && shws xs
end
mutual
/-- a bound of the length of the text -/
def sz : U → Nat
  | .non => 4
  | .bl _ => 5
  | .int i => i.natAbs.log2 + 2
  | .str x => 10 * x.length + 2
  | .ref _ => 0
  | .ty _ => 0
  | .tup xs => szs xs + 4
  | .lst xs => szs xs + 4
def szs : List U → Nat
  | [] => 0
  | x :: xs => sz x + 2 + szs xs
end
mutual
theorem shw_toD : ∀ (x : U) (d : PyData), toD x = some d → shw x = true → d.showable = true
  | .non, _, h, _ => by simp [toD] at h; subst h; simp [PyData.showable]
  | .bl _, _, h, _ => by simp [toD] at h; subst h; simp [PyData.showable]
  | .int _, _, h, s => by simp [toD] at h; subst h; simpa [PyData.showable, shw] using s
  | .str _, _, h, _ => by simp [toD] at h; subst h; simp [PyData.showable]
  | .tup xs, d, h, s => by
    simp only [toD,Option.map_eq_some_iff] at h
    obtain ⟨ds, e, rfl⟩ := h
    simpa [PyData.showable] using shws_toD xs ds e (by simpa [shw] using s)
  | .lst xs, d, h, s => by
    simp only [toD,Option.map_eq_some_iff] at h
    obtain ⟨ds, e, rfl⟩ := h
    simpa [PyData.showable] using shws_toD xs ds e (by simpa [shw] using s)
  | .ref _, _, h, _ => by simp [toD] at h
  | .ty _, _, h, _ => by simp [toD] at h
theorem shws_toD : ∀ (xs : List U) (ds : List PyData), toDs xs = some ds → shws xs = true → PyData.showableAll ds = true
  | [], _, h, _ => by simp [toDs] at h; subst h; simp [PyData.showableAll]
  | x :: xs, ds, h, s => by
    simp only [toDs] at h
    simp only [shws,Bool.and_eq_true] at s
    cases e : toD x <;> cases e2 : toDs xs <;> rw [e, e2] at h <;> simp at h
    subst h
    simp [PyData.showableAll, shw_toD x _ e s.1, shws_toD xs _ e2 s.2]
end
/-! code points -/
theorem strOk_iff {x : Str} : PyData.strOk x = true ↔ ∀ c ∈ x.cps.toList, c < 0x110000 := by
  unfold PyData.strOk
  rw [Array.all_eq_true']
  constructor
  · intro h c hc; simpa using h c (by simpa using hc)
  · intro h c hc; simpa using h c (by simpa using hc)
theorem strOk_app {a b : Str} (ha : PyData.strOk a = true) (hb : PyData.strOk b = true) : PyData.strOk (a ++ b) = true := by
  rw [strOk_iff] at *
  intro c hc
  have : c ∈ (a.cps ++ b.cps).toList := hc
  rw [Array.toList_append, List.mem_append] at this
  rcases this with h | h
  · exact ha c h
  · exact hb c h
theorem strOk_ofString (s : String) : PyData.strOk (Str.ofString s) = true := by
  rw [strOk_iff]
  intro c hc
  have : c ∈ (cpsOfBytes 0 0 s.toByteArray.data.toList).toArray.toList := hc
  rw [List.toList_toArray, cpsOfBytes_string, List.mem_map] at this
  obtain ⟨ch, _, rfl⟩ := this
  have hv := ch.valid
  show ch.val.toNat < 0x110000
  rcases hv with h | ⟨_, h⟩
  · have : ch.val.toNat < 55296 := h
    omega
  · exact h
theorem reprChar_ok (q c : Nat) (hq : q < 0x110000) (hc : c < 0x110000) : ∀ d ∈ Builtin.Str.reprChar q c, d < 0x110000 := by
  have hd : ∀ d ∈ (Nat.toDigits 16 c).map Char.toNat, d < 0x110000 := by
    intro d hd
    rw [List.mem_map] at hd
    obtain ⟨ch, _, rfl⟩ := hd
    rcases ch.valid with h | ⟨_, h⟩
    · have : ch.val.toNat < 55296 := h
      show ch.val.toNat < _
      omega
    · exact h
  have hh : ∀ w, ∀ d ∈ List.replicate (w - ((Nat.toDigits 16 c).map Char.toNat).length) 48 ++ (Nat.toDigits 16 c).map Char.toNat, d < 0x110000 := by
    intro w d h
    rcases List.mem_append.mp h with h | h
    · have := (List.mem_replicate.mp h).2; omega
    · exact hd d h
  intro d h
  unfold Builtin.Str.reprChar at h
  simp only at h
  split at h
  · simp only [List.mem_cons,List.not_mem_nil,or_false] at h; omega
  · split at h
    · simp only [List.mem_cons,List.not_mem_nil,or_false] at h; omega
    · split at h
      · simp only [List.mem_cons,List.not_mem_nil,or_false] at h; omega
      · split at h
        · simp only [List.mem_cons,List.not_mem_nil,or_false] at h; omega
        · split at h
          · simp only [List.mem_cons,List.not_mem_nil,or_false] at h; omega
          · split at h
            · rcases List.mem_append.mp h with h | h
              · simp only [List.mem_cons,List.not_mem_nil,or_false] at h; omega
              · exact hh 2 d h
            · split at h
              · rcases List.mem_append.mp h with h | h
                · simp only [List.mem_cons,List.not_mem_nil,or_false] at h; omega
                · exact hh 4 d h
              · rcases List.mem_append.mp h with h | h
                · simp only [List.mem_cons,List.not_mem_nil,or_false] at h; omega
                · exact hh 8 d h
theorem reprQuote_lt (x : Str) : reprQuote x < 0x110000 := by unfold reprQuote; split <;> decide
theorem strOk_repr {x : Str} (hx : PyData.strOk x = true) : PyData.strOk (reprText x) = true := by
  rw [strOk_iff] at *
  have go : ∀ (l : List Nat) (acc : Array Nat), (∀ c ∈ l, c < 0x110000) → (∀ c ∈ acc.toList, c < 0x110000) → ∀ c ∈ (l.foldl (fun out c => out ++ (Builtin.Str.reprChar (reprQuote x) c).toArray) acc).toList, c < 0x110000 := by
    intro l
    induction l with
    | nil => intro acc _ h; exact h
    | cons a l ih =>
      intro acc hl h
      rw [List.foldl_cons]
      refine ih _ (fun c hc => hl c (List.mem_cons_of_mem _ hc)) fun c hc => ?_
      rw [Array.toList_append, List.mem_append] at hc
      rcases hc with hc | hc
      · exact h c hc
      · exact reprChar_ok _ a (reprQuote_lt x) (hl a List.mem_cons_self) c (by simpa using hc)
  intro c hc
  unfold reprText at hc
  simp only [Array.toList_push,List.mem_append,List.mem_cons,List.not_mem_nil,or_false] at hc
  rcases hc with hc | hc
  · rw [← Array.foldl_toList] at hc
    refine go x.cps.toList _ hx (fun c hc => ?_) c hc
    simp only [List.mem_cons,List.not_mem_nil,or_false] at hc
    rw [hc]; exact reprQuote_lt x
  · rw [hc]; exact reprQuote_lt x
theorem join_len (sep : Str) : ∀ ts : List Str, (Str.join sep ts).length ≤ (ts.map fun t => t.length + sep.length).sum
  | [] => by show (Str.empty).length ≤ _; simp; rfl
  | [x] => by show x.length ≤ _; simp
  | x :: y :: r => by
    have ih := join_len sep (y :: r)
    show (x ++ sep ++ Str.join sep (y :: r)).length ≤ _
    rw [strLen_append, strLen_append]
    simp only [List.map_cons,List.sum_cons] at ih ⊢
    omega
theorem join_ok {sep : Str} (hs : PyData.strOk sep = true) : ∀ ts : List Str, (∀ t ∈ ts, PyData.strOk t = true) → PyData.strOk (Str.join sep ts) = true
  | [], _ => by show PyData.strOk Str.empty = true; rw [strOk_iff]; intro c hc; exact absurd hc (by show ¬ c ∈ ([] : List Nat); simp)
  | [x], h => h x List.mem_cons_self
  | x :: y :: r, h => by
    have ih := join_ok hs (y :: r) fun t ht => h t (List.mem_cons_of_mem _ ht)
    show PyData.strOk (x ++ sep ++ Str.join sep (y :: r)) = true
    exact strOk_app (strOk_app (h x List.mem_cons_self) hs) ih
mutual
theorem shown_ok : ∀ (x : U) (d : PyData), toD x = some d → isD x = true → d.shown.length ≤ sz x ∧ PyData.strOk d.shown = true
  | .non, _, h, _ => by simp [toD] at h; subst h; exact ⟨by simp only [PyData.shown,sz]; decide, by simp only [PyData.shown]; exact strOk_ofString _⟩
  | .bl b, _, h, _ => by
    simp [toD] at h; subst h
    cases b
    · exact ⟨by simp only [PyData.shown,sz]; decide, by simp only [PyData.shown]; exact strOk_ofString _⟩
    · exact ⟨by simp only [PyData.shown,sz]; decide, by simp only [PyData.shown]; exact strOk_ofString _⟩
  | .int i, _, h, _ => by
    simp [toD] at h; subst h
    refine ⟨?_, by simp only [PyData.shown]; exact strOk_ofString _⟩
    simp only [PyData.shown,sz]
    have := int_text_length_le (a := i) (k := i.natAbs.log2 + 1) (by omega) (by omega)
    have e : (Str.ofString (toString i)).length = (toString i).length := by
      show (cpsOfBytes 0 0 (toString i).toByteArray.data.toList).toArray.size = _
      rw [List.size_toArray, cpsOfBytes_string, List.length_map]; rfl
    show (Str.ofString (toString i)).length ≤ _
    omega
  | .str x, _, h, g => by
    simp [toD] at h; subst h
    have ok : okS x = true := by simpa [isD] using g
    have o2 := okS.ok ok
    refine ⟨?_, by simp only [PyData.shown]; exact strOk_repr o2⟩
    simp only [PyData.shown,sz]
    exact StrLaws.reprText_len x fun c hc => Nat.lt_of_lt_of_le (strOk_iff.mp o2 c hc) (by decide)
  | .tup xs, d, h, g => by
    simp only [toD,Option.map_eq_some_iff] at h
    obtain ⟨ds, e, rfl⟩ := h
    obtain ⟨h1, h2⟩ := showns_ok xs ds e (by simpa [isD] using g)
    simp only [PyData.shown_tuple,sz]
    constructor
    · have hj := join_len ", " (PyData.shownAll ds)
      rw [strLen_append, strLen_append]
      have l1 : ("(" : Str).length = 1 := by decide
      have l2 : (if (ds.length == 1) = true then (",)" : Str) else ")").length ≤ 2 := by split <;> decide
      have l3 : (", " : Str).length = 2 := by decide
      rw [l3] at hj
      have l2' : ((if (ds.length == 1) = true then ",)" else ")" : String) : Str).length ≤ 2 := by split <;> decide
      omega
    · refine strOk_app (strOk_app (strOk_ofString _) (join_ok (strOk_ofString _) _ h2)) ?_
      exact strOk_ofString _
  | .lst xs, d, h, g => by
    simp only [toD,Option.map_eq_some_iff] at h
    obtain ⟨ds, e, rfl⟩ := h
    obtain ⟨h1, h2⟩ := showns_ok xs ds e (by simpa [isD] using g)
    simp only [PyData.shown_list,sz]
    constructor
    · have hj := join_len ", " (PyData.shownAll ds)
      rw [strLen_append, strLen_append]
      have l1 : ("[" : Str).length = 1 := by decide
      have l2 : ("]" : Str).length = 1 := by decide
      have l3 : (", " : Str).length = 2 := by decide
      rw [l3] at hj
      omega
    · exact strOk_app (strOk_app (strOk_ofString _) (join_ok (strOk_ofString _) _ h2)) (strOk_ofString _)
  | .ref _, _, h, _ => by simp [toD] at h
  | .ty _, _, h, _ => by simp [toD] at h
theorem showns_ok : ∀ (xs : List U) (ds : List PyData), toDs xs = some ds → isDs xs = true → ((PyData.shownAll ds).map fun t => t.length + 2).sum ≤ szs xs ∧ ∀ t ∈ PyData.shownAll ds, PyData.strOk t = true
  | [], _, h, _ => by simp [toDs] at h; subst h; simp [PyData.shownAll, szs]
  | x :: xs, ds, h, g => by
    simp only [toDs] at h
    simp only [isDs,Bool.and_eq_true] at g
    cases e : toD x <;> cases e2 : toDs xs <;> rw [e, e2] at h <;> simp at h
    subst h
    obtain ⟨h1, h2⟩ := shown_ok x _ e g.1
    obtain ⟨h3, h4⟩ := showns_ok xs _ e2 g.2
    simp only [PyData.shownAll_cons,List.map_cons,List.sum_cons,szs,List.mem_cons]
    refine ⟨by omega, fun t ht => ?_⟩
    rcases ht with rfl | ht
    · exact h2
    · exact h4 t ht
end
/-- what repr takes -/
def okR (x : U) : Prop := isD x = true ∧ shw x = true ∧ dep x ≤ 150 ∧ sz x ≤ 16000000
theorem rep_ok {x : U} (h : okR x) : okS (rep x) = true := by
  obtain ⟨h1, h2, h3, h4⟩ := h
  obtain ⟨d, e, _⟩ := toD_some x h1
  obtain ⟨q1, q2⟩ := shown_ok x d e h1
  have er : rep x = d.shown := by unfold rep; rw [e]
  rw [er]
  unfold okS
  rw [Bool.and_eq_true]
  exact ⟨decide_eq_true (Nat.le_trans q1 (Nat.le_trans h4 (by rw [sizeLine_eq]; decide))), q2⟩
def reprR (xs : List U) (M : UHp) (Q : UK) : Prop := match xs with
  | [x] => okR (val M x) ∧ Q (.str (rep (val M x))) M
  | _ => False
def dnC (K : PySem.W.Frag) (r : List U → UHp → UK → Prop) : List V → Hp → VK → Prop := fun vs H Q => ∃ xs M Qu, RelUs K H xs vs ∧ RelM K H M ∧ r xs M Qu ∧ UpK K H Qu Q
section
variable {X : Cx}
theorem noDict_of_canLay {d : PyData} (h : d.canLay0 = true) : d.hasDict = false := PyData.hasDict_of_canLay d h
theorem uc_repr (hg : X.A.guards = some []) (hu : X.A.units + 200 < cLine) : CallR X (.builtin "repr") (dnC X.K reprR) := by
  intro pins s σ H vs us Q I rv h
  obtain ⟨xs, M, Qu, r, rm, q, up⟩ := h
  unfold reprR at q
  split at q
  · rename_i x
    obtain ⟨v, w, rfl, r1, rfl⟩ := r
    obtain ⟨u, rfl, ru⟩ := vals1 rv
    obtain ⟨ok, q⟩ := q
    have oks := rep_ok ok
    obtain ⟨h1, h2, h3, h4⟩ := ok
    obtain ⟨d, e, cl⟩ := toD_some _ h1
    have er : rep (val M x) = d.shown := by unfold rep; rw [e]
    have hd := dep_toD _ _ e
    have hz : d.shown.length ≤ sizeLine := by rw [← er]; exact okS.len oks
    obtain ⟨as, rd⟩ := Dp.reads I d v u (dp_val rm r1 e) ru
    have fin := up _ _ (.str (rep (val M x))) H q (Stab.refl H) rm ⟨rfl, oks⟩
    have hs := shw_toD _ _ e h2
    rw [er] at fin
    cases d with
    | none =>
      cases rd
      exact PySem.P.repr_of_none (by simp only [PyData.shown] at fin; exact ⟨.str "None", H, I.tok _, ⟨_, rfl⟩, fin⟩)
    | bool b =>
      cases rd
      exact PySem.P.repr_of_bool (by simp only [PyData.shown] at fin; exact ⟨.str _, H, I.tok _, ⟨_, rfl⟩, fin⟩)
    | int i =>
      cases rd
      exact PySem.P.repr_of_int (by simpa [PyData.showable] using hs) (by simp only [PyData.shown] at fin; exact ⟨.str _, H, I.tok _, ⟨_, rfl⟩, fin⟩)
    | str z =>
      cases rd
      exact PySem.P.repr_of_str (by simp only [PyData.shown] at fin; exact ⟨.str _, H, I.tok _, ⟨_, rfl⟩, fin⟩) (by simpa only [PyData.shown] using hz)
    | list ds =>
      have : ∃ a, u = .ref a := by cases rd; exact ⟨_, rfl⟩
      obtain ⟨a, rfl⟩ := this
      exact repr_of_reads' rd hs (PyData.noDict_hsm (noDict_of_canLay cl)) hg (by omega) (fun _ _ e => e) (fun h' u' tk hk => ⟨.str _, H, I.kept hk, ⟨_, rfl⟩, fin⟩) hz
    | tuple ds =>
      have : ∃ a, u = .ref a := by cases rd; exact ⟨_, rfl⟩
      obtain ⟨a, rfl⟩ := this
      exact repr_of_reads' rd hs (PyData.noDict_hsm (noDict_of_canLay cl)) hg (by omega) (fun _ _ e => e) (fun h' u' tk hk => ⟨.str _, H, I.kept hk, ⟨_, rfl⟩, fin⟩) hz
    | dict kvs => simp [PyData.canLay0] at cl
  · exact q.elim
end
end PU

set_option Elab.async false
set_option linter.all false
set_option maxRecDepth 100000
/-! UFn: what a def keeps; calls. -/
namespace PU
open PySem PySem.Spec PyProof.Rows L2

theorem delM_same {M : UHp} {a : Addr} : delM M a a = none := by unfold delM; rw [if_pos rfl]
theorem delM_ne {M : UHp} {a b : Addr} (h : b ≠ a) : delM M a b = M b := by unfold delM; rw [if_neg h]
theorem delM_upd {M : UHp} {a : Addr} {o : MO} (h : M a = none) : delM (updM M a o) a = M := by
  funext b
  by_cases e : b = a
  · subst e; rw [delM_same, h]
  · rw [delM_ne e, updM_ne e]
/-- a list that is handed back may be carried by value from then on -/
def ZQ (Q : UK) : UK := fun x M => Q x M ∨ ∃ a xs, x = .ref a ∧ M a = some (.lst xs) ∧ Q (.lst xs) (delM M a)
theorem RelM.del {K : PySem.W.Frag} {H : Hp} {M : UHp} {a : Addr} {vs : List V} {u : HO} (rm : RelM K H M) (h : H a = some (.lst vs)) : RelM K (upd H a u) (delM M a) := fun b o e => by
  by_cases hb : b = a
  · subst hb; rw [delM_same] at e; cases e
  · rw [delM_ne hb] at e
    exact (rm b o e).at (Stab.lst h) (upd_ne hb)
theorem zq_dn {K : PySem.W.Frag} {H : Hp} {Qu : UK} {Q : VK} (up : UpK K H Qu Q) : UpK K H (ZQ Qu) (FzQ Q) := fun x M v H' q s m r => by
  rcases q with q | ⟨a, xs, rfl, e, q⟩
  · exact .inl (up x M v H' q s m r)
  · obtain rfl := r
    obtain ⟨vs, h1, h2⟩ := m a _ e
    refine .inr ⟨a, vs, rfl, h1, fun o => ?_⟩
    have s2 : Stab H' (upd H' a (.frz o (.lst vs))) := Stab.lst h1
    exact up _ _ _ _ q (s.trans s2) (m.del h1) ⟨a, vs, rfl, .inl ⟨o, upd_same⟩, h2.stab s2⟩

/-- an exception: its class, its own dict -/
abbrev UXK := Value → Option Addr → UHp → Prop
def UpX (K : PySem.W.Frag) (H : Hp) (Eu : UXK) (E : XK) : Prop := ∀ c d M' H', Eu c d M' → Stab H H' → RelM K H' M' → E c d H'
/-- a def's promise -/
abbrev USp := List U → UHp → UK → UXK → Prop
def dnP (K : PySem.W.Frag) (sp : USp) : Sp := fun vs H Q E => ∃ us M Qu Eu, RelUs K H us vs ∧ RelM K H M ∧ sp us M Qu Eu ∧ UpK K H Qu Q ∧ UpX K H Eu E
abbrev EU0 : UXK := fun _ _ _ => False
structure UFn (P : Program) (w : World) (K : PySem.W.Frag) (mg : Str → Option Value) (base : Heap) (CX : CXT) (k : Nat) (f : Addr) (fd : FuncData) (ps : List Str) (sp : USp) : Prop where
  len : ∀ us M Q E, sp us M Q E → us.length = ps.length
  go : ∀ (A : Around) (outer : List Env) (s : Shared) (H : Hp) (args : Args) (ws : List Value) (vs : List V) (Q : VK) (E : XK), Room k A → A.guards = some [] →
    Env0 P w K mg base A outer s H → BindsTo s fd args (ps.zip ws) → Vals vs ws → dnP K sp vs H Q E → codeAny (model P w) A (.call (.ref f) args) (CR CX outer P w H s Q E) s
section
variable {P : Program} {w : World} {K : PySem.W.Frag} {mg : Str → Option Value} {base : Heap} {CX : CXT} {k : Nat} {f : Addr} {fd : FuncData} {ps : List Str}
theorem UFn.up {j k : Nat} {sp : USp} (F : UFn P w K mg base CX j f fd ps sp) (h : j ≤ k) : UFn P w K mg base CX k f fd ps sp :=
  ⟨F.len, fun A outer s H args ws vs Q E hr => F.go A outer s H args ws vs Q E (hr.mono h)⟩
theorem UFn.imp {sp sp' : USp} (F : UFn P w K mg base CX k f fd ps sp) (h : ∀ us M Q E, sp' us M Q E → sp us M Q E) : UFn P w K mg base CX k f fd ps sp' :=
  ⟨fun us M Q E q => F.len us M Q E (h _ _ _ _ q), fun A outer s H args ws vs Q E hr hg e0 hb hv ⟨us, M, Qu, Eu, r, m, q, u1, u2⟩ =>
    F.go A outer s H args ws vs Q E hr hg e0 hb hv ⟨us, M, Qu, Eu, r, m, h _ _ _ _ q, u1, u2⟩⟩
/-- a promise by cases of what is asked: one choice for each -/
theorem UFn.any {ι : Sort _} {sp : ι → USp} (h0 : Nonempty ι) (F : ∀ i, UFn P w K mg base CX k f fd ps (sp i)) : UFn P w K mg base CX k f fd ps (fun us M Q E => ∃ i, sp i us M Q E) :=
  ⟨fun us M Q E ⟨i, q⟩ => (F i).len us M Q E q, fun A outer s H args ws vs Q E hr hg e0 hb hv ⟨us, M, Qu, Eu, r, m, ⟨i, q⟩, u1, u2⟩ =>
    (F i).go A outer s H args ws vs Q E hr hg e0 hb hv ⟨us, M, Qu, Eu, r, m, q, u1, u2⟩⟩

def z72 (N : List Str) (us : List U) : USt := us.map some ++ List.replicate (N.length - us.length) none
theorem rel_start {H : Hp} {N : List Str} : ∀ {us : List U} {vs : List V}, RelUs K H us vs → RelS K H (z72 N us) (L2.start N vs) := fun {us vs} r => by
  refine ⟨by simp [z72, L2.start, r.length], fun i u e => ?_⟩
  unfold z72 at e
  unfold L2.start
  by_cases hi : i < us.length
  · rw [List.getElem?_append_left (by simpa using hi), List.getElem?_map] at e
    rw [List.getElem?_append_left (by simpa [← r.length] using hi), List.getElem?_map]
    cases q : us[i]? with
    | none => rw [q] at e; cases e
    | some x =>
      rw [q] at e; cases e
      obtain ⟨v, e1, e2⟩ := r.get q
      exact ⟨v, by rw [e1]; rfl, e2⟩
  · rw [List.getElem?_append_right (by simpa using hi), List.getElem?_replicate] at e
    split at e <;> cases e

/-- the body of a def: by its reading -/
theorem ufn_body {name qual : Str} {params : Arguments} {body : List Stmt} {scope : Scope} {dV kV doc pm cdv ct oc : Value} {an od : Option Addr}
    {osl : Array (Option Value)} {N : List Str} {sp : USp} (lk : K.lookup f = some ⟨oc, od, .func (PySem.W.fnOf name qual params body scope dV kV doc pm an cdv ct), osl⟩) (hcd : PySem.W.codeIn K cdv qual = true) (S : FnScope N ps scope)
    (len : ∀ us M Q E, sp us M Q E → us.length = ps.length)
    (hbody : ∀ (A : Around) (outer : List Env) (s : Shared) (H : Hp) (E : XK), Room k (A.deeper (envOfC qual scope s.heap.objs.size f cdv)) → A.guards = some [] →
      ∀ (us : List U) (M : UHp) (Q : UK) (Eu : UXK), UpX K H Eu E → sp us M Q Eu → ∃ t, USs (cxOf CX P w K mg base N qual scope f cdv A outer s H E) body t ∧ t { nx := fun _ M' => Q .non M', rt := ZQ Q } (z72 N us) M) :
    UFn P w K mg base CX (k + 1) f (PySem.W.fnOf name qual params body scope dV kV doc pm an cdv ct) ps sp := by
  refine ⟨len, fun A outer s H args ws vs Q E hr hg e0 hb rv hsp => ?_⟩
  obtain ⟨us, M, Qu, Eu, ru, rm, q0, upK, upX⟩ := hsp
  have hl : vs.length = ps.length := by rw [← ru.length]; exact len _ _ _ _ q0
  have inH : ∀ b o, base.get? b = some o → s.heap.get? b = some o := fun b o e => (e0.bs b o e).1
  have KH := e0.mod.kin.keeps inH
  have lim := e0.mod.nolimit.keeps inH
  refine codeAny_call_function hr.depth (KH _ _ lk) rfl S.co S.gen rfl (PySem.W.codeRec_of KH hcd) (hb _ _ _ _ ?_)
  refine wpAny_newFunctionEnv_cells S.kind (fun y hy => ?_) fun env he s1 x => ?_
  · rcases S.par y.1 (List.of_mem_zip (show (y.1, y.2) ∈ ps.zip ws from hy)).1 with z | z
    · exact .inl z
    · exact .inr ⟨z, PySem.W.cellsFrom_some _ _ _ (.inl z)⟩
  · subst he
    refine ⟨lim.keeps x.toInCall.keep, codeAny_func ?_⟩
    obtain ⟨t, ht, q⟩ := hbody A outer s H E (hr.deeper _) hg us M Qu Eu upX q0
    have I : Inv (cxOf CX P w K mg base N qual scope f cdv A outer s H E) [] (L2.start N vs) H s1 := inv_start S hr.hd e0 hl rv x
    have wp := ht.run [] s1 (L2.start N vs) H { nx := fun _ H' => Q .non H', rt := FzQ Q, bk := fun _ _ => False, ct := fun _ _ => False } I
      ⟨z72 N us, M, _, rel_start ru, rm, q, ⟨fun σ' M' τ' H' q' s' m' _ => upK .non M' .non H' q' s' m' rfl, zq_dn upK, fun _ _ _ _ z _ _ _ => z.elim, fun _ _ _ _ z _ _ _ => z.elim⟩⟩
    refine wpAny_mono wp (fun fl s' hs => ?_) fun e s' hs => hs
    cases fl with
    | ret u =>
      obtain ⟨v, σ', H', J, r1, q1⟩ := hs
      obtain ⟨v2, H2, J2, r2, q2⟩ := ep_fz (show EP _ [] σ' (FzQ Q) u s' from ⟨v, H', J, r1, q1⟩)
      exact ⟨v2, H2, J2.os, J2.bare, J2.base, J2.hok, r2, q2⟩
    | next =>
      obtain ⟨σ', H', J, q1⟩ := hs
      exact ⟨.non, H', J.os, J.bare, J.base, J.hok, rfl, q1⟩
    | brk => exact False.elim hs.choose_spec.choose_spec.2
    | cont => exact False.elim hs.choose_spec.choose_spec.2
end
section
variable {P : Program} {w : World} {K : PySem.W.Frag} {mg : Str → Option Value} {base : Heap} {k : Nat} {f : Addr} {fd : FuncData} {N ps : List Str} {x qual : Str} {st : Stmt}
theorem us_nox {X : Cx} {sts : List Stmt} {t : UTS} (h : USs X.nox sts t) : USs X sts t := PSs.nox h
/-- a def that lets no exception out; its code object is told -/
theorem ufn_okT {sp : USp} {t : UTS} (F : Fun K x qual st f fd) (S : FnScope N ps (defScope st)) (len : ∀ us M Q E, sp us M Q E → us.length = ps.length)
    (hbody : ∀ (cdv : Value) (A : Around) (outer : List Env) (s : Shared) (H : Hp) (E : XK), Room k (A.deeper (envOfC qual (defScope st) s.heap.objs.size f cdv)) → A.guards = some [] → cdv = fd.code →
      USs (cxOf CX0 P w K mg base N qual (defScope st) f cdv A outer s H E).nox (defBody st) t)
    (pure : ∀ (us : List U) (M : UHp) (Q : UK) (E : UXK), sp us M Q E → t { nx := fun _ M' => Q .non M', rt := ZQ Q } (z72 N us) M) : UFn P w K mg base CX0 (k + 1) f fd ps sp := by
  obtain ⟨oc, od, kV, doc, pm, an, cdv, ct, osl, rfl, lk, hcd⟩ := F.ex
  exact ufn_body lk hcd S len fun A outer s H E hr hg us M Q Eu _ hsp => ⟨t, us_nox (hbody cdv A outer s H E hr hg rfl), pure us M Q Eu hsp⟩
/-- a def that lets no exception out -/
theorem ufn_ok {sp : USp} {t : UTS} (F : Fun K x qual st f fd) (S : FnScope N ps (defScope st)) (len : ∀ us M Q E, sp us M Q E → us.length = ps.length)
    (hbody : ∀ (cdv : Value) (A : Around) (outer : List Env) (s : Shared) (H : Hp) (E : XK), Room k (A.deeper (envOfC qual (defScope st) s.heap.objs.size f cdv)) → A.guards = some [] →
      USs (cxOf CX0 P w K mg base N qual (defScope st) f cdv A outer s H E).nox (defBody st) t)
    (pure : ∀ (us : List U) (M : UHp) (Q : UK) (E : UXK), sp us M Q E → t { nx := fun _ M' => Q .non M', rt := ZQ Q } (z72 N us) M) : UFn P w K mg base CX0 (k + 1) f fd ps sp :=
  ufn_okT F S len (fun cdv A outer s H E h1 h2 _ => hbody cdv A outer s H E h1 h2) pure
end

/-! ### calls -/
section
variable {X : Cx} {CX : CXT} {k : Nat} {f : Addr} {fd : FuncData} {ps : List Str} {sp : USp} {x : Str} {p pos : Pos} {e : Expr} {es : List Expr} {t : UTA}
def z7s (sp : USp) (dus : List U) (t : UTA) (σ : USt) (M : UHp) (Q : UK) : Prop := t σ M fun us M1 => sp (us ++ dus) M1 Q EU0
theorem run_ufn {CX : CXT} {pins : List (Addr × Obj)} {τ : L2.St} {H : Hp} {s : Shared} {Q : VK} {E : XK} {ws : List Value} {vs : List V} {ds : List Value} {dvs : List V} (F : UFn X.prog X.w X.K X.mg X.base CX k f fd ps sp) (hr : Room k X.A) (hG : X.A.guards = some []) (hb : Binds X.K fd ps ds)
    (hd : Vals dvs ds) (hx : Passes CX X E) (I : Inv X pins τ H s) (rv : Vals vs ws) (h : dnP X.K sp (vs ++ dvs) H Q E) : wpAny (model X.prog X.w) X.A (call (.ref f) ws) (EP X pins τ Q) X.xe s := by
  have rr := rv.append hd
  have hl : (ws ++ ds).length = ps.length := by
    obtain ⟨us, M, Qu, Eu, r, _, q, _⟩ := h
    rw [← rr.length, ← r.length]; exact F.len _ _ _ _ q
  refine wpAny_call (codeAny_mono (F.go X.A X.stack s H _ _ _ Q E hr hG I.env0 (hb s ws I.kIn hl) rr h) fun r s' hq => ?_)
  match r, hq with
  | .error e, hq => exact hx pins τ H s e s' I hq
  | .ok (.ret u), hq => exact I.after hq
theorem ue_call {dus : List U} {dvs : List V} {ds : List Value} (F : UFn X.prog X.w X.K X.mg X.base CX0 k f fd ps sp) (hr : Room k X.A) (hG : X.A.guards = some []) (hg : Gl X x) (hm : X.mg x = some (.ref f)) (hk : PySem.W.keepIn X.K (.ref f) = true)
    (hb : Binds X.K fd ps ds) (hd : Vals dvs ds) (hdu : ∀ H, RelUs X.K H dus dvs)
    (ha : UA X (e :: es) t) (hdb : (x == ("__debug__" : Str)) = false := by decide) (he : starEach (e :: es) X.env = (false, eval e X.env) :: starEach es X.env := by rfl) (hpl : (backTo pos (starEach es X.env)).any (·.1) = false := by rfl) :
    UE X (.Call (.Name x p) (e :: es) [] pos) (z7s sp dus t) := by
  constructor
  intro pins s τ H Q I h
  obtain ⟨σ, M, Qu, rs, rm, q, up⟩ := h
  refine wpAny_Call_Name_kw (ld_glob I hg hm ?_ hdb)
  refine PySem.W.callWith_K (h₀ := X.base) I.ok.mod.kin hk (thn (ha.run pos pins s τ H (fun vs H1 => dnP X.K sp (vs ++ dvs) H1 Q E0) I ⟨σ, M, _, rs, rm, q, fun us M1 vs H1 q1 s1 m1 r1 => ?_⟩) fun ws s1 ⟨vs, H1, I1, r, q⟩ => ⟨I1.kIn, ?_⟩) he hpl
  · exact ⟨us ++ dus, M1, Qu, EU0, r1.append (hdu H1), m1, q1, up.from s1, fun _ _ _ _ z _ _ => z.elim⟩
  · exact run_ufn F hr hG hb hd pass0 I1 r q
end
end PU

set_option Elab.async false
set_option linter.all false
set_option maxRecDepth 100000
/-! UBlt: built-ins, methods, subscripts, displays over U. -/
namespace PU
open PySem PySem.Spec PyProof.Rows L2

section
variable {X : Cx} {x : Str} {p pos : Pos} {e : Expr} {es : List Expr} {t : UTA} {id T : String} {r : List U → UHp → UK → Prop}
abbrev UCallR (X : Cx) (f : Value) (r : List U → UHp → UK → Prop) : Prop := CallR X f (dnC X.K r)
theorem CallR.mono {f : Value} {r r' : List V → Hp → VK → Prop} (h : CallR X f r) (w : ∀ xs H Q, r' xs H Q → r xs H Q) : CallR X f r' := fun pins s σ H xs us Q I rs q => h pins s σ H xs us Q I rs (w xs H Q q)
theorem CallR.fz {f : Value} {r r' : List V → Hp → VK → Prop} (h : CallR X f r) (w : ∀ xs H Q, r' xs H Q → r xs H (FzQ Q)) : CallR X f r' := fun pins s σ H xs us Q I rs q =>
  thn (h pins s σ H xs us (FzQ Q) I rs (w xs H Q q)) fun _ _ => ep_fz
theorem PE.fz {e : Expr} {t t' : TE} (h : PE X e t) (w : ∀ σ H Q, t' σ H Q → t σ H (FzQ Q)) : PE X e t' := ⟨fun pins s σ H Q I q => thn (h.run pins s σ H (FzQ Q) I (w σ H Q q)) fun _ _ => ep_fz⟩
def uCB (r : List U → UHp → UK → Prop) (t : UTA) (σ : USt) (M : UHp) (Q : UK) : Prop := t σ M fun xs M1 => r xs M1 Q
theorem dn_cb : ∀ σ H Q, dnE X.K (uCB r t) σ H Q → tCB (dnC X.K r) (dnA X.K t) σ H Q := fun τ H Q h => by
  obtain ⟨σ, M, Qu, rs, rm, q, up⟩ := h
  exact ⟨σ, M, _, rs, rm, q, fun xs M1 vs H1 q1 s1 m1 r1 => ⟨xs, M1, Qu, r1, m1, q1, up.from s1⟩⟩
theorem ue_callB (hc : UCallR X (.builtin id) r) (hg : Gl X x) (hm : X.mg x = none) (hv : bootBuiltins x = some (.builtin id)) (ha : UA X (e :: es) t) (hn : x ≠ "__name__" := by decide) (hdb : (x == ("__debug__" : Str)) = false := by decide)
    (he : starEach (e :: es) X.env = (false, eval e X.env) :: starEach es X.env := by rfl) (hpl : (backTo pos (starEach es X.env)).any (·.1) = false := by rfl) : UE X (.Call (.Name x p) (e :: es) [] pos) (uCB r t) :=
  PE.mono (pe_callB hc hg hm hv ha hn hdb he hpl) dn_cb
theorem ue_callTy (hc : UCallR X (.type T) r) (hg : Gl X x) (hm : X.mg x = none) (hv : bootBuiltins x = some (.type T)) (ha : UA X (e :: es) t) (hn : x ≠ "__name__" := by decide) (hdb : (x == ("__debug__" : Str)) = false := by decide)
    (he : starEach (e :: es) X.env = (false, eval e X.env) :: starEach es X.env := by rfl) (hpl : (backTo pos (starEach es X.env)).any (·.1) = false := by rfl) : UE X (.Call (.Name x p) (e :: es) [] pos) (uCB r t) :=
  PE.mono (pe_callTy hc hg hm hv ha hn hdb he hpl) dn_cb

/-! ### displays -/
def z8s (t : UTA) (σ : USt) (M : UHp) (Q : UK) : Prop := t σ M fun xs M1 => xs.length ≤ sizeLine ∧ Q (.tup xs) M1
def z8j (m : Bool) (t : UTA) (σ : USt) (M : UHp) (Q : UK) : Prop := t σ M fun xs M1 => xs.length ≤ sizeLine ∧ newL m xs M1 Q
theorem ue_tup {x1} (h : UA X es t) : UE X (.Tuple es x1 pos) (z8s t) := PE.mono (pe_tupD h) fun τ H Q h => by
  obtain ⟨σ, M, Qu, rs, rm, q, up⟩ := h
  exact ⟨σ, M, _, rs, rm, q, fun xs M1 vs H1 q1 s1 m1 r1 => ⟨by rw [← r1.length]; exact q1.1, newT_dn m1 (up.from s1) r1 q1.2⟩⟩
theorem ue_lst (m : Bool) (h : UA X es t) : UE X (.List es pos) (z8j m t) := PE.fz (pe_lst h) fun τ H Q h => by
  obtain ⟨σ, M, Qu, rs, rm, q, up⟩ := h
  exact ⟨σ, M, _, rs, rm, q, fun xs M1 vs H1 q1 s1 m1 r1 => ⟨by rw [← r1.length]; exact q1.1, newL_dn m1 (up.from s1) r1 q1.2⟩⟩

/-! ### len -/
def lenU (M : UHp) : U → Option Nat
  | .str z => some z.length
  | .tup xs => some xs.length
  | .lst xs => some xs.length
  | .ref a => match M a with
    | some (.lst xs) => some xs.length
    | _ => none
  | _ => none
def lenR (xs : List U) (M : UHp) (Q : UK) : Prop := match xs with
  | [x] => ∃ n, lenU M x = some n ∧ Q (.int (n : Nat)) M
  | _ => False
/-! ### isinstance -/
def tyM (M : UHp) : U → Option String
  | .non => some "NoneType"
  | .bl _ => some "bool"
  | .int _ => some "int"
  | .str _ => some "str"
  | .tup _ => some "tuple"
  | .lst _ => some "list"
  | .ref a => match M a with
    | some (.lst _) => some "list"
    | some (.dK _) => some "dict"
    | _ => none
  | .ty _ => none
def subT (t n : String) : Bool := t == n || (t == "bool" && n == "int")
def okN (n : String) : Bool := n == "str" || n == "int" || n == "bool" || n == "tuple" || n == "list" || n == "dict"
theorem kit_sub {K : PySem.W.Frag} {M : UHp} {u : U} {t n : String} (h : tyM M u = some t) (hn : okN n = true) : PySem.W.kitOne K (.type t) (.type n) = some (subT t n) := by
  have ht : t = "NoneType" ∨ t = "bool" ∨ t = "int" ∨ t = "str" ∨ t = "tuple" ∨ t = "list" ∨ t = "dict" := by
    cases u <;> simp only [tyM,Option.some.injEq,reduceCtorEq] at h
    case ref a =>
      split at h
      · simp at h; simp [← h]
      · simp at h; simp [← h]
      · cases h
    all_goals simp [← h]
  have hn' : n = "str" ∨ n = "int" ∨ n = "bool" ∨ n = "tuple" ∨ n = "list" ∨ n = "dict" := by
    simp only [okN,Bool.or_eq_true,beq_iff_eq] at hn
    rcases hn with ((((h | h) | h) | h) | h) | h <;> simp [h]
  apply kit_ty
  rcases ht with rfl | rfl | rfl | rfl | rfl | rfl | rfl <;> rcases hn' with rfl | rfl | rfl | rfl | rfl | rfl <;> decide +kernel
def isiR (xs : List U) (M : UHp) (Q : UK) : Prop := match xs with
  | [x, .ty n] => ∃ t, tyM M x = some t ∧ okN n = true ∧ Q (.bl (subT t n)) M
  | [x, .tup [.ty n, .ty m]] => ∃ t, tyM M x = some t ∧ okN n = true ∧ okN m = true ∧ Q (.bl (subT t n || subT t m)) M
  | _ => False
theorem tyx_of {K : PySem.W.Frag} {H : Hp} {M : UHp} {u : U} {v : V} {t : String} (rm : RelM K H M) (r : RelU K H u v) (h : tyM M u = some t) : TyX K H v (.type t) := by
  cases u with
  | non => obtain rfl := r; simp only [tyM,Option.some.injEq] at h; subst h; exact .base .non
  | bl b => obtain rfl := r; simp only [tyM,Option.some.injEq] at h; subst h; exact .base (.bl b)
  | int i => obtain rfl := r; simp only [tyM,Option.some.injEq] at h; subst h; exact .base (.int i)
  | str z => obtain ⟨rfl, _⟩ := r; simp only [tyM,Option.some.injEq] at h; subst h; exact .base (.str z)
  | ty n => simp [tyM] at h
  | tup xs =>
    obtain ⟨a, vs, rfl, q, _⟩ := r
    simp only [tyM,Option.some.injEq] at h; subst h
    rcases q.t with (q | ⟨o, q⟩) | ⟨o, its, n, q, c, _⟩
    · exact .base (.tup q)
    · exact .fTuple q
    · exact .kTuple q c
  | lst xs =>
    obtain ⟨a, vs, rfl, q, _⟩ := r
    simp only [tyM,Option.some.injEq] at h; subst h
    rcases q with ⟨o, q⟩ | ⟨o, its, n, q, c, _⟩
    · exact .base (.frz q)
    · exact .kList q c
  | ref a =>
    obtain rfl := r
    simp only [tyM] at h
    cases hm : M a with
    | none => rw [hm] at h; cases h
    | some o =>
      rw [hm] at h
      cases o with
      | lst ys => simp only [Option.some.injEq] at h; subst h; obtain ⟨vs, h1, h2⟩ := rm a _ hm; exact .base (.lst h1)
      | dK ys => simp only [Option.some.injEq] at h; subst h; obtain ⟨vs, h1, h2⟩ := rm a _ hm; exact .base (.dK h1)
      | _ => cases h
theorem uc_isi : UCallR X (.builtin "isinstance") isiR := fun pins s σ H vs us Q I rv h => by
  obtain ⟨xs, M, Qu, r, rm, q, up⟩ := h
  unfold isiR at q
  split at q
  · rename_i x n
    obtain ⟨v, w, rfl, r1, v2, w2, rfl, r2, rfl⟩ := r
    obtain rfl := r2
    obtain ⟨t, e, hn, q⟩ := q
    exact call_isi pins s σ H _ us Q I rv ⟨v, .ty n, .type t, .type n, _, rfl, .ty n, tyx_of rm r1 e, kit_sub e hn, up _ _ _ _ q (Stab.refl H) rm rfl⟩
  · rename_i x n m
    obtain ⟨v, w, rfl, r1, v2, w2, rfl, r2, rfl⟩ := r
    obtain ⟨tp, ts, rfl, hq, v3, w3, rfl, e3, v4, w4, rfl, e4, rfl⟩ := r2
    obtain rfl := e3
    obtain rfl := e4
    obtain ⟨t, e, hn, hm, q⟩ := q
    have kk : PySem.W.kitAny X.K (.type t) [.type n, .type m] = some (subT t n || subT t m) := by
      refine kitAny_cons (kit_sub e hn) (fun h1 => ?_) fun h1 => by rw [h1]; rfl
      refine kitAny_cons (kit_sub e hm) (fun h2 => ?_) fun h2 => by rw [h2, Bool.or_true]
      rw [h1, h2]; rfl
    obtain ⟨u1, u2, rfl, q1, q2⟩ := rv.two
    obtain rfl : u2 = Value.ref tp := q2
    obtain ⟨P, Z, z, hx⟩ := kit_of I q1 (tyx_of rm r1 e)
    obtain ⟨its, rt, ⟨⟨oc, od, dt, sl⟩, ho, hcls, nn, hdt⟩, _⟩ := I.tuple hq.t
    simp only at hcls hdt
    subst hcls hdt
    have hits : its = [.type n, .type m] := by
      cases rt with
      | cons a b =>
        cases b with
        | cons c d =>
          cases d
          rw [show _ = Value.type n from a, show _ = Value.type m from c]
    subst hits
    exact PySem.W.kia_tup Z I.kIn z ho kk hx fun tk => ⟨.bl _, H, I.tok tk, rfl, up _ _ _ _ q (Stab.refl H) rm rfl⟩
  · exact q.elim

/-! ### all, any -/
def allU : List U → Option Bool
  | [] => some true
  | .bl b :: r => (allU r).map (b && ·)
  | _ :: _ => none
def anyU : List U → Option Bool
  | [] => some false
  | .bl b :: r => (anyU r).map (b || ·)
  | _ :: _ => none
theorem allU_bl : ∀ {xs : List U} {k : Bool}, allU xs = some k → ∃ bs : List Bool, xs = bs.map .bl ∧ k = bs.all _root_.id
  | [], k, h => by simp only [allU,Option.some.injEq] at h; exact ⟨[], rfl, h.symm⟩
  | .bl b :: r, k, h => by
    simp only [allU,Option.map_eq_some_iff] at h
    obtain ⟨c, e, rfl⟩ := h
    obtain ⟨bs, rfl, rfl⟩ := allU_bl e
    exact ⟨b :: bs, rfl, by simp⟩
  | .non :: _, _, h => by simp [allU] at h
  | .int _ :: _, _, h => by simp [allU] at h
  | .str _ :: _, _, h => by simp [allU] at h
  | .ref _ :: _, _, h => by simp [allU] at h
  | .ty _ :: _, _, h => by simp [allU] at h
  | .tup _ :: _, _, h => by simp [allU] at h
  | .lst _ :: _, _, h => by simp [allU] at h
theorem rel_bls {K : PySem.W.Frag} {H : Hp} : ∀ {bs : List Bool} {vs : List V}, RelUs K H (bs.map .bl) vs → vs = bs.map V.bl
  | [], _, h => h
  | b :: bs, _, h => by
    obtain ⟨v, r, rfl, rfl, t⟩ := h
    rw [rel_bls t]; rfl
def allR (xs : List U) (M : UHp) (Q : UK) : Prop := match xs with
  | [x] => ∃ ys k, listU M x = some ys ∧ allU ys = some k ∧ Q (.bl k) M
  | _ => False
def anyR (xs : List U) (M : UHp) (Q : UK) : Prop := match xs with
  | [x] => ∃ ys k, listU M x = some ys ∧ anyU ys = some k ∧ Q (.bl k) M
  | _ => False
theorem uc_all (hc : X.calm = true) : UCallR X (.builtin "all") allR := CallR.mono (cr_all hc) fun vs H Q h => by
  obtain ⟨xs, M, Qu, r, rm, q, up⟩ := h
  unfold allR at q
  split at q
  · obtain ⟨v, w, rfl, r1, rfl⟩ := r
    obtain ⟨ys, k, e, e2, q⟩ := q
    obtain ⟨bs, rfl, rfl⟩ := allU_bl e2
    obtain ⟨a, vs, rfl, h1, h2⟩ := list_dn rm r1 e
    obtain rfl := rel_bls h2
    exact ⟨a, bs, rfl, h1, up _ _ _ _ q (Stab.refl H) rm rfl⟩
  · exact q.elim
/-! ### tuple, list, int -/
def tupleR (xs : List U) (M : UHp) (Q : UK) : Prop := match xs with
  | [x] => ∃ ys, seqU M x = some ys ∧ Q (.tup ys) M
  | _ => False
theorem uc_tuple : UCallR X (.type "tuple") tupleR := CallR.mono call_tupleD fun vs H Q h => by
  obtain ⟨xs, M, Qu, r, rm, q, up⟩ := h
  unfold tupleR at q
  split at q
  · obtain ⟨v, w, rfl, r1, rfl⟩ := r
    obtain ⟨ys, e, q⟩ := q
    obtain ⟨a, vs, rfl, h1, h2⟩ := seq_dn rm r1 e
    rcases h1 with h1 | h1
    · exact ⟨a, vs, rfl, .inl ⟨h1, newT_dn rm up h2 q⟩⟩
    · exact ⟨a, vs, rfl, .inr ⟨h1.t, up _ _ _ _ q (Stab.refl H) rm ⟨a, vs, rfl, h1, h2⟩⟩⟩
  · exact q.elim
def listR (m : Bool) (xs : List U) (M : UHp) (Q : UK) : Prop := match xs with
  | [x] => ∃ ys, seqU M x = some ys ∧ newL m ys M Q
  | _ => False
theorem uc_list (m : Bool) : UCallR X (.type "list") (listR m) := CallR.fz call_list_of fun vs H Q h => by
  obtain ⟨xs, M, Qu, r, rm, q, up⟩ := h
  unfold listR at q
  split at q
  · obtain ⟨v, w, rfl, r1, rfl⟩ := r
    obtain ⟨ys, e, q⟩ := q
    obtain ⟨a, vs, rfl, h1, h2⟩ := seq_dn rm r1 e
    exact ⟨a, vs, rfl, h1.imp id SqX.t, newL_dn rm up h2 q⟩
  · exact q.elim
def intR (xs : List U) (M : UHp) (Q : UK) : Prop := match xs with
  | [.int i] => Q (.int i) M
  | _ => False
/-! ### a[b] -/
def cutL {α : Type} (xs : List α) (lo hi : Option Int) : List α := (xs.drop (HT.sIx xs.length 0 lo)).take (HT.sIx xs.length xs.length hi - HT.sIx xs.length 0 lo)
theorem rel_at {K : PySem.W.Frag} {H : Hp} {xs : List U} {vs : List V} {i : Int} {x : U} (r : RelUs K H xs vs) (h : atI xs i = some x) : ∃ v, atI vs i = some v ∧ RelU K H x v := by
  unfold atI at h ⊢
  rw [r.length] at h
  cases e : ixN vs.length i with
  | none => rw [e] at h; cases h
  | some j =>
    rw [e] at h
    exact r.get h
def ixR (x : U) (y : U) (M : UHp) (Q : UK) : Prop := match x, y with
  | .str z, .int i => ∃ c, atI z.cps.toList i = some c ∧ Q (.str ⟨#[c]⟩) M
  | x, .int i => ∃ xs v, seqU M x = some xs ∧ atI xs i = some v ∧ Q v M
  | _, _ => False
theorem at_mem {α : Type} {xs : List α} {i : Int} {x : α} (h : atI xs i = some x) : x ∈ xs := by
  unfold atI at h
  cases e : ixN xs.length i with
  | none => rw [e] at h; cases h
  | some j => rw [e] at h; exact List.mem_of_getElem? h
theorem okS_one {z : Str} {c : Nat} (h : okS z = true) (hc : c ∈ z.cps.toList) : okS ⟨#[c]⟩ = true := by
  unfold okS
  rw [Bool.and_eq_true]
  refine ⟨decide_eq_true ?_, ?_⟩
  · show 1 ≤ sizeLine
    rw [sizeLine_eq]; decide
  · rw [strOk_iff]
    intro d hd
    have : d = c := by simpa using hd
    rw [this]; exact strOk_iff.mp (okS.ok h) c hc
theorem ui_ix : IxR X (dn2 X.K ixR) := fun value slice pins s σ H v w a b Q I rv rw h hs => by
  refine ix_seq value slice pins s σ H v w a b Q I rv rw ?_ hs
  obtain ⟨x, y, M, Qu, r1, r2, rm, q, up⟩ := h
  unfold ixR at q
  split at q
  · obtain ⟨rfl, k⟩ := r1
    obtain rfl := r2
    obtain ⟨c, e, q⟩ := q
    exact .inr (.inr ⟨_, _, c, rfl, rfl, okS.len k, e, up _ _ _ _ q (Stab.refl H) rm ⟨rfl, okS_one k (at_mem e)⟩⟩)
  · obtain rfl := r2
    obtain ⟨xs, z, e, e2, q⟩ := q
    obtain ⟨p, vs, rfl, h1, h2⟩ := seq_dn rm r1 e
    obtain ⟨v, e3, r3⟩ := rel_at h2 e2
    have fin := up _ _ _ _ q (Stab.refl H) rm r3
    rcases h1 with h1 | h1
    · exact .inl ⟨p, vs, _, v, rfl, rfl, h1, e3, fin⟩
    · exact .inr (.inl ⟨p, vs, _, v, rfl, rfl, h1, e3, fin⟩)
  · exact q.elim
theorem ue_ix {a b : Expr} {ta tb : UTE} (ha : UE X a ta) (hb : UE X b tb) (hs : PlainIx b := by exact fun _ _ => rfl) : UE X (.Subscript a b pos) (uOp ixR ta tb) := PE.mono (pe_ix ui_ix ha hb hs) dn_op

/-! ### slices -/
abbrev UTO := USt → UHp → (Option Int → UHp → Prop) → Prop
def dnO (K : PySem.W.Frag) (t : UTO) : TO := fun τ H Q => ∃ σ M Qu, RelS K H σ τ ∧ RelM K H M ∧ t σ M Qu ∧ ∀ i M' H', Qu i M' → Stab H H' → RelM K H' M' → Q i H'
abbrev UO (X : Cx) (e : Option Expr) (t : UTO) : Prop := PO X e (dnO X.K t)
theorem PO.mono {e : Option Expr} {t t' : TO} (h : PO X e t) (w : ∀ σ H Q, t' σ H Q → t σ H Q) : PO X e t' := ⟨fun pins s σ H Q I q => h.run pins s σ H Q I (w σ H Q q)⟩
def z4x (_ : USt) (M : UHp) (Q : Option Int → UHp → Prop) : Prop := Q none M
def uPart (te : UTE) (σ : USt) (M : UHp) (Q : Option Int → UHp → Prop) : Prop := te σ M fun x M1 => ∃ i, x = .int i ∧ Q (some i) M1
theorem uo_none : UO X none z4x := PO.mono po_none fun τ H Q h => by
  obtain ⟨σ, M, Qu, rs, rm, q, up⟩ := h
  exact up none M H q (Stab.refl H) rm
theorem uo_some {te : UTE} (h : UE X e te) : UO X (some e) (uPart te) := PO.mono (po_some h) fun τ H Q h => by
  obtain ⟨σ, M, Qu, rs, rm, q, up⟩ := h
  refine ⟨σ, M, _, rs, rm, q, fun x M1 v H1 q1 s1 m1 r1 => ?_⟩
  obtain ⟨i, rfl, q1⟩ := q1
  obtain rfl := r1
  exact ⟨i, rfl, up _ _ _ q1 s1 m1⟩
def slR (m : Bool) (x : U) (lo hi : Option Int) (M : UHp) (Q : UK) : Prop := match x with
  | .str z => Q (.str (cutS z lo hi)) M
  | .tup xs => Q (.tup (cutL xs lo hi)) M
  | x => ∃ xs, listU M x = some xs ∧ newL m (cutL xs lo hi) M Q
theorem okS_sub {z y : Str} (h : okS z = true) (hl : y.length ≤ z.length) (hm : ∀ c ∈ y.cps.toList, c ∈ z.cps.toList) : okS y = true := by
  unfold okS
  rw [Bool.and_eq_true]
  exact ⟨decide_eq_true (Nat.le_trans hl (okS.len h)), strOk_iff.mpr fun c hc => strOk_iff.mp (okS.ok h) c (hm c hc)⟩
theorem okS_cut {z : Str} (h : okS z = true) (lo hi : Option Int) : okS (cutS z lo hi) = true := by
  refine okS_sub h ?_ fun c hc => ?_
  · show ((z.cps.toList.drop _).take _).toArray.size ≤ z.cps.size
    rw [List.size_toArray, List.length_take, List.length_drop, Array.length_toList]
    omega
  · have : c ∈ ((z.cps.toList.drop (HT.sIx z.length 0 lo)).take (HT.sIx z.length z.length hi - HT.sIx z.length 0 lo)) := by
      have e : (cutS z lo hi).cps.toList = ((z.cps.toList.drop (HT.sIx z.length 0 lo)).take (HT.sIx z.length z.length hi - HT.sIx z.length 0 lo)) := by unfold cutS; simp
      rw [e] at hc; exact hc
    exact List.mem_of_mem_drop (List.mem_of_mem_take this)
theorem rel_cut {K : PySem.W.Frag} {H : Hp} {xs : List U} {vs : List V} (r : RelUs K H xs vs) (lo hi : Option Int) : RelUs K H (cutL xs lo hi) (cutV vs lo hi) := by
  unfold cutL cutV
  rw [r.length]
  exact (r.drop _).take _
theorem cut_whole {xs : List U} {lo hi : Option Int} (h : HT.sIx xs.length 0 lo = 0 ∧ HT.sIx xs.length xs.length hi = xs.length) : cutL xs lo hi = xs := by
  unfold cutL
  rw [h.1, h.2]; simp
def dnSl (K : PySem.W.Frag) (r : U → Option Int → Option Int → UHp → UK → Prop) : V → Option Int → Option Int → Hp → VK → Prop := fun v lo hi H Q => ∃ x M Qu, RelU K H x v ∧ RelM K H M ∧ r x lo hi M Qu ∧ UpK K H Qu Q
theorem ui_sl (m : Bool) : SlR X (dnSl X.K (slR m)) := fun pins s σ H v w vl vu lo hi sl Q I rv hs pl pu h => by
  obtain ⟨x, M, Qu, r1, rm, q, up⟩ := h
  unfold slR at q
  split at q
  · obtain ⟨rfl, k⟩ := r1
    exact sl_str pins s σ H _ w vl vu lo hi sl Q I rv hs pl pu ⟨_, rfl, okS.len k, up _ _ _ _ q (Stab.refl H) rm ⟨rfl, okS_cut k lo hi⟩⟩
  · rename_i xs
    obtain ⟨a, vs, rfl, h1, h2⟩ := r1
    refine sl_tupD pins s σ H _ w vl vu lo hi sl Q I rv hs pl pu ⟨a, vs, rfl, h1, fun hw => ?_, fun _ => newT_dn rm up (rel_cut h2 lo hi) q⟩
    rw [← h2.length] at hw
    rw [cut_whole hw] at q
    exact up _ _ _ _ q (Stab.refl H) rm ⟨a, vs, rfl, h1, h2⟩
  · obtain ⟨xs, e, q⟩ := q
    obtain ⟨a, vs, rfl, h1, h2⟩ := list_dn rm r1 e
    obtain ⟨T, id, k1, k2, k3⟩ := sl_list pins s σ H _ w vl vu lo hi sl (FzQ Q) I rv hs pl pu ⟨a, vs, rfl, h1, newL_dn rm up (rel_cut h2 lo hi) q⟩
    exact ⟨T, id, k1, k2, thn k3 fun _ _ => ep_fz⟩
def uSl (r : U → Option Int → Option Int → UHp → UK → Prop) (te : UTE) (tl th : UTO) (σ : USt) (M : UHp) (Q : UK) : Prop := te σ M fun x M1 => tl σ M1 fun l M2 => th σ M2 fun u M3 => r x l u M3 Q
theorem ue_slice (m : Bool) {lo hi : Option Expr} {te : UTE} {tl th : UTO} {p2 : Pos} (he : UE X e te) (hl : UO X lo tl) (hu : UO X hi th) : UE X (.Subscript e (.Slice lo hi none p2) pos) (uSl (slR m) te tl th) := PE.mono (pe_slice (ui_sl m) he hl hu) fun τ H Q h => by
  obtain ⟨σ, M, Qu, rs, rm, q, up⟩ := h
  refine ⟨σ, M, _, rs, rm, q, fun x M1 v H1 q1 s1 m1 r1 => ?_⟩
  refine ⟨σ, M1, _, rs.stab s1, m1, q1, fun l M2 H2 q2 s2 m2 => ?_⟩
  refine ⟨σ, M2, _, rs.stab (s1.trans s2), m2, q2, fun u M3 H3 q3 s3 m3 => ?_⟩
  exact ⟨x, M3, Qu, r1.stab (s2.trans s3), m3, q3, up.from ((s1.trans s2).trans s3)⟩

/-! ### a[i] = v -/
def setR (o i v : U) (M : UHp) (Q : UHp → Prop) : Prop := match o, i with
  | .ref a, .int k => ∃ xs j, M a = some (.lst xs) ∧ ixN xs.length k = some j ∧ Q (updM M a (.lst (xs.set j v)))
  | _, _ => False
def dnSet (K : PySem.W.Frag) (r : U → U → U → UHp → (UHp → Prop) → Prop) : TSet := fun o i v H Q => ∃ x y z M Qu, RelU K H x o ∧ RelU K H y i ∧ RelU K H z v ∧ RelM K H M ∧ r x y z M Qu ∧ ∀ M' H', Qu M' → Stab H H' → RelM K H' M' → Q H'
theorem ui_set : PSet X (dnSet X.K setR) := fun pins s σ H o i v ov iv u Q I ro ri rv h => by
  refine set_list pins s σ H o i v ov iv u Q I ro ri rv ?_
  obtain ⟨x, y, z, M, Qu, r1, r2, r3, rm, q, up⟩ := h
  unfold setR at q
  split at q
  · rename_i a k
    obtain rfl := r1
    obtain rfl := r2
    obtain ⟨xs, j, e, e2, q⟩ := q
    obtain ⟨vs, h1, h2⟩ := rm a _ e
    have s' : Stab H (upd H a (.lst (vs.set j v))) := Stab.lst h1
    exact ⟨a, vs, k, j, rfl, rfl, h1, by rw [← h2.length]; exact e2, up _ _ q s' (rm.write s' ⟨_, upd_same, (RelUs.set r3 j h2).stab s'⟩)⟩
  · exact q.elim
def z8r (r : U → U → U → UHp → (UHp → Prop) → Prop) (to ti : UTE) (v : U) (σ : USt) (M : UHp) (Q : USt → UHp → Prop) : Prop := to σ M fun o M1 => ti σ M1 fun i M2 => r o i v M2 fun M3 => Q σ M3
theorem ug_sub {r : U → U → U → UHp → (UHp → Prop) → Prop} {o i : Expr} {to ti : UTE} (hs : PSet X (dnSet X.K r)) (ho : UE X o to) (hi : UE X i ti)
    (ha : ∀ v, assign (.Subscript o i pos) X.env v = (do
      let ov ← holding [v] (eval o X.env)
      let iv ← holding [v, ov] (eval i X.env)
      standAt pos
      holding [v, ov, iv] (setItem ov iv v)
      release [v, ov, iv] []) := by intro _; rfl) : UG X (.Subscript o i pos) (z8r r to ti) := PG.mono (pg_sub ho hi hs ha) fun v τ H Q h => by
  obtain ⟨u, σ, M, Qu, ru, rs, rm, q, up⟩ := h
  refine ⟨σ, M, _, rs, rm, q, fun o M1 ov H1 q1 s1 m1 r1 => ?_⟩
  refine ⟨σ, M1, _, rs.stab s1, m1, q1, fun i M2 iv H2 q2 s2 m2 r2 => ?_⟩
  exact ⟨o, i, u, M2, _, r1.stab s2, r2, ru.stab (s1.trans s2), m2, q2, fun M3 H3 q3 s3 m3 => up _ _ _ _ q3 ((s1.trans s2).trans s3) m3 (rs.stab ((s1.trans s2).trans s3))⟩

/-! ### methods of built-in types -/
def tyMt (T : String) (M : UHp) (x : U) : Prop := match x with
  | .str _ => T = "str"
  | .lst _ => T = "list"
  | .ref a => (T = "list" ∧ ∃ xs, M a = some (.lst xs)) ∨ (T = "dict" ∧ ∃ kvs, M a = some (.dK kvs))
  | _ => False
theorem tyMt_dn {K : PySem.W.Frag} {H : Hp} {M : UHp} {x : U} {v : V} {T : String} (rm : RelM K H M) (r : RelU K H x v) (h : tyMt T M x) : tyV K T v H := by
  cases x with
  | str z => obtain ⟨rfl, _⟩ := r; exact h
  | lst xs => obtain ⟨a, vs, rfl, q, _⟩ := r; exact .inl ⟨h, vs, q.sq⟩
  | ref a =>
    obtain rfl := r
    rcases h with ⟨rfl, xs, e⟩ | ⟨rfl, kvs, e⟩
    · obtain ⟨vs, h1, _⟩ := rm a _ e; exact .inl ⟨rfl, vs, SqL.of h1⟩
    · obtain ⟨vs, h1, _⟩ := rm a _ e; exact .inr (.inr (.inl ⟨rfl, .inl ⟨vs, h1⟩⟩))
  | _ => exact False.elim h
def dnMt (K : PySem.W.Frag) (r : U → List U → UHp → UK → Prop) : V → List V → Hp → VK → Prop := fun v vs H Q => ∃ x xs M Qu, RelU K H x v ∧ RelUs K H xs vs ∧ RelM K H M ∧ r x xs M Qu ∧ UpK K H Qu Q
abbrev UMtR (X : Cx) (id : String) (r : U → List U → UHp → UK → Prop) : Prop := MtR X id (dnMt X.K r)
theorem MtR.mono {id : String} {r r' : V → List V → Hp → VK → Prop} (h : MtR X id r) (w : ∀ x xs H Q, r' x xs H Q → r x xs H Q) : MtR X id r' := fun pins s σ H x xs v us Q I rx rs q => h pins s σ H x xs v us Q I rx rs (w x xs H Q q)
theorem MtR.fz {id : String} {r r' : V → List V → Hp → VK → Prop} (h : MtR X id r) (w : ∀ x xs H Q, r' x xs H Q → r x xs H (FzQ Q)) : MtR X id r' := fun pins s σ H x xs v us Q I rx rs q =>
  thn (h pins s σ H x xs v us (FzQ Q) I rx rs (w x xs H Q q)) fun _ _ => ep_fz
def uBM (T : String) (r : U → List U → UHp → UK → Prop) (to : UTE) (t : UTA) (σ : USt) (M : UHp) (Q : UK) : Prop := to σ M fun x M1 => tyMt T M1 x ∧ t σ M1 fun xs M2 => r x xs M2 Q
theorem ue_bm {rm : U → List U → UHp → UK → Prop} {o : Expr} {to : UTE} {name : Str} {apos cpos : Pos} (pa : PlainAttrs T) (slot : Slot T name id) (hty : typeOf (.builtin id) = pure (.type "method_descriptor")) (hm : UMtR X id rm) (ho : UE X o to) (ha : UA X (e :: es) t)
    (hbase : attributeBase o name X.env (eval o X.env) = eval o X.env := by rfl)
    (hfew : ((backTo cpos (starEach (e :: es) X.env)).all (fun x => !x.1) && (backToKw cpos (keywordEach [] X.env)).all (fun x => x.1.isSome)
      && decide ((e :: es).length + ([] : List Keyword).length + (if ([] : List Keyword).isEmpty then 0 else 1) < 30)) = true := by rfl)
    (hline : (apos.endLine == cpos.line) = true := by rfl) (hs : starEach (e :: es) X.env = (false, eval e X.env) :: starEach es X.env := by rfl) (hplain : (backTo cpos (starEach es X.env)).any (·.1) = false := by rfl) :
    UE X (.Call (.Attribute o name apos) (e :: es) [] cpos) (uBM T rm to t) := PE.mono (pe_bm pa slot hty hm ho ha hbase hfew hline hs hplain) fun τ H Q h => by
  obtain ⟨σ, M, Qu, rs, m0, q, up⟩ := h
  refine ⟨σ, M, _, rs, m0, q, fun x M1 v H1 q1 s1 m1 r1 => ⟨tyMt_dn m1 r1 q1.1, ?_⟩⟩
  refine ⟨σ, M1, _, rs.stab s1, m1, q1.2, fun xs M2 vs H2 q2 s2 m2 r2 => ?_⟩
  exact ⟨x, xs, M2, Qu, r1.stab s2, r2, m2, q2, up.from (s1.trans s2)⟩
def z8g (T : String) (r : U → List U → UHp → UK → Prop) (to : UTE) (σ : USt) (M : UHp) (Q : UK) : Prop := to σ M fun x M1 => tyMt T M1 x ∧ r x [] M1 Q
def appR (x : U) (xs : List U) (M : UHp) (Q : UK) : Prop := match x, xs with
  | .ref a, [y] => ∃ ys, M a = some (.lst ys) ∧ ys.length < sizeLine ∧ Q .non (updM M a (.lst (ys ++ [y])))
  | _, _ => False
theorem um_append : UMtR X "list.append" appR := MtR.mono mt_append fun v vs H Q h => by
  obtain ⟨x, xs, M, Qu, r1, r2, rm, q, up⟩ := h
  unfold appR at q
  split at q
  · rename_i a y
    obtain rfl := r1
    obtain ⟨w, t, rfl, rw, rfl⟩ := r2
    obtain ⟨ys, e, hl, q⟩ := q
    obtain ⟨vs, h1, h2⟩ := rm a _ e
    have s' : Stab H (upd H a (.lst (vs ++ [w]))) := Stab.lst h1
    exact ⟨a, vs, w, rfl, rfl, h1, by rw [← h2.length]; exact hl, up _ _ .non _ q s' (rm.write s' ⟨_, upd_same, (h2.append (RelUs.cons rw RelUs.nil)).stab s'⟩) rfl⟩
  · exact q.elim
def popR (x : U) (xs : List U) (M : UHp) (Q : UK) : Prop := match x, xs with
  | .ref a, [.int i] => ∃ ys k y, M a = some (.lst ys) ∧ i < 2 ^ 63 ∧ ixN ys.length i = some k ∧ ys[k]? = some y ∧ Q y (updM M a (.lst (ys.eraseIdx k)))
  | _, _ => False
theorem um_popAt : UMtR X "list.pop" popR := fun pins s σ H v vs u us Q I rv rvs h => by
  obtain ⟨x, xs, M, Qu, r1, r2, rm, q, up⟩ := h
  unfold popR at q
  split at q
  · rename_i a i
    obtain rfl := r1
    obtain ⟨w, t, rfl, rfl, rfl⟩ := r2
    obtain ⟨ys, k, y, e, hi, hk, hy, q⟩ := q
    obtain ⟨ws, h1, h2⟩ := rm a _ e
    obtain ⟨z, e3, r3⟩ := h2.get hy
    rw [h2.length] at hk
    obtain ⟨k1, k2, k3, k4⟩ := ixN_seq hk
    obtain ⟨hz, _⟩ := (show ObjOk X.prog X.w H s.heap a (.lst ws) from I.hok a _ h1)
    have hs := sizeLine_eq
    have s' : Stab H (upd H a (.lst (ws.eraseIdx k))) := Stab.lst h1
    exact mt_popAt pins s σ H _ _ u us Q I rv rvs ⟨a, ws, i, k, z, rfl, rfl, h1, by omega, hi, k1, e3, up _ _ _ _ q s' (rm.write s' ⟨_, upd_same, (RelUs.eraseIdx k h2).stab s'⟩) (r3.stab s')⟩
  · exact q.elim
def insR (x : U) (xs : List U) (M : UHp) (Q : UK) : Prop := match x, xs with
  | .ref a, [.int i, y] => ∃ ys, M a = some (.lst ys) ∧ ys.length < sizeLine ∧ 0 ≤ i ∧ i < 2 ^ 63 ∧ Q .non (updM M a (.lst (ys.take i.toNat ++ [y] ++ ys.drop i.toNat)))
  | _, _ => False
/-- the texts of a list -/
def strsU : List U → Option (List Str)
  | [] => some []
  | .str z :: r => (strsU r).map (z :: ·)
  | _ :: _ => none
def joinR (x : U) (xs : List U) (M : UHp) (Q : UK) : Prop := match x, xs with
  | .str a, [y] => ∃ ys zs, seqU M y = some ys ∧ strsU ys = some zs ∧ (zs.map (·.length)).sum + zs.length * a.length ≤ 16777216 ∧ (okS a = true → (∀ z ∈ zs, okS z = true) → okS (Txt.join a zs) = true) ∧ Q (.str (Txt.join a zs)) M
  | _, _ => False
/-! in a text -/
end
end PU

set_option Elab.async false
set_option linter.all false
set_option maxRecDepth 100000
/-! UIter: and, or, not as values; for loops and comprehensions over U. -/
namespace PU
open PySem PySem.Spec PyProof.Rows L2

section
variable {X : Cx} {a b : Expr} {ta tb : UTE} {rest : List Expr} {pos : Pos}
def uOrV (ta tb : UTE) (σ : USt) (M : UHp) (Q : UK) : Prop := ta σ M fun x M1 => ∃ k, truU M1 x = some k ∧ if k = true then Q x M1 else tb σ M1 Q
def uAndV (ta tb : UTE) (σ : USt) (M : UHp) (Q : UK) : Prop := ta σ M fun x M1 => ∃ k, truU M1 x = some k ∧ if k = true then tb σ M1 Q else Q x M1
theorem ue_one {op} {t : UTE} (h : UE X a t) : UE X (.BoolOp op [a] pos) t := pe_one h
theorem ue_and (ha : UE X a ta) (hb : UE X (.BoolOp .And (b :: rest) pos) tb) : UE X (.BoolOp .And (a :: b :: rest) pos) (uAndV ta tb) := PE.mono (pe_andT ha hb) fun τ H Q h => by
  obtain ⟨σ, M, Qu, rs, rm, q, up⟩ := h
  refine ⟨σ, M, _, rs, rm, q, fun x M1 v H1 q1 s1 m1 r1 => ?_⟩
  obtain ⟨k, e, q1⟩ := q1
  refine ⟨k, tru_dn m1 r1 e, ?_⟩
  cases k with
  | true => simp only [if_true] at q1 ⊢; exact ⟨σ, M1, _, rs.stab s1, m1, q1, up.from s1⟩
  | false => simp only [Bool.false_eq_true,if_false] at q1 ⊢; exact up _ _ _ _ q1 s1 m1 r1
def uNotV (ta : UTE) (σ : USt) (M : UHp) (Q : UK) : Prop := ta σ M fun x M1 => ∃ k, truU M1 x = some k ∧ Q (.bl (!k)) M1
end

/-! ### what is walked -/
/-- the items, and what has to stay -/
structure UIt where
  xs : List U
  st : UHp → Prop
abbrev UTI := USt → UHp → (UIt → UHp → Prop) → Prop
/-- J walks the items of it, from H on -/
def Lk (K : PySem.W.Frag) (it : UIt) (J : It) (H : Hp) : Prop := ∀ (i : Nat) (H' : Hp) (M' : UHp), Stab H H' → RelM K H' M' → it.st M' →
  (∀ x, it.xs[i]? = some x → J.go i H' ∧ ∀ v H2, J.yld i H' v H2 → Stab H' H2 ∧ RelU K H2 x v ∧ ∀ M2, RelM K H' M2 → RelM K H2 M2) ∧ (it.xs.length ≤ i → J.stop i H')
def dnI (K : PySem.W.Frag) (w : UTI) : TI := fun τ H R => ∃ σ M Ru, RelS K H σ τ ∧ RelM K H M ∧ w σ M Ru ∧ ∀ it M' J H', Ru it M' → Stab H H' → RelM K H' M' → Lk K it J H' → it.xs.length ≤ sizeLine → R J H'
abbrev UI (X : Cx) (tg iter : Expr) (w : UTI) : Prop := PI X tg iter (dnI X.K w)
theorem PI.mono {X : Cx} {tg iter : Expr} {w w' : TI} (h : PI X tg iter w) (k : ∀ σ H R, w' σ H R → w σ H R) : PI X tg iter w' := ⟨fun pins s σ H R I q => h.run pins s σ H R I (k σ H R q)⟩
section
variable {X : Cx} {tg l : Expr} {tl : UTE}
theorem lk_list {K : PySem.W.Frag} {H : Hp} {x : U} {xs : List U} {a : Addr} (r : RelU K H x (.ref a)) : Lk K ⟨xs, fun M' => listU M' x = some xs⟩ (Itl K a) H := fun i H' M' s m e => by
  obtain ⟨b, vs, e1, h1, h2⟩ := list_dn m (r.stab s) e
  cases e1
  refine ⟨fun y hy => ?_, fun hi => ⟨vs, h1, by rw [← h2.length]; exact hi⟩⟩
  obtain ⟨v, e2, rv⟩ := h2.get hy
  refine ⟨⟨vs, v, h1, e2⟩, fun w H2 hy => ?_⟩
  obtain ⟨rfl, hw⟩ := hy
  have := hw vs h1
  rw [e2] at this
  cases this
  exact ⟨Stab.refl _, rv, fun _ h => h⟩
/-- a text, sign by sign -/
def signs (z : Str) : List U := z.cps.toList.map fun c => .str ⟨#[c]⟩
theorem lk_str {K : PySem.W.Frag} {H : Hp} {z : Str} (k : okS z = true) : Lk K ⟨signs z, fun _ => True⟩ (Its z) H := fun i H' M' s m _ => by
  refine ⟨fun y hy => ?_, fun hi => (show z.cps.size ≤ i by simpa [signs] using hi)⟩
  have hy : (signs z)[i]? = some y := hy
  unfold signs at hy
  rw [List.getElem?_map] at hy
  cases e : z.cps.toList[i]? with
  | none => rw [e] at hy; cases hy
  | some c =>
    rw [e] at hy; cases hy
    have e' : z.cps[i]? = some c := by simpa using e
    have hi : i < z.cps.size := by
      by_cases h : i < z.cps.size
      · exact h
      · rw [Array.getElem?_eq_none (by omega)] at e'; cases e'
    refine ⟨hi, fun w H2 hw => ?_⟩
    obtain ⟨rfl, d, e2, rfl⟩ := hw
    rw [e'] at e2
    cases e2
    exact ⟨Stab.refl _, ⟨rfl, okS_one k (List.mem_of_getElem? e)⟩, fun _ h => h⟩
/-- either: by what it is -/
def uAnyI (te : UTE) (σ : USt) (M : UHp) (R : UIt → UHp → Prop) : Prop := te σ M fun x M1 => match x with
  | .tup xs => R ⟨xs, fun _ => True⟩ M1
  | .str z => R ⟨signs z, fun _ => True⟩ M1
  | x => ∃ xs, listU M1 x = some xs ∧ R ⟨xs, fun M' => listU M' x = some xs⟩ M1
def rangeU (lo : Int) (n : Nat) : List U := (List.range n).map fun i => .int (lo + (i : Nat))
theorem lk_range {K : PySem.W.Frag} {H : Hp} {lo : Int} {n : Nat} : Lk K ⟨rangeU lo n, fun _ => True⟩ (Itr lo n) H := fun i H' M' s m _ => by
  refine ⟨fun y hy => ?_, fun hi => (show n ≤ i by simpa [rangeU] using hi)⟩
  unfold rangeU at hy
  rw [List.getElem?_map] at hy
  have hi : i < n := by
    by_cases h : i < n
    · exact h
    · rw [List.getElem?_eq_none (by simpa using h)] at hy; cases hy
  rw [List.getElem?_range hi] at hy
  cases hy
  refine ⟨hi, fun w H2 hy => ?_⟩
  obtain ⟨rfl, rfl⟩ := hy
  exact ⟨Stab.refl _, rfl, fun _ h => h⟩
def uRng1 (ta : UTA) (σ : USt) (M : UHp) (R : UIt → UHp → Prop) : Prop := ta σ M fun us M1 => ∃ j : Int, us = [.int j] ∧ -(2 ^ 62) ≤ j ∧ j < 2 ^ 62 ∧ j.toNat ≤ sizeLine ∧ R ⟨rangeU 0 j.toNat, fun _ => True⟩ M1
theorem ui_range1 {a : Expr} {ta : UTA} {p pos : Pos} (hg : Gl X "range") (hm : X.mg "range" = none) (ha : UA X [a] ta) (hs : starEach [a] X.env = [(false, eval a X.env)] := by rfl) : UI X tg (.Call (.Name "range" p) [a] [] pos) (uRng1 ta) :=
  PI.mono (pi_range1 hg hm ha hs) fun τ H R h => by
    obtain ⟨σ, M, Ru, rs, rm, q, up⟩ := h
    refine ⟨σ, M, _, rs, rm, q, fun us M1 vs H1 q1 s1 m1 r1 => ?_⟩
    obtain ⟨j, rfl, h1, h2, hz, q1⟩ := q1
    obtain ⟨v, w, rfl, rfl, rfl⟩ := r1
    exact ⟨j, rfl, h1, h2, up _ _ _ _ q1 s1 m1 lk_range (by simpa [rangeU] using hz)⟩
def z7x (ta : UTA) (σ : USt) (M : UHp) (R : UIt → UHp → Prop) : Prop := ta σ M fun us M1 => ∃ i j : Int, us = [.int i, .int j] ∧ (-(2 ^ 62) ≤ i ∧ i < 2 ^ 62 ∧ -(2 ^ 62) ≤ j ∧ j < 2 ^ 62) ∧ (j - i).toNat ≤ sizeLine ∧ R ⟨rangeU i (j - i).toNat, fun _ => True⟩ M1
end

/-! ### a list or a tuple, whichever it is -/
section
variable {X : Cx} {tg l : Expr} {tl : UTE}
theorem ui_any (hl : UE X l tl) : UI X tg l (uAnyI tl) := by
  constructor
  intro pins s τ H R I h
  obtain ⟨σ, M, Ru, rs, rm, q, up⟩ := h
  refine thn (hl.run pins s τ H (fun v H1 => (∃ a ys, v = .ref a ∧ SqL X.K H1 a ys ∧ (ys.length ≤ sizeLine → R (Itl X.K a) H1)) ∨ (∃ a ys, v = .ref a ∧ SqT X.K H1 a ys ∧ (ys.length ≤ sizeLine → R (Itt X.K a) H1)) ∨ ∃ z, v = .str z ∧ R (Its z) H1) I ⟨σ, M, _, rs, rm, q, fun x M1 v H1 q1 s1 m1 r1 => ?_⟩) fun v s1 ⟨x, H1, I1, r1, q1⟩ => ?_
  · split at q1
    · rename_i xs
      obtain ⟨a, vs, rfl, h1, h2⟩ := r1
      refine .inr (.inl ⟨a, vs, rfl, h1, fun hz => up _ _ _ _ q1 s1 m1 (fun i H' M' s m _ => ?_) (by show xs.length ≤ sizeLine; rw [h2.length]; exact hz)⟩)
      have h1' := SqT.stab s h1.t
      have h2' := h2.stab s
      refine ⟨fun y hy => ?_, fun hi => ⟨vs, h1', by rw [← h2'.length]; exact hi⟩⟩
      obtain ⟨v, e2, rv⟩ := h2'.get hy
      refine ⟨⟨vs, v, h1', e2⟩, fun w H2 hy => ?_⟩
      obtain ⟨rfl, hw⟩ := hy
      have := hw vs h1'
      rw [e2] at this
      cases this
      exact ⟨Stab.refl _, rv, fun _ h => h⟩
    · rename_i z
      obtain ⟨rfl, k⟩ := r1
      exact .inr (.inr ⟨z, rfl, up _ _ _ _ q1 s1 m1 (lk_str k) (by show (signs z).length ≤ sizeLine; unfold signs; rw [List.length_map, Array.length_toList]; exact okS.len k)⟩)
    · obtain ⟨xs, e, q1⟩ := q1
      obtain ⟨a, vs, rfl, h1, h2⟩ := list_dn m1 r1 e
      exact .inl ⟨a, vs, rfl, h1, fun hz => up _ _ _ _ q1 s1 m1 (lk_list r1) (by show xs.length ≤ sizeLine; rw [h2.length]; exact hz)⟩
  · rcases q1 with ⟨a, ys, rfl, hq, q1⟩ | ⟨a, ys, rfl, hq, q1⟩ | ⟨z, rfl, q1⟩
    · cases r1
      obtain ⟨its, rv, p, hz⟩ := I1.list hq
      exact wpAny_pyIter_list p.isList (pi_one (tk := s1.toks) I1 _ (turn_list a _) ⟨_, Heap.get?_push_size _ rfl, rfl, rfl⟩ (q1 hz))
    · cases r1
      obtain ⟨its, rv, p, hz⟩ := I1.tuple hq
      exact wpAny_pyIter_tuple (show s1.heap.IsTuple a its.toArray from p) (pi_one (tk := s1.toks) I1 _ (turn_tuple a _) ⟨_, Heap.get?_push_size _ rfl, rfl, rfl⟩ (q1 hz))
    · obtain ⟨t, rfl⟩ := r1
      cases ha : z.cps.all (· < 128)
      · exact wpAny_pyIter_wide ha (pi_one (tk := s1.toks) I1 _ (turn_str _ z t "str_iterator" (.inr rfl)) ⟨_, Heap.get?_push_size _ rfl, rfl, rfl⟩ q1)
      · exact wpAny_pyIter_ascii ha (pi_one (tk := s1.toks) I1 _ (turn_str _ z t "str_ascii_iterator" (.inl rfl)) ⟨_, Heap.get?_push_size _ rfl, rfl, rfl⟩ q1)
end

/-! ### for -/
def uForGo (g : UTG) (tb : UTS) (st : UHp → Prop) (D : UEnds) : List U → USt → UHp → Prop
  | [], σ, M => st M ∧ D.nx σ M
  | x :: r, σ, M => st M ∧ g x σ M fun σ2 M2 => tb { D with nx := uForGo g tb st D r, ct := uForGo g tb st D r, bk := D.nx } σ2 M2
def uFor (w : UTI) (g : UTG) (tb : UTS) (D : UEnds) (σ : USt) (M : UHp) : Prop := w σ M fun it M1 => uForGo g tb it.st D it.xs σ M1
theorem dn_for {K : PySem.W.Frag} {w : UTI} {g : UTG} {tb : UTS} : ∀ D τ H, dnS K (uFor w g tb) D τ H → tFor (dnI K w) (dnG K g) (dnS K tb) D τ H := fun D τ H h => by
  obtain ⟨σ, M, Du, rs, rm, q, up⟩ := h
  refine ⟨σ, M, _, rs, rm, q, fun it M1 J H1 q1 s1 m1 lk _ => ?_⟩
  refine ⟨fun i m τ' H' => m = it.xs.length - i ∧ i ≤ it.xs.length ∧ ∃ σ' M', Stab H1 H' ∧ RelS K H' σ' τ' ∧ RelM K H' M' ∧ uForGo g tb it.st Du (it.xs.drop i) σ' M', ⟨it.xs.length, by simp, Nat.zero_le _, σ, M1, Stab.refl _, rs.stab s1, m1, q1⟩, ?_⟩
  rintro i m τ' H' ⟨rfl, hi, σ', M', s', rs', rm', q'⟩
  by_cases hlt : i < it.xs.length
  · right
    have hx : it.xs[i]? = some it.xs[i] := List.getElem?_eq_getElem hlt
    rw [List.drop_eq_getElem_cons hlt] at q'
    obtain ⟨hst, q'⟩ := q'
    obtain ⟨go, stop⟩ := lk i H' M' s' rm' hst
    obtain ⟨hgo, hy⟩ := go _ hx
    refine ⟨hgo, fun τ2 H2 => ∃ σ2 M2, Stab H1 H2 ∧ RelS K H2 σ2 τ2 ∧ RelM K H2 M2 ∧ uForGo g tb it.st Du (it.xs.drop (i + 1)) σ2 M2, fun τ2 H2 n2 => ⟨it.xs.length - (i + 1), by omega, rfl, hlt, n2⟩, fun v H2 y => ?_⟩
    obtain ⟨s2, ru, m2⟩ := hy v H2 y
    refine ⟨it.xs[i], σ', M', _, ru, rs'.stab s2, m2 _ rm', q', fun σ3 M3 τ3 H3 q3 s3 m3 r3 => ?_⟩
    have s13 : Stab H1 H3 := (s'.trans s2).trans s3
    refine ⟨σ3, M3, _, r3, m3, q3, ?_⟩
    have nx : UpS K H3 (uForGo g tb it.st Du (it.xs.drop (i + 1))) (fun τ2 H2 => ∃ σ2 M2, Stab H1 H2 ∧ RelS K H2 σ2 τ2 ∧ RelM K H2 M2 ∧ uForGo g tb it.st Du (it.xs.drop (i + 1)) σ2 M2) :=
      fun σ4 M4 τ4 H4 q4 s4 m4 r4 => ⟨σ4, M4, s13.trans s4, r4, m4, q4⟩
    exact ⟨nx, up.rt.from (s1.trans s13), up.nx.from (s1.trans s13), nx⟩
  · left
    have e : i = it.xs.length := by omega
    subst e
    rw [List.drop_length] at q'
    obtain ⟨hst, q'⟩ := q'
    obtain ⟨_, stop⟩ := lk _ H' M' s' rm' hst
    exact ⟨stop (Nat.le_refl _), up.nx _ _ _ _ q' (s1.trans s') rm' rs'⟩
theorem us_for {X : Cx} {tg iter : Expr} {body : List Stmt} {w : UTI} {g : UTG} {tb : UTS} {pos : Pos} (hp : PassesOwn (model X.prog X.w) X.A X.env X.xe) (hc : X.calm = true) (hi : UI X tg iter w) (hg : UG X tg g) (hb : USs X body tb)
    (hs : ∀ x, foldedSetIterable iter X.env x = pure x := by intro _; rfl) : US X (.For tg iter body [] pos) (uFor w g tb) := PS.mono (ps_for hp hc hi hg hb hs) dn_for

/-! ### comprehensions -/
theorem wipe_wipe (τ : L2.St) (vs : List Nat) : wipe (wipe τ vs) vs = wipe τ vs := by
  have comm : ∀ (l : List Nat) (τ : L2.St) (j : Nat), wipe (τ.set j none) l = (wipe τ l).set j none := by
    intro l
    induction l with
    | nil => intro τ j; rfl
    | cons a l ih =>
      intro τ j
      show (wipe (τ.set j none) l).set a none = ((wipe τ l).set a none).set j none
      rw [ih τ j]
      by_cases h : a = j
      · subst h; rfl
      · rw [List.set_comm _ _ (Ne.symm h)]
  induction vs with
  | nil => rfl
  | cons a l ih =>
    show (wipe ((wipe τ l).set a none) l).set a none = (wipe τ l).set a none
    rw [comm, ih, List.set_set]
def wipeU (σ : USt) : List Nat → USt
  | [] => σ
  | v :: vs => (wipeU σ vs).set v none
theorem rel_wipe {K : PySem.W.Frag} {H : Hp} {σ : USt} {τ : L2.St} (r : RelS K H σ τ) : ∀ vs : List Nat, RelS K H (wipeU σ vs) (wipe τ vs)
  | [] => r
  | v :: vs => (rel_wipe r vs).unset v none
/-- a target that is names: by their slots -/
inductive NT where
  | one (i : Nat)
  | tup (ts : List NT)
mutual
def NT.put : NT → U → USt → Option USt
  | .one i, u, σ => some (σ.set i (some u))
  | .tup ts, u, σ => match u with
    | .tup us => puts ts us σ
    | _ => none
def puts : List NT → List U → USt → Option USt
  | [], [], σ => some σ
  | t :: ts, u :: us, σ => match t.put u σ with
    | some σ' => puts ts us σ'
    | none => none
  | _, _, _ => none
end
mutual
def NT.gt (K : PySem.W.Frag) : NT → TG
  | .one i => gName i
  | .tup ts => gTup K ts.length (gts K ts)
def gts (K : PySem.W.Frag) : List NT → TGs
  | [] => gNil
  | t :: ts => gCons (t.gt K) (gts K ts)
end
mutual
def NT.slots : NT → List Nat
  | .one i => [i]
  | .tup ts => slotss ts
def slotss : List NT → List Nat
  | [] => []
  | t :: ts => t.slots ++ slotss ts
end
theorem wipe_set {τ : L2.St} {i : Nat} {o : Option V} : ∀ {vs : List Nat}, i ∈ vs → wipe (τ.set i o) vs = wipe τ vs
  | v :: vs, h => by
    have comm : ∀ (l : List Nat) (τ : L2.St) (o : Option V) (j : Nat), j ∉ l → wipe (τ.set j o) l = (wipe τ l).set j o := by
      intro l
      induction l with
      | nil => intro τ o j _; rfl
      | cons a l ih =>
        intro τ o j hj
        simp only [List.mem_cons,not_or] at hj
        show (wipe (τ.set j o) l).set a none = ((wipe τ l).set a none).set j o
        rw [ih τ o j hj.2, List.set_comm _ _ (Ne.symm hj.1)]
    show (wipe (τ.set i o) vs).set v none = (wipe τ vs).set v none
    by_cases hi : i ∈ vs
    · rw [wipe_set hi]
    · have e : i = v := by
        rcases List.mem_cons.mp h with h | h
        · exact h
        · exact absurd h hi
      subst e
      rw [comm vs τ o i hi, List.set_set]
mutual
theorem nt_gt {K : PySem.W.Frag} {H : Hp} {vs : List Nat} : ∀ (t : NT) (u : U) (v : V) (σ σ' : USt) (τ : L2.St) (Q : L2.St → Hp → Prop), (∀ i ∈ t.slots, i ∈ vs) → RelU K H u v → RelS K H σ τ → t.put u σ = some σ' →
    (∀ τ', RelS K H σ' τ' → wipe τ' vs = wipe τ vs → Q τ' H) → t.gt K v τ H Q
  | .one i, u, v, σ, σ', τ, Q, hs, ru, rs, e, q => by
    simp only [NT.put,Option.some.injEq] at e
    subst e
    simp only [NT.gt]
    exact q _ (rs.set ru i) (wipe_set (hs i (by simp [NT.slots])))
  | .tup ts, u, v, σ, σ', τ, Q, hs, ru, rs, e, q => by
    cases u with
    | tup us =>
      simp only [NT.put] at e
      obtain ⟨a, ws, rfl, h1, h2⟩ := ru
      simp only [NT.gt]
      have hl := puts_len ts us σ σ' e
      exact ⟨a, ws, rfl, h1, by rw [← h2.length, hl], nts_gt ts us ws σ σ' τ Q (fun i hi => hs i (by simpa [NT.slots] using hi)) h2 rs e q⟩
    | _ => simp [NT.put] at e
theorem nts_gt {K : PySem.W.Frag} {H : Hp} {vs : List Nat} : ∀ (ts : List NT) (us : List U) (ws : List V) (σ σ' : USt) (τ : L2.St) (Q : L2.St → Hp → Prop), (∀ i ∈ slotss ts, i ∈ vs) → RelUs K H us ws → RelS K H σ τ → puts ts us σ = some σ' →
    (∀ τ', RelS K H σ' τ' → wipe τ' vs = wipe τ vs → Q τ' H) → gts K ts ws τ H Q
  | [], us, ws, σ, σ', τ, Q, _, ru, rs, e, q => by
    cases us with
    | nil =>
      simp only [puts,Option.some.injEq] at e
      subst e
      obtain rfl := ru
      exact ⟨rfl, q _ rs rfl⟩
    | cons _ _ => simp [puts] at e
  | t :: ts, us, ws, σ, σ', τ, Q, hs, ru, rs, e, q => by
    cases us with
    | nil => simp [puts] at e
    | cons u us =>
      obtain ⟨v, r, rfl, r1, r2⟩ := ru
      simp only [puts] at e
      cases e1 : t.put u σ with
      | none => rw [e1] at e; cases e
      | some σ1 =>
        rw [e1] at e
        refine ⟨v, r, rfl, nt_gt t u v σ σ1 τ _ (fun i hi => hs i (by simp [slotss, hi])) r1 rs e1 fun τ1 rs1 w1 => ?_⟩
        exact nts_gt ts us r σ1 σ' τ1 Q (fun i hi => hs i (by simp [slotss, hi])) r2 rs1 e fun τ2 rs2 w2 => q τ2 rs2 (w2.trans w1)
theorem puts_len : ∀ (ts : List NT) (us : List U) (σ σ' : USt), puts ts us σ = some σ' → us.length = ts.length
  | [], us, σ, σ', e => by cases us with
    | nil => rfl
    | cons _ _ => simp [puts] at e
  | t :: ts, us, σ, σ', e => by
    cases us with
    | nil => simp [puts] at e
    | cons u us =>
      simp only [puts] at e
      cases e1 : t.put u σ with
      | none => rw [e1] at e; cases e
      | some σ1 =>
        rw [e1] at e
        simp [puts_len ts us σ1 σ' e]
end
def uLcGo (D : Addr) (n : NT) (tt : UTT) (te : UTE) (st : UHp → Prop) (σ : USt) (R : List U → UHp → Prop) : List U → List U → UHp → Prop
  | [], acc, M => st M ∧ R acc M
  | x :: r, acc, M => st M ∧ ∃ σ2, n.put x σ = some σ2 ∧ tt σ2 M fun b M3 => if b = true then te σ2 M3 fun y M4 => M4 D = some (.lst acc) ∧ uLcGo D n tt te st σ R r (acc ++ [y]) (updM M4 D (.lst (acc ++ [y])))
      else M3 D = some (.lst acc) ∧ uLcGo D n tt te st σ R r acc M3
/-- what is done with the new list at D: by address, or by value from then on -/
def finL (m : Bool) (D : Addr) (acc : List U) (M : UHp) (Q : UK) : Prop := if m = true then Q (.ref D) M else Q (.lst acc) (delM M D)
def uLc (m : Bool) (w : UTI) (n : NT) (tt : UTT) (te : UTE) (vs : List Nat) (σ : USt) (M : UHp) (Q : UK) : Prop := w σ M fun it M1 => ∀ D, M1 D = none → uLcGo D n tt te it.st (wipeU σ vs) (fun acc M2 => M2 D = some (.lst acc) ∧ finL m D acc M2 Q) it.xs [] (updM M1 D (.lst []))
theorem finL_dn {K : PySem.W.Frag} {H : Hp} {M : UHp} {Qu : UK} {Q : VK} {m : Bool} {D : Addr} {acc : List U} (rm : RelM K H M) (up : UpK K H Qu Q) (e : M D = some (.lst acc)) (h : finL m D acc M Qu) : FzQ Q (.ref D) H := by
  cases m with
  | true => exact .inl (up _ _ (.ref D) H h (Stab.refl H) rm rfl)
  | false =>
    have h : Qu (.lst acc) (delM M D) := h
    exact zq_dn up (.ref D) M (.ref D) H (.inr ⟨D, acc, rfl, e, h⟩) (Stab.refl H) rm rfl
theorem dn_lc {K : PySem.W.Frag} {m : Bool} {w : UTI} {n : NT} {tt : UTT} {te : UTE} {vs : List Nat} (hn : ∀ i ∈ n.slots, i ∈ vs) : ∀ τ H Q Q', (∀ v H, FzQ Q v H → Q' v H) → dnE K (uLc m w n tt te vs) τ H Q → tLc (dnI K w) (n.gt K) (dnT K tt) (dnE K te) vs τ H Q' := fun τ H Q Q' hQ h => by
  obtain ⟨σ, M, Qu, rs, rm, q, up⟩ := h
  refine ⟨σ, M, _, rs, rm, q, fun it M1 J H1 q1 s1 m1 lk hz D hD => ?_⟩
  have sD : Stab H1 (upd H1 D (.lst [])) := Stab.new hD
  have q1 := q1 D (m1.none hD)
  refine ⟨fun i k H' => k = it.xs.length - i ∧ i ≤ it.xs.length ∧ ∃ acc M', Stab H1 H' ∧ M' D = some (.lst acc) ∧ acc.length ≤ i ∧ RelM K H' M' ∧ uLcGo D n tt te it.st (wipeU σ vs) (fun acc M2 => M2 D = some (.lst acc) ∧ finL m D acc M2 Qu) (it.xs.drop i) acc M',
    ⟨it.xs.length, by simp, Nat.zero_le _, [], _, sD, updM_same, Nat.le_refl _, m1.write (o := .lst []) sD ⟨[], upd_same, RelUs.nil⟩, q1⟩, ?_⟩
  rintro i k H' ⟨rfl, hi, acc, M', s', hMD, hla, rm', q'⟩
  by_cases hlt : i < it.xs.length
  · right
    have hx : it.xs[i]? = some it.xs[i] := List.getElem?_eq_getElem hlt
    rw [List.drop_eq_getElem_cons hlt] at q'
    obtain ⟨hst, σ2, hput, q'⟩ := q'
    obtain ⟨go, stop⟩ := lk i H' M' s' rm' hst
    obtain ⟨hgo, hy⟩ := go _ hx
    refine ⟨hgo, fun H2 => ∃ acc M2, Stab H1 H2 ∧ M2 D = some (.lst acc) ∧ acc.length ≤ i + 1 ∧ RelM K H2 M2 ∧ uLcGo D n tt te it.st (wipeU σ vs) (fun acc M2 => M2 D = some (.lst acc) ∧ finL m D acc M2 Qu) (it.xs.drop (i + 1)) acc M2,
      fun H2 n2 => ⟨it.xs.length - (i + 1), by omega, rfl, hlt, n2⟩, fun v H2 y => ?_⟩
    obtain ⟨s2, ru, m2⟩ := hy v H2 y
    have s12 : Stab H1 H2 := s'.trans s2
    refine nt_gt n it.xs[i] v (wipeU σ vs) σ2 (wipe τ vs) _ hn ru (rel_wipe (rs.stab (s1.trans s12)) vs) hput fun τ2 rs2 w2 => ⟨by rw [w2]; exact wipe_wipe τ vs, ?_⟩
    refine ⟨σ2, M', _, rs2, m2 _ rm', q', fun b M3 H3 q3 s3 m3 => ?_⟩
    cases b with
    | false =>
      simp only [Bool.false_eq_true,if_false] at q3 ⊢
      exact ⟨acc, M3, s12.trans s3, q3.1, by omega, m3, q3.2⟩
    | true =>
      simp only [if_true] at q3 ⊢
      refine ⟨σ2, M3, _, rs2.stab s3, m3, q3, fun y M4 v4 H4 q4 s4 m4 r4 => ?_⟩
      obtain ⟨e4, q4⟩ := q4
      obtain ⟨ws, hD4, hr4⟩ := m4 D _ e4
      have s5 : Stab H4 (upd H4 D (.lst (ws ++ [v4]))) := Stab.lst hD4
      refine ⟨ws, hD4, by rw [← hr4.length]; omega, acc ++ [y], _, ((s12.trans s3).trans s4).trans s5, updM_same, by simp; omega, m4.write s5 ⟨_, upd_same, (hr4.append (RelUs.cons r4 RelUs.nil)).stab s5⟩, q4⟩
  · left
    have e : i = it.xs.length := by omega
    subst e
    rw [List.drop_length] at q'
    obtain ⟨hst, e2, q'⟩ := q'
    obtain ⟨_, stop⟩ := lk _ H' M' s' rm' hst
    exact ⟨stop (Nat.le_refl _), hQ _ _ (finL_dn rm' (up.from (s1.trans s')) e2 q')⟩
section
variable {X : Cx} {elt tg iter : Expr} {ifs : List Expr} {scope : Scope} {own : List (Str × Nat)} {pos : Pos} {w : UTI} {n : NT} {tt : UTT} {te : UTE}
abbrev UTs (X : Cx) (ifs : List Expr) (t : UTT) : Prop := PTs X ifs (dnT X.K t)
def z8t (_ : USt) (M : UHp) (Q : Bool → UHp → Prop) : Prop := Q true M
theorem uts_nil : UTs X [] z8t := ⟨fun pins s τ H Q I h => pts_nil.run pins s τ H Q I (by
  obtain ⟨σ, M, Qu, rs, rm, q, up⟩ := h
  exact up true M H q (Stab.refl H) rm)⟩
theorem uts_one {c : Expr} {t : UTT} (h : UT X c t) : UTs X [c] t := pts_one h
theorem ue_lc (m : Bool) (hc : X.calm = true) (hN : X.N.Nodup) (hi : UI X tg iter w) (ok : BlkOk X.N X.env.scope scope own) (hn : ∀ i ∈ n.slots, i ∈ own.map (·.2))
    (hg : ∀ (s : Shared) (H : Hp) (C : Addr) (cl : List (Str × Addr)) (fp : List Addr), PG (X.blk s H scope (compEnvC scope cl C X.env) fp) tg (n.gt X.K)) (ht : ∀ (s : Shared) (H : Hp) (C : Addr) (cl : List (Str × Addr)) (fp : List Addr), UTs (X.blk s H scope (compEnvC scope cl C X.env) fp) ifs tt)
    (he : ∀ (s : Shared) (H : Hp) (C : Addr) (cl : List (Str × Addr)) (fp : List Addr), UE (X.blk s H scope (compEnvC scope cl C X.env) fp) elt te) (hs : ∀ x, foldedSetIterable iter X.env x = pure x := by intro _; rfl) :
    UE X (.ListComp elt [⟨tg, iter, ifs, 0⟩] scope pos) (uLc m w n tt te (own.map (·.2))) := PE.fz (pe_lc hc hN hi ok hg ht he hs) fun τ H Q h => dn_lc hn τ H Q _ (fun _ _ q => q) h
def FzN (N : L2.St → Hp → Prop) : L2.St → Hp → Prop := fun τ H => N τ H ∨ ∃ a xs, H a = some (.lst xs) ∧ ∀ o, N τ (upd H a (.frz o (.lst xs)))
theorem PS.fz {st : Stmt} {t t' : TS} (h : PS X st t) (w : ∀ D τ H, t' D τ H → t { D with nx := FzN D.nx } τ H) : PS X st t' := ⟨fun pins s τ H D I q => thn (h.run pins s τ H _ I (w D τ H q)) fun f s1 q1 => by
  cases f with
  | next =>
    obtain ⟨τ', H', I', q1⟩ := q1
    rcases q1 with q1 | ⟨a, xs, e, q1⟩
    · exact ⟨τ', H', I', q1⟩
    · obtain ⟨od, I2⟩ := I'.lock e True.intro
      exact ⟨τ', _, I2, q1 od⟩
  | _ => exact q1⟩
/-- name = [..] on one line, the name a local -/
theorem us_setLc (m : Bool) {i : Nat} {y : Str} {py spos : Pos} (hc : X.calm = true) (hN : X.N.Nodup) (hy : X.N[i]? = some y) (hyl : X.env.scope.names.lookup y = some .local)
    (hsw : swapsWith (.ListComp elt [⟨tg, iter, ifs, 0⟩] scope pos) (some (.Name y py)) spos.line X.env = pure true) (hi : UI X tg iter w) (ok : BlkOk X.N X.env.scope scope own) (hn : ∀ i ∈ n.slots, i ∈ own.map (·.2))
    (hg : ∀ (s : Shared) (H : Hp) (C : Addr) (cl : List (Str × Addr)) (fp : List Addr), PG (X.blk s H scope (compEnvC scope cl C X.env) fp) tg (n.gt X.K)) (ht : ∀ (s : Shared) (H : Hp) (C : Addr) (cl : List (Str × Addr)) (fp : List Addr), UTs (X.blk s H scope (compEnvC scope cl C X.env) fp) ifs tt)
    (he : ∀ (s : Shared) (H : Hp) (C : Addr) (cl : List (Str × Addr)) (fp : List Addr), UE (X.blk s H scope (compEnvC scope cl C X.env) fp) elt te) (hs : ∀ x, foldedSetIterable iter X.env x = pure x := by intro _; rfl) :
    US X (.Assign [.Name y py] (.ListComp elt [⟨tg, iter, ifs, 0⟩] scope pos) spos) (z8e (uLc m w n tt te (own.map (·.2))) (z7v i)) :=
  PS.fz (ps_setLc hc hN hy hyl hsw hi ok hg ht he hs) fun D τ H h => by
    obtain ⟨σ, M, Du, rs, rm, q, up⟩ := h
    refine dn_lc hn τ H (fun v H1 => D.nx (τ.set i (some v)) H1) _ (fun v H1 q1 => ?_) ⟨σ, M, _, rs, rm, q, fun x M1 v H1 q1 s1 m1 r1 => up.nx _ _ _ _ q1 s1 m1 ((rs.stab s1).set r1 i)⟩
    rcases q1 with q1 | ⟨a, xs, rfl, e, q1⟩
    · exact .inl q1
    · exact .inr ⟨a, xs, e, q1⟩
end
end PU

set_option Elab.async false
set_option linter.all false
set_option maxRecDepth 100000
/-! UMore: in, not in; name op= e; targets; the comprehension of a pure element. -/
namespace PU
open PySem PySem.Spec PyProof.Rows L2

section
variable {X : Cx}
def inStr (a b : Str) : Bool := !(Builtin.Str.occurrences b a 0 b.length 1).isEmpty
def inU (x : U) (xs : List U) : Bool := xs.any fun y => ueq y x
theorem any_toD {x : U} {d : PyData} (hx : toD x = some d) : ∀ (xs : List U) (ds : List PyData), toDs xs = some ds → (ds.any fun y => PyData.eqv y d) = inU x xs
  | [], _, h => by simp only [toDs,Option.some.injEq] at h; subst h; rfl
  | y :: ys, ds, h => by
    simp only [toDs] at h
    cases e : toD y <;> cases e2 : toDs ys <;> rw [e, e2] at h <;> simp at h
    subst h
    simp only [inU,List.any_cons]
    rw [eqv_toD y x _ _ e hx]
    exact congrArg _ (any_toD hx ys _ e2)
def inR (neg : Bool) (x : U) (y : U) (M : UHp) (Q : UK) : Prop := match y with
  | .str b => ∃ a, x = .str a ∧ Q (.bl (if neg then !inStr a b else inStr a b)) M
  | .tup xs => isDs xs = true ∧ isD x = true ∧ (deps xs ≤ 64 ∨ dep x ≤ 64) ∧ Q (.bl (if neg then !inU x xs else inU x xs)) M
  | .lst xs => isDs xs = true ∧ isD x = true ∧ (deps xs ≤ 64 ∨ dep x ≤ 64) ∧ Q (.bl (if neg then !inU x xs else inU x xs)) M
  | .ref a => ∃ xs, M a = some (.lst xs) ∧ isDs xs = true ∧ isD x = true ∧ (deps xs ≤ 64 ∨ dep x ≤ 64) ∧ Q (.bl (if neg then !inU x xs else inU x xs)) M
  | _ => False
theorem room_dep {a b k : Nat} (h : a ≤ 64 ∨ b ≤ 64) (hu : k + 200 < cLine) : k + 1 + min a b < cLine := by
  have h1 : min a b ≤ a := Nat.min_le_left _ _
  have h2 : min a b ≤ b := Nat.min_le_right _ _
  omega
theorem in_seq_dn {f : Value → Value → Sem Value} {pins : List (Addr × Obj)} {τ : L2.St} {H : Hp} {s : Shared} {Q : VK} {M : UHp} {Qu : UK} {x : U} {xs : List U} {vx vy : V} {u v : Value} {neg : Bool} {mk : List PyData → PyData}
    (hu : X.A.units + 200 < cLine) (I : Inv X pins τ H s) (rm : RelM X.K H M) (up : UpK X.K H Qu Q) (r1 : RelU X.K H x vx) (rx : RelV vx u) (ry : RelV vy v)
    (dp : ∀ ds, toDs xs = some ds → Dp X.K H vy (mk ds))
    (rule : ∀ (ds : List PyData) (d : PyData) (as bs : List Addr), Reads s.heap v (mk ds) as → Reads s.heap u d bs → PyData.canLayAll0 ds = true → d.canLay0 = true → X.A.units + 1 + min (PyData.depthAll ds) d.depth < cLine →
      EP X pins τ Q (.bool (if neg then !(ds.any fun y => PyData.eqv y d) else ds.any fun y => PyData.eqv y d)) s → wpAny (model X.prog X.w) X.A (f u v) (EP X pins τ Q) X.xe s)
    (h : isDs xs = true ∧ isD x = true ∧ (deps xs ≤ 64 ∨ dep x ≤ 64) ∧ Qu (.bl (if neg then !inU x xs else inU x xs)) M) : wpAny (model X.prog X.w) X.A (f u v) (EP X pins τ Q) X.xe s := by
  obtain ⟨h1, h2, h3, q⟩ := h
  obtain ⟨ds, e, c⟩ := toDs_some xs h1
  obtain ⟨d, e2, c2⟩ := toD_some x h2
  obtain ⟨as, rd⟩ := Dp.reads I _ vy v (dp ds e) ry
  obtain ⟨bs, rd2⟩ := Dp.reads I d vx u (dp_of x vx d r1 e2) rx
  refine rule ds d as bs rd rd2 c c2 ?_ ?_
  · rw [deps_toD _ _ e, dep_toD _ _ e2]; exact room_dep h3 hu
  · rw [any_toD e2 xs ds e]
    exact ⟨.bl _, H, I, rfl, up _ _ _ _ q (Stab.refl H) rm rfl⟩
theorem uo_in (hu : X.A.units + 200 < cLine) : UOpR X (compareOp .In) (inR false) := fun pins s τ H vx vy u v Q I rx ry h => by
  obtain ⟨x, y, M, Qu, r1, r2, rm, q, up⟩ := h
  unfold inR at q
  split at q
  · obtain ⟨a, rfl, q⟩ := q
    obtain ⟨rfl, _⟩ := r1; obtain ⟨rfl, _⟩ := r2
    exact op_in_str pins s τ H _ _ u v Q I rx ry ⟨_, _, rfl, rfl, up _ _ _ _ q (Stab.refl H) rm rfl⟩
  · rename_i xs
    exact in_seq_dn (mk := .tuple) hu I rm up r1 rx ry (fun ds e => dp_of (.tup xs) vy _ r2 (by simp [toD, e])) (fun ds d as bs a b c e f g => SeqAt.in_tuple_reads a b c e f (by simpa using g)) q
  · rename_i xs
    exact in_seq_dn (mk := .list) hu I rm up r1 rx ry (fun ds e => dp_of (.lst xs) vy _ r2 (by simp [toD, e])) (fun ds d as bs a b c e f g => SeqAt.in_list_reads a b c e f (by simpa using g)) q
  · rename_i a
    obtain ⟨xs, hm, q⟩ := q
    obtain rfl := r2
    obtain ⟨vs, h1, h2⟩ := rm a _ hm
    exact in_seq_dn (mk := .list) hu I rm up r1 rx ry (fun ds e => .lst (SqL.of h1) (dps_of xs vs ds h2 e)) (fun ds d as bs a b c e f g => SeqAt.in_list_reads a b c e f (by simpa using g)) q
  · exact q.elim
/-! name += e -/
def augI (f : Int → Int → Int) (x : U) (y : U) (M : UHp) (Q : UK) : Prop := match x, y with
  | .int i, .int j => Q (.int (f i j)) M
  | _, _ => False
def z8f (i : Nat) (te : UTE) (r : UR2) (D : UEnds) (σ : USt) (M : UHp) : Prop := ∃ x, σ[i]? = some (some x) ∧ te σ M fun y M1 => r x y M1 fun z M2 => D.nx (σ.set i (some z)) M2
/-! targets of comprehensions -/
theorem pg_nt {i : Nat} {x : Str} {pos : Pos} {K : PySem.W.Frag} (hN : X.N.Nodup) (hi : X.N[i]? = some x) (hx : Loc X.env.scope x) (hf : X.fn x = true ∨ X.env.scope.names.lookup x = some .local := by first | exact .inl rfl | exact .inr rfl | assumption) : PG X (.Name x pos) ((NT.one i).gt K) := by
  simp only [NT.gt]
  exact pg_name hN hi hx hf
end

theorem hu2 {k : Nat} {A : Around} (hr : Room k A) : A.units + 200 < cLine := by have := hr.un; omega
theorem hu6 {k : Nat} {A : Around} (hr : Room k A) : A.units + 64 < cLine := by have := hr.un; omega

/-! ### built-in names -/
theorem bt_isi : bootBuiltins "isinstance" = some (.builtin "isinstance") := by decide +kernel
theorem bt_all : bootBuiltins "all" = some (.builtin "all") := by decide +kernel
theorem bt_repr : bootBuiltins "repr" = some (.builtin "repr") := by decide +kernel
theorem bt_tuple : bootBuiltins "tuple" = some (.type "tuple") := by decide +kernel
theorem bt_list : bootBuiltins "list" = some (.type "list") := by decide +kernel
theorem bt_int : bootBuiltins "int" = some (.type "int") := by decide +kernel
/-! ### a def of the module, as a caller needs it -/
structure Df (K : PySem.W.Frag) (mg : Str → Option Value) (x : Str) (st : Stmt) (f : Addr) (fd : FuncData) (ps : List Str) : Prop where
  F : Fun K x x st f fd
  g : mg x = some (.ref f)
  b : Binds K fd ps []

/-! ### comprehensions whose element changes nothing -/
/-- te gives y and changes nothing -/
def Ev (te : UTE) (σ : USt) (M : UHp) (y : U) : Prop := ∀ Q : UK, Q y M → te σ M Q
def EvT (tt : UTT) (σ : USt) (M : UHp) (b : Bool) : Prop := ∀ Q : Bool → UHp → Prop, Q b M → tt σ M Q
theorem go_pure {D : Addr} {n : NT} {tt : UTT} {te : UTE} {st : UHp → Prop} {σ : USt} {R : List U → UHp → Prop} {M0 : UHp} {F : U → U} {p : U → Bool} (hD : M0 D = none) :
    ∀ (xs acc : List U), (∀ acc, st (updM M0 D (.lst acc))) →
    (∀ x ∈ xs, ∀ acc, ∃ σ2, n.put x σ = some σ2 ∧ EvT tt σ2 (updM M0 D (.lst acc)) (p x) ∧ (p x = true → Ev te σ2 (updM M0 D (.lst acc)) (F x))) →
    R (acc ++ (xs.filter p).map F) (updM M0 D (.lst (acc ++ (xs.filter p).map F))) → uLcGo D n tt te st σ R xs acc (updM M0 D (.lst acc))
  | [], acc, hst, _, h => by simpa using ⟨hst acc, by simpa using h⟩
  | x :: xs, acc, hst, he, h => by
    obtain ⟨σ2, e1, e2, e3⟩ := he x (by simp) acc
    refine ⟨hst acc, σ2, e1, e2 _ ?_⟩
    cases hp : p x with
    | false =>
      simp only [Bool.false_eq_true,if_false]
      refine ⟨updM_same, go_pure hD xs acc hst (fun y hy => he y (by simp [hy])) ?_⟩
      simpa [List.filter_cons, hp] using h
    | true =>
      simp only [if_true]
      refine e3 hp _ ⟨updM_same, ?_⟩
      rw [updM_updM]
      refine go_pure hD xs (acc ++ [F x]) hst (fun y hy => he y (by simp [hy])) ?_
      simpa [List.filter_cons, hp] using h
/-- [F(x) for x in xs if p(x)], by value -/
theorem lc_pure {n : NT} {tt : UTT} {te : UTE} {σ : USt} {M0 : UHp} {Q : UK} {xs : List U} {st : UHp → Prop} (F : U → U) (p : U → Bool) (hst : ∀ D acc, M0 D = none → st (updM M0 D (.lst acc)))
    (he : ∀ D acc, M0 D = none → ∀ x ∈ xs, ∃ σ2, n.put x σ = some σ2 ∧ EvT tt σ2 (updM M0 D (.lst acc)) (p x) ∧ (p x = true → Ev te σ2 (updM M0 D (.lst acc)) (F x))) (h : Q (.lst ((xs.filter p).map F)) M0) :
    ∀ D, M0 D = none → uLcGo D n tt te st σ (fun acc M2 => M2 D = some (.lst acc) ∧ finL false D acc M2 Q) xs [] (updM M0 D (.lst [])) := fun D hD => by
  refine go_pure hD xs [] (fun acc => hst D acc hD) (fun x hx acc => he D acc hD x hx) ?_
  refine ⟨updM_same, ?_⟩
  show Q _ (delM _ D)
  rw [delM_upd hD]
  simpa using h
theorem lc_map {n : NT} {te : UTE} {σ : USt} {M0 : UHp} {Q : UK} {xs : List U} {st : UHp → Prop} (F : U → U) (hst : ∀ D acc, M0 D = none → st (updM M0 D (.lst acc)))
    (he : ∀ D acc, M0 D = none → ∀ x ∈ xs, ∃ σ2, n.put x σ = some σ2 ∧ Ev te σ2 (updM M0 D (.lst acc)) (F x)) (h : Q (.lst (xs.map F)) M0) :
    ∀ D, M0 D = none → uLcGo D n z8t te st σ (fun acc M2 => M2 D = some (.lst acc) ∧ finL false D acc M2 Q) xs [] (updM M0 D (.lst [])) := by
  refine lc_pure F (fun _ => true) hst (fun D acc hD x hx => ?_) (by rw [List.filter_eq_self.mpr (fun _ _ => rfl)]; exact h)
  obtain ⟨σ2, e1, e2⟩ := he D acc hD x hx
  exact ⟨σ2, e1, fun Q q => q, fun _ => e2⟩
end PU

set_option Elab.async false
set_option linter.all false
set_option maxRecDepth 100000
/-! UData: data that a law draws. -/
namespace PU
open PySem PySem.Spec PyProof.Rows L2

theorem iteI {c : Prop} [inst : Decidable c] {a b : Prop} (ht : c → a) (hf : ¬ c → b) : @ite Prop c inst a b := by
  by_cases h : c
  · rw [if_pos h]; exact ht h
  · rw [if_neg h]; exact hf h
theorem iteF {c : Prop} [inst : Decidable c] {a b : Prop} (h : ¬ c) (hb : b) : @ite Prop c inst a b := by rw [if_neg h]; exact hb
theorem iteT {c : Prop} [inst : Decidable c] {a b : Prop} (h : c) (ha : a) : @ite Prop c inst a b := by rw [if_pos h]; exact ha
theorem isDs_iff : ∀ {xs : List U}, isDs xs = true ↔ ∀ x ∈ xs, isD x = true
  | [] => by simp [isDs]
  | x :: xs => by simp [isDs, isDs_iff (xs := xs)]
theorem shws_iff : ∀ {xs : List U}, shws xs = true ↔ ∀ x ∈ xs, shw x = true
  | [] => by simp [shws]
  | x :: xs => by simp [shws, shws_iff (xs := xs)]
theorem deps_le {k : Nat} : ∀ {xs : List U}, deps xs ≤ k ↔ ∀ x ∈ xs, dep x ≤ k
  | [] => by simp [deps]
  | x :: xs => by simp [deps, deps_le (xs := xs), Nat.max_le]
theorem szs_le {k : Nat} : ∀ {xs : List U}, (∀ x ∈ xs, sz x ≤ k) → szs xs ≤ xs.length * (k + 2)
  | [], _ => by simp [szs]
  | x :: xs, h => by
    have h1 := h x (by simp)
    have h2 := szs_le (xs := xs) fun y hy => h y (by simp [hy])
    simp only [szs,List.length_cons,Nat.add_mul]
    omega
mutual
/-- the longest list within -/
def wid : U → Nat
  | .tup xs => max xs.length (wids xs)
  | .lst xs => max xs.length (wids xs)
  | _ => 0
def wids : List U → Nat
  | [] => 0
  | x :: xs => max (wid x) (wids xs)
end
theorem wids_le {k : Nat} : ∀ {xs : List U}, wids xs ≤ k ↔ ∀ x ∈ xs, wid x ≤ k
  | [] => by simp [wids]
  | x :: xs => by simp [wids, wids_le (xs := xs), Nat.max_le]
/-- data of at most such depth and size, with short integers -/
structure Dt (k n : Nat) (x : U) : Prop where
  d : isD x = true
  s : shw x = true
  p : dep x ≤ k
  z : sz x ≤ n
  w : wid x ≤ 60
theorem Dt.mono {k n k' n' : Nat} {x : U} (h : Dt k n x) (hk : k ≤ k') (hn : n ≤ n') : Dt k' n' x := ⟨h.d, h.s, Nat.le_trans h.p hk, Nat.le_trans h.z hn, h.w⟩
theorem Dt.okR {k n : Nat} {x : U} (h : Dt k n x) (hk : k ≤ 150) (hn : n ≤ 16000000) : okR x := ⟨h.d, h.s, Nat.le_trans h.p hk, Nat.le_trans h.z hn⟩
theorem Dt.tup {k n m : Nat} {xs : List U} (h : ∀ x ∈ xs, Dt k n x) (hm : xs.length * (n + 2) + 4 ≤ m) (hl : xs.length ≤ 60 := by first | omega | (simp; done) | decide) : Dt (k + 1) m (.tup xs) := by
  refine ⟨by simp only [isD]; exact isDs_iff.mpr fun x hx => (h x hx).d, by simp only [shw]; exact shws_iff.mpr fun x hx => (h x hx).s, ?_, ?_, by simp only [wid]; exact Nat.max_le.mpr ⟨hl, wids_le.mpr fun x hx => (h x hx).w⟩⟩
  · have := deps_le.mpr fun x hx => (h x hx).p
    simp only [dep]; omega
  · have := szs_le fun x hx => (h x hx).z
    simp only [sz]; omega
theorem Dt.lst {k n m : Nat} {xs : List U} (h : ∀ x ∈ xs, Dt k n x) (hm : xs.length * (n + 2) + 4 ≤ m) (hl : xs.length ≤ 60 := by first | omega | (simp; done) | decide) : Dt (k + 1) m (.lst xs) := by
  refine ⟨by simp only [isD]; exact isDs_iff.mpr fun x hx => (h x hx).d, by simp only [shw]; exact shws_iff.mpr fun x hx => (h x hx).s, ?_, ?_, by simp only [wid]; exact Nat.max_le.mpr ⟨hl, wids_le.mpr fun x hx => (h x hx).w⟩⟩
  · have := deps_le.mpr fun x hx => (h x hx).p
    simp only [dep]; omega
  · have := szs_le fun x hx => (h x hx).z
    simp only [sz]; omega
/-- decided at once, for what is written -/
def dtB (k n : Nat) (x : U) : Bool := isD x && shw x && decide (dep x ≤ k) && decide (sz x ≤ n) && decide (wid x ≤ 60)
theorem Dt.of {k n : Nat} {x : U} (h : dtB k n x = true) : Dt k n x := by
  simp only [dtB,Bool.and_eq_true,decide_eq_true_eq] at h
  exact ⟨h.1.1.1.1, h.1.1.1.2, h.1.1.2, h.1.2, h.2⟩
theorem Dt.ofs {k n : Nat} {xs : List U} (h : xs.all (dtB k n) = true) : ∀ x ∈ xs, Dt k n x := fun x hx => Dt.of (List.all_eq_true.mp h x hx)
theorem Dt.int {n : Nat} {i : Int} (h : i.natAbs.log2 + 2 ≤ n) (h2 : i.natAbs.log2 < 1920) : Dt 0 n (.int i) := ⟨rfl, by simp [shw, h2], Nat.le_refl _, by simpa [sz] using h, by simp [wid]⟩
theorem Dt.str {n : Nat} {z : Str} (h : okS z = true) (h2 : 10 * z.length + 2 ≤ n) : Dt 0 n (.str z) := ⟨by simpa [isD] using h, rfl, Nat.le_refl _, by simpa [sz] using h2, by simp [wid]⟩
/-- an item at a drawn place -/
theorem at_draw {xs : List U} {i : Int} (h0 : 0 ≤ i) (h1 : i < xs.length) : ∃ v, atI xs i = some v ∧ v ∈ xs := by
  have hj : i.toNat < xs.length := by omega
  refine ⟨xs[i.toNat], ?_, List.getElem_mem hj⟩
  unfold atI ixN
  rw [if_pos h0, if_pos h1]
  show xs[i.toNat]? = _
  exact List.getElem?_eq_getElem hj
/-- what stood still stands, but for s and c -/
def But (s c : Addr) (M M' : UHp) : Prop := ∀ b, b ≠ s → b ≠ c → ∀ o, M b = some o → M' b = some o
theorem But.refl {s c : Addr} {M : UHp} : But s c M M := fun _ _ _ _ e => e
theorem But.trans {s c : Addr} {M M1 M2 : UHp} (a : But s c M M1) (b : But s c M1 M2) : But s c M M2 := fun x h1 h2 o e => b x h1 h2 o (a x h1 h2 o e)
theorem But.eq {s c : Addr} {M M' : UHp} (h : ∀ b, b ≠ s → b ≠ c → M' b = M b) : But s c M M' := fun b h1 h2 o e => (h b h1 h2).trans e
theorem But.del {s c D : Addr} {M M' : UHp} (h : But s c M M') (hD : M D = none) : But s c M (delM M' D) := fun b h1 h2 o e => by
  by_cases hb : b = D
  · rw [hb, hD] at e; cases e
  · rw [delM_ne hb]; exact h b h1 h2 o e
theorem But.upd {s c D : Addr} {M M' : UHp} {o : MO} (h : But s c M M') (hD : M D = none) : But s c M (updM M' D o) := fun b h1 h2 u e => by
  by_cases hb : b = D
  · rw [hb, hD] at e; cases e
  · rw [updM_ne hb]; exact h b h1 h2 u e
/-- the stream of a law: the cells' list at c, the cell at hand, the number of draws (n more are allowed), the mix -/
def Strm (M : UHp) (s c : Addr) (n : Nat) : Prop := s ≠ c ∧ ∃ (ks : List Int) (a : Int) (b : Nat) (d : Int), M s = some (.lst [.ref c, .int a, .int b, .int d]) ∧ M c = some (.lst (ks.map .int)) ∧ 0 ≤ a ∧ b + n ≤ 8000000 ∧ 0 ≤ d ∧ d < 2147483647 ∧ ks.length ≤ 63
theorem Strm.le {M : UHp} {s c : Addr} {n m : Nat} (h : Strm M s c n) (hm : m ≤ n) : Strm M s c m := by
  obtain ⟨h1, ks, a, b, d, e1, e2, e3, e4, e5, e6, e7⟩ := h
  exact ⟨h1, ks, a, b, d, e1, e2, e3, by omega, e5, e6, e7⟩
theorem Strm.at {M M' : UHp} {s c : Addr} {n : Nat} (h : Strm M s c n) (e1 : M' s = M s) (e2 : M' c = M c) : Strm M' s c n := by
  obtain ⟨h1, ks, a, b, d, q1, q2, q⟩ := h
  exact ⟨h1, ks, a, b, d, e1.trans q1, e2.trans q2, q⟩
theorem Strm.upd {M : UHp} {s c p : Addr} {n : Nat} {o : MO} (h : Strm M s c n) (h1 : s ≠ p) (h2 : c ≠ p) : Strm (updM M p o) s c n := h.at (updM_ne h1) (updM_ne h2)
theorem Strm.del {M : UHp} {s c p : Addr} {n : Nat} (h : Strm M s c n) (h1 : s ≠ p) (h2 : c ≠ p) : Strm (delM M p) s c n := h.at (delM_ne h1) (delM_ne h2)
theorem Strm.sp {M : UHp} {s c p : Addr} {n : Nat} (h : Strm M s c n) (e : M p = none) : s ≠ p ∧ c ≠ p := by
  obtain ⟨_, ks, a, b, d, q1, q2, _⟩ := h
  exact ⟨fun z => (by rw [z, e] at q1; cases q1), fun z => (by rw [z, e] at q2; cases q2)⟩
theorem isDs_ints : ∀ ks : List Int, isDs (ks.map .int) = true
  | [] => rfl
  | k :: ks => by simp [isDs, isD, isDs_ints ks]
/-! places that are written -/
section
variable {α : Type} {a b c d e f g h : α} {xs : List α} {n : Nat}
theorem at0 : atI (a :: xs) 0 = some a := atI_nat (j := 0) (by simp)
theorem at1 : atI (a :: b :: xs) 1 = some b := atI_nat (j := 1) (by simp)
theorem at2 : atI (a :: b :: c :: xs) 2 = some c := atI_nat (j := 2) (by simp)
theorem at3 : atI (a :: b :: c :: d :: xs) 3 = some d := atI_nat (j := 3) (by simp)
theorem at4 : atI (a :: b :: c :: d :: e :: xs) 4 = some e := atI_nat (j := 4) (by simp)
theorem ix0 : ixN (n + 1) 0 = some 0 := by simp [ixN] <;> omega
theorem ix1 : ixN (n + 2) 1 = some 1 := by simp [ixN] <;> omega
theorem ix2 : ixN (n + 3) 2 = some 2 := by simp [ixN] <;> omega
theorem ix3 : ixN (n + 4) 3 = some 3 := by simp [ixN] <;> omega
theorem ix4 : ixN (n + 5) 4 = some 4 := by simp [ixN] <;> omega
theorem line_le {n : Nat} (h : n ≤ 1000000 := by decide) : n ≤ sizeLine := by rw [sizeLine_eq]; omega
theorem line_lt {n : Nat} (h : n ≤ 1000000 := by decide) : n < sizeLine := by rw [sizeLine_eq]; omega
end
/-! the law's draw -/
theorem strm_mk {M : UHp} {s c : Addr} {n b : Nat} {ks : List Int} {a d : Int} (hsc : s ≠ c) (e1 : M s = some (.lst [.ref c, .int a, .int (↑b + 1), .int d])) (e2 : M c = some (.lst (ks.map .int))) (ha : 0 ≤ a) (hb : b + (n + 1) ≤ 8000000)
    (h0 : 0 ≤ d) (h1 : d < 2147483647) (hk : ks.length ≤ 63) : Strm M s c n := ⟨hsc, ks, a, b + 1, d, by rw [e1]; simp, e2, ha, by omega, h0, h1, hk⟩
theorem mix_ok {d : Int} {b : Nat} {many : Int} {G : Int → Prop} (h0 : 0 ≤ d) (h1 : d < 2147483647) (hb : b < 8000000) (hm : 0 < many) (h : ∀ r, 0 ≤ r → r < many → G r) :
    CMul 104729 (↑b + 1) ∧ CPow (d + 104729 * (↑b + 1) + 17) 5 ∧ (0 : Int) < 2147483629 ∧ CMul ((d + 104729 * (↑b + 1) + 17) ^ Int.toNat 5 % 2147483629) 48271 ∧ CMul 40503 (↑b + 1) ∧ CMul (40503 * (↑b + 1)) (↑b + 1) ∧
      CPow ((d + 104729 * (↑b + 1) + 17) ^ Int.toNat 5 % 2147483629 * 48271 + 40503 * (↑b + 1) * (↑b + 1) + 13) 3 ∧ (0 : Int) < 1000000007 ∧ 0 < many ∧
      G (((d + 104729 * (↑b + 1) + 17) ^ Int.toNat 5 % 2147483629 * 48271 + 40503 * (↑b + 1) * (↑b + 1) + 13) ^ Int.toNat 3 % 1000000007 % many) := by
  have hx0 := Int.emod_nonneg ((d + 104729 * ((b : Int) + 1) + 17) ^ Int.toNat 5) (show (2147483629 : Int) ≠ 0 by decide)
  have hx1 := Int.emod_lt_of_pos ((d + 104729 * ((b : Int) + 1) + 17) ^ Int.toNat 5) (show (0 : Int) < 2147483629 by decide)
  generalize (d + 104729 * ((b : Int) + 1) + 17) ^ Int.toNat 5 % 2147483629 = x at hx0 hx1 ⊢
  have hsq : ((b : Int) + 1) * ((b : Int) + 1) ≤ 8000000 * 8000000 := Int.mul_le_mul (by omega) (by omega) (by omega) (by omega)
  have hsq0 : 0 ≤ ((b : Int) + 1) * ((b : Int) + 1) := Int.mul_nonneg (by omega) (by omega)
  have e : 40503 * ((b : Int) + 1) * ((b : Int) + 1) = 40503 * (((b : Int) + 1) * ((b : Int) + 1)) := Int.mul_assoc _ _ _
  rw [e]
  generalize ((b : Int) + 1) * ((b : Int) + 1) = y at hsq hsq0 ⊢
  refine ⟨.inl ⟨by omega, by omega⟩, ⟨by decide, by decide, by omega⟩, by decide, .inr ⟨by omega, by omega⟩, .inl ⟨by omega, by omega⟩, .inl ⟨by omega, by omega⟩, ⟨by decide, by decide, by omega⟩, by decide, hm, h _ (Int.emod_nonneg _ (by omega)) (Int.emod_lt_of_pos _ hm)⟩
/-! comprehensions that draw -/
theorem lc_inv {D : Addr} {n : NT} {te : UTE} {st : UHp → Prop} {σ : USt} {R : List U → UHp → Prop} (I : Nat → List U → UHp → Prop) (xs : List U) (hst : ∀ i acc M, I i acc M → st M)
    (he : ∀ i x acc M, xs[i]? = some x → I i acc M → M D = some (.lst acc) → ∃ σ2, n.put x σ = some σ2 ∧ ∀ Q : UK, (∀ y M4, M4 D = some (.lst acc) → I (i + 1) (acc ++ [y]) (updM M4 D (.lst (acc ++ [y]))) → Q y M4) → te σ2 M Q)
    (h : ∀ acc M, I xs.length acc M → M D = some (.lst acc) → R acc M) {M : UHp} (h0 : I 0 [] M) (hD : M D = some (.lst [])) : uLcGo D n z8t te st σ R xs [] M := by
  have go : ∀ (r : List U) (i : Nat) (acc : List U) (M : UHp), xs.drop i = r → i ≤ xs.length → I i acc M → M D = some (.lst acc) → uLcGo D n z8t te st σ R r acc M := by
    intro r
    induction r with
    | nil =>
      intro i acc M e hi hI hD
      have : i = xs.length := by
        have := congrArg List.length e
        simp at this; omega
      subst this
      exact ⟨hst _ _ _ hI, h acc M hI hD⟩
    | cons x r ih =>
      intro i acc M e hi hI hD
      have hlt : i < xs.length := by
        by_cases hlt : i < xs.length
        · exact hlt
        · rw [List.drop_eq_nil_of_le (by omega)] at e; cases e
      rw [List.drop_eq_getElem_cons hlt] at e
      have hx : xs[i]? = some x := by rw [List.getElem?_eq_getElem hlt, (List.cons.inj e).1]
      obtain ⟨σ2, e1, e2⟩ := he i x acc M hx hI hD
      refine ⟨hst _ _ _ hI, σ2, e1, ?_⟩
      simp only [z8t,if_true]
      exact e2 _ fun y M4 hD4 hI4 => ⟨hD4, ih (i + 1) (acc ++ [y]) _ (List.cons.inj e).2 hlt hI4 updM_same⟩
  exact go xs 0 [] M rfl (Nat.zero_le _) h0 hD
/-- .. each element takes k draws at most and has P -/
theorem lc_strm {D : Addr} {n : NT} {te : UTE} {σ : USt} {R : List U → UHp → Prop} {M0 : UHp} {s c : Addr} {N k : Nat} {xs : List U} (P : U → Prop) (hS : Strm M0 s c (N + xs.length * k))
    (he : ∀ x ∈ xs, ∃ σ2, n.put x σ = some σ2 ∧ ∀ M N', Strm M s c (N' + k) → ∀ Q : UK, (∀ y M', P y → Strm M' s c N' → But s c M M' → Q y M') → te σ2 M Q) (hD : M0 D = none)
    (h : ∀ ys M', ys.length = xs.length → (∀ y ∈ ys, P y) → Strm M' s c N → But s c M0 M' → M' D = some (.lst ys) → s ≠ D → c ≠ D → R ys M') :
    uLcGo D n z8t te (fun _ => True) σ R xs [] (updM M0 D (.lst [])) := by
  obtain ⟨h1, h2⟩ := hS.sp hD
  refine lc_inv (fun i acc M => acc.length = i ∧ i ≤ xs.length ∧ (∀ y ∈ acc, P y) ∧ Strm M s c (N + (xs.length - i) * k) ∧ But s c M0 M) xs (fun _ _ _ _ => True.intro) ?_ ?_
    ⟨rfl, Nat.zero_le _, by simp, hS.upd h1 h2, But.refl.upd hD⟩ updM_same
  · rintro i x acc M hx ⟨hl, hi, hP, hS', hB⟩ hD'
    have hlt : i < xs.length := (List.getElem?_eq_some_iff.mp hx).1
    obtain ⟨σ2, e1, e2⟩ := he x (List.mem_of_getElem? hx)
    have e : N + (xs.length - i) * k = (N + (xs.length - (i + 1)) * k) + k := by
      have : xs.length - i = (xs.length - (i + 1)) + 1 := by omega
      rw [this, Nat.add_mul]; omega
    rw [e] at hS'
    refine ⟨σ2, e1, fun Q q => e2 M _ hS' Q fun y M' hy hS2 hB2 => q y M' (hB2 D (Ne.symm h1) (Ne.symm h2) _ hD') ⟨by simp [hl], hlt, fun z hz => ?_, hS2.upd h1 h2, (hB.trans hB2).upd hD⟩⟩
    · rcases List.mem_append.mp hz with hz | hz
      · exact hP z hz
      · rw [List.mem_singleton.mp hz]; exact hy
  · rintro acc M ⟨hl, _, hP, hS', hB⟩ hD'
    rw [Nat.sub_self, Nat.zero_mul] at hS'
    exact h acc M hl hP hS' hB hD' h1 h2
theorem lc_strmT {n : NT} {te : UTE} {σ : USt} {Q : UK} {M0 : UHp} {s c : Addr} {N k : Nat} {xs : List U} (P : U → Prop) (hS : Strm M0 s c (N + xs.length * k))
    (he : ∀ x ∈ xs, ∃ σ2, n.put x σ = some σ2 ∧ ∀ M N', Strm M s c (N' + k) → ∀ Q : UK, (∀ y M', P y → Strm M' s c N' → But s c M M' → Q y M') → te σ2 M Q)
    (h : ∀ D ys M', M0 D = none → ys.length = xs.length → (∀ y ∈ ys, P y) → Strm M' s c N → But s c M0 M' → M' D = some (.lst ys) → s ≠ D → c ≠ D → Q (.ref D) M') :
    ∀ D, M0 D = none → uLcGo D n z8t te (fun _ => True) σ (fun acc M2 => M2 D = some (.lst acc) ∧ finL true D acc M2 Q) xs [] (updM M0 D (.lst [])) := fun D hD =>
  lc_strm P hS he hD fun ys M' hl hP hS' hB hD' h1 h2 => ⟨hD', h D ys M' hD hl hP hS' hB hD' h1 h2⟩
/-! texts of single signs -/
def one (c : Nat) : Str := ⟨#[c]⟩
theorem range_len (lo : Int) (n : Nat) : (rangeU lo n).length = n := by simp [rangeU]
theorem val_isD {M : UHp} {x : U} (h : isD x = true) : val M x = x := by
  cases x <;> first | rfl | (simp [isD] at h)
theorem ufn_none {P : Program} {w : World} {K : PySem.W.Frag} {mg : Str → Option Value} {base : Heap} {CX : CXT} {k : Nat} {f : Addr} {fd : FuncData} {ps : List Str} : UFn P w K mg base CX k f fd ps (fun _ _ _ _ => False) :=
  ⟨fun _ _ _ _ z => z.elim, fun _ _ _ _ _ _ _ _ _ _ _ _ _ _ ⟨_, _, _, _, _, _, z, _⟩ => z.elim⟩
/-- a loop by what holds between its turns -/
theorem for_inv {g : UTG} {tb : UTS} {st : UHp → Prop} {D : UEnds} (I : Nat → USt → UHp → Prop) (xs : List U) (hst : ∀ i σ M, I i σ M → st M)
    (he : ∀ i x σ M (N : USt → UHp → Prop), xs[i]? = some x → I i σ M → (∀ σ' M', I (i + 1) σ' M' → N σ' M') → g x σ M fun σ2 M2 => tb { D with nx := N, ct := N, bk := D.nx } σ2 M2)
    (hd : ∀ σ M, I xs.length σ M → D.nx σ M) {σ : USt} {M : UHp} (h0 : I 0 σ M) : uForGo g tb st D xs σ M := by
  have go : ∀ (r : List U) (i : Nat) (σ : USt) (M : UHp), xs.drop i = r → i ≤ xs.length → I i σ M → uForGo g tb st D r σ M := by
    intro r
    induction r with
    | nil =>
      intro i σ M e hi hI
      have : i = xs.length := by
        have := congrArg List.length e
        simp at this; omega
      subst this
      exact ⟨hst _ _ _ hI, hd σ M hI⟩
    | cons x r ih =>
      intro i σ M e hi hI
      have hlt : i < xs.length := by
        by_cases hlt : i < xs.length
        · exact hlt
        · rw [List.drop_eq_nil_of_le (by omega)] at e; cases e
      rw [List.drop_eq_getElem_cons hlt] at e
      have hx : xs[i]? = some x := by rw [List.getElem?_eq_getElem hlt, (List.cons.inj e).1]
      exact ⟨hst _ _ _ hI, he i x σ M _ hx hI fun σ' M' hI' => ih (i + 1) σ' M' (List.cons.inj e).2 hlt hI'⟩
  exact go xs 0 σ M rfl (Nat.zero_le _) h0
theorem zq_f {Q : UK} {p : Addr} {xs : List U} {M : UHp} (e : M p = some (.lst xs)) (h : Q (.lst xs) (delM M p)) : ZQ Q (.ref p) M := .inr ⟨p, xs, rfl, e, h⟩
theorem Dt.up {k n m : Nat} {xs : List U} (h : ∀ x ∈ xs, Dt k n x) (hm : szs xs + 4 ≤ m) (hl : xs.length ≤ 60) : Dt (k + 1) m (.tup xs) := by
  refine ⟨by simp only [isD]; exact isDs_iff.mpr fun x hx => (h x hx).d, by simp only [shw]; exact shws_iff.mpr fun x hx => (h x hx).s, ?_, by simp only [sz]; omega, by simp only [wid]; exact Nat.max_le.mpr ⟨hl, wids_le.mpr fun x hx => (h x hx).w⟩⟩
  have := deps_le.mpr fun x hx => (h x hx).p
  simp only [dep]; omega
theorem Dt.pair {k n m : Nat} {a b : U} (ha : Dt k n a) (hb : Dt k m b) : Dt (k + 1) (n + m + 8) (.tup [a, b]) := by
  have h1 := ha.z
  have h2 := hb.z
  refine Dt.up (n := max n m) (fun x hx => ?_) ?_ (by simp)
  · simp only [List.mem_cons,List.not_mem_nil,or_false] at hx
    rcases hx with rfl | rfl
    · exact ha.mono (Nat.le_refl _) (Nat.le_max_left ..)
    · exact hb.mono (Nat.le_refl _) (Nat.le_max_right ..)
  · simp only [szs]; omega
/-- many of one size -/
theorem Dt.many {k n m : Nat} {xs : List U} (h : ∀ x ∈ xs, Dt k n x) (l : xs.length ≤ m) (hm : m ≤ 60 := by decide) : Dt (k + 1) (m * (n + 2) + 4) (.tup xs) := by
  refine Dt.up h ?_ (by omega)
  have h1 := szs_le fun x hx => (h x hx).z
  have h2 : xs.length * (n + 2) ≤ m * (n + 2) := Nat.mul_le_mul_right _ l
  omega
end PU

set_option Elab.async false
set_option linter.all false
set_option maxRecDepth 100000
/-! USimp: what the words give, a case at a time (printed by mk_simp.py). -/
namespace PU
open PySem PySem.Spec PyProof.Rows L2
def anyI (x : U) (M1 : UHp) (R : UIt → UHp → Prop) : Prop := match x with
  | .tup xs => R ⟨xs, fun _ => True⟩ M1
  | .str z => R ⟨signs z, fun _ => True⟩ M1
  | x => ∃ xs, listU M1 x = some xs ∧ R ⟨xs, fun M' => listU M' x = some xs⟩ M1
def refV (p : Addr) : Option MO → U
  | some (.lst xs) => .lst xs
  | _ => .ref p
theorem z3g {p : Addr} {xs : List U} : refV p (some (.lst xs)) = .lst xs := rfl
def refL : Option MO → Option (List U)
  | some (.lst xs) => some xs
  | _ => none
theorem z3e {xs : List U} : refL (some (.lst xs)) = some xs := rfl
def refT : Option MO → Option String
  | some (.lst _) => some "list"
  | some (.dK _) => some "dict"
  | _ => none
theorem z3f {xs : List U} : refT (some (.lst xs)) = some "list" := rfl
theorem z4r {M : UHp} {p : Addr} : tyM M (U.ref p) = refT (M p) := by
  unfold tyM refT; rfl
def truK (x : U) (M : UHp) (Q : Bool → UHp → Prop) : Prop := ∃ k, truU M x = some k ∧ Q k M
def blK (x : U) (M : UHp) (Q : Bool → UHp → Prop) : Prop := ∃ k, x = .bl k ∧ Q k M
def partK (x : U) (M : UHp) (Q : Option Int → UHp → Prop) : Prop := ∃ i, x = .int i ∧ Q (some i) M
def rngK (us : List U) (M : UHp) (R : UIt → UHp → Prop) : Prop := ∃ j : Int, us = [.int j] ∧ -(2 ^ 62) ≤ j ∧ j < 2 ^ 62 ∧ j.toNat ≤ sizeLine ∧ R ⟨rangeU 0 j.toNat, fun _ => True⟩ M
theorem z5h {M : UHp} {Q : UK} {i j : Int} {m : Bool} : addR m (.int i) (.int j) M Q = Q (.int (i + j)) M := rfl
theorem z5i {M : UHp} {Q : UK} {a b : Str} {m : Bool} : addR m (.str a) (.str b) M Q = (a.length + b.length ≤ sizeLine ∧ Q (.str (a ++ b)) M) := rfl
theorem z5j {M : UHp} {Q : UK} {xs ys : List U} {m : Bool} : addR m (.tup xs) (.tup ys) M Q = (xs.length + ys.length ≤ sizeLine ∧ Q (.tup (xs ++ ys)) M) := rfl
theorem add_ll {M : UHp} {Q : UK} {xs ys : List U} {m : Bool} : addR m (.lst xs) (.lst ys) M Q = (∃ xs_1 ys_1, some xs = some xs_1 ∧ some ys = some ys_1 ∧ xs_1.length + ys_1.length ≤ sizeLine ∧ newL m (xs_1 ++ ys_1) M Q) := rfl
theorem z3v {M : UHp} {Q : UK} {xs : List U} {p : Addr} {m : Bool} : addR m (.lst xs) (.ref p) M Q = (∃ xs_1 ys_1, some xs = some xs_1 ∧ refL (M p) = some ys_1 ∧ xs_1.length + ys_1.length ≤ sizeLine ∧ newL m (xs_1 ++ ys_1) M Q) := rfl
theorem z3w {M : UHp} {Q : UK} {ys : List U} {p : Addr} {m : Bool} : addR m (.ref p) (.lst ys) M Q = (∃ xs_1 ys_1, refL (M p) = some xs_1 ∧ some ys = some ys_1 ∧ xs_1.length + ys_1.length ≤ sizeLine ∧ newL m (xs_1 ++ ys_1) M Q) := rfl
theorem z6f {M : UHp} {Q : UK} {i j : Int} : subR (.int i) (.int j) M Q = Q (.int (i - j)) M := rfl
theorem z64 {M : UHp} {Q : UK} {i j : Int} {m d : Bool} : mulR m d (.int i) (.int j) M Q = (CMul i j ∧ Q (.int (i * j)) M) := rfl
theorem z62 {M : UHp} {Q : UK} {i j : Int} : modR (.int i) (.int j) M Q = (0 < j ∧ Q (.int (i % j)) M) := rfl
theorem z5r {M : UHp} {Q : UK} {i j : Int} : divR (.int i) (.int j) M Q = (CDiv i j ∧ Q (.int (i / j)) M) := rfl
theorem z6b {M : UHp} {Q : UK} {i j : Int} : powR (.int i) (.int j) M Q = (CPow i j ∧ Q (.int (i ^ j.toNat)) M) := rfl
theorem z7j {M : UHp} {Q : UK} {i j : Int} : ltR (.int i) (.int j) M Q = Q (.bl (decide (i < j))) M := rfl
theorem z7k {M : UHp} {Q : UK} {a b : Str} : ltR (.str a) (.str b) M Q = Q (.bl (decide (a.cps.toList < b.cps.toList))) M := rfl
theorem z7i {M : UHp} {Q : UK} {i j : Int} : leR (.int i) (.int j) M Q = Q (.bl (decide (i ≤ j))) M := rfl
theorem z7c {M : UHp} {Q : UK} {i j : Int} : gtR (.int i) (.int j) M Q = Q (.bl (decide (j < i))) M := rfl
theorem z7b {M : UHp} {Q : UK} {i j : Int} : geR (.int i) (.int j) M Q = Q (.bl (decide (j ≤ i))) M := rfl
theorem z7l {M : UHp} {Q : UK} {i : Int} : negR (.int i) M Q = Q (.int (-i)) M := rfl
theorem z7e {M : UHp} {Q : UK} {i : Int} : intR [.int i] M Q = Q (.int i) M := rfl
theorem z5o {M : UHp} {Q : UK} {i j : Int} {f : Int → Int → Int} : augI f (.int i) (.int j) M Q = Q (.int (f i j)) M := rfl
theorem z2m  : isNon (U.non) = true := rfl
theorem z2w {k : Bool} : isNon (U.bl k) = false := rfl
theorem z2k {i : Int} : isNon (U.int i) = false := rfl
theorem z2o {z : Str} : isNon (U.str z) = false := rfl
theorem z2p {xs : List U} : isNon (U.tup xs) = false := rfl
theorem z2l {xs : List U} : isNon (U.lst xs) = false := rfl
theorem z2n {p : Addr} : isNon (U.ref p) = false := rfl
theorem z5c {M : UHp} : val M (U.non) = U.non := rfl
theorem z73 {M : UHp} {k : Bool} : val M (U.bl k) = U.bl k := rfl
theorem z5a {M : UHp} {i : Int} : val M (U.int i) = U.int i := rfl
theorem z5e {M : UHp} {z : Str} : val M (U.str z) = U.str z := rfl
theorem z5f {M : UHp} {xs : List U} : val M (U.tup xs) = U.tup xs := rfl
theorem z5b {M : UHp} {xs : List U} : val M (U.lst xs) = U.lst xs := rfl
theorem z5d {M : UHp} {p : Addr} : val M (U.ref p) = refV p (M p) := by
  unfold val refV; rfl
theorem z2q {M : UHp} {xs : List U} : listU M (U.lst xs) = some xs := rfl
theorem z2r {M : UHp} {p : Addr} : listU M (U.ref p) = refL (M p) := by
  unfold listU refL; rfl
theorem z3i {M : UHp} {xs : List U} : seqU M (U.lst xs) = some xs := rfl
theorem z3k {M : UHp} {xs : List U} : seqU M (U.tup xs) = some xs := rfl
theorem z3j {M : UHp} {p : Addr} : seqU M (U.ref p) = refL (M p) := by
  unfold seqU refL; rfl
theorem z39 {M : UHp} {z : Str} : lenU M (U.str z) = some z.length := rfl
theorem z3a {M : UHp} {xs : List U} : lenU M (U.tup xs) = some xs.length := rfl
theorem z37 {M : UHp} {xs : List U} : lenU M (U.lst xs) = some xs.length := rfl
theorem z38 {M : UHp} {p : Addr} : lenU M (U.ref p) = (refL (M p)).map List.length := by
  show (match M p with | some (MO.lst xs) => some xs.length | _ => none) = _
  generalize M p = o
  cases o with
  | none => rfl
  | some o => cases o <;> rfl
theorem len_1 {M : UHp} {Q : UK} {x : U} : lenR [x] M Q = (∃ n, lenU M x = some n ∧ Q (.int (n : Nat)) M) := rfl
theorem z4q {M : UHp} : tyM M (U.non) = some "NoneType" := rfl
theorem z6h {M : UHp} {k : Bool} : tyM M (U.bl k) = some "bool" := rfl
theorem z4o {M : UHp} {i : Int} : tyM M (U.int i) = some "int" := rfl
theorem z4s {M : UHp} {z : Str} : tyM M (U.str z) = some "str" := rfl
theorem z4t {M : UHp} {xs : List U} : tyM M (U.tup xs) = some "tuple" := rfl
theorem z4p {M : UHp} {xs : List U} : tyM M (U.lst xs) = some "list" := rfl
theorem isi_1 {M : UHp} {Q : UK} {x : U} {n : String} : isiR [x, .ty n] M Q = (∃ t, tyM M x = some t ∧ okN n = true ∧ Q (.bl (subT t n)) M) := rfl
theorem isi_2 {M : UHp} {Q : UK} {x : U} {n l : String} : isiR [x, .tup [.ty n, .ty l]] M Q = (∃ t, tyM M x = some t ∧ okN n = true ∧ okN l = true ∧ Q (.bl (subT t n || subT t l)) M) := rfl
theorem z4e  : okN "str" = true := by decide
theorem z4d  : okN "int" = true := by decide
theorem z3b  : okN "bool" = true := by decide
theorem z2s  : okN "tuple" = true := by decide
theorem z3d  : okN "list" = true := by decide
theorem z3c  : okN "dict" = true := by decide
theorem z0h  : subT "NoneType" "str" = false := by decide
theorem z0g  : subT "NoneType" "int" = false := by decide
theorem z0d  : subT "NoneType" "bool" = false := by decide
theorem z0a  : subT "NoneType" "tuple" = false := by decide
theorem z0f  : subT "NoneType" "list" = false := by decide
theorem z0e  : subT "NoneType" "dict" = false := by decide
theorem z1o  : subT "bool" "str" = false := by decide
theorem z1n  : subT "bool" "int" = true := by decide
theorem z0u  : subT "bool" "bool" = true := by decide
theorem z0j  : subT "bool" "tuple" = false := by decide
theorem z0w  : subT "bool" "list" = false := by decide
theorem z0v  : subT "bool" "dict" = false := by decide
theorem z2d  : subT "int" "str" = false := by decide
theorem z2c  : subT "int" "int" = true := by decide
theorem z1r  : subT "int" "bool" = false := by decide
theorem z10  : subT "int" "tuple" = false := by decide
theorem z1t  : subT "int" "list" = false := by decide
theorem z1s  : subT "int" "dict" = false := by decide
theorem z2f  : subT "str" "str" = true := by decide
theorem z2e  : subT "str" "int" = false := by decide
theorem z1w  : subT "str" "bool" = false := by decide
theorem z14  : subT "str" "tuple" = false := by decide
theorem z1y  : subT "str" "list" = false := by decide
theorem z1x  : subT "str" "dict" = false := by decide
theorem z16  : subT "tuple" "str" = false := by decide
theorem z15  : subT "tuple" "int" = false := by decide
theorem z0m  : subT "tuple" "bool" = false := by decide
theorem z0i  : subT "tuple" "tuple" = true := by decide
theorem z0o  : subT "tuple" "list" = false := by decide
theorem z0n  : subT "tuple" "dict" = false := by decide
theorem z1v  : subT "list" "str" = false := by decide
theorem z1u  : subT "list" "int" = false := by decide
theorem z11  : subT "list" "bool" = false := by decide
theorem z0l  : subT "list" "tuple" = false := by decide
theorem z13  : subT "list" "list" = true := by decide
theorem z12  : subT "list" "dict" = false := by decide
theorem z1q  : subT "dict" "str" = false := by decide
theorem z1p  : subT "dict" "int" = false := by decide
theorem z0x  : subT "dict" "bool" = false := by decide
theorem z0k  : subT "dict" "tuple" = false := by decide
theorem z0z  : subT "dict" "list" = false := by decide
theorem z0y  : subT "dict" "dict" = true := by decide
theorem z4i {M : UHp} : truU M U.non = some false := rfl
theorem z6g {M : UHp} {k : Bool} : truU M (U.bl k) = some k := rfl
theorem z4g {M : UHp} {i : Int} : truU M (U.int i) = some (i != 0) := rfl
theorem z4j {M : UHp} {z : Str} : truU M (U.str z) = some ((z.length : Int) != 0) := rfl
theorem z4k {M : UHp} {xs : List U} : truU M (U.tup xs) = some (!xs.isEmpty) := rfl
theorem z4h {M : UHp} {xs : List U} : truU M (U.lst xs) = some (!xs.isEmpty) := rfl
theorem z82 {M : UHp} {Q : UK} {x y : U} : eqR x y M Q = (isD (val M x) = true ∧ isD (val M y) = true ∧ (dep (val M x) ≤ 64 ∨ dep (val M y) ≤ 64) ∧ Q (.bl (ueq (val M x) (val M y))) M) := rfl
theorem z88 {M : UHp} {Q : UK} {x y : U} : neR x y M Q = (isD (val M x) = true ∧ isD (val M y) = true ∧ (dep (val M x) ≤ 64 ∨ dep (val M y) ≤ 64) ∧ Q (.bl (!ueq (val M x) (val M y))) M) := rfl
theorem isn_R {M : UHp} {Q : UK} {x y : U} {neg : Bool} : isnR neg x y M Q = (y = .non ∧ Q (.bl (if neg then !isNon x else isNon x)) M) := rfl
theorem z46  : isD U.non = true := rfl
theorem z5x {k : Bool} : isD (U.bl k) = true := rfl
theorem z44 {i : Int} : isD (U.int i) = true := rfl
theorem z47 {z : Str} : isD (U.str z) = okS z := rfl
theorem z48 {xs : List U} : isD (U.tup xs) = isDs xs := rfl
theorem z45 {xs : List U} : isD (U.lst xs) = isDs xs := rfl
theorem z2v  : isDs [] = true := rfl
theorem z2j {x : U} {xs : List U} : isDs (x :: xs) = (isD x && isDs xs) := rfl
theorem z40  : dep U.non = 0 := rfl
theorem z5q {k : Bool} : dep (U.bl k) = 0 := rfl
theorem z3y {i : Int} : dep (U.int i) = 0 := rfl
theorem z41 {z : Str} : dep (U.str z) = 0 := rfl
theorem z42 {xs : List U} : dep (U.tup xs) = deps xs + 1 := rfl
theorem z3z {xs : List U} : dep (U.lst xs) = deps xs + 1 := rfl
theorem z2u  : deps [] = 0 := rfl
theorem z2i {x : U} {xs : List U} : deps (x :: xs) = max (dep x) (deps xs) := rfl
theorem z6y {i j : Int} : ueq (.int i) (.int j) = (i == j) := rfl
theorem z70 {a b : Str} : ueq (.str a) (.str b) = (a == b) := rfl
theorem z6x {k l : Bool} : ueq (.bl k) (.bl l) = (k == l) := rfl
theorem z71 {xs ys : List U} : ueq (.tup xs) (.tup ys) = ueqs xs ys := rfl
theorem z6z {xs ys : List U} : ueq (.lst xs) (.lst ys) = ueqs xs ys := rfl
theorem z59  : ueqs [] [] = true := rfl
theorem z56 {x y : U} {xs ys : List U} : ueqs (x :: xs) (y :: ys) = (ueq x y && ueqs xs ys) := rfl
theorem z57 {x : U} {xs : List U} : ueqs (x :: xs) [] = false := rfl
theorem z58 {x : U} {xs : List U} : ueqs [] (x :: xs) = false := rfl
theorem z87 {M : UHp} {Q : UK} {i : Int} {z : Str} : ixR (.str z) (.int i) M Q = (∃ c, atI z.cps.toList i = some c ∧ Q (.str ⟨#[c]⟩) M) := rfl
theorem ix_t {M : UHp} {Q : UK} {i : Int} {xs : List U} : ixR (.tup xs) (.int i) M Q = (∃ xs_1, seqU M (.tup xs) = some xs_1 ∧ ∃ v, atI xs_1 i = some v ∧ Q v M) := propext ⟨fun ⟨a, b, c, d⟩ => ⟨a, c, b, d⟩, fun ⟨a, c, b, d⟩ => ⟨a, b, c, d⟩⟩
theorem ix_l {M : UHp} {Q : UK} {i : Int} {xs : List U} : ixR (.lst xs) (.int i) M Q = (∃ xs_1, seqU M (.lst xs) = some xs_1 ∧ ∃ v, atI xs_1 i = some v ∧ Q v M) := propext ⟨fun ⟨a, b, c, d⟩ => ⟨a, c, b, d⟩, fun ⟨a, c, b, d⟩ => ⟨a, b, c, d⟩⟩
theorem z86 {M : UHp} {Q : UK} {i : Int} {p : Addr} : ixR (.ref p) (.int i) M Q = (∃ xs_1, seqU M (.ref p) = some xs_1 ∧ ∃ v, atI xs_1 i = some v ∧ Q v M) := propext ⟨fun ⟨a, b, c, d⟩ => ⟨a, c, b, d⟩, fun ⟨a, c, b, d⟩ => ⟨a, b, c, d⟩⟩
theorem z7r {M : UHp} {R : UHp → Prop} {p : Addr} {k : Int} {v : U} : setR (.ref p) (.int k) v M R = (∃ xs, M p = some (.lst xs) ∧ ∃ j, ixN xs.length k = some j ∧ R (updM M p (.lst (xs.set j v)))) := propext ⟨fun ⟨a, b, c, d⟩ => ⟨a, c, b, d⟩, fun ⟨a, c, b, d⟩ => ⟨a, b, c, d⟩⟩
theorem z79 {M : UHp} {Q : UK} {p : Addr} {y : U} : appR (.ref p) [y] M Q = (∃ ys, M p = some (.lst ys) ∧ ys.length < sizeLine ∧ Q .non (updM M p (.lst (ys ++ [y])))) := rfl
theorem z7n {M : UHp} {Q : UK} {i : Int} {p : Addr} : popR (.ref p) [.int i] M Q = (∃ ys, M p = some (.lst ys) ∧ i < 2 ^ 63 ∧ ∃ k, ixN ys.length i = some k ∧ ∃ y, ys[k]? = some y ∧ Q y (updM M p (.lst (ys.eraseIdx k)))) := propext ⟨fun ⟨a, b, c, d, e, f, g, h⟩ => ⟨a, d, e, b, f, c, g, h⟩, fun ⟨a, d, e, b, f, c, g, h⟩ => ⟨a, b, c, d, e, f, g, h⟩⟩
theorem z7d {M : UHp} {Q : UK} {p : Addr} {i : Int} {y : U} : insR (.ref p) [.int i, y] M Q = (∃ ys, M p = some (.lst ys) ∧ ys.length < sizeLine ∧ 0 ≤ i ∧ i < 2 ^ 63 ∧ Q .non (updM M p (.lst (ys.take i.toNat ++ [y] ++ ys.drop i.toNat)))) := rfl
theorem z5y {M : UHp} {Q : UK} {a : Str} {y : U} : joinR (.str a) [y] M Q = (∃ ys, seqU M y = some ys ∧ ∃ zs, strsU ys = some zs ∧ (zs.map (·.length)).sum + zs.length * a.length ≤ 16777216 ∧ (okS a = true → (∀ z ∈ zs, okS z = true) → okS (Txt.join a zs) = true) ∧ Q (.str (Txt.join a zs)) M) := propext ⟨fun ⟨a, b, c, d⟩ => ⟨a, c, b, d⟩, fun ⟨a, c, b, d⟩ => ⟨a, b, c, d⟩⟩
theorem z76 {M : UHp} {Q : UK} {x : U} : allR [x] M Q = (∃ ys, listU M x = some ys ∧ ∃ k, allU ys = some k ∧ Q (.bl k) M) := propext ⟨fun ⟨a, b, c, d⟩ => ⟨a, c, b, d⟩, fun ⟨a, c, b, d⟩ => ⟨a, b, c, d⟩⟩
theorem z77 {M : UHp} {Q : UK} {x : U} : anyR [x] M Q = (∃ ys, listU M x = some ys ∧ ∃ k, anyU ys = some k ∧ Q (.bl k) M) := propext ⟨fun ⟨a, b, c, d⟩ => ⟨a, c, b, d⟩, fun ⟨a, c, b, d⟩ => ⟨a, b, c, d⟩⟩
theorem tuple_1 {M : UHp} {Q : UK} {x : U} : tupleR [x] M Q = (∃ ys, seqU M x = some ys ∧ Q (.tup ys) M) := rfl
theorem list_1 {M : UHp} {Q : UK} {x : U} {m : Bool} : listR m [x] M Q = (∃ ys, seqU M x = some ys ∧ newL m ys M Q) := rfl
theorem z6c {M : UHp} {Q : UK} {x : U} : reprR [x] M Q = (okR (val M x) ∧ Q (.str (rep (val M x))) M) := rfl
theorem z69 {M : UHp} {Q : UK} {xs : List U} : newL false xs M Q = Q (.lst xs) M := by simp [newL]
theorem z6a {M : UHp} {Q : UK} {xs : List U} : newL true xs M Q = (∀ p, M p = none → Q (.ref p) (updM M p (.lst xs))) := by simp [newL]
theorem z8b {M : UHp} {Q : UK} {m : Bool} {z : Str} {lo hi : Option Int} : slR m (.str z) lo hi M Q = Q (.str (cutS z lo hi)) M := rfl
theorem z8c {M : UHp} {Q : UK} {m : Bool} {xs : List U} {lo hi : Option Int} : slR m (.tup xs) lo hi M Q = Q (.tup (cutL xs lo hi)) M := rfl
theorem z89 {M : UHp} {Q : UK} {m : Bool} {xs : List U} {lo hi : Option Int} : slR m (.lst xs) lo hi M Q = (∃ ys, some xs = some ys ∧ newL m (cutL ys lo hi) M Q) := rfl
theorem z8a {M : UHp} {Q : UK} {m : Bool} {p : Addr} {lo hi : Option Int} : slR m (.ref p) lo hi M Q = (∃ ys, listU M (.ref p) = some ys ∧ newL m (cutL ys lo hi) M Q) := rfl
theorem in_ss {M : UHp} {Q : UK} {neg : Bool} {a b : Str} : inR neg (.str a) (.str b) M Q = (∃ c, U.str a = .str c ∧ Q (.bl (if neg then !inStr c b else inStr c b)) M) := rfl
theorem z85 {M : UHp} {Q : UK} {neg : Bool} {x : U} {xs : List U} : inR neg x (.tup xs) M Q = (isDs xs = true ∧ isD x = true ∧ (deps xs ≤ 64 ∨ dep x ≤ 64) ∧ Q (.bl (if neg then !inU x xs else inU x xs)) M) := rfl
theorem z83 {M : UHp} {Q : UK} {neg : Bool} {x : U} {xs : List U} : inR neg x (.lst xs) M Q = (isDs xs = true ∧ isD x = true ∧ (deps xs ≤ 64 ∨ dep x ≤ 64) ∧ Q (.bl (if neg then !inU x xs else inU x xs)) M) := rfl
theorem z84 {M : UHp} {Q : UK} {neg : Bool} {x : U} {p : Addr} : inR neg x (.ref p) M Q = (∃ xs, M p = some (.lst xs) ∧ isDs xs = true ∧ isD x = true ∧ (deps xs ≤ 64 ∨ dep x ≤ 64) ∧ Q (.bl (if neg then !inU x xs else inU x xs)) M) := rfl
theorem z4v {M : UHp} {p : Addr} : tyMt "list" M (.ref p) = (∃ xs, M p = some (.lst xs)) := by simp [tyMt]
theorem z4u {M : UHp} {p : Addr} : tyMt "dict" M (.ref p) = (∃ kvs, M p = some (.dK kvs)) := by simp [tyMt]
theorem z6i {T : String} {M : UHp} {z : Str} : tyMt T M (.str z) = (T = "str") := rfl
theorem z78 {te : UTE} {M : UHp} {R : UIt → UHp → Prop} : uAnyI te σ M R = te σ M (fun x M1 => anyI x M1 R) := by unfold uAnyI anyI; rfl
theorem z5m {M : UHp} {R : UIt → UHp → Prop} {xs : List U} : anyI (.tup xs) M R = R ⟨xs, fun _ => True⟩ M := rfl
theorem z5l {M : UHp} {R : UIt → UHp → Prop} {z : Str} : anyI (.str z) M R = R ⟨signs z, fun _ => True⟩ M := rfl
theorem anyI_l {M : UHp} {R : UIt → UHp → Prop} {xs : List U} : anyI (.lst xs) M R = (∃ ys, some xs = some ys ∧ R ⟨ys, fun _ => some xs = some ys⟩ M) := rfl
theorem z5k {M : UHp} {R : UIt → UHp → Prop} {p : Addr} : anyI (.ref p) M R = (∃ ys, listU M (.ref p) = some ys ∧ R ⟨ys, fun M' => listU M' (.ref p) = some ys⟩ M) := rfl
theorem z6n {a : U} {M : UHp} {Q : UK} : uVar 0 (some a :: σ) M Q = Q a M := by simp [uVar]
theorem z6o {x0 : Option U} {a : U} {M : UHp} {Q : UK} : uVar 1 (x0 :: some a :: σ) M Q = Q a M := by simp [uVar]
theorem z6p {x0 x1 : Option U} {a : U} {M : UHp} {Q : UK} : uVar 2 (x0 :: x1 :: some a :: σ) M Q = Q a M := by simp [uVar]
theorem z6q {x0 x1 x2 : Option U} {a : U} {M : UHp} {Q : UK} : uVar 3 (x0 :: x1 :: x2 :: some a :: σ) M Q = Q a M := by simp [uVar]
theorem z6r {x0 x1 x2 x3 : Option U} {a : U} {M : UHp} {Q : UK} : uVar 4 (x0 :: x1 :: x2 :: x3 :: some a :: σ) M Q = Q a M := by simp [uVar]
theorem z6s {x0 x1 x2 x3 x4 : Option U} {a : U} {M : UHp} {Q : UK} : uVar 5 (x0 :: x1 :: x2 :: x3 :: x4 :: some a :: σ) M Q = Q a M := by simp [uVar]
theorem z6t {x0 x1 x2 x3 x4 x5 : Option U} {a : U} {M : UHp} {Q : UK} : uVar 6 (x0 :: x1 :: x2 :: x3 :: x4 :: x5 :: some a :: σ) M Q = Q a M := by simp [uVar]
theorem z6u {x0 x1 x2 x3 x4 x5 x6 : Option U} {a : U} {M : UHp} {Q : UK} : uVar 7 (x0 :: x1 :: x2 :: x3 :: x4 :: x5 :: x6 :: some a :: σ) M Q = Q a M := by simp [uVar]
theorem z6v {x0 x1 x2 x3 x4 x5 x6 x7 : Option U} {a : U} {M : UHp} {Q : UK} : uVar 8 (x0 :: x1 :: x2 :: x3 :: x4 :: x5 :: x6 :: x7 :: some a :: σ) M Q = Q a M := by simp [uVar]
theorem z6w {x0 x1 x2 x3 x4 x5 x6 x7 x8 : Option U} {a : U} {M : UHp} {Q : UK} : uVar 9 (x0 :: x1 :: x2 :: x3 :: x4 :: x5 :: x6 :: x7 :: x8 :: some a :: σ) M Q = Q a M := by simp [uVar]
theorem z50 {x0 x1 x2 x3 x4 x5 x6 x7 x8 x9 : Option U} {a : U} {M : UHp} {Q : UK} : uVar 10 (x0 :: x1 :: x2 :: x3 :: x4 :: x5 :: x6 :: x7 :: x8 :: x9 :: some a :: σ) M Q = Q a M := by simp [uVar]
theorem z51 {x0 x1 x2 x3 x4 x5 x6 x7 x8 x9 x10 : Option U} {a : U} {M : UHp} {Q : UK} : uVar 11 (x0 :: x1 :: x2 :: x3 :: x4 :: x5 :: x6 :: x7 :: x8 :: x9 :: x10 :: some a :: σ) M Q = Q a M := by simp [uVar]
theorem z52 {x0 x1 x2 x3 x4 x5 x6 x7 x8 x9 x10 x11 : Option U} {a : U} {M : UHp} {Q : UK} : uVar 12 (x0 :: x1 :: x2 :: x3 :: x4 :: x5 :: x6 :: x7 :: x8 :: x9 :: x10 :: x11 :: some a :: σ) M Q = Q a M := by simp [uVar]
theorem z53 {x0 x1 x2 x3 x4 x5 x6 x7 x8 x9 x10 x11 x12 : Option U} {a : U} {M : UHp} {Q : UK} : uVar 13 (x0 :: x1 :: x2 :: x3 :: x4 :: x5 :: x6 :: x7 :: x8 :: x9 :: x10 :: x11 :: x12 :: some a :: σ) M Q = Q a M := by simp [uVar]
theorem z54 {x0 x1 x2 x3 x4 x5 x6 x7 x8 x9 x10 x11 x12 x13 : Option U} {a : U} {M : UHp} {Q : UK} : uVar 14 (x0 :: x1 :: x2 :: x3 :: x4 :: x5 :: x6 :: x7 :: x8 :: x9 :: x10 :: x11 :: x12 :: x13 :: some a :: σ) M Q = Q a M := by simp [uVar]
theorem z55 {x0 x1 x2 x3 x4 x5 x6 x7 x8 x9 x10 x11 x12 x13 x14 : Option U} {a : U} {M : UHp} {Q : UK} : uVar 15 (x0 :: x1 :: x2 :: x3 :: x4 :: x5 :: x6 :: x7 :: x8 :: x9 :: x10 :: x11 :: x12 :: x13 :: x14 :: some a :: σ) M Q = Q a M := by simp [uVar]
theorem z4b {M : UHp} {Q : UK} {z : Str} : lenR [.str z] M Q = Q (.int (z.length : Nat)) M := by simp [lenR, lenU]
theorem z4c {M : UHp} {Q : UK} {xs : List U} : lenR [.tup xs] M Q = Q (.int (xs.length : Nat)) M := by simp [lenR, lenU]
theorem z49 {M : UHp} {Q : UK} {xs : List U} : lenR [.lst xs] M Q = Q (.int (xs.length : Nat)) M := by simp [lenR, lenU]
theorem z27 {M : UHp} {Q : UK} : isiR [.non, .ty "str"] M Q = Q (.bl false) M := by simp only [isi_1,z4q,z4e,Option.some.injEq,exists_eq_left',z0h,true_and]
theorem z26 {M : UHp} {Q : UK} : isiR [.non, .ty "int"] M Q = Q (.bl false) M := by simp only [isi_1,z4q,z4d,Option.some.injEq,exists_eq_left',z0g,true_and]
theorem z1e {M : UHp} {Q : UK} : isiR [.non, .ty "bool"] M Q = Q (.bl false) M := by simp only [isi_1,z4q,z3b,Option.some.injEq,exists_eq_left',z0d,true_and]
theorem z0r {M : UHp} {Q : UK} : isiR [.non, .ty "tuple"] M Q = Q (.bl false) M := by simp only [isi_1,z4q,z2s,Option.some.injEq,exists_eq_left',z0a,true_and]
theorem z1g {M : UHp} {Q : UK} : isiR [.non, .ty "list"] M Q = Q (.bl false) M := by simp only [isi_1,z4q,z3d,Option.some.injEq,exists_eq_left',z0f,true_and]
theorem z1f {M : UHp} {Q : UK} : isiR [.non, .ty "dict"] M Q = Q (.bl false) M := by simp only [isi_1,z4q,z3c,Option.some.injEq,exists_eq_left',z0e,true_and]
theorem z05 {M : UHp} {Q : UK} : isiR [.non, .tup [.ty "tuple", .ty "list"]] M Q = Q (.bl false) M := by simp only [isi_2,z4q,z2s,z3d,Option.some.injEq,exists_eq_left',z0a,z0f,true_and,Bool.or_true,Bool.or_false,Bool.true_or,Bool.false_or]
theorem z04 {M : UHp} {Q : UK} : isiR [.non, .tup [.ty "list", .ty "tuple"]] M Q = Q (.bl false) M := by simp only [isi_2,z4q,z3d,z2s,Option.some.injEq,exists_eq_left',z0f,z0a,true_and,Bool.or_true,Bool.or_false,Bool.true_or,Bool.false_or]
theorem z2h {M : UHp} {Q : UK} {k : Bool} : isiR [.bl k, .ty "str"] M Q = Q (.bl false) M := by simp only [isi_1,z6h,z4e,Option.some.injEq,exists_eq_left',z1o,true_and]
theorem z2g {M : UHp} {Q : UK} {k : Bool} : isiR [.bl k, .ty "int"] M Q = Q (.bl true) M := by simp only [isi_1,z6h,z4d,Option.some.injEq,exists_eq_left',z1n,true_and]
theorem z1z {M : UHp} {Q : UK} {k : Bool} : isiR [.bl k, .ty "bool"] M Q = Q (.bl true) M := by simp only [isi_1,z6h,z3b,Option.some.injEq,exists_eq_left',z0u,true_and]
theorem z17 {M : UHp} {Q : UK} {k : Bool} : isiR [.bl k, .ty "tuple"] M Q = Q (.bl false) M := by simp only [isi_1,z6h,z2s,Option.some.injEq,exists_eq_left',z0j,true_and]
theorem z21 {M : UHp} {Q : UK} {k : Bool} : isiR [.bl k, .ty "list"] M Q = Q (.bl false) M := by simp only [isi_1,z6h,z3d,Option.some.injEq,exists_eq_left',z0w,true_and]
theorem z20 {M : UHp} {Q : UK} {k : Bool} : isiR [.bl k, .ty "dict"] M Q = Q (.bl false) M := by simp only [isi_1,z6h,z3c,Option.some.injEq,exists_eq_left',z0v,true_and]
theorem z0c {M : UHp} {Q : UK} {k : Bool} : isiR [.bl k, .tup [.ty "tuple", .ty "list"]] M Q = Q (.bl false) M := by simp only [isi_2,z6h,z2s,z3d,Option.some.injEq,exists_eq_left',z0j,z0w,true_and,Bool.or_true,Bool.or_false,Bool.true_or,Bool.false_or]
theorem z0b {M : UHp} {Q : UK} {k : Bool} : isiR [.bl k, .tup [.ty "list", .ty "tuple"]] M Q = Q (.bl false) M := by simp only [isi_2,z6h,z3d,z2s,Option.some.injEq,exists_eq_left',z0w,z0j,true_and,Bool.or_true,Bool.or_false,Bool.true_or,Bool.false_or]
theorem z23 {M : UHp} {Q : UK} {i : Int} : isiR [.int i, .ty "str"] M Q = Q (.bl false) M := by simp only [isi_1,z4o,z4e,Option.some.injEq,exists_eq_left',z2d,true_and]
theorem z22 {M : UHp} {Q : UK} {i : Int} : isiR [.int i, .ty "int"] M Q = Q (.bl true) M := by simp only [isi_1,z4o,z4d,Option.some.injEq,exists_eq_left',z2c,true_and]
theorem z18 {M : UHp} {Q : UK} {i : Int} : isiR [.int i, .ty "bool"] M Q = Q (.bl false) M := by simp only [isi_1,z4o,z3b,Option.some.injEq,exists_eq_left',z1r,true_and]
theorem z0p {M : UHp} {Q : UK} {i : Int} : isiR [.int i, .ty "tuple"] M Q = Q (.bl false) M := by simp only [isi_1,z4o,z2s,Option.some.injEq,exists_eq_left',z10,true_and]
theorem z1a {M : UHp} {Q : UK} {i : Int} : isiR [.int i, .ty "list"] M Q = Q (.bl false) M := by simp only [isi_1,z4o,z3d,Option.some.injEq,exists_eq_left',z1t,true_and]
theorem z19 {M : UHp} {Q : UK} {i : Int} : isiR [.int i, .ty "dict"] M Q = Q (.bl false) M := by simp only [isi_1,z4o,z3c,Option.some.injEq,exists_eq_left',z1s,true_and]
theorem z01 {M : UHp} {Q : UK} {i : Int} : isiR [.int i, .tup [.ty "tuple", .ty "list"]] M Q = Q (.bl false) M := by simp only [isi_2,z4o,z2s,z3d,Option.some.injEq,exists_eq_left',z10,z1t,true_and,Bool.or_true,Bool.or_false,Bool.true_or,Bool.false_or]
theorem z00 {M : UHp} {Q : UK} {i : Int} : isiR [.int i, .tup [.ty "list", .ty "tuple"]] M Q = Q (.bl false) M := by simp only [isi_2,z4o,z3d,z2s,Option.some.injEq,exists_eq_left',z1t,z10,true_and,Bool.or_true,Bool.or_false,Bool.true_or,Bool.false_or]
theorem z29 {M : UHp} {Q : UK} {z : Str} : isiR [.str z, .ty "str"] M Q = Q (.bl true) M := by simp only [isi_1,z4s,z4e,Option.some.injEq,exists_eq_left',z2f,true_and]
theorem z28 {M : UHp} {Q : UK} {z : Str} : isiR [.str z, .ty "int"] M Q = Q (.bl false) M := by simp only [isi_1,z4s,z4d,Option.some.injEq,exists_eq_left',z2e,true_and]
theorem z1h {M : UHp} {Q : UK} {z : Str} : isiR [.str z, .ty "bool"] M Q = Q (.bl false) M := by simp only [isi_1,z4s,z3b,Option.some.injEq,exists_eq_left',z1w,true_and]
theorem z0s {M : UHp} {Q : UK} {z : Str} : isiR [.str z, .ty "tuple"] M Q = Q (.bl false) M := by simp only [isi_1,z4s,z2s,Option.some.injEq,exists_eq_left',z14,true_and]
theorem z1j {M : UHp} {Q : UK} {z : Str} : isiR [.str z, .ty "list"] M Q = Q (.bl false) M := by simp only [isi_1,z4s,z3d,Option.some.injEq,exists_eq_left',z1y,true_and]
theorem z1i {M : UHp} {Q : UK} {z : Str} : isiR [.str z, .ty "dict"] M Q = Q (.bl false) M := by simp only [isi_1,z4s,z3c,Option.some.injEq,exists_eq_left',z1x,true_and]
theorem z07 {M : UHp} {Q : UK} {z : Str} : isiR [.str z, .tup [.ty "tuple", .ty "list"]] M Q = Q (.bl false) M := by simp only [isi_2,z4s,z2s,z3d,Option.some.injEq,exists_eq_left',z14,z1y,true_and,Bool.or_true,Bool.or_false,Bool.true_or,Bool.false_or]
theorem z06 {M : UHp} {Q : UK} {z : Str} : isiR [.str z, .tup [.ty "list", .ty "tuple"]] M Q = Q (.bl false) M := by simp only [isi_2,z4s,z3d,z2s,Option.some.injEq,exists_eq_left',z1y,z14,true_and,Bool.or_true,Bool.or_false,Bool.true_or,Bool.false_or]
theorem z2b {M : UHp} {Q : UK} {xs : List U} : isiR [.tup xs, .ty "str"] M Q = Q (.bl false) M := by simp only [isi_1,z4t,z4e,Option.some.injEq,exists_eq_left',z16,true_and]
theorem z2a {M : UHp} {Q : UK} {xs : List U} : isiR [.tup xs, .ty "int"] M Q = Q (.bl false) M := by simp only [isi_1,z4t,z4d,Option.some.injEq,exists_eq_left',z15,true_and]
theorem z1k {M : UHp} {Q : UK} {xs : List U} : isiR [.tup xs, .ty "bool"] M Q = Q (.bl false) M := by simp only [isi_1,z4t,z3b,Option.some.injEq,exists_eq_left',z0m,true_and]
theorem z0t {M : UHp} {Q : UK} {xs : List U} : isiR [.tup xs, .ty "tuple"] M Q = Q (.bl true) M := by simp only [isi_1,z4t,z2s,Option.some.injEq,exists_eq_left',z0i,true_and]
theorem z1m {M : UHp} {Q : UK} {xs : List U} : isiR [.tup xs, .ty "list"] M Q = Q (.bl false) M := by simp only [isi_1,z4t,z3d,Option.some.injEq,exists_eq_left',z0o,true_and]
theorem z1l {M : UHp} {Q : UK} {xs : List U} : isiR [.tup xs, .ty "dict"] M Q = Q (.bl false) M := by simp only [isi_1,z4t,z3c,Option.some.injEq,exists_eq_left',z0n,true_and]
theorem z09 {M : UHp} {Q : UK} {xs : List U} : isiR [.tup xs, .tup [.ty "tuple", .ty "list"]] M Q = Q (.bl true) M := by simp only [isi_2,z4t,z2s,z3d,Option.some.injEq,exists_eq_left',z0i,z0o,true_and,Bool.or_true,Bool.or_false,Bool.true_or,Bool.false_or]
theorem z08 {M : UHp} {Q : UK} {xs : List U} : isiR [.tup xs, .tup [.ty "list", .ty "tuple"]] M Q = Q (.bl true) M := by simp only [isi_2,z4t,z3d,z2s,Option.some.injEq,exists_eq_left',z0o,z0i,true_and,Bool.or_true,Bool.or_false,Bool.true_or,Bool.false_or]
theorem z25 {M : UHp} {Q : UK} {xs : List U} : isiR [.lst xs, .ty "str"] M Q = Q (.bl false) M := by simp only [isi_1,z4p,z4e,Option.some.injEq,exists_eq_left',z1v,true_and]
theorem z24 {M : UHp} {Q : UK} {xs : List U} : isiR [.lst xs, .ty "int"] M Q = Q (.bl false) M := by simp only [isi_1,z4p,z4d,Option.some.injEq,exists_eq_left',z1u,true_and]
theorem z1b {M : UHp} {Q : UK} {xs : List U} : isiR [.lst xs, .ty "bool"] M Q = Q (.bl false) M := by simp only [isi_1,z4p,z3b,Option.some.injEq,exists_eq_left',z11,true_and]
theorem z0q {M : UHp} {Q : UK} {xs : List U} : isiR [.lst xs, .ty "tuple"] M Q = Q (.bl false) M := by simp only [isi_1,z4p,z2s,Option.some.injEq,exists_eq_left',z0l,true_and]
theorem z1d {M : UHp} {Q : UK} {xs : List U} : isiR [.lst xs, .ty "list"] M Q = Q (.bl true) M := by simp only [isi_1,z4p,z3d,Option.some.injEq,exists_eq_left',z13,true_and]
theorem z1c {M : UHp} {Q : UK} {xs : List U} : isiR [.lst xs, .ty "dict"] M Q = Q (.bl false) M := by simp only [isi_1,z4p,z3c,Option.some.injEq,exists_eq_left',z12,true_and]
theorem z03 {M : UHp} {Q : UK} {xs : List U} : isiR [.lst xs, .tup [.ty "tuple", .ty "list"]] M Q = Q (.bl true) M := by simp only [isi_2,z4p,z2s,z3d,Option.some.injEq,exists_eq_left',z0l,z13,true_and,Bool.or_true,Bool.or_false,Bool.true_or,Bool.false_or]
theorem z02 {M : UHp} {Q : UK} {xs : List U} : isiR [.lst xs, .tup [.ty "list", .ty "tuple"]] M Q = Q (.bl true) M := by simp only [isi_2,z4p,z3d,z2s,Option.some.injEq,exists_eq_left',z13,z0l,true_and,Bool.or_true,Bool.or_false,Bool.true_or,Bool.false_or]
theorem z6m {te : UTE} {M : UHp} {Q : Bool → UHp → Prop} : uTru te σ M Q = te σ M (fun x M1 => truK x M1 Q) := rfl
theorem z8h {te : UTE} {M : UHp} {Q : Bool → UHp → Prop} : uB te σ M Q = te σ M (fun x M1 => blK x M1 Q) := rfl
theorem z4z {te : UTE} {M : UHp} {Q : Option Int → UHp → Prop} : uPart te σ M Q = te σ M (fun x M1 => partK x M1 Q) := rfl
theorem z6l {ta : UTA} {M : UHp} {R : UIt → UHp → Prop} : uRng1 ta σ M R = ta σ M (fun x M1 => rngK x M1 R) := rfl
theorem z6k {ta tb : UTE} {M : UHp} {Q : UK} : uOrV ta tb σ M Q = ta σ M (fun x M1 => truK x M1 fun k M1 => if k = true then Q x M1 else tb σ M1 Q) := rfl
theorem z4w {ta tb : UTE} {M : UHp} {Q : UK} : uAndV ta tb σ M Q = ta σ M (fun x M1 => truK x M1 fun k M1 => if k = true then tb σ M1 Q else Q x M1) := rfl
theorem z4y {ta : UTE} {M : UHp} {Q : UK} : uNotV ta σ M Q = ta σ M (fun x M1 => truK x M1 fun k M1 => Q (.bl (!k)) M1) := rfl
theorem z3s {r r2 : UR2} {ta tb tc : UTE} {M : UHp} {Q : UK} : uChain r r2 ta tb tc σ M Q = ta σ M (fun x M1 => tb σ M1 fun y M2 => r x y M2 fun z M3 => blK z M3 fun k M3 => if k = true then tc σ M3 fun w' M4 => r2 y w' M4 Q else Q (.bl false) M3) := rfl
theorem z6j {i : Nat} {te : UTE} {r : UR2} {D : UEnds} {M : UHp} : z8f i te r D σ M = uVar i σ M (fun x _ => te σ M fun y M1 => r x y M1 fun z M2 => D.nx (σ.set i (some z)) M2) := rfl
theorem z3p {M : UHp} {Q : Bool → UHp → Prop} : truK .non M Q = Q false M := by simp [truK, truU]
theorem z4f {M : UHp} {Q : Bool → UHp → Prop} {k : Bool} : truK (.bl k) M Q = Q k M := by simp only [truK,truU,Option.some.injEq,exists_eq_left']
theorem z3n {M : UHp} {Q : Bool → UHp → Prop} {i : Int} : truK (.int i) M Q = Q (i != 0) M := by simp only [truK,truU,Option.some.injEq,exists_eq_left']
theorem z3q {M : UHp} {Q : Bool → UHp → Prop} {z : Str} : truK (.str z) M Q = Q ((z.length : Int) != 0) M := by simp only [truK,truU,Option.some.injEq,exists_eq_left']
theorem z3r {M : UHp} {Q : Bool → UHp → Prop} {xs : List U} : truK (.tup xs) M Q = Q (!xs.isEmpty) M := by simp only [truK,truU,Option.some.injEq,exists_eq_left']
theorem z3o {M : UHp} {Q : Bool → UHp → Prop} {xs : List U} : truK (.lst xs) M Q = Q (!xs.isEmpty) M := by simp only [truK,truU,Option.some.injEq,exists_eq_left']
theorem z5p {M : UHp} {Q : Bool → UHp → Prop} {k : Bool} : blK (.bl k) M Q = Q k M := by simp only [blK,U.bl.injEq,exists_eq_left']
theorem z2t {M : UHp} {Q : Option Int → UHp → Prop} {i : Int} : partK (.int i) M Q = Q (some i) M := by simp only [partK,U.int.injEq,exists_eq_left']
theorem z3h {M : UHp} {R : UIt → UHp → Prop} {j : Int} : rngK [.int j] M R = (-(2 ^ 62) ≤ j ∧ j < 2 ^ 62 ∧ j.toNat ≤ sizeLine ∧ R ⟨rangeU 0 j.toNat, fun _ => True⟩ M) := by simp only [rngK,List.cons.injEq,U.int.injEq,and_true,exists_eq_left']
theorem z4n {M : UHp} {Q : UK} {xs : List U} : tupleR [.tup xs] M Q = Q (.tup xs) M := by simp [tupleR, seqU]
theorem z4l {M : UHp} {Q : UK} {xs : List U} : tupleR [.lst xs] M Q = Q (.tup xs) M := by simp [tupleR, seqU]
theorem z4a {M : UHp} {Q : UK} {p : Addr} : lenR [.ref p] M Q = (∃ n, (refL (M p)).map List.length = some n ∧ Q (.int (n : Nat)) M) := by simp only [len_1,z38]
theorem z66 {M : UHp} {Q : UK} {p : Addr} {k : Int} {m : Bool} : mulR m false (.ref p) (.int k) M Q = (∃ xs, M p = some (.lst xs) ∧ -(2 ^ 63) ≤ k ∧ k < 2 ^ 63 ∧ xs.length * k.toNat ≤ sizeLine ∧ newL m (List.replicate k.toNat xs).flatten M Q) := rfl
theorem z65 {M : UHp} {Q : UK} {p : Addr} {k : Int} {m : Bool} : mulR m true (.ref p) (.int k) M Q = (∃ xs, M p = some (.lst xs) ∧ -(2 ^ 63) ≤ k ∧ k < 2 ^ 63 ∧ xs.length * k.toNat ≤ sizeLine ∧ newL m (List.replicate k.toNat xs).flatten (delM M p) Q) := rfl
theorem z4m {M : UHp} {Q : UK} {p : Addr} : tupleR [.ref p] M Q = (∃ ys, refL (M p) = some ys ∧ Q (.tup ys) M) := by simp only [tuple_1,z3j]
theorem z60 {M : UHp} {Q : UK} {p : Addr} {m : Bool} : listR m [.ref p] M Q = (∃ ys, refL (M p) = some ys ∧ newL m ys M Q) := by simp only [list_1,z3j]
theorem z61 {M : UHp} {Q : UK} {xs : List U} {m : Bool} : listR m [.tup xs] M Q = newL m xs M Q := by simp [listR, seqU]
theorem z5z {M : UHp} {Q : UK} {xs : List U} {m : Bool} : listR m [.lst xs] M Q = newL m xs M Q := by simp [listR, seqU]
theorem z32 {a : U} {ys : List U} {M : UHp} {Q : UK} : ixR (.tup (a :: ys)) (.int 0) M Q = Q a M := by simp only [ix_t,z3k,Option.some.injEq,at0,exists_and_left,exists_eq_left']
theorem z2x {a : U} {ys : List U} {M : UHp} {Q : UK} : ixR (.lst (a :: ys)) (.int 0) M Q = Q a M := by simp only [ix_l,z3i,Option.some.injEq,at0,exists_and_left,exists_eq_left']
theorem z33 {x0 : U} {a : U} {ys : List U} {M : UHp} {Q : UK} : ixR (.tup (x0 :: a :: ys)) (.int 1) M Q = Q a M := by simp only [ix_t,z3k,Option.some.injEq,at1,exists_and_left,exists_eq_left']
theorem z2y {x0 : U} {a : U} {ys : List U} {M : UHp} {Q : UK} : ixR (.lst (x0 :: a :: ys)) (.int 1) M Q = Q a M := by simp only [ix_l,z3i,Option.some.injEq,at1,exists_and_left,exists_eq_left']
theorem z34 {x0 x1 : U} {a : U} {ys : List U} {M : UHp} {Q : UK} : ixR (.tup (x0 :: x1 :: a :: ys)) (.int 2) M Q = Q a M := by simp only [ix_t,z3k,Option.some.injEq,at2,exists_and_left,exists_eq_left']
theorem z2z {x0 x1 : U} {a : U} {ys : List U} {M : UHp} {Q : UK} : ixR (.lst (x0 :: x1 :: a :: ys)) (.int 2) M Q = Q a M := by simp only [ix_l,z3i,Option.some.injEq,at2,exists_and_left,exists_eq_left']
theorem z35 {x0 x1 x2 : U} {a : U} {ys : List U} {M : UHp} {Q : UK} : ixR (.tup (x0 :: x1 :: x2 :: a :: ys)) (.int 3) M Q = Q a M := by simp only [ix_t,z3k,Option.some.injEq,at3,exists_and_left,exists_eq_left']
theorem z30 {x0 x1 x2 : U} {a : U} {ys : List U} {M : UHp} {Q : UK} : ixR (.lst (x0 :: x1 :: x2 :: a :: ys)) (.int 3) M Q = Q a M := by simp only [ix_l,z3i,Option.some.injEq,at3,exists_and_left,exists_eq_left']
theorem z36 {x0 x1 x2 x3 : U} {a : U} {ys : List U} {M : UHp} {Q : UK} : ixR (.tup (x0 :: x1 :: x2 :: x3 :: a :: ys)) (.int 4) M Q = Q a M := by simp only [ix_t,z3k,Option.some.injEq,at4,exists_and_left,exists_eq_left']
theorem z31 {x0 x1 x2 x3 : U} {a : U} {ys : List U} {M : UHp} {Q : UK} : ixR (.lst (x0 :: x1 :: x2 :: x3 :: a :: ys)) (.int 4) M Q = Q a M := by simp only [ix_l,z3i,Option.some.injEq,at4,exists_and_left,exists_eq_left']
theorem z7h {xs : List U} {i : Int} {M : UHp} {Q : UK} : ixR (.tup xs) (.int i) M Q = (∃ v, atI xs i = some v ∧ Q v M) := by simp only [ix_t,z3k,Option.some.injEq,exists_and_left,exists_eq_left']
theorem z7g {xs : List U} {i : Int} {M : UHp} {Q : UK} : ixR (.lst xs) (.int i) M Q = (∃ v, atI xs i = some v ∧ Q v M) := by simp only [ix_l,z3i,Option.some.injEq,exists_and_left,exists_eq_left']
theorem z3u {M : UHp} {Q : UK} {xs ys : List U} {m : Bool} : addR m (.lst xs) (.lst ys) M Q = (xs.length + ys.length ≤ sizeLine ∧ newL m (xs ++ ys) M Q) := by simp only [add_ll,Option.some.injEq,exists_and_left,exists_eq_left']
theorem z5u {M : UHp} {Q : UK} {neg : Bool} {a b : Str} : inR neg (.str a) (.str b) M Q = Q (.bl (if neg then !inStr a b else inStr a b)) M := by simp only [in_ss,U.str.injEq,exists_eq_left']
theorem z3x {M : UHp} {R : UIt → UHp → Prop} {xs : List U} : anyI (.lst xs) M R = R ⟨xs, fun _ => True⟩ M := by simp only [anyI_l,Option.some.injEq,exists_eq_left']
theorem z7f {M : UHp} {Q : UK} {x : U} {neg : Bool} : isnR neg x .non M Q = Q (.bl (if neg then !isNon x else isNon x)) M := by simp only [isn_R,true_and]
theorem z5t {n : Nat} {t : UTGs} {xs : List U} {M : UHp} {Q : USt → UHp → Prop} : ugTup n t (.tup xs) σ M Q = (xs.length = n ∧ t xs σ M Q) := by simp only [ugTup,U.tup.injEq,exists_eq_left']
theorem z43 {g : UTG} {gs : UTGs} {v : U} {r : List U} {M : UHp} {Q : USt → UHp → Prop} : ugCons g gs (v :: r) σ M Q = g v σ M (fun s m => gs r s m Q) := propext ⟨fun ⟨_, _, e, h⟩ => by cases e; exact h, fun h => ⟨v, r, rfl, h⟩⟩
theorem z5s {M : UHp} {Q : USt → UHp → Prop} : ugNil [] σ M Q = Q σ M := by simp [ugNil]
theorem cle {n k : Nat} : (((n : Nat) : Int) ≤ (no_index (@OfNat.ofNat Int k _))) = (n ≤ @OfNat.ofNat Nat k _) := propext (show ((n : Int) ≤ (k : Int)) ↔ n ≤ k by omega)
theorem clt {n k : Nat} : (((n : Nat) : Int) < (no_index (@OfNat.ofNat Int k _))) = (n < @OfNat.ofNat Nat k _) := propext (show ((n : Int) < (k : Int)) ↔ n < k by omega)
theorem cge {n k : Nat} : ((no_index (@OfNat.ofNat Int k _)) ≤ ((n : Nat) : Int)) = (@OfNat.ofNat Nat k _ ≤ n) := propext (show ((k : Int) ≤ (n : Int)) ↔ k ≤ n by omega)
theorem cgt {n k : Nat} : ((no_index (@OfNat.ofNat Int k _)) < ((n : Nat) : Int)) = (@OfNat.ofNat Nat k _ < n) := propext (show ((k : Int) < (n : Int)) ↔ k < n by omega)
theorem ceq {n k : Nat} : ((((n : Nat) : Int)) == (no_index (@OfNat.ofNat Int k _))) = (n == @OfNat.ofNat Nat k _) := by
  show ((n : Int) == (k : Int)) = (n == k)
  by_cases h : n = k
  · subst h; simp
  · rw [beq_eq_false_iff_ne.mpr h, beq_eq_false_iff_ne.mpr (by omega)]
theorem cne {n k : Nat} : ((((n : Nat) : Int)) != (no_index (@OfNat.ofNat Int k _))) = (n != @OfNat.ofNat Nat k _) := by
  show (!((n : Int) == (k : Int))) = !(n == k)
  rw [show ((n : Int) == (k : Int)) = (n == k) from ceq]
end PU

set_option Elab.async false
set_option linter.all false
set_option maxRecDepth 100000
/-! UShow: when a written word is the text of a value. -/
namespace PU
open PySem PySem.Spec PyProof.Rows L2
open Builtin.Str

end PU

set_option Elab.async false
set_option linter.all false
set_option maxRecDepth 100000
/-! USet: sorted(set(texts)). -/
namespace PU
open PySem PySem.Spec PyProof.Rows L2

/-- the text of an entry -/
def txtOf (e : Int × Value) : Str := match e.2 with
  | .str z _ => z
  | _ => Str.empty
def EntS (w : World) (e : Int × Value) : Prop := ∃ z tk, e = (hashStr w z, Value.str z tk)
/-- a table that holds the texts zs, in some order, and can be walked -/
structure TabS (w : World) (es : Array (Int × Value)) (t : SetTable) (zs : List Str) : Prop where
  ent : ∀ e ∈ es.toList, EntS w e
  mem : (es.toList.map txtOf).Perm zs
  nd : zs.Nodup
  few : es.size < scanBound
  fit : t.fits es.size = true
  ris : Ris t.place.toList
  led : w.params.followText "set-order" = true ∨ t.led = true
section
variable {P : Program} {w : World} {A : Around} {E : Value → Shared → Prop} {s : Shared} {a : Addr} {zs : List Str}
theorem TabS.size {es : Array (Int × Value)} {t : SetTable} (T : TabS w es t zs) : es.size = zs.length := by
  have := T.mem.length_eq
  simpa using this
theorem EntS.is {e : Int × Value} (x : EntS w e) (z : Str) : (strKind P w).is z e.2 = true ↔ txtOf e = z := by
  obtain ⟨y, tk, rfl⟩ := x
  show ((y == z) = true) ↔ y = z
  exact beq_iff_eq
end

/-! ### over the layer -/
section
variable {X : Cx}
end

/-! ### the order of texts -/
abbrev slt (x y : Str) : Prop := x.cps.toList < y.cps.toList
section
variable {X : Cx} {e : Expr} {te : UTE} {p p2 q2 pos : Pos}
/-- sorted(set(e)), e a list of texts -/
def z3t (m : Bool) (te : UTE) (σ : USt) (M : UHp) (Q : UK) : Prop := te σ M fun x M1 => ∃ xs zs, listU M1 x = some xs ∧ strsU xs = some zs ∧ zs.length < 64 ∧ ∀ ys : List Str, ys.Pairwise slt → (∀ y, y ∈ ys ↔ y ∈ zs) → newL m (ys.map .str) M1 Q
end
end PU

set_option Elab.async false
set_option linter.all false
set_option maxRecDepth 100000
/-! URev: x[::-1]; sorted(texts); int(bool); extend. -/
namespace PU
open PySem PySem.Spec PyProof.Rows L2 HT
section
variable {P : Program} {w : World} {A : Around} {E : Value → Shared → Prop} {s : Shared}
end
section
variable {X : Cx} {e : Expr} {te : UTE}
theorem RelUs.reverse {K : PySem.W.Frag} {H : Hp} : ∀ {xs : List U} {vs : List V}, RelUs K H xs vs → RelUs K H xs.reverse vs.reverse
  | [], _, h => by obtain rfl := h; exact RelUs.nil
  | x :: xs, _, h => by
    obtain ⟨v, r, rfl, q, t⟩ := h
    rw [List.reverse_cons, List.reverse_cons]
    exact (RelUs.reverse t).append (RelUs.cons q RelUs.nil)
def revR (m : Bool) (x : U) (M : UHp) (Q : UK) : Prop := match x with
  | .tup xs => Q (.tup xs.reverse) M
  | x => ∃ xs, listU M x = some xs ∧ newL m xs.reverse M Q
def z8p (m : Bool) (te : UTE) (σ : USt) (M : UHp) (Q : UK) : Prop := te σ M fun x M1 => revR m x M1 Q
/-! sorted(a list of texts) -/
def sortedR (m : Bool) (xs : List U) (M : UHp) (Q : UK) : Prop := match xs with
  | [x] => ∃ ys zs, listU M x = some ys ∧ strsU ys = some zs ∧ zs.length < 64 ∧ ∀ ws : List Str, ws.Perm zs → sortedS ws = true → newL m (ws.map .str) M Q
  | _ => False
/-! int(a bool) too -/
def int2R (xs : List U) (M : UHp) (Q : UK) : Prop := match xs with
  | [.int i] => Q (.int i) M
  | [.bl b] => Q (.int (if b then 1 else 0)) M
  | _ => False
theorem uc_int2 : UCallR X (.type "int") int2R := CallR.mono call_int1 fun vs H Q h => by
  obtain ⟨xs, M, Qu, r, rm, q, up⟩ := h
  unfold int2R at q
  split at q
  · obtain ⟨v, w, rfl, rfl, rfl⟩ := r
    exact .inl ⟨_, rfl, up _ _ _ _ q (Stab.refl H) rm rfl⟩
  · obtain ⟨v, w, rfl, rfl, rfl⟩ := r
    exact .inr ⟨_, rfl, up _ _ _ _ q (Stab.refl H) rm rfl⟩
  · exact q.elim
/-! xs.extend(ys), ys by address, of no concern any more -/
def extR (x : U) (xs : List U) (M : UHp) (Q : UK) : Prop := match x, xs with
  | .ref a, [.ref b] => ∃ ys zs, M a = some (.lst ys) ∧ M b = some (.lst zs) ∧ ys.length + zs.length ≤ sizeLine ∧ Q .non (updM M a (.lst (ys ++ zs)))
  | _, _ => False
end
def parK (i j : Nat) (D : UEnds) (σ : USt) : List U → UHp → Prop
  | [x, y], M => D.nx ((σ.set i (some x)).set j (some y)) M
  | _, _ => False
/-- a, b = x, y -/
def z8n (i j : Nat) (ta : UTA) (D : UEnds) (σ : USt) (M : UHp) : Prop := ta σ M (parK i j D σ)
theorem us_par {X : Cx} {i j : Nat} {x y : Str} {a b : Expr} {ta : UTA} {px py pt pos : Pos} {kt k2 pt2} (hc : X.calm = true) (hN : X.N.Nodup) (hi : X.N[i]? = some x) (hj : X.N[j]? = some y) (hij : i ≠ j)
    (hx : X.env.scope.names.lookup x = some .local) (hy : X.env.scope.names.lookup y = some .local) (ha : UA X [a, b] ta)
    (hw : swappedStores [.Tuple [.Name x px, .Name y py] kt pt] (.Tuple [a, b] k2 pt2) X.env = pure (some [x, y])) (hs : swapsWithSole [.Tuple [.Name x px, .Name y py] kt pt] (.Tuple [a, b] k2 pt2) pos.line X.env = pure false := by rfl) :
    US X (.Assign [.Tuple [.Name x px, .Name y py] kt pt] (.Tuple [a, b] k2 pt2) pos) (z8n i j ta) := PS.mono (ps_par hc hN hi hj hij hx hy ha hw hs) fun D τ H h => by
  obtain ⟨σ, M, Du, rs, rm, q, up⟩ := h
  refine ⟨σ, M, _, rs, rm, q, fun us M1 vs H1 q1 s1 m1 r1 => ?_⟩
  unfold parK at q1
  split at q1
  · obtain ⟨v, t, rfl, r1, w, t2, rfl, r2, rfl⟩ := r1
    exact ⟨v, w, rfl, up.nx _ M1 _ H1 q1 s1 m1 (((rs.stab s1).set r1 i).set r2 j)⟩
  · exact q1.elim
section
variable {M : UHp} {Q : UK} {xs ys : List U} {m b : Bool} {i : Int} {a p : Addr}
theorem z7q : revR m (.tup xs) M Q = Q (.tup xs.reverse) M := rfl
theorem z7o : revR m (.lst xs) M Q = newL m xs.reverse M Q := by simp [revR, listU]
theorem z7p : revR m (.ref p) M Q = (∃ xs, refL (M p) = some xs ∧ newL m xs.reverse M Q) := by show (∃ xs, listU M (U.ref p) = some xs ∧ _) = _; rw [z2r]
theorem z7m {i j : Nat} {D : UEnds} {σ : USt} {x y : U} : parK i j D σ [x, y] M = D.nx ((σ.set i (some x)).set j (some y)) M := rfl
theorem z5w : int2R [.int i] M Q = Q (.int i) M := rfl
theorem z5v : int2R [.bl b] M Q = Q (.int (if b then 1 else 0)) M := rfl
theorem z7a : extR (.ref a) [.ref p] M Q = (∃ ys zs, M a = some (.lst ys) ∧ M p = some (.lst zs) ∧ ys.length + zs.length ≤ sizeLine ∧ Q .non (updM M a (.lst (ys ++ zs)))) := rfl
theorem z3l : sortedR m [.lst ys] M Q = (∃ zs, strsU ys = some zs ∧ zs.length < 64 ∧ ∀ ws : List Str, ws.Perm zs → sortedS ws = true → newL m (ws.map .str) M Q) := by simp [sortedR, listU]
theorem z3m : sortedR m [.ref p] M Q = (∃ ys zs, refL (M p) = some ys ∧ strsU ys = some zs ∧ zs.length < 64 ∧ ∀ ws : List Str, ws.Perm zs → sortedS ws = true → newL m (ws.map .str) M Q) := by
  show (∃ ys zs, listU M (U.ref p) = some ys ∧ _) = _
  rw [z2r]
end
end PU

set_option Elab.async false
set_option linter.all false
set_option maxRecDepth 100000
/-! UExc: what may raise. A reading takes the wish of an exception ahead of all. -/
namespace PU
open PySem PySem.Spec PyProof.Rows L2

abbrev UWX := Value → Option Addr → USt → UHp → Prop
def UpW (K : PySem.W.Frag) (H : Hp) (Wu : UWX) (W : WX) : Prop := ∀ c d σ' M' τ' H', Wu c d σ' M' → Stab H H' → RelM K H' M' → RelS K H' σ' τ' → W c d τ' H'
theorem UpW.from {K : PySem.W.Frag} {H H' : Hp} {Wu : UWX} {W : WX} (h : UpW K H Wu W) (s : Stab H H') : UpW K H' Wu W := fun c d σ' M' τ' H2 q s2 m r => h c d σ' M' τ' H2 q (s.trans s2) m r
section
variable {X : Cx} {W : WX} {e : Expr} {es : List Expr} {st : Stmt} {sts : List Stmt} {pos : Pos}
/-! expressions -/
def z80 (te : UWX → UTE) (tr : UWX → UTA) (w : UWX) : UTA := z7t (te w) (tr w)
def z8y (t : UWX → UTA) (w : UWX) : UTE := z8s (t w)
/-! a call that may raise -/
def z7z (sp : USp) (dus : List U) (t : UWX → UTA) (w : UWX) (σ : USt) (M : UHp) (Q : UK) : Prop := t w σ M fun us M1 => sp (us ++ dus) M1 Q fun c d M2 => w c d σ M2
section
variable {k : Nat} {f : Addr} {fd : FuncData} {ps : List Str} {sp : USp} {x : Str} {p : Pos}
end
/-! statements -/
variable {te : UWX → UTE} {p q : UWX → UTS}
def z8u (te : UWX → UTE) (w : UWX) : UTS := z8o (te w)
def z81 (te : UWX → UTE) (w : UWX) : UTS := z7u (te w)
def z8w (te : UWX → UTE) (i : Nat) (w : UWX) : UTS := z8e (te w) (z7v i)
def z8v (t u : UWX → UTS) (w : UWX) : UTS := z8q (t w) (u w)
def xIf (c : UTT) (t u : UWX → UTS) (w : UWX) : UTS := z8i c (t w) (u w)
/-- raise, the class told -/
def z74 (c : Value) (w : UWX) (_ : UEnds) (σ : USt) (M : UHp) : Prop := w c none σ M
end
/-! own exceptions made with nothing -/
section
variable {X : Cx} {C : Addr} {bmB : List Value} {B newId initId : String}
end
/-! try .. except C: suite that raises nothing -/
section
variable {X : Cx} {W : WX} {st : Stmt} {pos : Pos}
def z8x (ex : Value → Option Bool) (t : UWX → UTS) (u : UTS) (w : UWX) (D : UEnds) (σ : USt) (M : UHp) : Prop :=
  t (fun c d σ' M' => ∃ b, ex c = some b ∧ (b = true → u D σ' M') ∧ (b = false → w c d σ' M')) D σ M
/-- .. as n: slot i is n's; behind the suite it is gone -/
def asD (i : Nat) (D : UEnds) : UEnds := { nx := fun s m => D.nx (s.set i none) m, rt := D.rt, bk := fun s m => D.bk (s.set i none) m, ct := fun s m => D.ct (s.set i none) m }
def z75 (ex : Value → Option Bool) (i : Nat) (t : UWX → UTS) (u : Addr → Value → Option Addr → UTS) (w : UWX) (D : UEnds) (σ : USt) (M : UHp) : Prop :=
  t (fun c d σ' M' => ∃ b, ex c = some b ∧ (b = true → ∀ a, M' a = none → u a c d (asD i D) (σ'.set i (some (.ref a))) M') ∧ (b = false → w c d σ' M')) D σ M
end
/-! a def that may raise -/
section
variable {P : Program} {w : World} {K : PySem.W.Frag} {mg : Str → Option Value} {base : Heap} {k : Nat} {f : Addr} {fd : FuncData} {N ps : List Str} {x qual : Str} {st : Stmt}
end
end PU

set_option Elab.async false
set_option linter.all false
set_option maxRecDepth 100000
/-! UErr: errors with fields: made by an own __init__, raised, caught, their fields read; calls that surely raise nothing. -/
namespace PU
open PySem PySem.Spec PyProof.Rows L2

section
variable {X : Cx} {e : Expr} {es : List Expr} {pos : Pos}
section
variable {k : Nat} {f : Addr} {fd : FuncData} {ps : List Str} {sp : USp} {x : Str} {p : Pos}
end
end

/-! ### a caught error's field -/
theorem RelKs.lookup {K : PySem.W.Frag} {H : Hp} : ∀ {us : List (Str × U)} {vs : List (Str × V)} {f : Str} {x : U}, RelKs K H us vs → us.lookup f = some x → ∃ v, vs.lookup f = some v ∧ RelU K H x v
  | [], _, _, _, _, e => by simp at e
  | (k, y) :: xs, _, f, x, h, e => by
    obtain ⟨v, r, rfl, q, t⟩ := h
    rw [List.lookup_cons] at e ⊢
    by_cases hk : f = k
    · have hb : (f == k) = true := beq_iff_eq.mpr hk
      rw [hb] at e ⊢
      cases e
      exact ⟨v, rfl, q⟩
    · have hb : (f == k) = false := beq_eq_false_iff_ne.mpr hk
      rw [hb] at e ⊢
      exact RelKs.lookup t e
def uXf (a : Addr) (cls : Value) (d : Option Addr) (C : Addr) (f : Str) (te : UTE) (σ : USt) (M : UHp) (Q : UK) : Prop := te σ M fun x M1 => x = .ref a ∧ cls = .ref C ∧ ∃ dd fs v, d = some dd ∧ M1 dd = some (.xd fs) ∧ fs.lookup f = some v ∧ Q v M1
/-! ### isinstance of a caught error, no fields -/
/-! ### VariantError.__init__(self, ..) -/
/-- what the written part says of the errors' own base -/
structure VEc (K : PySem.W.Frag) (VE : Addr) : Prop where
  rd : PySem.W.readsIn K VE (.type "type") = true
  ga : PySem.W.specialIn K (.ref VE) "__getattribute__" = some (some (.builtin "type.__getattribute__"))
  at_ : PySem.W.findCls K (.ref VE) (.type "type") "__init__" = some (.val (.builtin "ValueError.__init__"))
section
variable {X : Cx} {o e : Expr} {es : List Expr} {to te : TE} {ta : TA} {f : Str} {p p' p1 p2 pos : Pos}
theorem pe_veown {pl : Sem Bool} {VE : Addr} {x : Str} (hg : Gl X x) (hm : X.mg x = some (.ref VE)) (T : VEc X.K VE) (ha : PA X (e :: es) ta)
    (hc : eval (.Call (.Attribute (.Name x p1) "__init__" p2) (e :: es) [] pos) X.env = (do
      let ov ← eval (.Name x p1) X.env
      standAt p2.atName
      let (f, first) ← holding [ov] (getMethod ov "__init__" pl)
      callWith pos f first (backTo pos (starEach (e :: es) X.env)) (backToKw pos (keywordEach [] X.env))) := by rfl)
    (hdb : (x == ("__debug__" : Str)) = false := by decide) (he : starEach (e :: es) X.env = (false, eval e X.env) :: starEach es X.env := by rfl) (hpl : (backTo pos (starEach es X.env)).any (·.1) = false := by rfl) :
    PE X (.Call (.Attribute (.Name x p1) "__init__" p2) (e :: es) [] pos) (tVeI X.K ta) := by
  refine ⟨fun pins s σ H Q I h => ?_⟩
  refine PySem.W.methodCall_KW (ld_glob I hg hm ?_ hdb) hc
  refine PySem.W.method_cls I.kIn T.ga ?_
  refine PySem.W.cls_value I.kIn T.rd T.at_ rfl ?_
  show wpAny _ _ (callWith pos (Value.builtin "ValueError.__init__") [] (backTo pos (starEach (e :: es) X.env)) []) _ _ _
  refine PyProof.Rows.callWith_method1 (thn (ha.run pos pins _ σ H _ (I.tok _) h) fun us s1 ⟨vs, H1, I1, r1, a, C, ws, ev, hl, T, ea, q⟩ => ?_) he hpl
  subst ev
  cases r1 with
  | @cons _ u0 _ ur ra rw' =>
    obtain rfl : u0 = Value.ref a := ra
    have hlen : ur.length ≤ sizeLine := by
      rw [← Paired.length rw', sizeLine_eq]
      omega
    exact oinit_ok T I1 ea hlen fun s' J => ⟨.non, H1, J, rfl, q⟩
end
section
variable {X : Cx} {o e : Expr} {es : List Expr} {to te : UTE} {ta : UTA} {f : Str} {p p' p1 p2 pos : Pos}
def uVeI (K : PySem.W.Frag) (ta : UTA) (σ : USt) (M : UHp) (Q : UK) : Prop := ta σ M fun us M1 => ∃ (a C : Addr) (ws : List U), us = .ref a :: ws ∧ ws.length ≤ 1000 ∧ OexC K C ∧ M1 a = some (.raw (exo a C none)) ∧ Q .non M1
theorem ue_veown {pl : Sem Bool} {VE : Addr} {x : Str} (hg : Gl X x) (hm : X.mg x = some (.ref VE)) (T : VEc X.K VE) (ha : UA X (e :: es) ta)
    (hc : eval (.Call (.Attribute (.Name x p1) "__init__" p2) (e :: es) [] pos) X.env = (do
      let ov ← eval (.Name x p1) X.env
      standAt p2.atName
      let (f, first) ← holding [ov] (getMethod ov "__init__" pl)
      callWith pos f first (backTo pos (starEach (e :: es) X.env)) (backToKw pos (keywordEach [] X.env))) := by rfl)
    (hdb : (x == ("__debug__" : Str)) = false := by decide) (he : starEach (e :: es) X.env = (false, eval e X.env) :: starEach es X.env := by rfl) (hpl : (backTo pos (starEach es X.env)).any (·.1) = false := by rfl) :
    UE X (.Call (.Attribute (.Name x p1) "__init__" p2) (e :: es) [] pos) (uVeI X.K ta) := PE.mono (pe_veown hg hm T ha hc hdb he hpl) fun τ H Q h => by
  obtain ⟨σ, M, Qu, rs, rm, q, up⟩ := h
  refine ⟨σ, M, _, rs, rm, q, fun us M1 vs H1 q1 s1 m1 r1 => ?_⟩
  obtain ⟨a, C, ws, rfl, hl, T, ea, q⟩ := q1
  obtain ⟨v, wv, rfl, r2, r3⟩ := r1
  obtain rfl := r2
  exact ⟨a, C, wv, rfl, by rw [← r3.length]; exact hl, T, m1 a _ ea, up _ _ _ _ q s1 m1 rfl⟩
/-- self.f = e -/
def uOst (K : PySem.W.Frag) (f : Str) (to te : UTE) (D : UEnds) (σ : USt) (M : UHp) : Prop := te σ M fun y M1 => to σ M1 fun x M2 => ∃ a C : Addr, x = .ref a ∧ OexC K C ∧ PySem.W.findIn K (.ref C) f = some none ∧
  ((M2 a = some (.raw (exo a C none)) ∧ ∀ dx, M2 dx = none → dx ≠ a → D.nx σ (updM (updM M2 dx (.exd [(f, y)])) a (.raw (exo a C (some dx))))) ∨
    ∃ (dx : Addr) (fs : List (Str × U)), M2 a = some (.raw (exo a C (some dx))) ∧ M2 dx = some (.exd fs) ∧ fs.length ≤ 900 ∧ D.nx σ (updM M2 dx (.exd ((f, y) :: fs))))
theorem RelKs.length {κ : Type} {K : PySem.W.Frag} {H : Hp} : ∀ {us : List (κ × U)} {vs : List (κ × V)}, RelKs K H us vs → us.length = vs.length
  | [], _, h => by obtain rfl := h; rfl
  | (k, x) :: xs, _, h => by
    obtain ⟨v, r, rfl, _, t⟩ := h
    simp [RelKs.length t]
theorem us_ost (ho : UE X o to) (he : UE X e te) (hs : swapsWith e (some (.Attribute o f p')) pos.line X.env = pure false := by rfl) : US X (.Assign [.Attribute o f p'] e pos) (uOst X.K f to te) := PS.mono (ps_ost ho he hs) fun D τ H h => by
  obtain ⟨σ, M, Du, rs, rm, q, up⟩ := h
  refine ⟨σ, M, _, rs, rm, q, fun y M1 v H1 q1 s1 m1 r1 => ?_⟩
  refine ⟨σ, M1, _, rs.stab s1, m1, q1, fun x M2 u H2 q2 s2 m2 r2 => ?_⟩
  obtain ⟨a, C, rfl, T, hno, q3⟩ := q2
  obtain rfl := r2
  refine ⟨a, C, rfl, T, hno, ?_⟩
  rcases q3 with ⟨ea, q3⟩ | ⟨dx, fs, ea, ed, hl, q3⟩
  · have ha := m2 a _ ea
    refine .inl ⟨ha, fun dx n ne => ?_⟩
    have n2 : M2 dx = none := m2.none n
    have sa : Stab H2 (upd H2 dx (exd dx [(f, v)])) := Stab.new n
    have m3 : RelM X.K (upd H2 dx (exd dx [(f, v)])) (updM M2 dx (.exd [(f, y)])) := m2.write sa ⟨[(f, v)], upd_same, v, [], rfl, (r1.stab s2).stab sa, rfl⟩
    have ha3 : upd H2 dx (exd dx [(f, v)]) a = some (exo a C none) := by rw [upd_ne (Ne.symm ne)]; exact ha
    have sb : Stab (upd H2 dx (exd dx [(f, v)])) (upd (upd H2 dx (exd dx [(f, v)])) a (exo a C (some dx))) := Stab.upd (fun xs z => by rw [ha3] at z; exact exo_tup (Option.some.inj z)) (fun ob u z => by rw [ha3] at z; exact exo_frz (Option.some.inj z))
    have m4 := m3.write sb (o := .raw (exo a C (some dx))) upd_same
    exact up.nx _ _ _ _ (q3 dx n2 ne) (((s1.trans s2).trans sa).trans sb) m4 ((((rs.stab s1).stab s2).stab sa).stab sb)
  · have ha := m2 a _ ea
    obtain ⟨vs, hd, rk⟩ := m2 dx _ ed
    refine .inr ⟨dx, vs, ha, hd, by rw [← rk.length]; exact hl, ?_⟩
    have sa : Stab H2 (upd H2 dx (exd dx ((f, v) :: vs))) := Stab.upd (fun xs z => by rw [hd] at z; exact exd_tup (Option.some.inj z)) (fun ob u z => by rw [hd] at z; cases z)
    have m3 := m2.write sa (o := .exd ((f, y) :: fs)) ⟨(f, v) :: vs, upd_same, v, vs, rfl, (r1.stab s2).stab sa, rk.stab sa⟩
    exact up.nx _ _ _ _ q3 ((s1.trans s2).trans sa) m3 (((rs.stab s1).stab s2).stab sa)

/-! ### raise C(e, ..), C with an own __init__ -/
def z8k (C : Addr) (mk : List U → List (Str × U) → Prop) (ta : UTA) (σ : USt) (M : UHp) (E : UXK) : Prop := ta σ M fun us M1 => us.length ≤ 1000 ∧ ∃ fs, mk us fs ∧ ∀ d, M1 d = none → E (.ref C) (some d) (updM M1 d (.xd fs))
def z5g (C : Addr) (mk : List U → List (Str × U) → Prop) (ta : UTA) (w : UWX) (_ : UEnds) (σ : USt) (M : UHp) : Prop := z8k C mk ta σ M fun c d M' => w c d σ M'
end
end PU
namespace PU
open PySem PySem.Spec PyProof.Rows L2
/-- an __init__ of the text -/
structure Di (K : PySem.W.Frag) (q : Str) (st : Stmt) (f : Addr) (fd : FuncData) (ps : List Str) : Prop where
  F : Fun K "__init__" q st f fd
  b : Binds K fd ps []
end PU

set_option Elab.async false
set_option linter.all false
set_option maxRecDepth 100000
/-! UTxt: name += list; upper, str(int), text * int. -/
namespace PU
open PySem PySem.Spec PyProof.Rows L2
section
variable {X : Cx}
/-! name += e, lists by address too -/
def augA (x : U) (y : U) (M : UHp) (Q : UK) : Prop := match x, y with
  | .int i, .int j => Q (.int (i + j)) M
  | .ref a, .ref b => ∃ xs ys, M a = some (.lst xs) ∧ M b = some (.lst ys) ∧ xs.length + ys.length ≤ sizeLine ∧ Q (.ref a) (updM M a (.lst (xs ++ ys)))
  | _, _ => False
theorem z5n {a b : Addr} {M : UHp} {Q : UK} : augA (.ref a) (.ref b) M Q = ∃ xs ys, M a = some (.lst xs) ∧ M b = some (.lst ys) ∧ xs.length + ys.length ≤ sizeLine ∧ Q (.ref a) (updM M a (.lst (xs ++ ys))) := rfl
/-! x.upper() -/
def upR (x : U) (xs : List U) (M : UHp) (Q : UK) : Prop := match x, xs with
  | .str z, [] => z.length ≤ 5000000 ∧ okS (Txt.upper z) = true ∧ Q (.str (Txt.upper z)) M
  | _, _ => False
theorem z7y {z : Str} {M : UHp} {Q : UK} : upR (.str z) [] M Q = (z.length ≤ 5000000 ∧ okS (Txt.upper z) = true ∧ Q (.str (Txt.upper z)) M) := rfl
/-! str(an int), str(a bool) -/
def strR (xs : List U) (M : UHp) (Q : UK) : Prop := match xs with
  | [.int i] => i.natAbs.log2 < 1920 ∧ okS (Str.ofString (toString i)) = true ∧ Q (.str (Str.ofString (toString i))) M
  | [.bl b] => Q (.str (if b then "True" else "False")) M
  | _ => False
theorem z6e {i : Int} {M : UHp} {Q : UK} : strR [.int i] M Q = (i.natAbs.log2 < 1920 ∧ okS (Str.ofString (toString i)) = true ∧ Q (.str (Str.ofString (toString i))) M) := rfl
theorem z6d {b : Bool} {M : UHp} {Q : UK} : strR [.bl b] M Q = Q (.str (if b then "True" else "False")) M := rfl
/-! -x, x a bool too -/
def negB (x : U) (M : UHp) (Q : UK) : Prop := match x with
  | .int i => Q (.int (-i)) M
  | .bl b => Q (.int (-(if b = true then 1 else 0))) M
  | _ => False
theorem z68 {i : Int} {M : UHp} {Q : UK} : negB (.int i) M Q = Q (.int (-i)) M := rfl
theorem z67 {b : Bool} {M : UHp} {Q : UK} : negB (.bl b) M Q = Q (.int (-(if b = true then 1 else 0))) M := rfl
/-! text * int -/
def repS (k : Nat) (z : Str) : Str := ⟨(List.replicate k z.cps).foldl (· ++ ·) #[]⟩
def mulS (x : U) (y : U) (M : UHp) (Q : UK) : Prop := match x, y with
  | .str z, .int k => 2 ≤ k ∧ k ≤ 100 ∧ z.length ≤ 100000 ∧ Q (.str (repS k.toNat z)) M
  | _, _ => False
theorem z63 {z : Str} {k : Int} {M : UHp} {Q : UK} : mulS (.str z) (.int k) M Q = (2 ≤ k ∧ k ≤ 100 ∧ z.length ≤ 100000 ∧ Q (.str (repS k.toNat z)) M) := rfl
end
end PU

set_option Elab.async false
set_option linter.all false
set_option maxRecDepth 100000
/-! UDict: dicts whose keys are tuples, nested, of texts and ints. -/
namespace PU
open PySem PySem.Spec PyProof.Rows L2

abbrev DPhi := Addr → List (NestedKey × Addr × V) → HO
abbrev NYs := List (NestedKey × Addr × Value)
/-- a key that may stand in such a dict -/
def kOk (k : U) : Prop := ∃ nk, nkU k = some nk ∧ nk.depth ≤ 8
def getN (kvs : List (U × U)) (k : U) : Option U := (kvs.find? fun kv => decide (nkU kv.1 = nkU k)).map (·.2)
def putN (kvs : List (U × U)) (k v : U) : List (U × U) := if (getN kvs k).isSome = true then kvs.map (fun kv => if nkU kv.1 = nkU k then (kv.1, v) else kv) else kvs ++ [(k, v)]
section
variable {X : Cx} {pins : List (Addr × Obj)} {τ : L2.St} {H : Hp} {s : Shared}
/-- both at once: the pairs by value, and the entries -/
inductive RelY (K : PySem.W.Frag) (H : Hp) : List (U × U) → NYs → Prop
  | nil : RelY K H [] []
  | cons {k x nk b v u r ys} : nkU k = some nk → nk.depth ≤ 8 → RelU K H k (.ref b) → RelU K H x v → RelV v u → RelY K H r ys → RelY K H ((k, x) :: r) ((nk, b, u) :: ys)
theorem RelY.stab {K : PySem.W.Frag} {H' : Hp} (s : Stab H H') {kvs : List (U × U)} {ys : NYs} (h : RelY K H kvs ys) : RelY K H' kvs ys := by
  induction h with
  | nil => exact .nil
  | cons h1 h2 h3 h4 h5 _ ih => exact .cons h1 h2 (h3.stab s) (h4.stab s) h5 ih
theorem RelY.length {K : PySem.W.Frag} {kvs : List (U × U)} {ys : NYs} (h : RelY K H kvs ys) : kvs.length = ys.length := by
  induction h with
  | nil => rfl
  | cons _ _ _ _ _ _ ih => simp [ih]
theorem RelY.get {K : PySem.W.Frag} {kvs : List (U × U)} {ys : NYs} (h : RelY K H kvs ys) {k : U} {nk : NestedKey} (e : nkU k = some nk) :
    (∃ x p v, getN kvs k = some x ∧ atKey ys nk = some p ∧ RelU K H x v ∧ RelV v p.2) ∨ (getN kvs k = none ∧ atKey ys nk = none) := by
  induction h with
  | nil => exact .inr ⟨rfl, rfl⟩
  | @cons k' x nk' b v u r ys h1 h2 h3 h4 h5 _ ih =>
    by_cases hk : nk' = nk
    · subst hk
      refine .inl ⟨x, (b, u), v, ?_, ?_, h4, h5⟩
      · simp [getN, h1, e]
      · simp [atKey]
    · have e1 : ¬ nkU k' = nkU k := by rw [h1, e]; exact fun z => hk (Option.some.inj z)
      have g1 : getN ((k', x) :: r) k = getN r k := by simp [getN, e1]
      have g2 : atKey ((nk', b, u) :: ys) nk = atKey ys nk := by simp [atKey, hk]
      rw [g1, g2]
      exact ih
theorem RelY.map {K : PySem.W.Frag} {kvs : List (U × U)} {ys : NYs} (h : RelY K H kvs ys) {k y : U} {nk : NestedKey} {v : V} {u : Value} (e : nkU k = some nk) (ry : RelU K H y v) (rv : RelV v u) :
    RelY K H (kvs.map (fun kv => if nkU kv.1 = nkU k then (kv.1, y) else kv)) (ys.map (putAt nk u)) := by
  induction h with
  | nil => exact .nil
  | @cons k' x nk' b v' u' r ys h1 h2 h3 h4 h5 _ ih =>
    rw [List.map_cons, List.map_cons]
    by_cases hk : nk' = nk
    · subst hk
      rw [if_pos (h1.trans e.symm), putAt, if_pos rfl]
      exact .cons h1 h2 h3 ry rv ih
    · rw [if_neg (fun z => hk (Option.some.inj (by rw [← h1, ← e]; exact z))), putAt, if_neg hk]
      exact .cons h1 h2 h3 h4 h5 ih
theorem RelY.snoc {K : PySem.W.Frag} {kvs : List (U × U)} {ys : NYs} (h : RelY K H kvs ys) {k y : U} {nk : NestedKey} {b : Addr} {v : V} {u : Value} (e : nkU k = some nk) (hd : nk.depth ≤ 8) (rk : RelU K H k (.ref b)) (ry : RelU K H y v) (rv : RelV v u) :
    RelY K H (kvs ++ [(k, y)]) (ys ++ [(nk, b, u)]) := by
  induction h with
  | nil => exact .cons e hd rk ry rv .nil
  | cons h1 h2 h3 h4 h5 _ ih => exact .cons h1 h2 h3 h4 h5 ih
theorem RelY.put {K : PySem.W.Frag} {kvs : List (U × U)} {ys : NYs} (h : RelY K H kvs ys) {k y : U} {nk : NestedKey} {b : Addr} {v : V} {u : Value} (e : nkU k = some nk) (hd : nk.depth ≤ 8) (rk : RelU K H k (.ref b)) (ry : RelU K H y v) (rv : RelV v u) :
    RelY K H (putN kvs k y) (storedH ys nk b u) := by
  unfold putN storedH
  rcases h.get e with ⟨x, p, w, e1, e2, _⟩ | ⟨e1, e2⟩
  · rw [e1, e2]; exact h.map e ry rv
  · rw [e1, e2]; exact h.snoc e hd rk ry rv
end

/-! ### the rules -/
section
variable {X : Cx} {φ : DPhi}
/-- {} -/
def uDNew (φ : DPhi) (_ : USt) (M : UHp) (Q : UK) : Prop := ∀ p, M p = none → Q (.ref p) (updM M p (.dN φ []))
/-- d[k] = v -/
def setN (φ : DPhi) (o i v : U) (M : UHp) (Q : UHp → Prop) : Prop := ∃ a kvs xs, o = .ref a ∧ i = .tup xs ∧ M a = some (.dN φ kvs) ∧ kOk i ∧ kvs.length < sizeLine ∧ Q (updM M a (.dN φ (putN kvs i v)))
/-- d[k] -/
def uDGet (φ : DPhi) (td ty : UTE) (σ : USt) (M : UHp) (Q : UK) : Prop := td σ M fun o M1 => ty σ M1 fun y M2 => ∃ a kvs xs v, o = .ref a ∧ y = .tup xs ∧ M2 a = some (.dN φ kvs) ∧ kOk y ∧ getN kvs y = some v ∧ Q v M2
/-- k in d, k not in d -/
def inN (φ : DPhi) (neg : Bool) (y o : U) (M : UHp) (Q : UK) : Prop := ∃ a kvs xs, o = .ref a ∧ y = .tup xs ∧ M a = some (.dN φ kvs) ∧ kOk y ∧ Q (.bl (if neg = true then !(getN kvs y).isSome else (getN kvs y).isSome)) M
end
end PU

set_option Elab.async false
set_option linter.all false
set_option maxRecDepth 100000
/-! USort: sorted, of tuples: a dict's keys, a list. -/
namespace PU
open PySem PySem.Spec PyProof.Rows L2

def encU (x : U) : PyData := (toD x).getD .none
def kleU : U → U → Bool := PySem.W.dataLe false encU
def srtU (ks : List U) : List U := ks.mergeSort kleU
/-- what can be sorted: tuples, none empty, that can be compared with one another -/
structure SrtK (ks : List U) : Prop where
  d : ∀ k ∈ ks, isD k = true ∧ dep k ≤ 100
  t : ∀ k ∈ ks, ∃ x r, k = .tup (x :: r)
  a : ∀ a ∈ ks, ∀ b ∈ ks, PySem.W.alike (encU a) (encU b) = true
section
variable {X : Cx} {pins : List (Addr × Obj)} {τ : L2.St} {H : Hp} {s : Shared}
theorem encU_of {k : U} (h : isD k = true) : toD k = some (encU k) := by
  obtain ⟨d, e, _⟩ := toD_some k h
  unfold encU
  rw [e]; rfl
theorem SrtK.alike {ks : List U} (h : SrtK ks) : PySem.W.AllAlike (ks.map encU) := fun d hd d' hd' => by
  obtain ⟨a, ha, rfl⟩ := List.mem_map.mp hd
  obtain ⟨b, hb, rfl⟩ := List.mem_map.mp hd'
  exact h.a a ha b hb
end
section
variable {X : Cx} {φ : DPhi}
def sortN (φ : DPhi) (m : Bool) (xs : List U) (M : UHp) (Q : UK) : Prop := match xs with
  | [.ref a] => ∃ kvs, M a = some (.dN φ kvs) ∧ SrtK (kvs.map (·.1)) ∧ newL m (srtU (kvs.map (·.1))) M Q
  | _ => False
end
end PU

set_option Elab.async false
set_option linter.all false
set_option maxRecDepth 100000
/-! USortK: sorted(list, key=own def). -/
namespace PU
open PySem PySem.Spec PyProof.Rows L2

/-- the keys by which a list is sorted: alike, comparable -/
structure SrtA (ks : List U) : Prop where
  d : ∀ k ∈ ks, isD k = true ∧ dep k ≤ 100
  a : PySem.W.AllAlike (ks.map encU)
  s : PySem.W.Sortable (ks.map encU)
/-- in the order of the keys, stably -/
def srtKey (kf : U → U) (ks : List U) : List U := ks.mergeSort (PySem.W.dataLe false fun k => encU (kf k))
section
variable {X : Cx} {pins : List (Addr × Obj)} {τ : L2.St} {H : Hp} {s : Shared}
end
section
variable {X : Cx}
def sortK (m : Bool) (sp : USp) (xs : List U) (M : UHp) (Q : UK) : Prop := ∃ x ks kf, xs = [x] ∧ listU M x = some ks ∧ ks.length ≤ sizeLine ∧ (∀ y ∈ ks, ∀ Q' : UK, Q' (kf y) M → sp [y] M Q' EU0) ∧ SrtA (ks.map kf) ∧ newL m (srtKey kf ks) M Q
def uSortK (m : Bool) (sp : USp) (t : UTA) (σ : USt) (M : UHp) (Q : UK) : Prop := t σ M fun xs M1 => sortK m sp xs M1 Q
end
end PU

set_option Elab.async false
set_option linter.all false
set_option maxRecDepth 100000
/-! UTry: try with several clauses, each with a name or without; for with a body that may raise. -/
namespace L2
open PySem PySem.Spec PyProof.Rows
abbrev HCls := Value × Option Nat × (Addr → Value → Option Addr → TS)
inductive HdsMix (X : Cx) : List ExceptHandler → List HCls → Prop
  | nil : HdsMix X [] []
  | bare {x : Str} {c : Value} {ts : Addr → Value → Option Addr → TS} {b₀ : Stmt} {suite : List Stmt} {np pos' : Pos} {hds : List ExceptHandler} {l : List HCls} (hc : Names X x c)
      (hsu : ∀ (a : Addr) (oe : Obj) (cls : Value) (d : Option Addr) (pn : List (Addr × Obj)), Zc cls d oe → (∃ vs, oe.data = .fields vs) → PSs (X.suite a ((a, oe) :: pn)) (b₀ :: suite) (ts a cls d)) (r : HdsMix X hds l) :
      HdsMix X (.ExceptHandler (some (.Name x np)) none (b₀ :: suite) pos' :: hds) ((c, none, ts) :: l)
  | named {x n : Str} {i : Nat} {c : Value} {ts : Addr → Value → Option Addr → TS} {b₀ : Stmt} {suite : List Stmt} {np pos' : Pos} {hds : List ExceptHandler} {l : List HCls} (hc : Names X x c) (hN : X.N.Nodup) (hi : X.N[i]? = some n) (hln : X.env.kindOf n = some .local)
      (hsu : ∀ (a : Addr) (oe : Obj) (cls : Value) (d : Option Addr) (pn : List (Addr × Obj)), Zc cls d oe → (∃ vs, oe.data = .fields vs) → PSs (X.suite a ((a, oe) :: pn)) (b₀ :: suite) (ts a cls d)) (r : HdsMix X hds l) :
      HdsMix X (.ExceptHandler (some (.Name x np)) (some n) (b₀ :: suite) pos' :: hds) ((c, some i, ts) :: l)
section
variable {X : Cx} {body : List Stmt} {h₀ : ExceptHandler} {hds : List ExceptHandler} {l : List HCls} {pos : Pos} {tb : WX → TS} {Wout : WX}
end
end L2
namespace PU
open PySem PySem.Spec PyProof.Rows L2
abbrev UCls := Value × Option Nat × (Addr → Value → Option Addr → UTS)
/-- what the clauses wish -/
def uMix (ex : Value → Value → Option Bool) (w : UWX) (D : UEnds) : List UCls → UWX
  | [] => w
  | (c, o, u) :: r => fun cls d σ M => ∃ b, ex cls c = some b ∧
      (b = true → ∀ a, M a = none → match o with | none => u a cls d D σ M | some i => u a cls d (asD i D) (σ.set i (some (.ref a))) M) ∧ (b = false → uMix ex w D r cls d σ M)
def xTryM (ex : Value → Value → Option Bool) (l : List UCls) (t : UWX → UTS) (w : UWX) (D : UEnds) (σ : USt) (M : UHp) : Prop := t (uMix ex w D l) D σ M
inductive UHds (X : Cx) (K : PySem.W.Frag) : List ExceptHandler → List UCls → Prop
  | nil : UHds X K [] []
  | bare {x : Str} {c : Value} {u : Addr → Value → Option Addr → UTS} {b₀ : Stmt} {suite : List Stmt} {np pos' : Pos} {hds : List ExceptHandler} {l : List UCls} (hc : Names X x c)
      (hsu : ∀ (a : Addr) (oe : Obj) (cls : Value) (d : Option Addr) (pn : List (Addr × Obj)), Zc cls d oe → (∃ vs, oe.data = .fields vs) → USs (X.suite a ((a, oe) :: pn)) (b₀ :: suite) (u a cls d)) (r : UHds X K hds l) :
      UHds X K (.ExceptHandler (some (.Name x np)) none (b₀ :: suite) pos' :: hds) ((c, none, u) :: l)
  | named {x n : Str} {i : Nat} {c : Value} {u : Addr → Value → Option Addr → UTS} {b₀ : Stmt} {suite : List Stmt} {np pos' : Pos} {hds : List ExceptHandler} {l : List UCls} (hc : Names X x c) (hN : X.N.Nodup) (hi : X.N[i]? = some n) (hln : X.env.kindOf n = some .local)
      (hsu : ∀ (a : Addr) (oe : Obj) (cls : Value) (d : Option Addr) (pn : List (Addr × Obj)), Zc cls d oe → (∃ vs, oe.data = .fields vs) → USs (X.suite a ((a, oe) :: pn)) (b₀ :: suite) (u a cls d)) (r : UHds X K hds l) :
      UHds X K (.ExceptHandler (some (.Name x np)) (some n) (b₀ :: suite) pos' :: hds) ((c, some i, u) :: l)
def dnCls (K : PySem.W.Frag) (q : UCls) : HCls := (q.1, q.2.1, fun a cls d => dnS K (q.2.2 a cls d))
theorem UHds.mix {X : Cx} {hds : List ExceptHandler} {l : List UCls} (h : UHds X X.K hds l) : HdsMix X hds (l.map (dnCls X.K)) := by
  induction h with
  | nil => exact .nil
  | bare hc hsu _ ih => exact .bare hc hsu ih
  | named hc hN hi hln hsu _ ih => exact .named hc hN hi hln hsu ih
section
variable {X : Cx} {W : WX} {pos : Pos}
/-! for, the body may raise -/
def xFor (wi : UTI) (g : UTG) (tb : UWX → UTS) (wx : UWX) : UTS := uFor wi g (tb wx)
end
end PU

set_option Elab.async false
set_option linter.all false
set_option maxRecDepth 100000
/-! UEnum: enumerate, zip as what is walked; < of tuples. -/
namespace PU
open PySem PySem.Spec PyProof.Rows L2 RZ

def enumF : Nat → List U → List U
  | _, [] => []
  | i, x :: r => .tup [.int (i : Nat), x] :: enumF (i + 1) r
def zipF : List U → List U → List U
  | x :: xs, y :: ys => .tup [x, y] :: zipF xs ys
  | _, _ => []
section
variable {K : PySem.W.Frag} {H : Hp}
/-! a walk whose tuples are new pairs, to be taken apart at once -/
end
section
variable {X : Cx} {elt tg iter : Expr} {ifs : List Expr} {scope : Scope} {own : List (Str × Nat)} {pos : Pos} {w : UTI} {ts : List NT} {tt : UTT} {te : UTE}
end
section
variable {K : PySem.W.Frag} {H : Hp}
end
section
variable {X : Cx} {e e2 : Expr} {ta : UTA} {p pos tpos : Pos} {elts : List Expr} {kk : Nat}
def uEnum (ta : UTA) (σ : USt) (M : UHp) (R : UIt → UHp → Prop) : Prop := ta σ M fun us M1 => ∃ x xs, us = [x] ∧ listU M1 x = some xs ∧ xs.length ≤ sizeLine ∧ R ⟨enumF 0 xs, fun M' => listU M' x = some xs⟩ M1
def uZip (ta : UTA) (σ : USt) (M : UHp) (R : UIt → UHp → Prop) : Prop := ta σ M fun us M1 => match us with
  | [.tup xs, .tup ys] => xs.length ≤ sizeLine ∧ R ⟨zipF xs ys, fun _ => True⟩ M1
  | [x, y] => ∃ xs ys, listU M1 x = some xs ∧ listU M1 y = some ys ∧ xs.length ≤ sizeLine ∧ R ⟨zipF xs ys, fun M' => listU M' x = some xs ∧ listU M' y = some ys⟩ M1
  | _ => False
/-! x < y -/
def ltT (x y : U) (M : UHp) (Q : UK) : Prop := isD x = true ∧ isD y = true ∧ dep x ≤ 64 ∧ PySem.W.alike (encU x) (encU y) = true ∧ encU x ≠ .none ∧ Q (.bl (PySem.W.dataLt (encU x) (encU y))) M
end
end PU

set_option Elab.async false
set_option linter.all false
set_option maxRecDepth 100000
/-! UDct: more of dicts with nested tuple keys: len. -/
namespace PU
open PySem PySem.Spec PyProof.Rows L2
section
variable {X : Cx} {φ : DPhi}
def lenN (φ : DPhi) (xs : List U) (M : UHp) (Q : UK) : Prop := match xs with
  | [.ref a] => ∃ kvs, M a = some (.dN φ kvs) ∧ Q (.int (kvs.length : Nat)) M
  | _ => False
end
end PU

set_option Elab.async false
set_option linter.all false
set_option maxRecDepth 100000
/-! UDs: dicts whose keys are texts, over U. -/
namespace PU
open PySem PySem.Spec PyProof.Rows L2

/-! ### tables of pairs -/
def getS (kvs : List (Str × U)) (z : Str) : Option U := (kvs.find? fun p => decide (p.1 = z)).map (·.2)
def putS (kvs : List (Str × U)) (z : Str) (v : U) : List (Str × U) := if (getS kvs z).isSome = true then kvs.map (fun p => if p.1 = z then (p.1, v) else p) else kvs ++ [(z, v)]
def dropS (kvs : List (Str × U)) (z : Str) : List (Str × U) := kvs.filter fun p => decide (p.1 ≠ z)
section
variable {K : PySem.W.Frag} {H : Hp}
end
/-- free, or locked -/
def SOk (φ : List (Key × V) → HO) : Prop := φ = HO.dK ∨ ∃ o, φ = fun vs => .frz o (.dK vs)
theorem SOk.rd {φ : List (Key × V) → HO} (h : SOk φ) {H : Hp} {a : Addr} {vs : List (Key × V)} (e : H a = some (φ vs)) : Rd H a (.dK vs) := by
  rcases h with rfl | ⟨o, rfl⟩
  · exact .inl e
  · exact .inr ⟨o, e⟩
section
variable {X : Cx} {o i e f : Expr} {pos apos cpos : Pos} {td ty : UTE}
/-- {} -/
def uDNewS (_ : USt) (M : UHp) (Q : UK) : Prop := ∀ p, M p = none → Q (.ref p) (updM M p (.sD HO.dK []))
/-- d[k] = v -/
def setS (o i v : U) (M : UHp) (Q : UHp → Prop) : Prop := ∃ a kvs z, o = .ref a ∧ i = .str z ∧ M a = some (.sD HO.dK kvs) ∧ kvs.length < sizeLine ∧ Q (updM M a (.sD HO.dK (putS kvs z v)))
/-- d[k] -/
def uDGetS (td ty : UTE) (σ : USt) (M : UHp) (Q : UK) : Prop := td σ M fun o M1 => ty σ M1 fun y M2 => ∃ a φ kvs z v, o = .ref a ∧ y = .str z ∧ M2 a = some (.sD φ kvs) ∧ SOk φ ∧ getS kvs z = some v ∧ Q v M2
/-- k in d, k not in d -/
def inS (neg : Bool) (y o : U) (M : UHp) (Q : UK) : Prop := ∃ a φ kvs z, o = .ref a ∧ y = .str z ∧ M a = some (.sD φ kvs) ∧ SOk φ ∧ Q (.bl (if neg = true then !(getS kvs z).isSome else (getS kvs z).isSome)) M
/-! ### methods of dicts -/
def isDm (φ : DPhi) (M : UHp) (x : U) : Prop := ∃ a, x = .ref a ∧ ((∃ ψ kvs, M a = some (.sD ψ kvs) ∧ SOk ψ) ∨ ∃ kvs, M a = some (.dN φ kvs))
def uDm (φ : DPhi) (r : U → List U → UHp → UK → Prop) (to : UTE) (t : UTA) (σ : USt) (M : UHp) (Q : UK) : Prop := to σ M fun x M1 => isDm φ M1 x ∧ t σ M1 fun xs M2 => r x xs M2 Q
def getR (x : U) (xs : List U) (M : UHp) (Q : UK) : Prop := ∃ a φ kvs z, x = .ref a ∧ M a = some (.sD φ kvs) ∧ SOk φ ∧ ((xs = [.str z] ∧ Q ((getS kvs z).getD .non) M) ∨ ∃ d, xs = [.str z, d] ∧ Q ((getS kvs z).getD d) M)
def popS (x : U) (xs : List U) (M : UHp) (Q : UK) : Prop := ∃ a kvs z d, x = .ref a ∧ M a = some (.sD HO.dK kvs) ∧ xs = [.str z, d] ∧ (∀ v, getS kvs z = some v → Q v (updM M a (.sD HO.dK (dropS kvs z)))) ∧ (getS kvs z = none → Q d M)
def setdS (x : U) (xs : List U) (M : UHp) (Q : UK) : Prop := ∃ a kvs z d, x = .ref a ∧ M a = some (.sD HO.dK kvs) ∧ xs = [.str z, d] ∧ kvs.length < sizeLine ∧ (∀ v, getS kvs z = some v → Q v M) ∧ (getS kvs z = none → Q d (updM M a (.sD HO.dK (putS kvs z d))))
/-- len(d) -/
def lenS (xs : List U) (M : UHp) (Q : UK) : Prop := ∃ a φ kvs, xs = [.ref a] ∧ M a = some (.sD φ kvs) ∧ SOk φ ∧ Q (.int (kvs.length : Nat)) M
end
end PU

set_option Elab.async false
set_option linter.all false
set_option maxRecDepth 100000
/-! UDw: dict(pairs), with text keys and with tuple keys; methods of dicts with tuple keys. -/
namespace PU
open PySem PySem.Spec PyProof.Rows L2

def pairsU : List U → Option (List (Str × U))
  | [] => some []
  | .tup [.str z, v] :: r => (pairsU r).map ((z, v) :: ·)
  | _ => none
def mergeS (kvs more : List (Str × U)) : List (Str × U) := more.foldl (fun acc p => putS acc p.1 p.2) kvs
section
variable {K : PySem.W.Frag} {H : Hp}
/-- a tuple of references has no dict -/
theorem SqX.d {a : Addr} {as : List Addr} (h : SqX K H a (as.map V.ref)) : SqD K H a (as.map V.ref) := by
  rcases h with h | ⟨_, h⟩
  · exact h
  · cases as with
    | nil => cases h
    | cons b r => cases h
end
section
variable {X : Cx} {pins : List (Addr × Obj)} {τ : L2.St} {H : Hp} {s : Shared}
/-- dict(xs), xs pairs with texts -/
def dictS (xs : List U) (M : UHp) (Q : UK) : Prop := ∃ x ps kvs, xs = [x] ∧ (x = .tup ps ∨ listU M x = some ps) ∧ pairsU ps = some kvs ∧ ∀ p, M p = none → Q (.ref p) (updM M p (.sD HO.dK (mergeS [] kvs)))
end
end PU

set_option Elab.async false
set_option linter.all false
set_option maxRecDepth 100000
/-! UDm: methods of dicts with tuple keys: get, setdefault, pop; locked dicts of both kinds. -/
namespace PU
open PySem PySem.Spec PyProof.Rows L2

def dropN (kvs : List (U × U)) (k : U) : List (U × U) := kvs.filter fun kv => decide (nkU kv.1 ≠ nkU k)
section
variable {X : Cx} {φ : DPhi}
theorem RelY.drop {K : PySem.W.Frag} {H : Hp} {kvs : List (U × U)} {ys : NYs} (h : RelY K H kvs ys) {k : U} {nk : NestedKey} (e : nkU k = some nk) : RelY K H (dropN kvs k) (withoutH ys nk) := by
  induction h with
  | nil => exact .nil
  | @cons k' x nk' b v u r ys h1 h2 h3 h4 h5 _ ih =>
    unfold dropN withoutH at ih ⊢
    by_cases hk : nk' = nk
    · subst hk
      have e1 : nkU k' = nkU k := h1.trans e.symm
      simp only [List.filter_cons,e1,ne_eq,not_true_eq_false,decide_false,Bool.false_eq_true,if_false]
      simpa using ih
    · have e1 : ¬ nkU k' = nkU k := by rw [h1, e]; exact fun z => hk (Option.some.inj z)
      simp only [List.filter_cons,e1,ne_eq,not_false_eq_true,decide_true,if_true]
      simp only [hk,decide_true,decide_false,not_false_eq_true,ne_eq,if_true,if_false,Bool.not_false]
      exact .cons h1 h2 h3 h4 h5 ih
/-- d.get(k), d.get(k, x) -/
def getNR (φ : DPhi) (x : U) (us : List U) (M : UHp) (Q : UK) : Prop := ∃ a kvs ks, x = .ref a ∧ M a = some (.dN φ kvs) ∧ kOk (.tup ks) ∧ ((us = [.tup ks] ∧ Q ((getN kvs (.tup ks)).getD .non) M) ∨ ∃ d, us = [.tup ks, d] ∧ Q ((getN kvs (.tup ks)).getD d) M)
/-- d.setdefault(k, x) -/
def setdN (φ : DPhi) (x : U) (us : List U) (M : UHp) (Q : UK) : Prop := ∃ a kvs ks d, x = .ref a ∧ M a = some (.dN φ kvs) ∧ kOk (.tup ks) ∧ us = [.tup ks, d] ∧ kvs.length < sizeLine ∧ (∀ v, getN kvs (.tup ks) = some v → Q v M) ∧ (getN kvs (.tup ks) = none → Q d (updM M a (.dN φ (putN kvs (.tup ks) d))))
/-- d.pop(k), d.pop(k, x), the key there; d.pop(k, x), not there -/
def popNR (φ : DPhi) (x : U) (us : List U) (M : UHp) (Q : UK) : Prop := ∃ a kvs ks, x = .ref a ∧ M a = some (.dN φ kvs) ∧ kOk (.tup ks) ∧ ∃ v, us = [.tup ks] ∧ getN kvs (.tup ks) = some v ∧ Q v (updM M a (.dN φ (dropN kvs (.tup ks))))
end
end PU

set_option Elab.async false
set_option linter.all false
set_option maxRecDepth 100000
/-! UIn: instances of own classes over U: C(..), o.f, o.f = e. -/
namespace PU
open PySem PySem.Spec PyProof.Rows L2

def putFU (f : Str) (y : U) : List (Str × U) → List (Str × U)
  | [] => [(f, y)]
  | (g, x) :: r => if g = f then (g, y) :: r else (g, x) :: putFU f y r
section
variable {X : Cx} {o e : Expr} {es : List Expr} {ta te : UTE} {f : Str} {p pos pos' : Pos}
/-- o.f -/
def uFld (K : PySem.W.Frag) (ta : UTE) (f : Str) (σ : USt) (M : UHp) (Q : UK) : Prop := ta σ M fun x M1 => ∃ a C dx fs v, x = .ref a ∧ M1 a = some (.ins C dx fs) ∧ Cls K C ∧ NoAttr K C f ∧ fs.lookup f = some v ∧ Q v M1
/-- o.f = e -/
def uFst (K : PySem.W.Frag) (f : Str) (to te : UTE) (D : UEnds) (σ : USt) (M : UHp) : Prop := te σ M fun y M1 => to σ M1 fun x M2 => ∃ a C dx fs, x = .ref a ∧ M2 a = some (.ins C dx fs) ∧ Cls K C ∧ NoAttr K C f ∧ fs.length < 1000 ∧ D.nx σ (updM M2 a (.ins C dx (putFU f y fs)))
/-- C(e, ..) -/
def uMake (C : Addr) (sp : USp) (t : UTA) (σ : USt) (M : UHp) (Q : UK) : Prop := t σ M fun us M1 => ∀ x dx, M1 x = none → M1 dx = none → dx ≠ x → sp (.ref x :: us) (updM M1 x (.ins C dx [])) (fun v M2 => v = .non ∧ Q (.ref x) M2) EU0
end
end PU

set_option Elab.async false
set_option linter.all false
set_option maxRecDepth 100000
/-! ULk: a dict that stays as it is while it is walked; the walk of its keys. -/
namespace PU
open PySem PySem.Spec PyProof.Rows L2

section
variable {K : PySem.W.Frag} {H H' : Hp}
end
/-- no tuple, no list, nothing frozen -/
def Plain (u : HO) : Prop := (∀ xs, u ≠ .tup xs) ∧ (∀ xs, u ≠ .lst xs) ∧ (∀ o w, u ≠ .frz o w) ∧ ∀ x, u ≠ .own x
/-- what is known of a thing at mo stays known while it is locked -/
structure LockOk (K : PySem.W.Frag) (mo : MO) (ml : Obj → MO) : Prop where
  ok : ∀ H d, RelO K H d mo → ∃ u, H d = some u ∧ Mut (some u) ∧ Plain u ∧ ∀ H'', Stab H H'' → (H'' d = some u → RelO K H'' d mo) ∧ ∀ od, H'' d = some (.frz od u) → RelO K H'' d (ml od)
def lkS (od : Obj) : List (Key × V) → HO := fun vs => .frz od (.dK vs)
def lkN (od : Obj) (φ : DPhi) : DPhi := fun a vs => .frz od (φ a vs)
def unlD (d : Addr) (mo : MO) (D : UEnds) : UEnds := ⟨fun σ M => D.nx σ (updM M d mo), fun v M => D.rt v (updM M d mo), fun σ M => D.bk σ (updM M d mo), fun σ M => D.ct σ (updM M d mo)⟩
section
variable {K : PySem.W.Frag} {H H' : Hp} {d : Addr} {u : HO} {od : Obj}
end
section
variable {X : Cx}
def uLock (K : PySem.W.Frag) (t : UTS) (D : UEnds) (σ : USt) (M : UHp) : Prop := ∃ d mo ml, LockOk K mo ml ∧ M d = some mo ∧ ∀ od, t (unlD d mo D) σ (updM M d (ml od))
def uLockE (K : PySem.W.Frag) (t : UTE) (σ : USt) (M : UHp) (Q : UK) : Prop := ∃ d mo ml, LockOk K mo ml ∧ M d = some mo ∧ ∀ od, t σ (updM M d (ml od)) fun v M' => Q v (updM M' d mo)
end
/-! ### the walk over the keys -/
section
variable {X : Cx} {pins : List (Addr × Obj)} {τ : L2.St} {H : Hp} {s : Shared} {d : Addr} {o : Obj}
end
section
variable {X : Cx} {tg e : Expr} {td : UTE} {φ : DPhi}
def uKeys (φ : DPhi) (td : UTE) (σ : USt) (M : UHp) (R : UIt → UHp → Prop) : Prop := td σ M fun x M1 => ∃ d od, x = .ref d ∧
  ((∃ kvs, M1 d = some (.sD (lkS od) kvs) ∧ (∀ p ∈ kvs, okS p.1 = true) ∧ R ⟨kvs.map fun p => .str p.1, fun _ => True⟩ M1) ∨ ∃ kvs, M1 d = some (.dN (lkN od φ) kvs) ∧ R ⟨kvs.map (·.1), fun _ => True⟩ M1)
end
end PU

set_option Elab.async false
set_option linter.all false
set_option maxRecDepth 100000
/-! UDc: dict comprehensions over U, text keys and tuple keys. -/
namespace PU
open PySem PySem.Spec PyProof.Rows L2

section
variable {X : Cx} {kx vx tg iter : Expr} {ifs : List Expr} {scope : Scope} {own : List (Str × Nat)} {pos : Pos} {wi : TI} {g : TG} {tt : TT} {tk tv : TE} {u0 : Addr → HO} {St : Addr → V → V → Hp → (Hp → Prop) → Prop}
end
/-! ### over U: tuple keys -/
section
variable {X : Cx} {kx vx tg iter : Expr} {ifs : List Expr} {scope : Scope} {own : List (Str × Nat)} {pos : Pos} {w : UTI} {n : NT} {tt : UTT} {tk tv : UTE} {φ : DPhi}
end
/-! ### text keys -/
section
variable {X : Cx} {kx vx tg iter : Expr} {ifs : List Expr} {scope : Scope} {own : List (Str × Nat)} {pos : Pos} {w : UTI} {n : NT} {tt : UTT} {tk tv : UTE}
end
end PU

set_option Elab.async false
set_option linter.all false
set_option maxRecDepth 100000
/-! USit: sorted(d.items()), d with text keys: by the texts alone. -/
namespace PU
open PySem PySem.Spec PyProof.Rows L2

def nmU : U → Str
  | .tup (.str z :: _) => z
  | _ => ⟨#[]⟩
def prU (p : Str × U) : U := .tup [.str p.1, p.2]
def itLe : U → U → Bool := PySem.W.dataLe false fun p => .str (nmU p)
/-- the pairs, by their texts -/
def itemsU (kvs : List (Str × U)) : List U := (kvs.map prU).mergeSort itLe
/-! ### the kind of these keys -/
/-- a pair with a text -/
def PairOf (h : Heap) (v : Value) (z : Str) : Prop := ∃ (a : Addr) (t : Tok) (x : Value) (o : Obj) (n : Nat), v = .ref a ∧ h.get? a = some o ∧ o.cls = .type "tuple" ∧ o.data = .seq #[.str z t, x] n
section
variable {prog : Program} {w : World} {A : Around} {s : Shared} {us : List Value} {zs : List Str}
end
/-! ### tuples already laid are tracked, with their objects -/
/-! ### the sort -/
section
variable {X : Cx} {pins : List (Addr × Obj)} {τ : L2.St} {H : Hp} {s : Shared}
end
/-! ### d.items(), and its sort -/
section
variable {X : Cx} {o : Expr} {apos cpos : Pos}
def itemsR (x : U) (xs : List U) (M : UHp) (Q : UK) : Prop := ∃ a φ kvs, x = .ref a ∧ xs = [] ∧ M a = some (.sD φ kvs) ∧ SOk φ ∧ ∀ p, M p = none → Q (.ref p) (updM M p (.raw (DX.itemsO p a)))
def uDm0 (φ : DPhi) (r : U → List U → UHp → UK → Prop) (to : UTE) (σ : USt) (M : UHp) (Q : UK) : Prop := to σ M fun x M1 => isDm φ M1 x ∧ r x [] M1 Q
/-- a pair laid for an entry -/
def ItP (K : PySem.W.Frag) (H : Hp) (h' : Heap) (e : Addr × List V × Obj) (q : Str × U) : Prop :=
  ∃ v t u, e.2.1 = [.str q.1, v] ∧ RelU K H q.2 v ∧ RelV v u ∧ h'.get? e.1 = some e.2.2 ∧ e.2.2 = { cls := .type "tuple", data := .seq #[.str q.1 t, u] }
theorem ItP.pair {K : PySem.W.Frag} {H : Hp} {h' : Heap} {e : Addr × List V × Obj} {q : Str × U} (h : ItP K H h' e q) : PairOf h' (.ref e.1) q.1 := by
  obtain ⟨v, t, u, h1, h2, h3, h4, h5⟩ := h
  rw [h5] at h4
  exact ⟨e.1, t, u, _, 0, rfl, h4, rfl, rfl⟩
def sortItR (m : Bool) (xs : List U) (M : UHp) (Q : UK) : Prop := ∃ p a φ kvs, xs = [.ref p] ∧ M p = some (.raw (DX.itemsO p a)) ∧ M a = some (.sD φ kvs) ∧ SOk φ ∧ (∀ q ∈ kvs, okS q.1 = true) ∧ newL m (itemsU kvs) M Q
end
end PU

set_option Elab.async false
set_option linter.all false
set_option maxRecDepth 100000
/-! USrtE: sorted, of tuples of which the first one is empty. -/
namespace PU
open PySem PySem.Spec PyProof.Rows L2 PySem.W
section
variable {prog : Program} {w : World} {A : Around} {E : Value → Shared → Prop} {s : Shared}
end
/-- tuples that can be compared, the first one empty -/
structure SrtE (ks : List U) : Prop where
  d : ∀ k ∈ ks, isD k = true ∧ dep k ≤ 100
  t : ∀ k ∈ ks, ∃ xs, k = .tup xs
  a : ∀ a ∈ ks, ∀ b ∈ ks, PySem.W.alike (encU a) (encU b) = true
  h : ks.head? = some (.tup [])
theorem SrtE.alike {ks : List U} (h : SrtE ks) : PySem.W.AllAlike (ks.map encU) := fun d hd d' hd' => by
  obtain ⟨a, ha, rfl⟩ := List.mem_map.mp hd
  obtain ⟨b, hb, rfl⟩ := List.mem_map.mp hd'
  exact h.a a ha b hb
theorem SrtE.tups {ks : List U} (h : SrtE ks) : ∀ d ∈ ks.map encU, ∃ xs, d = PyData.tuple xs := fun d hd => by
  obtain ⟨k, hk, rfl⟩ := List.mem_map.mp hd
  obtain ⟨xs, rfl⟩ := h.t k hk
  have h1 := encU_of (h.d _ hk).1
  simp only [toD] at h1
  cases e1 : toDs xs with
  | none => rw [e1] at h1; cases h1
  | some ds => rw [e1] at h1; exact ⟨ds, (Option.some.inj h1).symm⟩
theorem SrtE.first {ks : List U} (h : SrtE ks) : (ks.map encU).head? = some (.tuple []) := by
  rw [List.head?_map, h.h]; rfl
section
variable {X : Cx} {pins : List (Addr × Obj)} {τ : L2.St} {H : Hp} {s : Shared}
end
section
variable {X : Cx} {φ : DPhi}
def sortE (φ : DPhi) (m : Bool) (xs : List U) (M : UHp) (Q : UK) : Prop := match xs with
  | [.ref a] => ∃ kvs, M a = some (.dN φ kvs) ∧ SrtE (kvs.map (·.1)) ∧ newL m (srtU (kvs.map (·.1))) M Q
  | _ => False
end
end PU

set_option Elab.async false
set_option linter.all false
set_option maxRecDepth 100000
/-! USrtL: sorted, of a list of tuples, none empty, that can be compared with one another. -/
namespace PU
open PySem PySem.Spec PyProof.Rows L2
section
variable {X : Cx}
def sortL (m : Bool) (xs : List U) (M : UHp) (Q : UK) : Prop := ∃ x ks, xs = [x] ∧ listU M x = some ks ∧ ks.length ≤ sizeLine ∧ SrtA ks ∧ newL m (srtU ks) M Q
end
/-! e[i], where e may raise -/
section
variable {X : Cx} {W : WX} {pos : Pos}
def xOp (r : UR2) (ta tb : UWX → UTE) (w : UWX) : UTE := uOp r (ta w) (tb w)
end
end PU

set_option Elab.async false
set_option linter.all false
set_option maxRecDepth 100000
/-! UReT: repr of a tuple in which lists stand by address; list of a dict with tuple keys. -/
namespace PU
open PySem PySem.Spec PyProof.Rows L2
/-- a value, lists by address also one step inside a tuple -/
def valT (M : UHp) : U → U
  | .tup xs => .tup (xs.map (val M))
  | .lst xs => .lst (xs.map (val M))
  | x => val M x
theorem dps_val {K : PySem.W.Frag} {H : Hp} {M : UHp} (rm : RelM K H M) : ∀ (xs : List U) (vs : List V) (ds : List PyData), RelUs K H xs vs → toDs (xs.map (val M)) = some ds → DpAll K H vs ds
  | [], _, _, r, h => by obtain rfl := r; simp [toDs] at h; subst h; exact .nil
  | x :: xs, vs, ds, r, h => by
    simp only [List.map_cons,toDs] at h
    obtain ⟨v, w, rfl, r1, r2⟩ := r
    cases e : toD (val M x) <;> cases e2 : toDs (xs.map (val M)) <;> rw [e, e2] at h <;> simp at h
    subst h
    exact .cons (dp_val rm r1 e) (dps_val rm xs w _ r2 e2)
theorem dp_valT {K : PySem.W.Frag} {H : Hp} {M : UHp} {x : U} {v : V} {d : PyData} (rm : RelM K H M) (r : RelU K H x v) (h : toD (valT M x) = some d) : Dp K H v d := by
  cases x with
  | tup xs =>
    simp only [valT,toD,Option.map_eq_some_iff] at h
    obtain ⟨ds, e, rfl⟩ := h
    obtain ⟨a, vs, rfl, q, t⟩ := r
    exact .tup q (dps_val rm xs vs ds t e)
  | lst xs =>
    simp only [valT,toD,Option.map_eq_some_iff] at h
    obtain ⟨ds, e, rfl⟩ := h
    obtain ⟨a, vs, rfl, q, t⟩ := r
    exact .lst q.sq (dps_val rm xs vs ds t e)
  | _ => exact dp_val rm r h
def reprT (xs : List U) (M : UHp) (Q : UK) : Prop := match xs with
  | [x] => okR (valT M x) ∧ Q (.str (rep (valT M x))) M
  | _ => False
theorem reprT_1 {M : UHp} {Q : UK} {x : U} : reprT [x] M Q = (okR (valT M x) ∧ Q (.str (rep (valT M x))) M) := rfl
section
variable {X : Cx}
theorem uc_reprT (hg : X.A.guards = some []) (hu : X.A.units + 200 < cLine) : CallR X (.builtin "repr") (dnC X.K reprT) := by
  intro pins s σ H vs us Q I rv h
  obtain ⟨xs, M, Qu, r, rm, q, up⟩ := h
  unfold reprT at q
  split at q
  · rename_i x
    obtain ⟨v, w, rfl, r1, rfl⟩ := r
    obtain ⟨u, rfl, ru⟩ := vals1 rv
    obtain ⟨ok, q⟩ := q
    have oks := rep_ok ok
    obtain ⟨h1, h2, h3, h4⟩ := ok
    obtain ⟨d, e, cl⟩ := toD_some _ h1
    have er : rep (valT M x) = d.shown := by unfold rep; rw [e]
    have hd := dep_toD _ _ e
    have hz : d.shown.length ≤ sizeLine := by rw [← er]; exact okS.len oks
    obtain ⟨as, rd⟩ := Dp.reads I d v u (dp_valT rm r1 e) ru
    have fin := up _ _ (.str (rep (valT M x))) H q (Stab.refl H) rm ⟨rfl, oks⟩
    have hs := shw_toD _ _ e h2
    rw [er] at fin
    cases d with
    | none =>
      cases rd
      exact PySem.P.repr_of_none (by simp only [PyData.shown] at fin; exact ⟨.str "None", H, I.tok _, ⟨_, rfl⟩, fin⟩)
    | bool b =>
      cases rd
      exact PySem.P.repr_of_bool (by simp only [PyData.shown] at fin; exact ⟨.str _, H, I.tok _, ⟨_, rfl⟩, fin⟩)
    | int i =>
      cases rd
      exact PySem.P.repr_of_int (by simpa [PyData.showable] using hs) (by simp only [PyData.shown] at fin; exact ⟨.str _, H, I.tok _, ⟨_, rfl⟩, fin⟩)
    | str z =>
      cases rd
      exact PySem.P.repr_of_str (by simp only [PyData.shown] at fin; exact ⟨.str _, H, I.tok _, ⟨_, rfl⟩, fin⟩) (by simpa only [PyData.shown] using hz)
    | list ds =>
      have : ∃ a, u = .ref a := by cases rd; exact ⟨_, rfl⟩
      obtain ⟨a, rfl⟩ := this
      exact repr_of_reads' rd hs (PyData.noDict_hsm (noDict_of_canLay cl)) hg (by omega) (fun _ _ e => e) (fun h' u' tk hk => ⟨.str _, H, I.kept hk, ⟨_, rfl⟩, fin⟩) hz
    | tuple ds =>
      have : ∃ a, u = .ref a := by cases rd; exact ⟨_, rfl⟩
      obtain ⟨a, rfl⟩ := this
      exact repr_of_reads' rd hs (PyData.noDict_hsm (noDict_of_canLay cl)) hg (by omega) (fun _ _ e => e) (fun h' u' tk hk => ⟨.str _, H, I.kept hk, ⟨_, rfl⟩, fin⟩) hz
    | dict kvs => simp [PyData.canLay0] at cl
  · exact q.elim
end
section
variable {X : Cx} {φ : DPhi}
/-- list(d) -/
def listN (φ : DPhi) (m : Bool) (xs : List U) (M : UHp) (Q : UK) : Prop := ∃ a kvs, xs = [.ref a] ∧ M a = some (.dN φ kvs) ∧ newL m (kvs.map fun q => q.1) M Q
end
end PU

set_option Elab.async false
set_option linter.all false
set_option maxRecDepth 100000
/-! UIsE: isinstance of a caught error without fields. -/
namespace PU
open PySem PySem.Spec PyProof.Rows L2
/-- a class as a value -/
def clsV : U → Option Value
  | .ref a => some (.ref a)
  | .ty n => some (.type n)
  | _ => none
theorem clsV_eq {K : PySem.W.Frag} {H : Hp} {c : U} {cv : Value} {v : V} {u : Value} (h : clsV c = some cv) (r : RelU K H c v) (k : RelV v u) : u = cv := by
  cases c with
  | ref a => cases h; obtain rfl := r; exact k
  | ty n => cases h; obtain rfl := r; exact k
  | _ => cases h
theorem ue_gref {X : Cx} {x : Str} {C : Addr} {pos : Pos} (hg : Gl X x) (hm : X.mg x = some (.ref C)) (hd : (x == ("__debug__" : Str)) = false := by decide) : UE X (.Name x pos) (uC (.ref C)) := ue_glob (v := .ref C) hg hm rfl (fun _ => rfl) hd
theorem bt_ValueError : bootBuiltins "ValueError" = some (.type "ValueError") := by decide +kernel
end PU

set_option Elab.async false
set_option linter.all false
set_option maxRecDepth 100000
/-! UExV: errors as values: made by position, their fields read, asked for their classes. -/
namespace PU
open PySem PySem.Spec PyProof.Rows L2
section
variable {X : Cx} {o e : Expr} {es : List Expr} {to te : UTE} {ta : UTA} {f : Str} {p p' p1 p2 pos : Pos}
theorem val_keep {M M' : UHp} {x : U} (h : isD (val M x) = true) (k : ∀ b xs, M b = some (.lst xs) → M' b = some (.lst xs)) : val M' x = val M x := by
  cases x with
  | ref a =>
    cases e : M a with
    | none => exfalso; simp [val, e, isD] at h
    | some o =>
      cases o with
      | lst xs => simp only [val,e,k a xs e]
      | _ => exfalso; simp [val, e, isD] at h
  | _ => rfl
/-- the promise of an __init__: mk says which fields come of which arguments -/
def spFV (C : Addr) (mk : UHp → List U → List (Str × U) → Prop) : USp := fun us M Q _ => ∃ a xs fs, us = .ref a :: xs ∧ mk M xs fs ∧ M a = some (.raw (exo a C none)) ∧ ∀ dx, M dx = none → dx ≠ a → Q .non (updM (updM M dx (.exd fs)) a (.raw (exo a C (some dx))))
/-- C(e, ..), held as a value -/
def uMkV (C : Addr) (mk : UHp → List U → List (Str × U) → Prop) (ta : UTA) (σ : USt) (M : UHp) (Q : UK) : Prop := ta σ M fun us M1 => us.length ≤ 1000 ∧ ∃ fs, mk M1 us fs ∧ ∀ a dx, M1 a = none → M1 dx = none → dx ≠ a → Q (.ref a) (updM (updM M1 dx (.exd fs)) a (.raw (exo a C (some dx))))
theorem ue_mkv {x : Str} {C fI : Addr} {k : Nat} {fd : FuncData} {ps : List Str} {mk : UHp → List U → List (Str × U) → Prop} (T : OexC X.K C) (iC : PySem.W.findIn X.K (.ref C) "__init__" = some (some (.ref fI))) (tI : PySem.W.typeIn X.K (.ref fI) = some (.type "function"))
    (F1 : UFn X.prog X.w X.K X.mg X.base CX0 k fI fd ps (spFV C mk)) (mono : ∀ M M' us fs, (∀ b o, M b = some o → M' b = some o) → mk M us fs → mk M' us fs) (hr : Room (k + 1) X.A) (hG : X.A.guards = some []) (hb : Binds X.K fd ps []) (hg : Gl X x) (hm : X.mg x = some (.ref C)) (ha : UA X (e :: es) ta)
    (hdb : (x == ("__debug__" : Str)) = false := by decide) (he : starEach (e :: es) X.env = (false, eval e X.env) :: starEach es X.env := by rfl) (hpl : (backTo pos (starEach es X.env)).any (·.1) = false := by rfl) :
    UE X (.Call (.Name x p) (e :: es) [] pos) (uMkV C mk ta) := by
  refine ⟨fun pins s τ H Q I h => ?_⟩
  obtain ⟨σ, M, Qu, rs, rm, q0, up⟩ := h
  obtain ⟨nm, q, N, bs, bm, sn, sub, ab, col, dd, k0, k1, k2, k3, k5, hC, hbm⟩ := T.cls
  refine wpAny_Call_Name_kw (ld_glob I hg hm ?_ hdb)
  refine PySem.W.callWith_K (h₀ := X.base) I.ok.mod.kin T.kC (thn (ha.run pos pins s τ H (fun vs H1 => ∃ us M1, RelUs X.K H1 us vs ∧ RelM X.K H1 M1 ∧ Stab H H1 ∧ us.length ≤ 1000 ∧ ∃ fs, mk M1 us fs ∧ ∀ a dx, M1 a = none → M1 dx = none → dx ≠ a → Qu (.ref a) (updM (updM M1 dx (.exd fs)) a (.raw (exo a C (some dx))))) I
    ⟨σ, M, _, rs, rm, q0, fun us M1 vs H1 q1 s1 m1 r1 => ⟨us, M1, r1, m1, s1, q1⟩⟩) fun us s1 ⟨vs, H1, I1, r1, uu, M1, ru, m1, st1, hz, fs, hmk, q1⟩ => ⟨I1.kIn, ?_⟩) he hpl
  show wpAny _ _ (call (.ref C) us) _ _ _
  obtain ⟨hp, g, dr, tk, os⟩ := s1
  have hsz : hp.objs.size ≤ hp.objs.size + 1 := Nat.le_succ _
  have hn : H1 (hp.objs.size + 1) = none := I1.hok.fresh hsz
  generalize ea' : hp.objs.size + 1 = a at hn hsz
  have kk : ∀ b o, hp.get? b = some o → ((hp.push (PySem.W.kdv_tup us)).push (PySem.HandSPX.excO C hp.objs.size)).get? b = some o := fun b o e => Heap.get?_push_of_some _ (Heap.get?_push_of_some _ e)
  have hget : ((hp.push (PySem.W.kdv_tup us)).push (PySem.HandSPX.excO C hp.objs.size)).get? a = some (PySem.HandSPX.excO C hp.objs.size) := by rw [← ea']; heap_get
  have I2 : Inv X pins τ (upd H1 a (exo a C none)) ⟨(hp.push (PySem.W.kdv_tup us)).push (PySem.HandSPX.excO C hp.objs.size), g, dr, tk, os⟩ :=
    I1.laid (t' := tk) (a := a) (o := exo a C none) (h' := (hp.push (PySem.W.kdv_tup us)).push (PySem.HandSPX.excO C hp.objs.size)) kk hsz (exo_ok hget)
  have r2 : Vals (V.ref a :: vs) (Value.ref a :: us) := .cons rfl r1
  -- what is known of H1, all of it
  let N : UHp := fun b => match M1 b with | some o => some o | none => (H1 b).map .raw
  have nN : ∀ b, N b = none → H1 b = none := fun b z => by
    simp only [N] at z
    cases e1 : M1 b with
    | some o => rw [e1] at z; cases z
    | none => rw [e1] at z; simpa using z
  have nM : ∀ b o, M1 b = some o → N b = some o := fun b o z => by simp only [N,z]
  have rN : RelM X.K H1 N := fun b o z => by
    simp only [N] at z
    cases e1 : M1 b with
    | some o1 => rw [e1] at z; cases z; exact m1 b _ e1
    | none =>
      rw [e1] at z
      cases e2 : H1 b with
      | none => rw [e2] at z; cases z
      | some u => rw [e2] at z; cases z; exact e2
  have na : N a = none := rN.none hn
  have sa : Stab H1 (upd H1 a (exo a C none)) := Stab.new hn
  have rN2 : RelM X.K (upd H1 a (exo a C none)) (updM N a (.raw (exo a C none))) := rN.write sa upd_same
  have hmk2 : ∀ o, mk (updM N a o) uu fs := fun o => mono M1 _ uu fs (fun b u z => by
    have hb : b ≠ a := fun e => by rw [e, m1.none hn] at z; cases z
    rw [updM_ne hb]; exact nM b u z) hmk
  have hl : (Value.ref a :: us).length = ps.length := by
    have e := F1.len (.ref a :: uu) (updM N a (.raw (exo a C none))) (fun _ _ => True) EU0 ⟨a, uu, fs, rfl, hmk2 _, updM_same, fun _ _ _ => True.intro⟩
    rw [← e, List.length_cons, List.length_cons, ru.length, Paired.length r1]
  have hus : us.length ≤ sizeLine := by
    rw [← Paired.length r1, ← ru.length, sizeLine_eq]
    omega
  have hgo := fun (A : Around) (hrA : Room k A) (hGA : A.guards = some []) (e0A) (Q' : VK) (hq) => F1.go A X.stack ⟨(hp.push (PySem.W.kdv_tup us)).push (PySem.HandSPX.excO C hp.objs.size), g, dr, tk, os⟩ (upd H1 a (exo a C none)) ⟨Value.ref a :: us, []⟩ (Value.ref a :: us) (V.ref a :: vs) Q' (fun _ _ _ => False) hrA hGA e0A
    (by have z := hb ⟨(hp.push (PySem.W.kdv_tup us)).push (PySem.HandSPX.excO C hp.objs.size), g, dr, tk, os⟩ (Value.ref a :: us) I2.kIn (by simpa using hl); simpa using z) r2 hq
  refine wpAny_call (PySem.HandSPX.call_own F.excBase_ValueError (fun Y => PySem.HandSPX.refsVE_contains Y bm hbm) (I1.kIn _ _ hC) (PySem.W.looks_findIn I1.kIn iC) (fun self => PySem.W.bind_fn I1.kIn self tI) hus ?_)
  subst ea'
  refine (codeAny_mono (hgo _ (hr.make C us []) hG (I2.env0.make C us []) (fun v H2 => v = .non ∧ Q (.ref (hp.objs.size + 1)) H2) ?_) fun r s' hq' => ?_)
  · refine ⟨.ref (hp.objs.size + 1) :: uu, updM N (hp.objs.size + 1) (.raw (exo (hp.objs.size + 1) C none)), fun v M2 => v = .non ∧ ∃ dx, N dx = none ∧ dx ≠ (hp.objs.size + 1) ∧ M2 = updM (updM (updM N (hp.objs.size + 1) (.raw (exo (hp.objs.size + 1) C none))) dx (.exd fs)) (hp.objs.size + 1) (.raw (exo (hp.objs.size + 1) C (some dx))), EU0, RelUs.cons rfl (ru.stab sa), rN2,
      ⟨_, uu, fs, rfl, hmk2 _, updM_same, fun dx h1 h2 => ⟨rfl, dx, by rw [updM_ne h2] at h1; exact h1, h2, rfl⟩⟩, fun v M2 u H2 qz s2 m2 r3 => ?_, fun _ _ _ _ z _ _ => z.elim⟩
    obtain ⟨rfl, dx, hdx, ne, rfl⟩ := qz
    have e1 : H2 (hp.objs.size + 1) = some (exo (hp.objs.size + 1) C (some dx)) := m2 _ _ updM_same
    obtain ⟨ws, e2, rk⟩ := m2 dx _ (show updM _ _ _ dx = some (.exd fs) by rw [updM_ne ne, updM_same])
    have hd1 := nN dx hdx
    have z1 : M1 dx = none := m1.none hd1
    refine ⟨r3, up _ _ _ _ (q1 (hp.objs.size + 1) dx (m1.none hn) z1 ne) ((st1.trans sa).trans s2) (fun b o z => m2 b o ?_) rfl⟩
    by_cases hba : b = hp.objs.size + 1
    · rw [hba, updM_same] at z ⊢
      exact z
    · rw [updM_ne hba] at z ⊢
      by_cases hb2 : b = dx
      · rw [hb2, updM_same] at z ⊢
        exact z
      · rw [updM_ne hb2] at z ⊢
        rw [updM_ne hba]
        exact nM b o z
  · cases r with
    | error er => exact (pass0 (X := X) pins τ _ _ er s' I2 hq')
    | ok fl =>
      cases fl with
      | ret u =>
        obtain ⟨v, H2, os2, bare2, un2, hok2, rv, ev, q2⟩ := hq'
        subst ev
        obtain ⟨h2, g2, d2, t2, os'⟩ := s'
        have J : Inv X pins τ H2 ⟨h2, g2, d2, t2, os'⟩ := I2.call' (ch := []) os2 un2 hok2 bare2 (fun b z => absurd z (by simp))
        exact ⟨rv, .ref (hp.objs.size + 1), H2, J, rfl, q2⟩
      | next => exact False.elim hq'
      | brk => exact False.elim hq'
      | cont => exact False.elim hq'

/-! ### e.f of an error that stands as a value -/
def uXv (K : PySem.W.Frag) (f : Str) (te : UTE) (σ : USt) (M : UHp) (Q : UK) : Prop := te σ M fun x M1 => ∃ a C dx fs v, x = .ref a ∧ M1 a = some (.raw (exo a C (some dx))) ∧ M1 dx = some (.exd fs) ∧ XfC K C ∧ PySem.W.findIn K (.ref C) f = some none ∧ fs.lookup f = some v ∧ Q v M1
theorem exo_inst {P : Program} {w : World} {H : Hp} {h : Heap} {a C dx : Addr} {fs : List (Str × V)} (hok : HOk P w H h) (ea : H a = some (exo a C (some dx))) (ed : H dx = some (exd dx fs)) :
    ∃ oe od, PySem.W.InstAt h a oe C (some od) ∧ ∃ mA : Str → Option Value, (∀ f, L2.RelO (fs.lookup f) (mA f)) ∧ ∀ f, PySem.W.lookIn f od = some (mA f) := by
  obtain ⟨t1, ha⟩ := exo_at hok ea
  obtain ⟨mA, hns, hr⟩ := exd_at hok ed
  obtain ⟨od, ho, hl⟩ := lookIn_ns hns
  exact ⟨_, od, ⟨ha, rfl, rfl, ho⟩, mA, hr, hl⟩
theorem ue_xv {K : PySem.W.Frag} {n : Str} (hK : X.K = K) (he : UE X e te) (hb : attributeBase e n X.env (eval e X.env) = eval e X.env := by rfl) : UE X (.Attribute e n pos) (uXv K n te) := by
  subst hK
  refine ⟨fun pins s τ H Q I h => ?_⟩
  obtain ⟨σ, M, Qu, rs, rm, q, up⟩ := h
  refine attr_of hb (thn (he.run pins s τ H (fun v H1 => ∃ x M1, RelU X.K H1 x v ∧ RelM X.K H1 M1 ∧ Stab H H1 ∧ ∃ a C dx fs v, x = .ref a ∧ M1 a = some (.raw (exo a C (some dx))) ∧ M1 dx = some (.exd fs) ∧ XfC X.K C ∧ PySem.W.findIn X.K (.ref C) n = some none ∧ fs.lookup n = some v ∧ Qu v M1) I
    ⟨σ, M, _, rs, rm, q, fun x M1 v H1 q1 s1 m1 r1 => ⟨x, M1, r1, m1, s1, q1⟩⟩) fun u s1 hh => ?_)
  obtain ⟨v, H1, I1, rv, x, M1, r1, m1, st, a, C, dx, fs, y, rfl, ea, ed, T, hno, l, q⟩ := hh
  obtain rfl := r1
  obtain rfl : u = Value.ref a := rv
  have ha := m1 a _ ea
  obtain ⟨vs, hd, rk⟩ := m1 dx _ ed
  obtain ⟨v, l2, ru⟩ := RelKs.lookup rk l
  obtain ⟨oe, od, J, mA, hr, hl⟩ := exo_inst I1.hok ha hd
  obtain ⟨u, hu, ru2⟩ := L2.RelO.some_of (v := v) (o := mA n) (by rw [← l2]; exact hr n)
  exact HandSPX.exc_get I1.kIn J T.ga T.gg T.exC (PySem.W.findObj_own T.hdC hno rfl (by rw [hl, hu])) (handed_of ru2) ⟨v, H1, I1.tok _, ru2, up _ _ _ _ q st m1 ru⟩

/-! ### isinstance of an error that stands as a value -/
/-- at a stands an error of the class C -/
def ExI (M : UHp) (a C : Addr) : Prop := M a = some (.raw (ExO (.ref C) a)) ∨ ∃ dx fs, M a = some (.raw (exo a C (some dx))) ∧ M dx = some (.exd fs)
def isVu (K : PySem.W.Frag) (xs : List U) (M : UHp) (Q : UK) : Prop := match xs with
  | [x, c] => ∃ (a C : Addr) (cv : Value) (b : Bool), x = .ref a ∧ ExI M a C ∧ ExcC K C ∧ clsV c = some cv ∧ PySem.W.kitOne K (.ref C) cv = some b ∧ Q (.bl b) M
  | _ => False
theorem ExI.inst {K : PySem.W.Frag} {P : Program} {w : World} {H : Hp} {h : Heap} {M : UHp} {a C : Addr} (x : ExI M a C) (hok : HOk P w H h) (rm : RelM K H M) : ∃ oe od, PySem.W.InstAt h a oe C od := by
  rcases x with ea | ⟨dx, fs, ea, ed⟩
  · have hx : ObjOk P w H h a (ExO (.ref C) a) := hok a _ (rm a _ ea)
    obtain ⟨⟨oe, vs, e, z, d, _⟩, _⟩ := hx
    obtain ⟨oc, od, oda, osl⟩ := oe
    obtain ⟨h1, h2⟩ := z
    dsimp only at h1 h2 d
    subst h1 h2 d
    exact ⟨_, none, e, rfl, rfl, trivial⟩
  · obtain ⟨vs, hd, _⟩ := rm dx _ ed
    obtain ⟨oe, od, J, _⟩ := exo_inst hok (rm a _ ea) hd
    exact ⟨oe, _, J⟩
theorem uc_isV {K : PySem.W.Frag} (hK : X.K = K) : UCallR X (.builtin "isinstance") (isVu K) := by
  subst hK
  intro pins s σ H vs us Q I rv h
  obtain ⟨xs, M, Qu, r, rm, q, up⟩ := h
  unfold isVu at q
  split at q
  · rename_i x c
    obtain ⟨a, C, cv, b, rfl, hx, T, hc, e, q⟩ := q
    obtain ⟨v, w, rfl, r1, r2⟩ := r
    obtain ⟨v2, w2, rfl, r3, r4⟩ := r2
    obtain rfl := r4
    obtain rfl := r1
    cases rv with
    | cons rx rr =>
      cases rr with
      | cons rt rr =>
        cases rr
        cases rx
        have ec := clsV_eq hc r3 rt
        subst ec
        obtain ⟨oe, od, J⟩ := hx.inst I.hok rm
        obtain ⟨cd, hcl, _⟩ := PySem.W.any_some T.hd
        exact PySem.W.kia_one (PySem.W.kitx_exc (by rw [hcl]; rfl) T.hg T.hk T.hs T.ha T.hn T.ht T.hm) I.kIn J e (fun z => nomatch z) fun tk => ⟨.bl b, H, I.kept (t' := tk) fun _ _ z => z, rfl, up _ _ (.bl b) H q (Stab.refl H) rm rfl⟩
  · exact q.elim

/-! ### C(..), C without an own __init__ -/
def uExo (C : Addr) (ta : UTA) (σ : USt) (M : UHp) (Q : UK) : Prop := ta σ M fun us M1 => us.length ≤ 1000 ∧ ∀ a, M1 a = none → Q (.ref a) (updM M1 a (.raw (ExO (.ref C) a)))
theorem exc_made {us : List Value} {vs : List V} {uu : List U} {C : Addr} {bmB : List Value} {B newId initId : String} (Fb : ExcBaseFacts B newId initId bmB) (q : PySem.W.excIn X.K C bmB newId = true) {pins : List (Addr × Obj)} {τ : L2.St} {H H1 : Hp} {s : Shared} {M1 : UHp} {Qu : UK} {Q : VK} (I : Inv X pins τ H1 s) (rv : Vals vs us) (ru : RelUs X.K H1 uu vs) (m : RelM X.K H1 M1) (st : Stab H H1) (hl : uu.length ≤ 1000)
    (h : ∀ a, M1 a = none → Qu (.ref a) (updM M1 a (.raw (ExO (.ref C) a)))) (up : UpK X.K H Qu Q) : wpAny (model X.prog X.w) X.A (call (.ref C) us) (EP X pins τ Q) X.xe s := by
  obtain ⟨bm, N, nm, qn, bs, hdct, sn, sub, ab, col, dd, k0, k1, k2, k3, k5, mN, hC, hN, hni, T⟩ := exc_obj I.kIn q
  have hus : us.length ≤ sizeLine := by
    rw [← Paired.length rv, ← ru.length, sizeLine_eq]
    omega
  refine wpAny_call_exc_subT Fb T hC hN hni (fun h' a hm => ?_) hus
  have hn : H1 a = none := I.hok.gone hm.new
  obtain ⟨t, ht, _, _⟩ := hm.there
  refine ⟨.ref a, upd H1 a (ExO (.ref C) a), I.laidN hm.keeps hm.new hn (exO_ok ht ⟨rfl, rfl⟩ rfl rfl rfl (show 4 < 6 by decide)), rfl, ?_⟩
  exact up _ _ _ _ (h a (m.none hn)) (st.trans (Stab.new hn)) (m.write (Stab.new hn) (o := .raw (ExO (.ref C) a)) upd_same) rfl
theorem ue_exo {x : Str} {C : Addr} {bmB : List Value} {B newId initId : String} (Fb : ExcBaseFacts B newId initId bmB) (q : PySem.W.excIn X.K C bmB newId = true) (gC : X.mg x = some (.ref C)) (kC : PySem.W.keepIn X.K (.ref C) = true) (hg : Gl X x) (ha : UA X (e :: es) ta)
    (hdb : (x == ("__debug__" : Str)) = false := by decide) (he : starEach (e :: es) X.env = (false, eval e X.env) :: starEach es X.env := by rfl) (hpl : (backTo pos (starEach es X.env)).any (·.1) = false := by rfl) :
    UE X (.Call (.Name x p) (e :: es) [] pos) (uExo C ta) := by
  refine ⟨fun pins s τ H Q I h => ?_⟩
  obtain ⟨σ, M, Qu, rs, rm, q0, up⟩ := h
  refine wpAny_Call_Name_kw (ld_glob I hg gC ?_ hdb)
  refine PySem.W.callWith_K (h₀ := X.base) I.ok.mod.kin kC (thn (ha.run pos pins s τ H (fun vs H1 => ∃ us M1, RelUs X.K H1 us vs ∧ RelM X.K H1 M1 ∧ Stab H H1 ∧ us.length ≤ 1000 ∧ ∀ a, M1 a = none → Qu (.ref a) (updM M1 a (.raw (ExO (.ref C) a)))) I
    ⟨σ, M, _, rs, rm, q0, fun us M1 vs H1 q1 s1 m1 r1 => ⟨us, M1, r1, m1, s1, q1⟩⟩) fun us s1 ⟨vs, H1, I1, r1, uu, M1, ru, m1, st1, hz, q1⟩ => ⟨I1.kIn, ?_⟩) he hpl
  exact exc_made Fb q I1 r1 ru m1 st1 hz q1 up
theorem ue_exo0 {x : Str} {C : Addr} {bmB : List Value} {B newId initId : String} (Fb : ExcBaseFacts B newId initId bmB) (q : PySem.W.excIn X.K C bmB newId = true) (gC : X.mg x = some (.ref C)) (kC : PySem.W.keepIn X.K (.ref C) = true) (hg : Gl X x)
    (hdb : (x == ("__debug__" : Str)) = false := by decide) : UE X (.Call (.Name x p) [] [] pos) (uExo C z8l) := by
  refine ⟨fun pins s τ H Q I h => ?_⟩
  obtain ⟨σ, M, Qu, rs, rm, q0, up⟩ := h
  refine wpAny_Call_Name_kw (ld_glob I hg gC ?_ hdb)
  refine PySem.W.callWith_K0 I.kIn kC ?_
  exact exc_made (us := []) (vs := []) (uu := []) Fb q I .nil rfl rm (Stab.refl H) (Nat.zero_le _) q0.2 up
end
end PU

set_option Elab.async false
set_option linter.all false
set_option maxRecDepth 100000
set_option maxHeartbeats 2000000
/-! UExK: errors as values, made by the names of their fields. -/
namespace PySem
namespace ExKw
open Calls PyProof.Rows HandSPX
section
variable {M : Model} {A : Around} {E : Value → Shared → Prop} {h : Heap} {g : Array GenState} {d : Drawn} {t : Nat} {os : OsState} {ks : List (Str × Value)}
variable {nm q : Str} {C N : Addr} {bs bm bmB : List Value} {hdct : Bool} {sn : List Str} {sub : List Value} {ab : Bool} {col : Option Bool} {dd : Option Addr} {k0 k1 k2 k3 k5 : Option Value} {B newId initId : String}
/-- the class's __new__ takes any names -/
theorem new_takes (F : ExcBaseFacts B newId initId bmB) (hT : ∀ X : String, bm.contains (.type X) = bmB.contains (.type X)) {Q : Unit → Shared → Prop}
    (hC : h.get? C = some (excClassObj nm q C N bs bm hdct sn sub ab col dd k0 k1 k2 k3 k5 newId)) (z : Q () ⟨h, g, d, t, os⟩) : wpAny M A (checkBuiltinCall newId ⟨[.ref C], ks⟩) Q E ⟨h, g, d, t, os⟩ := by
  have star := F.noStar
  have has : (Value.ref C :: bm).contains (.type B) = true := by rw [List.contains_cons, hT, F.hasB, Bool.or_true]
  simp only [checkBuiltinCall,F.newKind,F.newSplit,F.newRow]
  repeat (first | refine wpAny_loadPart_at hC ?_ | (refine wpAny_isSubtype_exc hC ?_; rw [has]) | refine wpAny_staticBase_exc hC ?_ | refine wpAny_madeBy_exc hC ?_ | simp only [bne_self_eq_false,Bool.false_eq_true,if_false] | wp_step)
  exact z
end
section
variable {prog : Program} {w : World} {A : Around} {E : Value → Shared → Prop} {R : Result → Shared → Prop} {h : Heap} {g : Array GenState} {d : Drawn} {t : Nat} {os : OsState} {ks : List (Str × Value)}
variable {nm q : Str} {C N : Addr} {bs bm bmB : List Value} {hdct : Bool} {sn : List Str} {sub : List Value} {ab : Bool} {col : Option Bool} {dd : Option Addr} {k0 k1 k2 k3 k5 : Option Value} {B newId initId : String}
theorem new_lays (F : ExcBaseFacts B newId initId bmB) (hT : ∀ X : String, bm.contains (.type X) = bmB.contains (.type X))
    (hC : h.get? C = some (excClassObj nm q C N bs bm hdct sn sub ab col dd k0 k1 k2 k3 k5 newId))
    (z : R (.ok (.ret (.ref (h.objs.size + 1)))) ⟨(h.push (W.kdv_tup [])).push (excO C h.objs.size), g, d, t, os⟩) :
    codeAny (model prog w) A (.builtin newId ⟨[.ref C], ks⟩) R ⟨h, g, d, t, os⟩ := by
  have fin := F.ends
  have inB : (Value.ref C :: bm).contains (.type B) = true := by rw [List.contains_cons, hT, F.hasB, Bool.or_true]
  have noA : (Value.ref C :: bm).contains (.type "AttributeError") = false := by rw [List.contains_cons, hT, F.noAttr]; rfl
  have noN : (Value.ref C :: bm).contains (.type "NameError") = false := by rw [List.contains_cons, hT, F.noName]; rfl
  have few : ([] : List Value).length ≤ sizeLine := Nat.zero_le _
  refine codeAny_builtinAt F.entry ?_
  unfold Builtin.«BaseException.__new__»
  refine wpAt_bind ?_
  show wpAt _ _ _ (stack >>= _) _ _ _
  refine wpAt_bind (wpAt_stack fun p below => wpAt_of_wpAny ?_)
  wp_walk
  refine wpAt_of_wpAny ?_
  rw [F.owner]
  repeat (first | with_reducible refine wpAny_madeHere_exc F.canon hC ?_ | with_reducible refine wpAny_loadPart_at hC ?_ | (with_reducible refine wpAny_isSubtype_exc hC ?_; first | rw [inB] | rw [noA] | rw [noN]) | wp_step)
  show R _ _
  rw [Heap.size_push]
  exact z
theorem type_makes (F : ExcBaseFacts B newId initId bmB) (hT : ∀ X : String, bm.contains (.type X) = bmB.contains (.type X)) {fI : Addr} {Q : Fin → Shared → Prop}
    (hC : h.get? C = some (excClassObj nm q C N bs bm hdct sn sub ab col dd k0 k1 k2 k3 k5 newId))
    (hi : W.Looks (model prog w) h (typeLookup (.ref C) "__init__") (some (.ref fI))) (hb : ∀ self, W.Looks (model prog w) h (bindSpecial (.ref fI) self) (.ref fI, [self]))
    (z : codeAny (model prog w) A (.call (.ref fI) ⟨[.ref (h.objs.size + 1)], ks⟩)
      (fun r s' => match r with | .ok (.ret v) => v = .none ∧ Q (.done (.ret (.ref (h.objs.size + 1)))) s' | .ok _ => False | .error e => E e s')
      ⟨(h.push (W.kdv_tup [])).push (excO C h.objs.size), g, d, t, os⟩) :
    wpAny (model prog w) A (Builtin.«type.__call__» ⟨[.ref C], ks⟩) Q E ⟨h, g, d, t, os⟩ := by
  repeat (first | with_reducible refine wpAny_loadPart_at hC ?_ | with_reducible refine wpAny_madeBy_exc hC ?_ | wp_step)
  refine codeAny_call_builtin_code (Code.quiet_builtin _ F.quiet) (new_takes F hT hC ?_)
  refine new_lays F hT hC ?_
  show wpAny _ _ _ _ _ _
  have up : ∀ b o, h.get? b = some o → ((h.push (W.kdv_tup [])).push (excO C h.objs.size)).get? b = some o := fun b o e => Heap.get?_push_of_some _ (Heap.get?_push_of_some _ e)
  have atC := up _ _ hC
  have atE : ((h.push (W.kdv_tup [])).push (excO C h.objs.size)).get? (h.objs.size + 1) = some (excO C h.objs.size) := by heap_get
  have self : (Value.ref C :: bm).contains (.ref C) = true := by simp
  have looks := hi.keeps up
  have binds := (hb (.ref (h.objs.size + 1))).keeps up
  unfold isInstance
  repeat (first | with_reducible refine wpAny_loadPart_at atE ?_ | (with_reducible refine wpAny_isSubtype_exc atC ?_; rw [self]) | wp_step)
  show wpAny _ _ (typeLookup (.ref C) _) _ _ _
  refine looks.at ?_
  refine wpAny_holding (wpAny_bind (binds.at ?_))
  refine wpAny_bind (wpAny_call (codeAny_mono z fun r s' y => ?_))
  rcases r with e | (v | _ | _ | _) <;> first | exact y | exact y.elim | skip
  obtain ⟨rfl, y⟩ := y
  first
    | exact wpAny_pure (wpAny_pure y)
    | (wp_walk; exact y)
/-- C(name = value, ..) -/
theorem made_by_names (F : ExcBaseFacts B newId initId bmB) (hT : ∀ X : String, bm.contains (.type X) = bmB.contains (.type X)) {fI : Addr}
    (hC : h.get? C = some (excClassObj nm q C N bs bm hdct sn sub ab col dd k0 k1 k2 k3 k5 newId))
    (hi : W.Looks (model prog w) h (typeLookup (.ref C) "__init__") (some (.ref fI))) (hb : ∀ self, W.Looks (model prog w) h (bindSpecial (.ref fI) self) (.ref fI, [self]))
    (z : codeAny (model prog w) (A.under (.builtin "type.__call__" ⟨[.ref C], ks⟩)) (.call (.ref fI) ⟨[.ref (h.objs.size + 1)], ks⟩) (W.InitBack (h.objs.size + 1) R)
      ⟨(h.push (W.kdv_tup [])).push (excO C h.objs.size), g, d, t, os⟩) :
    codeAny (model prog w) A (.call (.ref C) ⟨[], ks⟩) R ⟨h, g, d, t, os⟩ := by
  have f1 := tc_lookup
  have f2 := tc_bind (.ref C)
  have isType : (⟨h, g, d, t, os⟩ : Shared).TypeIs (.ref C) "type" := ⟨_, hC, rfl⟩
  refine codeAny_of_tree ?_
  show wpAny _ _ (callAny (.ref C) _) _ _ _
  repeat (any_goals (first | assumption | with_reducible refine wpAny_loadPart_at hC ?_ | wp_step))
  refine ⟨rfl, ?_⟩
  refine codeAny_call_builtin_at (Code.quiet_builtin _ (by decide +kernel)) entry_typeCall (wpAny_check_type_call_sub hC (type_makes F hT hC hi hb ?_))
  refine codeAny_mono z fun r s' y => ?_
  rcases r with e | (v | _ | _ | _) <;> exact y
end
end ExKw
end PySem
namespace PU
open PySem PySem.Spec PyProof.Rows L2
theorem vals_rev : ∀ {vs : List V} {us : List Value}, Vals vs us → Vals vs.reverse us.reverse
  | _, _, .nil => .nil
  | _, _, .cons r h => by
    rw [List.reverse_cons, List.reverse_cons]
    exact (vals_rev h).append (.cons r .nil)
theorem relUs_rev {K : PySem.W.Frag} {H : Hp} : ∀ {xs : List U} {vs : List V}, RelUs K H xs vs → RelUs K H xs.reverse vs.reverse
  | [], _, h => by obtain rfl := h; rfl
  | x :: xs, _, h => by
    obtain ⟨v, w, rfl, r, t⟩ := h
    rw [List.reverse_cons, List.reverse_cons]
    exact (relUs_rev t).append (RelUs.cons r rfl)
/-- a def of self and of fields, called by their names, the last one first -/
def KwB (K : PySem.W.Frag) (fd : FuncData) (ps ks : List Str) : Prop := ∀ (s : Shared) (u : Value) (ws : List Value), K.In s.heap → ws.length = ks.length → BindsTo s fd ⟨[u], ks.zip ws⟩ (ps.zip (u :: ws.reverse))
theorem Fun.kwb {K : PySem.W.Frag} {x qual : Str} {st : Stmt} {f : Addr} {fd : FuncData} {ps ks : List Str} (F : Fun K x qual st f fd)
    (h : ∀ (kV doc pm : Value) (an : Option Addr) (cdv ct u : Value) (ws : List Value), ws.length = ks.length → bindArgs (PySem.W.fnOf x qual (defArgs st) (defBody st) (defScope st) .none kV doc pm an cdv ct) ⟨[u], ks.zip ws⟩ = pure (ps.zip (u :: ws.reverse))) : KwB K fd ps ks := by
  obtain ⟨oc, od, kV, doc, pm, an, cdv, ct, osl, rfl, lk, hcd⟩ := F.ex
  exact fun s u ws _ hl => .of_eq (h kV doc pm an cdv ct u ws hl)
section
variable {X : Cx} {o e : Expr} {es : List Expr} {to te : UTE} {ta tk : UTA} {f : Str} {p p' p1 p2 pos kpos : Pos} {kws : List Keyword} {ks : List Str} {nm : Option Str}
abbrev UPK (X : Cx) (kws : List Keyword) (t : UTA) : Prop := PK X kws (dnA X.K t)
theorem upk_nil : UPK X [] z8l := ⟨fun pos pins s τ H Q I h => by
  obtain ⟨σ, M, Qu, rs, rm, q, up⟩ := h
  exact (pk_nil (X := X)).run pos pins s τ H Q I (up _ M _ H q (Stab.refl H) rm rfl)⟩
theorem upk_cons (ha : UE X e te) (hr : UPK X kws tk) : UPK X (⟨nm, e, kpos⟩ :: kws) (z7t te tk) := ⟨fun pos pins s τ H Q I h => by
  refine (pk_cons (nm := nm) (kpos := kpos) ha hr).run pos pins s τ H Q I ?_
  obtain ⟨σ, M, Qu, rs, rm, q, up⟩ := h
  refine ⟨σ, M, _, rs, rm, q, fun x M1 v H1 q1 s1 m1 r1 => ?_⟩
  refine ⟨σ, M1, _, rs.stab s1, m1, q1, fun xs M2 vs H2 q2 s2 m2 r2 => ?_⟩
  exact up _ M2 _ H2 q2 (s1.trans s2) m2 (RelUs.cons (r1.stab s2) r2)⟩
/-- C(k = e, ..), held as a value -/
def uMkK (ks : List Str) (C : Addr) (mk : UHp → List U → List (Str × U) → Prop) (ta : UTA) (σ : USt) (M : UHp) (Q : UK) : Prop := ta σ M fun us M1 => us.length = ks.length ∧ us.length ≤ 1000 ∧ ∃ fs, mk M1 us.reverse fs ∧ ∀ a dx, M1 a = none → M1 dx = none → dx ≠ a → Q (.ref a) (updM (updM M1 dx (.exd fs)) a (.raw (exo a C (some dx))))
theorem ue_mkk {x : Str} {C fI : Addr} {k : Nat} {fd : FuncData} {ps : List Str} {mk : UHp → List U → List (Str × U) → Prop} (T : OexC X.K C) (iC : PySem.W.findIn X.K (.ref C) "__init__" = some (some (.ref fI))) (tI : PySem.W.typeIn X.K (.ref fI) = some (.type "function"))
    (F1 : UFn X.prog X.w X.K X.mg X.base CX0 k fI fd ps (spFV C mk)) (mono : ∀ M M' us fs, (∀ b o, M b = some o → M' b = some o) → mk M us fs → mk M' us fs) (hr : Room (k + 1) X.A) (hG : X.A.guards = some []) (hb : KwB X.K fd ps ks) (hg : Gl X x) (hm : X.mg x = some (.ref C)) (ha : UPK X kws ta)
    (hdb : (x == ("__debug__" : Str)) = false := by decide) (hall : (backToKw pos (keywordEach kws X.env)).all (·.1.isSome) = true := by rfl) (hks : (backToKw pos (keywordEach kws X.env)).filterMap (·.1) = ks := by rfl)
    (hpl : ((backTo pos (starEach [] X.env)).any (·.1) || (backToKw pos (keywordEach kws X.env)).any (·.1.isNone)) = false := by rfl) :
    UE X (.Call (.Name x p) [] kws pos) (uMkK ks C mk ta) := by
  refine ⟨fun pins s τ H Q I h => ?_⟩
  obtain ⟨σ, M, Qu, rs, rm, q0, up⟩ := h
  obtain ⟨nm, q, N, bs, bm, sn, sub, ab, col, dd, k0, k1, k2, k3, k5, hC, hbm⟩ := T.cls
  refine wpAny_Call_Name_kw (ld_glob I hg hm ?_ hdb)
  refine PySem.W.callWith_KW0 (h₀ := X.base) I.ok.mod.kin T.kC hall ?_ hpl
  refine thn (ha.run pos pins s τ H (fun vs H1 => ∃ us M1, RelUs X.K H1 us vs ∧ RelM X.K H1 M1 ∧ Stab H H1 ∧ us.length = ks.length ∧ us.length ≤ 1000 ∧ ∃ fs, mk M1 us.reverse fs ∧ ∀ a dx, M1 a = none → M1 dx = none → dx ≠ a → Qu (.ref a) (updM (updM M1 dx (.exd fs)) a (.raw (exo a C (some dx))))) I
    ⟨σ, M, _, rs, rm, q0, fun us M1 vs H1 q1 s1 m1 r1 => ⟨us, M1, r1, m1, s1, q1⟩⟩) fun us0 s1 ⟨vs0, H1, I1, r0, uu0, M1, ru0, m1, st1, hk, hz, fs, hmk, q1⟩ => ⟨I1.kIn, ?_⟩
  rw [hks]
  have hk2 : us0.length = ks.length := by rw [← Paired.length r0, ← ru0.length, hk]
  have r1 := vals_rev r0
  have ru := relUs_rev ru0
  have hbd := fun (s : Shared) (u : Value) (X0 : X.K.In s.heap) => hb s u us0 X0 hk2
  generalize ea : us0.reverse = us at r1 hbd
  generalize eb : vs0.reverse = vs at r1 ru
  generalize ec : uu0.reverse = uu at ru hmk
  generalize ed : ks.zip us0 = kz at hbd ⊢
  show wpAny _ _ (call (.ref C) [] kz) _ _ _
  obtain ⟨hp, g, dr, tk, os⟩ := s1
  have hsz : hp.objs.size ≤ hp.objs.size + 1 := Nat.le_succ _
  have hn : H1 (hp.objs.size + 1) = none := I1.hok.fresh hsz
  generalize ea' : hp.objs.size + 1 = a at hn hsz
  have kk : ∀ b o, hp.get? b = some o → ((hp.push (PySem.W.kdv_tup [])).push (PySem.HandSPX.excO C hp.objs.size)).get? b = some o := fun b o e => Heap.get?_push_of_some _ (Heap.get?_push_of_some _ e)
  have hget : ((hp.push (PySem.W.kdv_tup [])).push (PySem.HandSPX.excO C hp.objs.size)).get? a = some (PySem.HandSPX.excO C hp.objs.size) := by rw [← ea']; heap_get
  have I2 : Inv X pins τ (upd H1 a (exo a C none)) ⟨(hp.push (PySem.W.kdv_tup [])).push (PySem.HandSPX.excO C hp.objs.size), g, dr, tk, os⟩ :=
    I1.laid (t' := tk) (a := a) (o := exo a C none) (h' := (hp.push (PySem.W.kdv_tup [])).push (PySem.HandSPX.excO C hp.objs.size)) kk hsz (exo_ok hget)
  have r2 : Vals (V.ref a :: vs) (Value.ref a :: us) := .cons rfl r1
  -- what is known of H1, all of it
  let N : UHp := fun b => match M1 b with | some o => some o | none => (H1 b).map .raw
  have nN : ∀ b, N b = none → H1 b = none := fun b z => by
    simp only [N] at z
    cases e1 : M1 b with
    | some o => rw [e1] at z; cases z
    | none => rw [e1] at z; simpa using z
  have nM : ∀ b o, M1 b = some o → N b = some o := fun b o z => by simp only [N,z]
  have rN : RelM X.K H1 N := fun b o z => by
    simp only [N] at z
    cases e1 : M1 b with
    | some o1 => rw [e1] at z; cases z; exact m1 b _ e1
    | none =>
      rw [e1] at z
      cases e2 : H1 b with
      | none => rw [e2] at z; cases z
      | some u => rw [e2] at z; cases z; exact e2
  have na : N a = none := rN.none hn
  have sa : Stab H1 (upd H1 a (exo a C none)) := Stab.new hn
  have rN2 : RelM X.K (upd H1 a (exo a C none)) (updM N a (.raw (exo a C none))) := rN.write sa upd_same
  have hmk2 : ∀ o, mk (updM N a o) uu fs := fun o => mono M1 _ uu fs (fun b u z => by
    have hb : b ≠ a := fun e => by rw [e, m1.none hn] at z; cases z
    rw [updM_ne hb]; exact nM b u z) hmk
  have hl : (Value.ref a :: us).length = ps.length := by
    have e := F1.len (.ref a :: uu) (updM N a (.raw (exo a C none))) (fun _ _ => True) EU0 ⟨a, uu, fs, rfl, hmk2 _, updM_same, fun _ _ _ => True.intro⟩
    rw [← e, List.length_cons, List.length_cons, ru.length, Paired.length r1]
  have hgo := fun (A : Around) (hrA : Room k A) (hGA : A.guards = some []) (e0A) (Q' : VK) (hq) => F1.go A X.stack ⟨(hp.push (PySem.W.kdv_tup [])).push (PySem.HandSPX.excO C hp.objs.size), g, dr, tk, os⟩ (upd H1 a (exo a C none)) ⟨[Value.ref a], kz⟩ (Value.ref a :: us) (V.ref a :: vs) Q' (fun _ _ _ => False) hrA hGA e0A
    (hbd _ _ I2.kIn) r2 hq
  refine wpAny_call (PySem.ExKw.made_by_names F.excBase_ValueError (fun Y => PySem.HandSPX.refsVE_contains Y bm hbm) (I1.kIn _ _ hC) (PySem.W.looks_findIn I1.kIn iC) (fun self => PySem.W.bind_fn I1.kIn self tI) ?_)
  subst ea'
  refine (codeAny_mono (hgo _ (hr.make C [] kz) hG (I2.env0.make C [] kz) (fun v H2 => v = .non ∧ Q (.ref (hp.objs.size + 1)) H2) ?_) fun r s' hq' => ?_)
  · refine ⟨.ref (hp.objs.size + 1) :: uu, updM N (hp.objs.size + 1) (.raw (exo (hp.objs.size + 1) C none)), fun v M2 => v = .non ∧ ∃ dx, N dx = none ∧ dx ≠ (hp.objs.size + 1) ∧ M2 = updM (updM (updM N (hp.objs.size + 1) (.raw (exo (hp.objs.size + 1) C none))) dx (.exd fs)) (hp.objs.size + 1) (.raw (exo (hp.objs.size + 1) C (some dx))), EU0, RelUs.cons rfl (ru.stab sa), rN2,
      ⟨_, uu, fs, rfl, hmk2 _, updM_same, fun dx h1 h2 => ⟨rfl, dx, by rw [updM_ne h2] at h1; exact h1, h2, rfl⟩⟩, fun v M2 u H2 qz s2 m2 r3 => ?_, fun _ _ _ _ z _ _ => z.elim⟩
    obtain ⟨rfl, dx, hdx, ne, rfl⟩ := qz
    have e1 : H2 (hp.objs.size + 1) = some (exo (hp.objs.size + 1) C (some dx)) := m2 _ _ updM_same
    obtain ⟨ws, e2, rk⟩ := m2 dx _ (show updM _ _ _ dx = some (.exd fs) by rw [updM_ne ne, updM_same])
    have hd1 := nN dx hdx
    have z1 : M1 dx = none := m1.none hd1
    refine ⟨r3, up _ _ _ _ (q1 (hp.objs.size + 1) dx (m1.none hn) z1 ne) ((st1.trans sa).trans s2) (fun b o z => m2 b o ?_) rfl⟩
    by_cases hba : b = hp.objs.size + 1
    · rw [hba, updM_same] at z ⊢
      exact z
    · rw [updM_ne hba] at z ⊢
      by_cases hb2 : b = dx
      · rw [hb2, updM_same] at z ⊢
        exact z
      · rw [updM_ne hb2] at z ⊢
        rw [updM_ne hba]
        exact nM b o z
  · cases r with
    | error er => exact (pass0 (X := X) pins τ _ _ er s' I2 hq')
    | ok fl =>
      cases fl with
      | ret u =>
        obtain ⟨v, H2, os2, bare2, un2, hok2, rv, ev, q2⟩ := hq'
        subst ev
        obtain ⟨h2, g2, d2, t2, os'⟩ := s'
        have J : Inv X pins τ H2 ⟨h2, g2, d2, t2, os'⟩ := I2.call' (ch := []) os2 un2 hok2 bare2 (fun b z => absurd z (by simp))
        exact ⟨rv, .ref (hp.objs.size + 1), H2, J, rfl, q2⟩
      | next => exact False.elim hq'
      | brk => exact False.elim hq'
      | cont => exact False.elim hq'

end
end PU

set_option Elab.async false
set_option linter.all false
set_option maxRecDepth 100000
/-! ULaw: from a def's promise to the law's row. -/
namespace PU
open PySem PySem.Spec PyProof.Rows L2

theorem rel_ints {K : PySem.W.Frag} {H : Hp} : ∀ ns : List Int, RelUs K H (ns.map .int) (ns.map V.int)
  | [] => RelUs.nil
  | _ :: ns => RelUs.cons rfl (rel_ints ns)
/-- what a law's def promises of the script -/
abbrev LawSp (sp : USp) (m : Nat) : Prop := ∀ (ns : List Int), ns.length ≤ m → ∀ Q : UK, (∀ M, Q (.bl true) M) → sp [.lst (ns.map .int)] (fun _ => none) Q EU0
theorem call_law {P : Program} {w : World} {K : PySem.W.Frag} {mg mb : Str → Option Value} {k m : Nat} {fa a : Addr} {fd : FuncData} {x : Str} {sp : USp} {s₁ : Shared} {vs : List Value} {ns : List Int}
    (KX : K.In s₁.heap) (hns : s₁.heap.Ns mainGlobals mg) (hb : s₁.heap.Ns builtinsNs mb) (hbb : ∀ x : Str, x ≠ "__name__" → mb x = bootBuiltins x) (hlim : s₁.heap.NoLimit) (hg : s₁.gens = #[])
    (ha : s₁.heap.get? a = some { cls := .type "list", data := .seq vs.toArray }) (hi : IntsAre vs ns) (hm : ns.length ≤ m) (hl : m ≤ sizeLine) (hr : Room k callerA) (hG : callerA.guards = some [])
    (F : ∀ base : Heap, K.In base → base.Ns mainGlobals mg → UFn P w K mg base CX0 k fa fd [x] sp) (hbind : ∀ (s : Shared) (u : Value), BindsTo s fd ⟨[u], []⟩ [(x, u)]) (hsp : LawSp sp m) :
    codeAny (model P w) callerA (.call (.ref fa) ⟨[.ref a], []⟩) (fun r s' => r = .ok (.ret (.bool true)) ∧ OldK s₁.heap s'.heap ∧ s'.os = s₁.os ∧ AllBare s'.gens) s₁ := by
  have rv := vals_ints hi
  have lenV := hi.length
  have one : ∀ H : Hp, FzL K H a (ns.map V.int) → HOk P w H s₁.heap → (∀ b, H b = none ∨ (b = a ∧ K.lookup a = none ∧ ∃ o, H b = some (.frz o (.lst (ns.map V.int))))) →
      codeAny (model P w) callerA (.call (.ref fa) ⟨[.ref a], []⟩) (fun r s' => r = .ok (.ret (.bool true)) ∧ OldK s₁.heap s'.heap ∧ s'.os = s₁.os ∧ AllBare s'.gens) s₁ := by
    intro H hF hok hA
    have free : ∀ {b : Addr} {o : Obj}, s₁.heap.get? b = some o → (b = a → K.lookup a = none → False) → (hidT s₁.heap H).get? b = some o := fun {b o} e n => by
      rcases hA b with z | ⟨rfl, z, _⟩
      · exact hidT_get e z
      · exact (n rfl z).elim
    have space : ∀ {b : Addr} {f : Str → Option Value}, s₁.heap.Ns b f → (hidT s₁.heap H).Ns b f := fun {b f} ⟨o, es, ep, e, d, r⟩ => ⟨o, es, ep, free e fun h _ => (by
      subst h
      rw [ha] at e
      cases e
      have d' : Data.seq vs.toArray _ = Data.dict es ep := d
      cases d'), d, r⟩
    have kin : K.In (hidT s₁.heap H) := fun b o e => free (KX b o e) fun h z => (by subst h; rw [z] at e; cases e)
    have md : Mod K mg (hidT s₁.heap H) := ⟨kin, space hns, ⟨mb, space hb, hbb⟩, let ⟨mc, h1, h2⟩ := hlim; ⟨mc, space h1, h2⟩⟩
    have e0 : Env0 P w K mg (hidT s₁.heap H) callerA [] s₁ H := ⟨rfl, md, fun b o e => of_hidT e, Nat.le_of_eq (hidT_size _ _), trivial, fun b hb => absurd (show b ∈ ([] : List Addr) from hb) (by simp), hok, .of_eq hg⟩
    have prom : dnP K sp [.ref a] H (fun v _ => v = .bl true) (fun _ _ _ => False) := by
      refine ⟨[.lst (ns.map .int)], fun _ => none, fun y _ => y = .bl true, EU0, ⟨.ref a, [], rfl, ⟨a, _, rfl, hF, rel_ints ns⟩, rfl⟩, (fun b o e => by cases e), hsp ns hm _ (fun _ => rfl), (fun y M' v H' q _ _ r => ?_), fun _ _ _ _ z _ _ => z.elim⟩
      subst q
      exact r
    refine codeAny_mono ((F _ kin (space hns)).go callerA [] s₁ H ⟨[.ref a], []⟩ [.ref a] [.ref a] _ _ hr hG e0 (hbind s₁ (.ref a)) (.cons rfl .nil) prom) fun r s' h => ?_
    match r, h with
    | .error e, h => exact False.elim h
    | .ok .next, h => exact False.elim h
    | .ok .brk, h => exact False.elim h
    | .ok .cont, h => exact False.elim h
    | .ok (.ret u), h =>
      obtain ⟨v, H', os, bare, un, hok', r', q⟩ := h
      have q' : v = .bl true := q
      subst q'
      obtain rfl : u = Value.bool true := r'
      refine ⟨rfl, OldK.of_keep fun b o e => ?_, os, bare⟩
      rcases hA b with z | ⟨_, _, ob, z⟩
      · exact un.keep b o e z (by intro z; exact absurd (show b ∈ ([] : List Addr) from z) (by simp)) (by simp)
      · have z2 := un.frzs b ob _ z
        obtain ⟨e1, _⟩ := hok b _ z
        obtain ⟨e2, _⟩ := hok' b _ z2
        rw [e] at e1; cases e1
        exact e2
  cases hk : K.lookup a with
  | some o =>
    have e := KX a o hk
    rw [ha] at e
    cases e
    exact one (fun _ => none) (.inr ⟨_, vs.toArray, _, hk, rfl, rfl, rfl, by rw [List.size_toArray, lenV]; omega, by simpa using rv⟩) (fun b u z => by have z' : (none : Option HO) = some u := z; cases z') fun _ => .inl rfl
  | none =>
    have at_a : (fun b => if b = a then some (HO.frz { cls := .type "list", data := .seq vs.toArray } (.lst (ns.map V.int))) else none) a = some (HO.frz { cls := .type "list", data := .seq vs.toArray } (.lst (ns.map V.int))) := if_pos rfl
    refine one (fun b => if b = a then some (.frz { cls := .type "list", data := .seq vs.toArray } (.lst (ns.map V.int))) else none) (.inl ⟨_, at_a⟩) (fun b u z => ?_) fun b => ?_
    · by_cases h : b = a
      · subst h
        have z' := at_a.symm.trans z
        cases z'
        exact ⟨ha, by rw [List.length_map]; omega, vs, _, rv, ha⟩
      · have z' := (if_neg h).symm.trans z
        cases z'
    · by_cases h : b = a
      · exact .inr ⟨h, hk, _, if_pos h⟩
      · exact .inl (if_neg h)
theorem law_walk {l : PySem.W.OpenLaw} {n k : Nat} {q : Program} {loose : List Str} {XP : (Str → Option Value) → Heap → Prop} {YP : World → Heap → Prop} {d : DefRec} {K : Params → PySem.W.Frag} {sp : USp} {x : Str}
    (hn : l.most = some n) (hn2 : n ≤ sizeLine) (hdf : d.params.defaults = []) (hr : Room k callerA) (hG : callerA.guards = some []) (hY : ∀ (w : World) (h : Heap), YP w h → (K w.params).In h) (hsp : LawSp sp n)
    (F : ∀ (w : World) (mg : Str → Option Value) (fa : Addr) (h : Heap), (K w.params).In h → h.Ns mainGlobals mg → mg d.name = some (.ref fa) →
      ∃ fd : FuncData, (∀ (s : Shared) (u : Value), BindsTo s fd ⟨[u], []⟩ [(x, u)]) ∧ ∀ base : Heap, (K w.params).In base → base.Ns mainGlobals mg → UFn l.prog w (K w.params) mg base CX0 k fa fd [x] sp) :
    PySem.W.WalkO q loose XP YP l.row.toRowW d [] (fun f vs => PySem.call f vs) := by
  refine Att.attach_call hn hdf fun w s₀ s₁ mg mb fa o pm cd doc a vs ns G Y ho hd hcd hmg hobj hints hlen hg => ?_
  have KX := hY w _ Y
  obtain ⟨fd, hb, hF⟩ := F w mg fa _ KX G.T.g hmg
  exact call_law KX G.T.g G.T.b G.T.builtins G.T.nolimit hg hobj hints hlen hn2 hr hG hF hb hsp
end PU

set_option Elab.async false
set_option linter.all false
set_option maxHeartbeats 1000000
set_option maxRecDepth 100000
namespace PU
open PySem PySem.Spec PyProof.Rows L2
def inCl (s : Stmt) (j : Nat) : Stmt := match s with
  | .ClassDef _ _ _ body _ _ _ _ _ _ _ => body.getD j (.Pass ⟨0, 0, 0, 0⟩)
  | s => s
def topS (i : Nat) : Stmt := PySem.Challenge.pw_variantnest_k01_errors_made.main.body.getD i (.Pass ⟨0, 0, 0, 0⟩)

/-! as_tuples -/
abbrev s_as_tuples : Stmt := topS 1
theorem sc_as_tuples : FnScope ["thing", "part"] ["thing"] (defScope s_as_tuples) := ⟨rfl, rfl, rfl, by decide +kernel, rfl, by decide +kernel, by decide +kernel⟩

/-! _law_draw -/
abbrev s__law_draw : Stmt := topS 35
theorem sc__law_draw : FnScope ["_law_stream", "_law_many", "_law_mixed", "_law_digit"] ["_law_stream", "_law_many"] (defScope s__law_draw) := ⟨rfl, rfl, rfl, by decide +kernel, rfl, by decide +kernel, by decide +kernel⟩

/-! _law_same -/
abbrev s__law_same : Stmt := topS 36
theorem sc__law_same : FnScope ["_law_found", "_law_due"] ["_law_found", "_law_due"] (defScope s__law_same) := ⟨rfl, rfl, rfl, by decide +kernel, rfl, by decide +kernel, by decide +kernel⟩

/-! _law_thing -/
abbrev s__law_thing : Stmt := topS 37
theorem sc__law_thing : FnScope ["_law_stream", "_law_deep", "_law_some", "_law_parts", "_law_k"] ["_law_stream", "_law_deep"] (defScope s__law_thing) := ⟨rfl, rfl, rfl, by decide +kernel, rfl, by decide +kernel, by decide +kernel⟩

/-! _law_fixed -/
abbrev s__law_fixed : Stmt := topS 38
theorem sc__law_fixed : FnScope ["_law_thing_here", "_law_part"] ["_law_thing_here"] (defScope s__law_fixed) := ⟨rfl, rfl, rfl, by decide +kernel, rfl, by decide +kernel, by decide +kernel⟩

/-! ini_BadEntry -/
abbrev s_ini_BadEntry : Stmt := inCl (topS 6) 0
theorem sc_ini_BadEntry : FnScope ["self", "index"] ["self", "index"] (defScope s_ini_BadEntry) := ⟨rfl, rfl, rfl, by decide +kernel, rfl, by decide +kernel, by decide +kernel⟩

/-! ini_BadLine -/
abbrev s_ini_BadLine : Stmt := inCl (topS 33) 0
theorem sc_ini_BadLine : FnScope ["self", "index"] ["self", "index"] (defScope s_ini_BadLine) := ⟨rfl, rfl, rfl, by decide +kernel, rfl, by decide +kernel, by decide +kernel⟩

/-! ini_BadName -/
abbrev s_ini_BadName : Stmt := inCl (topS 13) 0
theorem sc_ini_BadName : FnScope ["self", "name"] ["self", "name"] (defScope s_ini_BadName) := ⟨rfl, rfl, rfl, by decide +kernel, rfl, by decide +kernel, by decide +kernel⟩

/-! ini_BadStep -/
abbrev s_ini_BadStep : Stmt := inCl (topS 29) 0
theorem sc_ini_BadStep : FnScope ["self", "index"] ["self", "index"] (defScope s_ini_BadStep) := ⟨rfl, rfl, rfl, by decide +kernel, rfl, by decide +kernel, by decide +kernel⟩

/-! ini_BadText -/
abbrev s_ini_BadText : Stmt := inCl (topS 32) 0
theorem sc_ini_BadText : FnScope ["self", "at"] ["self", "at"] (defScope s_ini_BadText) := ⟨rfl, rfl, rfl, by decide +kernel, rfl, by decide +kernel, by decide +kernel⟩

/-! ini_Broken -/
abbrev s_ini_Broken : Stmt := inCl (topS 31) 0
theorem sc_ini_Broken : FnScope ["self", "index"] ["self", "index"] (defScope s_ini_Broken) := ⟨rfl, rfl, rfl, by decide +kernel, rfl, by decide +kernel, by decide +kernel⟩

/-! ini_Clash -/
abbrev s_ini_Clash : Stmt := inCl (topS 22) 0
theorem sc_ini_Clash : FnScope ["self", "name", "key"] ["self", "name", "key"] (defScope s_ini_Clash) := ⟨rfl, rfl, rfl, by decide +kernel, rfl, by decide +kernel, by decide +kernel⟩

/-! ini_Frozen -/
abbrev s_ini_Frozen : Stmt := inCl (topS 19) 0
theorem sc_ini_Frozen : FnScope ["self", "name", "number"] ["self", "name", "number"] (defScope s_ini_Frozen) := ⟨rfl, rfl, rfl, by decide +kernel, rfl, by decide +kernel, by decide +kernel⟩

/-! ini_IdInUse -/
abbrev s_ini_IdInUse : Stmt := inCl (topS 17) 0
theorem sc_ini_IdInUse : FnScope ["self", "path"] ["self", "path"] (defScope s_ini_IdInUse) := ⟨rfl, rfl, rfl, by decide +kernel, rfl, by decide +kernel, by decide +kernel⟩

/-! ini_InUse -/
abbrev s_ini_InUse : Stmt := inCl (topS 16) 0
theorem sc_ini_InUse : FnScope ["self", "user"] ["self", "user"] (defScope s_ini_InUse) := ⟨rfl, rfl, rfl, by decide +kernel, rfl, by decide +kernel, by decide +kernel⟩

/-! ini_NameInUse -/
abbrev s_ini_NameInUse : Stmt := inCl (topS 14) 0
theorem sc_ini_NameInUse : FnScope ["self", "name"] ["self", "name"] (defScope s_ini_NameInUse) := ⟨rfl, rfl, rfl, by decide +kernel, rfl, by decide +kernel, by decide +kernel⟩

/-! ini_NoKey -/
abbrev s_ini_NoKey : Stmt := inCl (topS 8) 0
theorem sc_ini_NoKey : FnScope ["self", "key"] ["self", "key"] (defScope s_ini_NoKey) := ⟨rfl, rfl, rfl, by decide +kernel, rfl, by decide +kernel, by decide +kernel⟩

/-! ini_NoNode -/
abbrev s_ini_NoNode : Stmt := inCl (topS 5) 0
theorem sc_ini_NoNode : FnScope ["self", "path"] ["self", "path"] (defScope s_ini_NoNode) := ⟨rfl, rfl, rfl, by decide +kernel, rfl, by decide +kernel, by decide +kernel⟩

/-! ini_NoProp -/
abbrev s_ini_NoProp : Stmt := inCl (topS 24) 0
theorem sc_ini_NoProp : FnScope ["self", "prop"] ["self", "prop"] (defScope s_ini_NoProp) := ⟨rfl, rfl, rfl, by decide +kernel, rfl, by decide +kernel, by decide +kernel⟩

/-! ini_NoStep -/
abbrev s_ini_NoStep : Stmt := inCl (topS 30) 0
theorem sc_ini_NoStep : FnScope ["self", "index"] ["self", "index"] (defScope s_ini_NoStep) := ⟨rfl, rfl, rfl, by decide +kernel, rfl, by decide +kernel, by decide +kernel⟩

/-! ini_NoUse -/
abbrev s_ini_NoUse : Stmt := inCl (topS 18) 0
theorem sc_ini_NoUse : FnScope ["self", "place"] ["self", "place"] (defScope s_ini_NoUse) := ⟨rfl, rfl, rfl, by decide +kernel, rfl, by decide +kernel, by decide +kernel⟩

/-! ini_NotPlain -/
abbrev s_ini_NotPlain : Stmt := inCl (topS 23) 0
theorem sc_ini_NotPlain : FnScope ["self", "name"] ["self", "name"] (defScope s_ini_NotPlain) := ⟨rfl, rfl, rfl, by decide +kernel, rfl, by decide +kernel, by decide +kernel⟩

/-! ini_Older -/
abbrev s_ini_Older : Stmt := inCl (topS 26) 0
theorem sc_ini_Older : FnScope ["self", "number"] ["self", "number"] (defScope s_ini_Older) := ⟨rfl, rfl, rfl, by decide +kernel, rfl, by decide +kernel, by decide +kernel⟩

/-! ini_Outside -/
abbrev s_ini_Outside : Stmt := inCl (topS 21) 0
theorem sc_ini_Outside : FnScope ["self", "path"] ["self", "path"] (defScope s_ini_Outside) := ⟨rfl, rfl, rfl, by decide +kernel, rfl, by decide +kernel, by decide +kernel⟩

/-! ini_PropInUse -/
abbrev s_ini_PropInUse : Stmt := inCl (topS 25) 0
theorem sc_ini_PropInUse : FnScope ["self", "prop"] ["self", "prop"] (defScope s_ini_PropInUse) := ⟨rfl, rfl, rfl, by decide +kernel, rfl, by decide +kernel, by decide +kernel⟩

/-! ini_Rests -/
abbrev s_ini_Rests : Stmt := inCl (topS 20) 0
theorem sc_ini_Rests : FnScope ["self", "key"] ["self", "key"] (defScope s_ini_Rests) := ⟨rfl, rfl, rfl, by decide +kernel, rfl, by decide +kernel, by decide +kernel⟩

/-! ini_Ring -/
abbrev s_ini_Ring : Stmt := inCl (topS 11) 0
theorem sc_ini_Ring : FnScope ["self", "circle"] ["self", "circle"] (defScope s_ini_Ring) := ⟨rfl, rfl, rfl, by decide +kernel, rfl, by decide +kernel, by decide +kernel⟩

/-! ini_TooLarge -/
abbrev s_ini_TooLarge : Stmt := inCl (topS 12) 0
theorem sc_ini_TooLarge : FnScope ["self", "name"] ["self", "name"] (defScope s_ini_TooLarge) := ⟨rfl, rfl, rfl, by decide +kernel, rfl, by decide +kernel, by decide +kernel⟩

/-! ini_TwoEntries -/
abbrev s_ini_TwoEntries : Stmt := inCl (topS 7) 0
theorem sc_ini_TwoEntries : FnScope ["self", "key"] ["self", "key"] (defScope s_ini_TwoEntries) := ⟨rfl, rfl, rfl, by decide +kernel, rfl, by decide +kernel, by decide +kernel⟩

/-! ini_UnknownRelease -/
abbrev s_ini_UnknownRelease : Stmt := inCl (topS 10) 0
theorem sc_ini_UnknownRelease : FnScope ["self", "name", "number"] ["self", "name", "number"] (defScope s_ini_UnknownRelease) := ⟨rfl, rfl, rfl, by decide +kernel, rfl, by decide +kernel, by decide +kernel⟩

/-! ini_UnknownTemplate -/
abbrev s_ini_UnknownTemplate : Stmt := inCl (topS 9) 0
theorem sc_ini_UnknownTemplate : FnScope ["self", "name"] ["self", "name"] (defScope s_ini_UnknownTemplate) := ⟨rfl, rfl, rfl, by decide +kernel, rfl, by decide +kernel, by decide +kernel⟩

/-! _law_made -/
abbrev s__law_made : Stmt := topS 39
theorem sc__law_made : FnScope ["_law_one", "_law_two", "_law_found"] ["_law_one", "_law_two"] (defScope s__law_made) := ⟨rfl, rfl, rfl, by decide +kernel, rfl, by decide +kernel, by decide +kernel⟩

/-! _law_named -/
abbrev s__law_named : Stmt := topS 40
theorem sc__law_named : FnScope ["_law_one", "_law_two", "_law_found"] ["_law_one", "_law_two"] (defScope s__law_named) := ⟨rfl, rfl, rfl, by decide +kernel, rfl, by decide +kernel, by decide +kernel⟩

/-! _law_fields -/
abbrev s__law_fields : Stmt := topS 41
theorem sc__law_fields : FnScope ["_law_k", "_law_e"] ["_law_k", "_law_e"] (defScope s__law_fields) := ⟨rfl, rfl, rfl, by decide +kernel, rfl, by decide +kernel, by decide +kernel⟩

/-! _law_kinds -/
abbrev s__law_kinds : Stmt := topS 42
theorem sc__law_kinds : FnScope ["_law_e", "_law_found", "_law_k"] ["_law_e"] (defScope s__law_kinds) := ⟨rfl, rfl, rfl, by decide +kernel, rfl, by decide +kernel, by decide +kernel⟩

/-! law -/
abbrev s_law : Stmt := topS 43
theorem sc_law : FnScope ["_law_script", "_law_stream", "_law_kept", "_law_turn", "_law_made_here", "_law_fixed_here", "_law_bare", "_law_one", "_law_two", "_law_text", "_law_dues", "_law_k", "_law_e"] ["_law_script"] (defScope s_law) := ⟨rfl, rfl, rfl, by decide +kernel, rfl, by decide +kernel, by decide +kernel⟩

structure Lw (K : PySem.W.Frag) (mg : Str → Option Value) where
  f_as_tuples : Addr
  fd_as_tuples : FuncData
  D_as_tuples : Df K mg "as_tuples" s_as_tuples f_as_tuples fd_as_tuples ["thing"]
  f__law_draw : Addr
  fd__law_draw : FuncData
  D__law_draw : Df K mg "_law_draw" s__law_draw f__law_draw fd__law_draw ["_law_stream", "_law_many"]
  f__law_same : Addr
  fd__law_same : FuncData
  D__law_same : Df K mg "_law_same" s__law_same f__law_same fd__law_same ["_law_found", "_law_due"]
  f__law_thing : Addr
  fd__law_thing : FuncData
  D__law_thing : Df K mg "_law_thing" s__law_thing f__law_thing fd__law_thing ["_law_stream", "_law_deep"]
  f__law_fixed : Addr
  fd__law_fixed : FuncData
  D__law_fixed : Df K mg "_law_fixed" s__law_fixed f__law_fixed fd__law_fixed ["_law_thing_here"]
  f_ini_BadEntry : Addr
  fd_ini_BadEntry : FuncData
  D_ini_BadEntry : Di K "BadEntry.__init__" s_ini_BadEntry f_ini_BadEntry fd_ini_BadEntry ["self", "index"]
  f_ini_BadLine : Addr
  fd_ini_BadLine : FuncData
  D_ini_BadLine : Di K "BadLine.__init__" s_ini_BadLine f_ini_BadLine fd_ini_BadLine ["self", "index"]
  f_ini_BadName : Addr
  fd_ini_BadName : FuncData
  D_ini_BadName : Di K "BadName.__init__" s_ini_BadName f_ini_BadName fd_ini_BadName ["self", "name"]
  f_ini_BadStep : Addr
  fd_ini_BadStep : FuncData
  D_ini_BadStep : Di K "BadStep.__init__" s_ini_BadStep f_ini_BadStep fd_ini_BadStep ["self", "index"]
  f_ini_BadText : Addr
  fd_ini_BadText : FuncData
  D_ini_BadText : Di K "BadText.__init__" s_ini_BadText f_ini_BadText fd_ini_BadText ["self", "at"]
  f_ini_Broken : Addr
  fd_ini_Broken : FuncData
  D_ini_Broken : Di K "Broken.__init__" s_ini_Broken f_ini_Broken fd_ini_Broken ["self", "index"]
  f_ini_Clash : Addr
  fd_ini_Clash : FuncData
  D_ini_Clash : Di K "Clash.__init__" s_ini_Clash f_ini_Clash fd_ini_Clash ["self", "name", "key"]
  f_ini_Frozen : Addr
  fd_ini_Frozen : FuncData
  D_ini_Frozen : Di K "Frozen.__init__" s_ini_Frozen f_ini_Frozen fd_ini_Frozen ["self", "name", "number"]
  f_ini_IdInUse : Addr
  fd_ini_IdInUse : FuncData
  D_ini_IdInUse : Di K "IdInUse.__init__" s_ini_IdInUse f_ini_IdInUse fd_ini_IdInUse ["self", "path"]
  f_ini_InUse : Addr
  fd_ini_InUse : FuncData
  D_ini_InUse : Di K "InUse.__init__" s_ini_InUse f_ini_InUse fd_ini_InUse ["self", "user"]
  f_ini_NameInUse : Addr
  fd_ini_NameInUse : FuncData
  D_ini_NameInUse : Di K "NameInUse.__init__" s_ini_NameInUse f_ini_NameInUse fd_ini_NameInUse ["self", "name"]
  f_ini_NoKey : Addr
  fd_ini_NoKey : FuncData
  D_ini_NoKey : Di K "NoKey.__init__" s_ini_NoKey f_ini_NoKey fd_ini_NoKey ["self", "key"]
  f_ini_NoNode : Addr
  fd_ini_NoNode : FuncData
  D_ini_NoNode : Di K "NoNode.__init__" s_ini_NoNode f_ini_NoNode fd_ini_NoNode ["self", "path"]
  f_ini_NoProp : Addr
  fd_ini_NoProp : FuncData
  D_ini_NoProp : Di K "NoProp.__init__" s_ini_NoProp f_ini_NoProp fd_ini_NoProp ["self", "prop"]
  f_ini_NoStep : Addr
  fd_ini_NoStep : FuncData
  D_ini_NoStep : Di K "NoStep.__init__" s_ini_NoStep f_ini_NoStep fd_ini_NoStep ["self", "index"]
  f_ini_NoUse : Addr
  fd_ini_NoUse : FuncData
  D_ini_NoUse : Di K "NoUse.__init__" s_ini_NoUse f_ini_NoUse fd_ini_NoUse ["self", "place"]
  f_ini_NotPlain : Addr
  fd_ini_NotPlain : FuncData
  D_ini_NotPlain : Di K "NotPlain.__init__" s_ini_NotPlain f_ini_NotPlain fd_ini_NotPlain ["self", "name"]
  f_ini_Older : Addr
  fd_ini_Older : FuncData
  D_ini_Older : Di K "Older.__init__" s_ini_Older f_ini_Older fd_ini_Older ["self", "number"]
  f_ini_Outside : Addr
  fd_ini_Outside : FuncData
  D_ini_Outside : Di K "Outside.__init__" s_ini_Outside f_ini_Outside fd_ini_Outside ["self", "path"]
  f_ini_PropInUse : Addr
  fd_ini_PropInUse : FuncData
  D_ini_PropInUse : Di K "PropInUse.__init__" s_ini_PropInUse f_ini_PropInUse fd_ini_PropInUse ["self", "prop"]
  f_ini_Rests : Addr
  fd_ini_Rests : FuncData
  D_ini_Rests : Di K "Rests.__init__" s_ini_Rests f_ini_Rests fd_ini_Rests ["self", "key"]
  f_ini_Ring : Addr
  fd_ini_Ring : FuncData
  D_ini_Ring : Di K "Ring.__init__" s_ini_Ring f_ini_Ring fd_ini_Ring ["self", "circle"]
  f_ini_TooLarge : Addr
  fd_ini_TooLarge : FuncData
  D_ini_TooLarge : Di K "TooLarge.__init__" s_ini_TooLarge f_ini_TooLarge fd_ini_TooLarge ["self", "name"]
  f_ini_TwoEntries : Addr
  fd_ini_TwoEntries : FuncData
  D_ini_TwoEntries : Di K "TwoEntries.__init__" s_ini_TwoEntries f_ini_TwoEntries fd_ini_TwoEntries ["self", "key"]
  f_ini_UnknownRelease : Addr
  fd_ini_UnknownRelease : FuncData
  D_ini_UnknownRelease : Di K "UnknownRelease.__init__" s_ini_UnknownRelease f_ini_UnknownRelease fd_ini_UnknownRelease ["self", "name", "number"]
  f_ini_UnknownTemplate : Addr
  fd_ini_UnknownTemplate : FuncData
  D_ini_UnknownTemplate : Di K "UnknownTemplate.__init__" s_ini_UnknownTemplate f_ini_UnknownTemplate fd_ini_UnknownTemplate ["self", "name"]
  f__law_made : Addr
  fd__law_made : FuncData
  D__law_made : Df K mg "_law_made" s__law_made f__law_made fd__law_made ["_law_one", "_law_two"]
  f__law_named : Addr
  fd__law_named : FuncData
  D__law_named : Df K mg "_law_named" s__law_named f__law_named fd__law_named ["_law_one", "_law_two"]
  f__law_fields : Addr
  fd__law_fields : FuncData
  D__law_fields : Df K mg "_law_fields" s__law_fields f__law_fields fd__law_fields ["_law_k", "_law_e"]
  f__law_kinds : Addr
  fd__law_kinds : FuncData
  D__law_kinds : Df K mg "_law_kinds" s__law_kinds f__law_kinds fd__law_kinds ["_law_e"]
  f_law : Addr
  fd_law : FuncData
  D_law : Df K mg "law" s_law f_law fd_law ["_law_script"]
  n_ValueError : mg "ValueError" = none
  n_all : mg "all" = none
  n_int : mg "int" = none
  n_isinstance : mg "isinstance" = none
  n_list : mg "list" = none
  n_range : mg "range" = none
  n_repr : mg "repr" = none
  n_tuple : mg "tuple" = none
  C_VariantError : Addr
  C_BadEntry : Addr
  C_BadLine : Addr
  C_BadName : Addr
  C_BadPiece : Addr
  C_BadStep : Addr
  C_BadText : Addr
  C_BadTree : Addr
  C_Broken : Addr
  C_Clash : Addr
  C_Frozen : Addr
  C_IdInUse : Addr
  C_InUse : Addr
  C_NameInUse : Addr
  C_NoKey : Addr
  C_NoNode : Addr
  C_NoProp : Addr
  C_NoStep : Addr
  C_NoUse : Addr
  C_NotPlain : Addr
  C_NothingToRedo : Addr
  C_NothingToUndo : Addr
  C_Older : Addr
  C_Outside : Addr
  C_PropInUse : Addr
  C_Rests : Addr
  C_Ring : Addr
  C_TooLarge : Addr
  C_TwoEntries : Addr
  C_UnknownRelease : Addr
  C_UnknownTemplate : Addr
  g_VariantError : mg "VariantError" = some (.ref C_VariantError)
  x_VariantError : PySem.W.excIn K C_VariantError [.type "ValueError", .type "Exception", .type "BaseException", .type "object"] "ValueError.__new__" = true
  k_VariantError : PySem.W.keepIn K (.ref C_VariantError) = true
  b_VariantError : PySem.W.subIn K (.ref C_VariantError) (.type "BaseException") = some true
  hd_VariantError : PySem.W.hasDictIn K C_VariantError = true
  ve_VariantError : VEc K C_VariantError
  ec_VariantError : ExcC K C_VariantError
  g_BadEntry : mg "BadEntry" = some (.ref C_BadEntry)
  o_BadEntry : OexC K C_BadEntry
  iC_BadEntry : PySem.W.findIn K (.ref C_BadEntry) "__init__" = some (some (.ref f_ini_BadEntry))
  tI_BadEntry : PySem.W.typeIn K (.ref f_ini_BadEntry) = some (.type "function")
  xf_BadEntry : XfC K C_BadEntry
  no_BadEntry_index : PySem.W.findIn K (.ref C_BadEntry) "index" = some none
  m_BadEntry : PySem.W.exmOne K (.ref C_BadEntry) (.ref C_BadEntry) = some true
  ec_BadEntry : ExcC K C_BadEntry
  g_BadLine : mg "BadLine" = some (.ref C_BadLine)
  o_BadLine : OexC K C_BadLine
  iC_BadLine : PySem.W.findIn K (.ref C_BadLine) "__init__" = some (some (.ref f_ini_BadLine))
  tI_BadLine : PySem.W.typeIn K (.ref f_ini_BadLine) = some (.type "function")
  xf_BadLine : XfC K C_BadLine
  no_BadLine_index : PySem.W.findIn K (.ref C_BadLine) "index" = some none
  m_BadLine : PySem.W.exmOne K (.ref C_BadLine) (.ref C_BadLine) = some true
  ec_BadLine : ExcC K C_BadLine
  g_BadName : mg "BadName" = some (.ref C_BadName)
  o_BadName : OexC K C_BadName
  iC_BadName : PySem.W.findIn K (.ref C_BadName) "__init__" = some (some (.ref f_ini_BadName))
  tI_BadName : PySem.W.typeIn K (.ref f_ini_BadName) = some (.type "function")
  xf_BadName : XfC K C_BadName
  no_BadName_name : PySem.W.findIn K (.ref C_BadName) "name" = some none
  m_BadName : PySem.W.exmOne K (.ref C_BadName) (.ref C_BadName) = some true
  ec_BadName : ExcC K C_BadName
  g_BadPiece : mg "BadPiece" = some (.ref C_BadPiece)
  x_BadPiece : PySem.W.excIn K C_BadPiece [.type "ValueError", .type "Exception", .type "BaseException", .type "object"] "ValueError.__new__" = true
  k_BadPiece : PySem.W.keepIn K (.ref C_BadPiece) = true
  b_BadPiece : PySem.W.subIn K (.ref C_BadPiece) (.type "BaseException") = some true
  t_BadPiece : PySem.W.typeIn K (.ref C_BadPiece) = some (.type "type")
  m_BadPiece : PySem.W.exmOne K (.ref C_BadPiece) (.ref C_BadPiece) = some true
  ec_BadPiece : ExcC K C_BadPiece
  g_BadStep : mg "BadStep" = some (.ref C_BadStep)
  o_BadStep : OexC K C_BadStep
  iC_BadStep : PySem.W.findIn K (.ref C_BadStep) "__init__" = some (some (.ref f_ini_BadStep))
  tI_BadStep : PySem.W.typeIn K (.ref f_ini_BadStep) = some (.type "function")
  xf_BadStep : XfC K C_BadStep
  no_BadStep_index : PySem.W.findIn K (.ref C_BadStep) "index" = some none
  m_BadStep : PySem.W.exmOne K (.ref C_BadStep) (.ref C_BadStep) = some true
  ec_BadStep : ExcC K C_BadStep
  g_BadText : mg "BadText" = some (.ref C_BadText)
  o_BadText : OexC K C_BadText
  iC_BadText : PySem.W.findIn K (.ref C_BadText) "__init__" = some (some (.ref f_ini_BadText))
  tI_BadText : PySem.W.typeIn K (.ref f_ini_BadText) = some (.type "function")
  xf_BadText : XfC K C_BadText
  no_BadText_at : PySem.W.findIn K (.ref C_BadText) "at" = some none
  m_BadText : PySem.W.exmOne K (.ref C_BadText) (.ref C_BadText) = some true
  ec_BadText : ExcC K C_BadText
  g_BadTree : mg "BadTree" = some (.ref C_BadTree)
  x_BadTree : PySem.W.excIn K C_BadTree [.type "ValueError", .type "Exception", .type "BaseException", .type "object"] "ValueError.__new__" = true
  k_BadTree : PySem.W.keepIn K (.ref C_BadTree) = true
  b_BadTree : PySem.W.subIn K (.ref C_BadTree) (.type "BaseException") = some true
  t_BadTree : PySem.W.typeIn K (.ref C_BadTree) = some (.type "type")
  m_BadTree : PySem.W.exmOne K (.ref C_BadTree) (.ref C_BadTree) = some true
  ec_BadTree : ExcC K C_BadTree
  g_Broken : mg "Broken" = some (.ref C_Broken)
  o_Broken : OexC K C_Broken
  iC_Broken : PySem.W.findIn K (.ref C_Broken) "__init__" = some (some (.ref f_ini_Broken))
  tI_Broken : PySem.W.typeIn K (.ref f_ini_Broken) = some (.type "function")
  xf_Broken : XfC K C_Broken
  no_Broken_index : PySem.W.findIn K (.ref C_Broken) "index" = some none
  m_Broken : PySem.W.exmOne K (.ref C_Broken) (.ref C_Broken) = some true
  ec_Broken : ExcC K C_Broken
  g_Clash : mg "Clash" = some (.ref C_Clash)
  o_Clash : OexC K C_Clash
  iC_Clash : PySem.W.findIn K (.ref C_Clash) "__init__" = some (some (.ref f_ini_Clash))
  tI_Clash : PySem.W.typeIn K (.ref f_ini_Clash) = some (.type "function")
  xf_Clash : XfC K C_Clash
  no_Clash_name : PySem.W.findIn K (.ref C_Clash) "name" = some none
  no_Clash_key : PySem.W.findIn K (.ref C_Clash) "key" = some none
  m_Clash : PySem.W.exmOne K (.ref C_Clash) (.ref C_Clash) = some true
  ec_Clash : ExcC K C_Clash
  g_Frozen : mg "Frozen" = some (.ref C_Frozen)
  o_Frozen : OexC K C_Frozen
  iC_Frozen : PySem.W.findIn K (.ref C_Frozen) "__init__" = some (some (.ref f_ini_Frozen))
  tI_Frozen : PySem.W.typeIn K (.ref f_ini_Frozen) = some (.type "function")
  xf_Frozen : XfC K C_Frozen
  no_Frozen_name : PySem.W.findIn K (.ref C_Frozen) "name" = some none
  no_Frozen_number : PySem.W.findIn K (.ref C_Frozen) "number" = some none
  m_Frozen : PySem.W.exmOne K (.ref C_Frozen) (.ref C_Frozen) = some true
  ec_Frozen : ExcC K C_Frozen
  g_IdInUse : mg "IdInUse" = some (.ref C_IdInUse)
  o_IdInUse : OexC K C_IdInUse
  iC_IdInUse : PySem.W.findIn K (.ref C_IdInUse) "__init__" = some (some (.ref f_ini_IdInUse))
  tI_IdInUse : PySem.W.typeIn K (.ref f_ini_IdInUse) = some (.type "function")
  xf_IdInUse : XfC K C_IdInUse
  no_IdInUse_path : PySem.W.findIn K (.ref C_IdInUse) "path" = some none
  m_IdInUse : PySem.W.exmOne K (.ref C_IdInUse) (.ref C_IdInUse) = some true
  ec_IdInUse : ExcC K C_IdInUse
  g_InUse : mg "InUse" = some (.ref C_InUse)
  o_InUse : OexC K C_InUse
  iC_InUse : PySem.W.findIn K (.ref C_InUse) "__init__" = some (some (.ref f_ini_InUse))
  tI_InUse : PySem.W.typeIn K (.ref f_ini_InUse) = some (.type "function")
  xf_InUse : XfC K C_InUse
  no_InUse_user : PySem.W.findIn K (.ref C_InUse) "user" = some none
  m_InUse : PySem.W.exmOne K (.ref C_InUse) (.ref C_InUse) = some true
  ec_InUse : ExcC K C_InUse
  g_NameInUse : mg "NameInUse" = some (.ref C_NameInUse)
  o_NameInUse : OexC K C_NameInUse
  iC_NameInUse : PySem.W.findIn K (.ref C_NameInUse) "__init__" = some (some (.ref f_ini_NameInUse))
  tI_NameInUse : PySem.W.typeIn K (.ref f_ini_NameInUse) = some (.type "function")
  xf_NameInUse : XfC K C_NameInUse
  no_NameInUse_name : PySem.W.findIn K (.ref C_NameInUse) "name" = some none
  m_NameInUse : PySem.W.exmOne K (.ref C_NameInUse) (.ref C_NameInUse) = some true
  ec_NameInUse : ExcC K C_NameInUse
  g_NoKey : mg "NoKey" = some (.ref C_NoKey)
  o_NoKey : OexC K C_NoKey
  iC_NoKey : PySem.W.findIn K (.ref C_NoKey) "__init__" = some (some (.ref f_ini_NoKey))
  tI_NoKey : PySem.W.typeIn K (.ref f_ini_NoKey) = some (.type "function")
  xf_NoKey : XfC K C_NoKey
  no_NoKey_key : PySem.W.findIn K (.ref C_NoKey) "key" = some none
  m_NoKey : PySem.W.exmOne K (.ref C_NoKey) (.ref C_NoKey) = some true
  ec_NoKey : ExcC K C_NoKey
  g_NoNode : mg "NoNode" = some (.ref C_NoNode)
  o_NoNode : OexC K C_NoNode
  iC_NoNode : PySem.W.findIn K (.ref C_NoNode) "__init__" = some (some (.ref f_ini_NoNode))
  tI_NoNode : PySem.W.typeIn K (.ref f_ini_NoNode) = some (.type "function")
  xf_NoNode : XfC K C_NoNode
  no_NoNode_path : PySem.W.findIn K (.ref C_NoNode) "path" = some none
  m_NoNode : PySem.W.exmOne K (.ref C_NoNode) (.ref C_NoNode) = some true
  ec_NoNode : ExcC K C_NoNode
  g_NoProp : mg "NoProp" = some (.ref C_NoProp)
  o_NoProp : OexC K C_NoProp
  iC_NoProp : PySem.W.findIn K (.ref C_NoProp) "__init__" = some (some (.ref f_ini_NoProp))
  tI_NoProp : PySem.W.typeIn K (.ref f_ini_NoProp) = some (.type "function")
  xf_NoProp : XfC K C_NoProp
  no_NoProp_prop : PySem.W.findIn K (.ref C_NoProp) "prop" = some none
  m_NoProp : PySem.W.exmOne K (.ref C_NoProp) (.ref C_NoProp) = some true
  ec_NoProp : ExcC K C_NoProp
  g_NoStep : mg "NoStep" = some (.ref C_NoStep)
  o_NoStep : OexC K C_NoStep
  iC_NoStep : PySem.W.findIn K (.ref C_NoStep) "__init__" = some (some (.ref f_ini_NoStep))
  tI_NoStep : PySem.W.typeIn K (.ref f_ini_NoStep) = some (.type "function")
  xf_NoStep : XfC K C_NoStep
  no_NoStep_index : PySem.W.findIn K (.ref C_NoStep) "index" = some none
  m_NoStep : PySem.W.exmOne K (.ref C_NoStep) (.ref C_NoStep) = some true
  ec_NoStep : ExcC K C_NoStep
  g_NoUse : mg "NoUse" = some (.ref C_NoUse)
  o_NoUse : OexC K C_NoUse
  iC_NoUse : PySem.W.findIn K (.ref C_NoUse) "__init__" = some (some (.ref f_ini_NoUse))
  tI_NoUse : PySem.W.typeIn K (.ref f_ini_NoUse) = some (.type "function")
  xf_NoUse : XfC K C_NoUse
  no_NoUse_place : PySem.W.findIn K (.ref C_NoUse) "place" = some none
  m_NoUse : PySem.W.exmOne K (.ref C_NoUse) (.ref C_NoUse) = some true
  ec_NoUse : ExcC K C_NoUse
  g_NotPlain : mg "NotPlain" = some (.ref C_NotPlain)
  o_NotPlain : OexC K C_NotPlain
  iC_NotPlain : PySem.W.findIn K (.ref C_NotPlain) "__init__" = some (some (.ref f_ini_NotPlain))
  tI_NotPlain : PySem.W.typeIn K (.ref f_ini_NotPlain) = some (.type "function")
  xf_NotPlain : XfC K C_NotPlain
  no_NotPlain_name : PySem.W.findIn K (.ref C_NotPlain) "name" = some none
  m_NotPlain : PySem.W.exmOne K (.ref C_NotPlain) (.ref C_NotPlain) = some true
  ec_NotPlain : ExcC K C_NotPlain
  g_NothingToRedo : mg "NothingToRedo" = some (.ref C_NothingToRedo)
  x_NothingToRedo : PySem.W.excIn K C_NothingToRedo [.type "ValueError", .type "Exception", .type "BaseException", .type "object"] "ValueError.__new__" = true
  k_NothingToRedo : PySem.W.keepIn K (.ref C_NothingToRedo) = true
  b_NothingToRedo : PySem.W.subIn K (.ref C_NothingToRedo) (.type "BaseException") = some true
  t_NothingToRedo : PySem.W.typeIn K (.ref C_NothingToRedo) = some (.type "type")
  m_NothingToRedo : PySem.W.exmOne K (.ref C_NothingToRedo) (.ref C_NothingToRedo) = some true
  ec_NothingToRedo : ExcC K C_NothingToRedo
  g_NothingToUndo : mg "NothingToUndo" = some (.ref C_NothingToUndo)
  x_NothingToUndo : PySem.W.excIn K C_NothingToUndo [.type "ValueError", .type "Exception", .type "BaseException", .type "object"] "ValueError.__new__" = true
  k_NothingToUndo : PySem.W.keepIn K (.ref C_NothingToUndo) = true
  b_NothingToUndo : PySem.W.subIn K (.ref C_NothingToUndo) (.type "BaseException") = some true
  t_NothingToUndo : PySem.W.typeIn K (.ref C_NothingToUndo) = some (.type "type")
  m_NothingToUndo : PySem.W.exmOne K (.ref C_NothingToUndo) (.ref C_NothingToUndo) = some true
  ec_NothingToUndo : ExcC K C_NothingToUndo
  g_Older : mg "Older" = some (.ref C_Older)
  o_Older : OexC K C_Older
  iC_Older : PySem.W.findIn K (.ref C_Older) "__init__" = some (some (.ref f_ini_Older))
  tI_Older : PySem.W.typeIn K (.ref f_ini_Older) = some (.type "function")
  xf_Older : XfC K C_Older
  no_Older_number : PySem.W.findIn K (.ref C_Older) "number" = some none
  m_Older : PySem.W.exmOne K (.ref C_Older) (.ref C_Older) = some true
  ec_Older : ExcC K C_Older
  g_Outside : mg "Outside" = some (.ref C_Outside)
  o_Outside : OexC K C_Outside
  iC_Outside : PySem.W.findIn K (.ref C_Outside) "__init__" = some (some (.ref f_ini_Outside))
  tI_Outside : PySem.W.typeIn K (.ref f_ini_Outside) = some (.type "function")
  xf_Outside : XfC K C_Outside
  no_Outside_path : PySem.W.findIn K (.ref C_Outside) "path" = some none
  m_Outside : PySem.W.exmOne K (.ref C_Outside) (.ref C_Outside) = some true
  ec_Outside : ExcC K C_Outside
  g_PropInUse : mg "PropInUse" = some (.ref C_PropInUse)
  o_PropInUse : OexC K C_PropInUse
  iC_PropInUse : PySem.W.findIn K (.ref C_PropInUse) "__init__" = some (some (.ref f_ini_PropInUse))
  tI_PropInUse : PySem.W.typeIn K (.ref f_ini_PropInUse) = some (.type "function")
  xf_PropInUse : XfC K C_PropInUse
  no_PropInUse_prop : PySem.W.findIn K (.ref C_PropInUse) "prop" = some none
  m_PropInUse : PySem.W.exmOne K (.ref C_PropInUse) (.ref C_PropInUse) = some true
  ec_PropInUse : ExcC K C_PropInUse
  g_Rests : mg "Rests" = some (.ref C_Rests)
  o_Rests : OexC K C_Rests
  iC_Rests : PySem.W.findIn K (.ref C_Rests) "__init__" = some (some (.ref f_ini_Rests))
  tI_Rests : PySem.W.typeIn K (.ref f_ini_Rests) = some (.type "function")
  xf_Rests : XfC K C_Rests
  no_Rests_key : PySem.W.findIn K (.ref C_Rests) "key" = some none
  m_Rests : PySem.W.exmOne K (.ref C_Rests) (.ref C_Rests) = some true
  ec_Rests : ExcC K C_Rests
  g_Ring : mg "Ring" = some (.ref C_Ring)
  o_Ring : OexC K C_Ring
  iC_Ring : PySem.W.findIn K (.ref C_Ring) "__init__" = some (some (.ref f_ini_Ring))
  tI_Ring : PySem.W.typeIn K (.ref f_ini_Ring) = some (.type "function")
  xf_Ring : XfC K C_Ring
  no_Ring_circle : PySem.W.findIn K (.ref C_Ring) "circle" = some none
  m_Ring : PySem.W.exmOne K (.ref C_Ring) (.ref C_Ring) = some true
  ec_Ring : ExcC K C_Ring
  g_TooLarge : mg "TooLarge" = some (.ref C_TooLarge)
  o_TooLarge : OexC K C_TooLarge
  iC_TooLarge : PySem.W.findIn K (.ref C_TooLarge) "__init__" = some (some (.ref f_ini_TooLarge))
  tI_TooLarge : PySem.W.typeIn K (.ref f_ini_TooLarge) = some (.type "function")
  xf_TooLarge : XfC K C_TooLarge
  no_TooLarge_name : PySem.W.findIn K (.ref C_TooLarge) "name" = some none
  m_TooLarge : PySem.W.exmOne K (.ref C_TooLarge) (.ref C_TooLarge) = some true
  ec_TooLarge : ExcC K C_TooLarge
  g_TwoEntries : mg "TwoEntries" = some (.ref C_TwoEntries)
  o_TwoEntries : OexC K C_TwoEntries
  iC_TwoEntries : PySem.W.findIn K (.ref C_TwoEntries) "__init__" = some (some (.ref f_ini_TwoEntries))
  tI_TwoEntries : PySem.W.typeIn K (.ref f_ini_TwoEntries) = some (.type "function")
  xf_TwoEntries : XfC K C_TwoEntries
  no_TwoEntries_key : PySem.W.findIn K (.ref C_TwoEntries) "key" = some none
  m_TwoEntries : PySem.W.exmOne K (.ref C_TwoEntries) (.ref C_TwoEntries) = some true
  ec_TwoEntries : ExcC K C_TwoEntries
  g_UnknownRelease : mg "UnknownRelease" = some (.ref C_UnknownRelease)
  o_UnknownRelease : OexC K C_UnknownRelease
  iC_UnknownRelease : PySem.W.findIn K (.ref C_UnknownRelease) "__init__" = some (some (.ref f_ini_UnknownRelease))
  tI_UnknownRelease : PySem.W.typeIn K (.ref f_ini_UnknownRelease) = some (.type "function")
  xf_UnknownRelease : XfC K C_UnknownRelease
  no_UnknownRelease_name : PySem.W.findIn K (.ref C_UnknownRelease) "name" = some none
  no_UnknownRelease_number : PySem.W.findIn K (.ref C_UnknownRelease) "number" = some none
  m_UnknownRelease : PySem.W.exmOne K (.ref C_UnknownRelease) (.ref C_UnknownRelease) = some true
  ec_UnknownRelease : ExcC K C_UnknownRelease
  g_UnknownTemplate : mg "UnknownTemplate" = some (.ref C_UnknownTemplate)
  o_UnknownTemplate : OexC K C_UnknownTemplate
  iC_UnknownTemplate : PySem.W.findIn K (.ref C_UnknownTemplate) "__init__" = some (some (.ref f_ini_UnknownTemplate))
  tI_UnknownTemplate : PySem.W.typeIn K (.ref f_ini_UnknownTemplate) = some (.type "function")
  xf_UnknownTemplate : XfC K C_UnknownTemplate
  no_UnknownTemplate_name : PySem.W.findIn K (.ref C_UnknownTemplate) "name" = some none
  m_UnknownTemplate : PySem.W.exmOne K (.ref C_UnknownTemplate) (.ref C_UnknownTemplate) = some true
  ec_UnknownTemplate : ExcC K C_UnknownTemplate
  kt_BadTree_all : PySem.W.kitAny K (.ref C_BadTree) [.ref C_BadPiece, .ref C_NothingToUndo, .ref C_NothingToRedo, .ref C_NoNode, .ref C_BadEntry, .ref C_TwoEntries, .ref C_NoKey, .ref C_UnknownTemplate, .ref C_Ring, .ref C_TooLarge, .ref C_BadName, .ref C_NameInUse, .ref C_InUse, .ref C_IdInUse, .ref C_NoUse, .ref C_Rests, .ref C_Outside, .ref C_NotPlain, .ref C_NoProp, .ref C_PropInUse, .ref C_Older, .ref C_BadStep, .ref C_NoStep, .ref C_Broken, .ref C_BadText, .ref C_BadLine, .ref C_UnknownRelease, .ref C_Frozen, .ref C_Clash] = some false
  kt_BadTree_ValueError : PySem.W.kitOne K (.ref C_BadTree) (.type "ValueError") = some true
  kt_BadTree_VariantError : PySem.W.kitOne K (.ref C_BadTree) (.ref C_VariantError) = some true
  kt_BadPiece_all : PySem.W.kitAny K (.ref C_BadPiece) [.ref C_BadTree, .ref C_NothingToUndo, .ref C_NothingToRedo, .ref C_NoNode, .ref C_BadEntry, .ref C_TwoEntries, .ref C_NoKey, .ref C_UnknownTemplate, .ref C_Ring, .ref C_TooLarge, .ref C_BadName, .ref C_NameInUse, .ref C_InUse, .ref C_IdInUse, .ref C_NoUse, .ref C_Rests, .ref C_Outside, .ref C_NotPlain, .ref C_NoProp, .ref C_PropInUse, .ref C_Older, .ref C_BadStep, .ref C_NoStep, .ref C_Broken, .ref C_BadText, .ref C_BadLine, .ref C_UnknownRelease, .ref C_Frozen, .ref C_Clash] = some false
  kt_BadPiece_ValueError : PySem.W.kitOne K (.ref C_BadPiece) (.type "ValueError") = some true
  kt_BadPiece_VariantError : PySem.W.kitOne K (.ref C_BadPiece) (.ref C_VariantError) = some true
  kt_NothingToUndo_all : PySem.W.kitAny K (.ref C_NothingToUndo) [.ref C_BadTree, .ref C_BadPiece, .ref C_NothingToRedo, .ref C_NoNode, .ref C_BadEntry, .ref C_TwoEntries, .ref C_NoKey, .ref C_UnknownTemplate, .ref C_Ring, .ref C_TooLarge, .ref C_BadName, .ref C_NameInUse, .ref C_InUse, .ref C_IdInUse, .ref C_NoUse, .ref C_Rests, .ref C_Outside, .ref C_NotPlain, .ref C_NoProp, .ref C_PropInUse, .ref C_Older, .ref C_BadStep, .ref C_NoStep, .ref C_Broken, .ref C_BadText, .ref C_BadLine, .ref C_UnknownRelease, .ref C_Frozen, .ref C_Clash] = some false
  kt_NothingToUndo_ValueError : PySem.W.kitOne K (.ref C_NothingToUndo) (.type "ValueError") = some true
  kt_NothingToUndo_VariantError : PySem.W.kitOne K (.ref C_NothingToUndo) (.ref C_VariantError) = some true
  kt_NothingToRedo_all : PySem.W.kitAny K (.ref C_NothingToRedo) [.ref C_BadTree, .ref C_BadPiece, .ref C_NothingToUndo, .ref C_NoNode, .ref C_BadEntry, .ref C_TwoEntries, .ref C_NoKey, .ref C_UnknownTemplate, .ref C_Ring, .ref C_TooLarge, .ref C_BadName, .ref C_NameInUse, .ref C_InUse, .ref C_IdInUse, .ref C_NoUse, .ref C_Rests, .ref C_Outside, .ref C_NotPlain, .ref C_NoProp, .ref C_PropInUse, .ref C_Older, .ref C_BadStep, .ref C_NoStep, .ref C_Broken, .ref C_BadText, .ref C_BadLine, .ref C_UnknownRelease, .ref C_Frozen, .ref C_Clash] = some false
  kt_NothingToRedo_ValueError : PySem.W.kitOne K (.ref C_NothingToRedo) (.type "ValueError") = some true
  kt_NothingToRedo_VariantError : PySem.W.kitOne K (.ref C_NothingToRedo) (.ref C_VariantError) = some true
  kt_NoNode_all : PySem.W.kitAny K (.ref C_NoNode) [.ref C_BadTree, .ref C_BadPiece, .ref C_NothingToUndo, .ref C_NothingToRedo, .ref C_BadEntry, .ref C_TwoEntries, .ref C_NoKey, .ref C_UnknownTemplate, .ref C_Ring, .ref C_TooLarge, .ref C_BadName, .ref C_NameInUse, .ref C_InUse, .ref C_IdInUse, .ref C_NoUse, .ref C_Rests, .ref C_Outside, .ref C_NotPlain, .ref C_NoProp, .ref C_PropInUse, .ref C_Older, .ref C_BadStep, .ref C_NoStep, .ref C_Broken, .ref C_BadText, .ref C_BadLine, .ref C_UnknownRelease, .ref C_Frozen, .ref C_Clash] = some false
  kt_NoNode_ValueError : PySem.W.kitOne K (.ref C_NoNode) (.type "ValueError") = some true
  kt_NoNode_VariantError : PySem.W.kitOne K (.ref C_NoNode) (.ref C_VariantError) = some true
  kt_BadEntry_all : PySem.W.kitAny K (.ref C_BadEntry) [.ref C_BadTree, .ref C_BadPiece, .ref C_NothingToUndo, .ref C_NothingToRedo, .ref C_NoNode, .ref C_TwoEntries, .ref C_NoKey, .ref C_UnknownTemplate, .ref C_Ring, .ref C_TooLarge, .ref C_BadName, .ref C_NameInUse, .ref C_InUse, .ref C_IdInUse, .ref C_NoUse, .ref C_Rests, .ref C_Outside, .ref C_NotPlain, .ref C_NoProp, .ref C_PropInUse, .ref C_Older, .ref C_BadStep, .ref C_NoStep, .ref C_Broken, .ref C_BadText, .ref C_BadLine, .ref C_UnknownRelease, .ref C_Frozen, .ref C_Clash] = some false
  kt_BadEntry_ValueError : PySem.W.kitOne K (.ref C_BadEntry) (.type "ValueError") = some true
  kt_BadEntry_VariantError : PySem.W.kitOne K (.ref C_BadEntry) (.ref C_VariantError) = some true
  kt_TwoEntries_all : PySem.W.kitAny K (.ref C_TwoEntries) [.ref C_BadTree, .ref C_BadPiece, .ref C_NothingToUndo, .ref C_NothingToRedo, .ref C_NoNode, .ref C_BadEntry, .ref C_NoKey, .ref C_UnknownTemplate, .ref C_Ring, .ref C_TooLarge, .ref C_BadName, .ref C_NameInUse, .ref C_InUse, .ref C_IdInUse, .ref C_NoUse, .ref C_Rests, .ref C_Outside, .ref C_NotPlain, .ref C_NoProp, .ref C_PropInUse, .ref C_Older, .ref C_BadStep, .ref C_NoStep, .ref C_Broken, .ref C_BadText, .ref C_BadLine, .ref C_UnknownRelease, .ref C_Frozen, .ref C_Clash] = some false
  kt_TwoEntries_ValueError : PySem.W.kitOne K (.ref C_TwoEntries) (.type "ValueError") = some true
  kt_TwoEntries_VariantError : PySem.W.kitOne K (.ref C_TwoEntries) (.ref C_VariantError) = some true
  kt_NoKey_all : PySem.W.kitAny K (.ref C_NoKey) [.ref C_BadTree, .ref C_BadPiece, .ref C_NothingToUndo, .ref C_NothingToRedo, .ref C_NoNode, .ref C_BadEntry, .ref C_TwoEntries, .ref C_UnknownTemplate, .ref C_Ring, .ref C_TooLarge, .ref C_BadName, .ref C_NameInUse, .ref C_InUse, .ref C_IdInUse, .ref C_NoUse, .ref C_Rests, .ref C_Outside, .ref C_NotPlain, .ref C_NoProp, .ref C_PropInUse, .ref C_Older, .ref C_BadStep, .ref C_NoStep, .ref C_Broken, .ref C_BadText, .ref C_BadLine, .ref C_UnknownRelease, .ref C_Frozen, .ref C_Clash] = some false
  kt_NoKey_ValueError : PySem.W.kitOne K (.ref C_NoKey) (.type "ValueError") = some true
  kt_NoKey_VariantError : PySem.W.kitOne K (.ref C_NoKey) (.ref C_VariantError) = some true
  kt_UnknownTemplate_all : PySem.W.kitAny K (.ref C_UnknownTemplate) [.ref C_BadTree, .ref C_BadPiece, .ref C_NothingToUndo, .ref C_NothingToRedo, .ref C_NoNode, .ref C_BadEntry, .ref C_TwoEntries, .ref C_NoKey, .ref C_Ring, .ref C_TooLarge, .ref C_BadName, .ref C_NameInUse, .ref C_InUse, .ref C_IdInUse, .ref C_NoUse, .ref C_Rests, .ref C_Outside, .ref C_NotPlain, .ref C_NoProp, .ref C_PropInUse, .ref C_Older, .ref C_BadStep, .ref C_NoStep, .ref C_Broken, .ref C_BadText, .ref C_BadLine, .ref C_UnknownRelease, .ref C_Frozen, .ref C_Clash] = some false
  kt_UnknownTemplate_ValueError : PySem.W.kitOne K (.ref C_UnknownTemplate) (.type "ValueError") = some true
  kt_UnknownTemplate_VariantError : PySem.W.kitOne K (.ref C_UnknownTemplate) (.ref C_VariantError) = some true
  kt_Ring_all : PySem.W.kitAny K (.ref C_Ring) [.ref C_BadTree, .ref C_BadPiece, .ref C_NothingToUndo, .ref C_NothingToRedo, .ref C_NoNode, .ref C_BadEntry, .ref C_TwoEntries, .ref C_NoKey, .ref C_UnknownTemplate, .ref C_TooLarge, .ref C_BadName, .ref C_NameInUse, .ref C_InUse, .ref C_IdInUse, .ref C_NoUse, .ref C_Rests, .ref C_Outside, .ref C_NotPlain, .ref C_NoProp, .ref C_PropInUse, .ref C_Older, .ref C_BadStep, .ref C_NoStep, .ref C_Broken, .ref C_BadText, .ref C_BadLine, .ref C_UnknownRelease, .ref C_Frozen, .ref C_Clash] = some false
  kt_Ring_ValueError : PySem.W.kitOne K (.ref C_Ring) (.type "ValueError") = some true
  kt_Ring_VariantError : PySem.W.kitOne K (.ref C_Ring) (.ref C_VariantError) = some true
  kt_TooLarge_all : PySem.W.kitAny K (.ref C_TooLarge) [.ref C_BadTree, .ref C_BadPiece, .ref C_NothingToUndo, .ref C_NothingToRedo, .ref C_NoNode, .ref C_BadEntry, .ref C_TwoEntries, .ref C_NoKey, .ref C_UnknownTemplate, .ref C_Ring, .ref C_BadName, .ref C_NameInUse, .ref C_InUse, .ref C_IdInUse, .ref C_NoUse, .ref C_Rests, .ref C_Outside, .ref C_NotPlain, .ref C_NoProp, .ref C_PropInUse, .ref C_Older, .ref C_BadStep, .ref C_NoStep, .ref C_Broken, .ref C_BadText, .ref C_BadLine, .ref C_UnknownRelease, .ref C_Frozen, .ref C_Clash] = some false
  kt_TooLarge_ValueError : PySem.W.kitOne K (.ref C_TooLarge) (.type "ValueError") = some true
  kt_TooLarge_VariantError : PySem.W.kitOne K (.ref C_TooLarge) (.ref C_VariantError) = some true
  kt_BadName_all : PySem.W.kitAny K (.ref C_BadName) [.ref C_BadTree, .ref C_BadPiece, .ref C_NothingToUndo, .ref C_NothingToRedo, .ref C_NoNode, .ref C_BadEntry, .ref C_TwoEntries, .ref C_NoKey, .ref C_UnknownTemplate, .ref C_Ring, .ref C_TooLarge, .ref C_NameInUse, .ref C_InUse, .ref C_IdInUse, .ref C_NoUse, .ref C_Rests, .ref C_Outside, .ref C_NotPlain, .ref C_NoProp, .ref C_PropInUse, .ref C_Older, .ref C_BadStep, .ref C_NoStep, .ref C_Broken, .ref C_BadText, .ref C_BadLine, .ref C_UnknownRelease, .ref C_Frozen, .ref C_Clash] = some false
  kt_BadName_ValueError : PySem.W.kitOne K (.ref C_BadName) (.type "ValueError") = some true
  kt_BadName_VariantError : PySem.W.kitOne K (.ref C_BadName) (.ref C_VariantError) = some true
  kt_NameInUse_all : PySem.W.kitAny K (.ref C_NameInUse) [.ref C_BadTree, .ref C_BadPiece, .ref C_NothingToUndo, .ref C_NothingToRedo, .ref C_NoNode, .ref C_BadEntry, .ref C_TwoEntries, .ref C_NoKey, .ref C_UnknownTemplate, .ref C_Ring, .ref C_TooLarge, .ref C_BadName, .ref C_InUse, .ref C_IdInUse, .ref C_NoUse, .ref C_Rests, .ref C_Outside, .ref C_NotPlain, .ref C_NoProp, .ref C_PropInUse, .ref C_Older, .ref C_BadStep, .ref C_NoStep, .ref C_Broken, .ref C_BadText, .ref C_BadLine, .ref C_UnknownRelease, .ref C_Frozen, .ref C_Clash] = some false
  kt_NameInUse_ValueError : PySem.W.kitOne K (.ref C_NameInUse) (.type "ValueError") = some true
  kt_NameInUse_VariantError : PySem.W.kitOne K (.ref C_NameInUse) (.ref C_VariantError) = some true
  kt_InUse_all : PySem.W.kitAny K (.ref C_InUse) [.ref C_BadTree, .ref C_BadPiece, .ref C_NothingToUndo, .ref C_NothingToRedo, .ref C_NoNode, .ref C_BadEntry, .ref C_TwoEntries, .ref C_NoKey, .ref C_UnknownTemplate, .ref C_Ring, .ref C_TooLarge, .ref C_BadName, .ref C_NameInUse, .ref C_IdInUse, .ref C_NoUse, .ref C_Rests, .ref C_Outside, .ref C_NotPlain, .ref C_NoProp, .ref C_PropInUse, .ref C_Older, .ref C_BadStep, .ref C_NoStep, .ref C_Broken, .ref C_BadText, .ref C_BadLine, .ref C_UnknownRelease, .ref C_Frozen, .ref C_Clash] = some false
  kt_InUse_ValueError : PySem.W.kitOne K (.ref C_InUse) (.type "ValueError") = some true
  kt_InUse_VariantError : PySem.W.kitOne K (.ref C_InUse) (.ref C_VariantError) = some true
  kt_IdInUse_all : PySem.W.kitAny K (.ref C_IdInUse) [.ref C_BadTree, .ref C_BadPiece, .ref C_NothingToUndo, .ref C_NothingToRedo, .ref C_NoNode, .ref C_BadEntry, .ref C_TwoEntries, .ref C_NoKey, .ref C_UnknownTemplate, .ref C_Ring, .ref C_TooLarge, .ref C_BadName, .ref C_NameInUse, .ref C_InUse, .ref C_NoUse, .ref C_Rests, .ref C_Outside, .ref C_NotPlain, .ref C_NoProp, .ref C_PropInUse, .ref C_Older, .ref C_BadStep, .ref C_NoStep, .ref C_Broken, .ref C_BadText, .ref C_BadLine, .ref C_UnknownRelease, .ref C_Frozen, .ref C_Clash] = some false
  kt_IdInUse_ValueError : PySem.W.kitOne K (.ref C_IdInUse) (.type "ValueError") = some true
  kt_IdInUse_VariantError : PySem.W.kitOne K (.ref C_IdInUse) (.ref C_VariantError) = some true
  kt_NoUse_all : PySem.W.kitAny K (.ref C_NoUse) [.ref C_BadTree, .ref C_BadPiece, .ref C_NothingToUndo, .ref C_NothingToRedo, .ref C_NoNode, .ref C_BadEntry, .ref C_TwoEntries, .ref C_NoKey, .ref C_UnknownTemplate, .ref C_Ring, .ref C_TooLarge, .ref C_BadName, .ref C_NameInUse, .ref C_InUse, .ref C_IdInUse, .ref C_Rests, .ref C_Outside, .ref C_NotPlain, .ref C_NoProp, .ref C_PropInUse, .ref C_Older, .ref C_BadStep, .ref C_NoStep, .ref C_Broken, .ref C_BadText, .ref C_BadLine, .ref C_UnknownRelease, .ref C_Frozen, .ref C_Clash] = some false
  kt_NoUse_ValueError : PySem.W.kitOne K (.ref C_NoUse) (.type "ValueError") = some true
  kt_NoUse_VariantError : PySem.W.kitOne K (.ref C_NoUse) (.ref C_VariantError) = some true
  kt_Rests_all : PySem.W.kitAny K (.ref C_Rests) [.ref C_BadTree, .ref C_BadPiece, .ref C_NothingToUndo, .ref C_NothingToRedo, .ref C_NoNode, .ref C_BadEntry, .ref C_TwoEntries, .ref C_NoKey, .ref C_UnknownTemplate, .ref C_Ring, .ref C_TooLarge, .ref C_BadName, .ref C_NameInUse, .ref C_InUse, .ref C_IdInUse, .ref C_NoUse, .ref C_Outside, .ref C_NotPlain, .ref C_NoProp, .ref C_PropInUse, .ref C_Older, .ref C_BadStep, .ref C_NoStep, .ref C_Broken, .ref C_BadText, .ref C_BadLine, .ref C_UnknownRelease, .ref C_Frozen, .ref C_Clash] = some false
  kt_Rests_ValueError : PySem.W.kitOne K (.ref C_Rests) (.type "ValueError") = some true
  kt_Rests_VariantError : PySem.W.kitOne K (.ref C_Rests) (.ref C_VariantError) = some true
  kt_Outside_all : PySem.W.kitAny K (.ref C_Outside) [.ref C_BadTree, .ref C_BadPiece, .ref C_NothingToUndo, .ref C_NothingToRedo, .ref C_NoNode, .ref C_BadEntry, .ref C_TwoEntries, .ref C_NoKey, .ref C_UnknownTemplate, .ref C_Ring, .ref C_TooLarge, .ref C_BadName, .ref C_NameInUse, .ref C_InUse, .ref C_IdInUse, .ref C_NoUse, .ref C_Rests, .ref C_NotPlain, .ref C_NoProp, .ref C_PropInUse, .ref C_Older, .ref C_BadStep, .ref C_NoStep, .ref C_Broken, .ref C_BadText, .ref C_BadLine, .ref C_UnknownRelease, .ref C_Frozen, .ref C_Clash] = some false
  kt_Outside_ValueError : PySem.W.kitOne K (.ref C_Outside) (.type "ValueError") = some true
  kt_Outside_VariantError : PySem.W.kitOne K (.ref C_Outside) (.ref C_VariantError) = some true
  kt_NotPlain_all : PySem.W.kitAny K (.ref C_NotPlain) [.ref C_BadTree, .ref C_BadPiece, .ref C_NothingToUndo, .ref C_NothingToRedo, .ref C_NoNode, .ref C_BadEntry, .ref C_TwoEntries, .ref C_NoKey, .ref C_UnknownTemplate, .ref C_Ring, .ref C_TooLarge, .ref C_BadName, .ref C_NameInUse, .ref C_InUse, .ref C_IdInUse, .ref C_NoUse, .ref C_Rests, .ref C_Outside, .ref C_NoProp, .ref C_PropInUse, .ref C_Older, .ref C_BadStep, .ref C_NoStep, .ref C_Broken, .ref C_BadText, .ref C_BadLine, .ref C_UnknownRelease, .ref C_Frozen, .ref C_Clash] = some false
  kt_NotPlain_ValueError : PySem.W.kitOne K (.ref C_NotPlain) (.type "ValueError") = some true
  kt_NotPlain_VariantError : PySem.W.kitOne K (.ref C_NotPlain) (.ref C_VariantError) = some true
  kt_NoProp_all : PySem.W.kitAny K (.ref C_NoProp) [.ref C_BadTree, .ref C_BadPiece, .ref C_NothingToUndo, .ref C_NothingToRedo, .ref C_NoNode, .ref C_BadEntry, .ref C_TwoEntries, .ref C_NoKey, .ref C_UnknownTemplate, .ref C_Ring, .ref C_TooLarge, .ref C_BadName, .ref C_NameInUse, .ref C_InUse, .ref C_IdInUse, .ref C_NoUse, .ref C_Rests, .ref C_Outside, .ref C_NotPlain, .ref C_PropInUse, .ref C_Older, .ref C_BadStep, .ref C_NoStep, .ref C_Broken, .ref C_BadText, .ref C_BadLine, .ref C_UnknownRelease, .ref C_Frozen, .ref C_Clash] = some false
  kt_NoProp_ValueError : PySem.W.kitOne K (.ref C_NoProp) (.type "ValueError") = some true
  kt_NoProp_VariantError : PySem.W.kitOne K (.ref C_NoProp) (.ref C_VariantError) = some true
  kt_PropInUse_all : PySem.W.kitAny K (.ref C_PropInUse) [.ref C_BadTree, .ref C_BadPiece, .ref C_NothingToUndo, .ref C_NothingToRedo, .ref C_NoNode, .ref C_BadEntry, .ref C_TwoEntries, .ref C_NoKey, .ref C_UnknownTemplate, .ref C_Ring, .ref C_TooLarge, .ref C_BadName, .ref C_NameInUse, .ref C_InUse, .ref C_IdInUse, .ref C_NoUse, .ref C_Rests, .ref C_Outside, .ref C_NotPlain, .ref C_NoProp, .ref C_Older, .ref C_BadStep, .ref C_NoStep, .ref C_Broken, .ref C_BadText, .ref C_BadLine, .ref C_UnknownRelease, .ref C_Frozen, .ref C_Clash] = some false
  kt_PropInUse_ValueError : PySem.W.kitOne K (.ref C_PropInUse) (.type "ValueError") = some true
  kt_PropInUse_VariantError : PySem.W.kitOne K (.ref C_PropInUse) (.ref C_VariantError) = some true
  kt_Older_all : PySem.W.kitAny K (.ref C_Older) [.ref C_BadTree, .ref C_BadPiece, .ref C_NothingToUndo, .ref C_NothingToRedo, .ref C_NoNode, .ref C_BadEntry, .ref C_TwoEntries, .ref C_NoKey, .ref C_UnknownTemplate, .ref C_Ring, .ref C_TooLarge, .ref C_BadName, .ref C_NameInUse, .ref C_InUse, .ref C_IdInUse, .ref C_NoUse, .ref C_Rests, .ref C_Outside, .ref C_NotPlain, .ref C_NoProp, .ref C_PropInUse, .ref C_BadStep, .ref C_NoStep, .ref C_Broken, .ref C_BadText, .ref C_BadLine, .ref C_UnknownRelease, .ref C_Frozen, .ref C_Clash] = some false
  kt_Older_ValueError : PySem.W.kitOne K (.ref C_Older) (.type "ValueError") = some true
  kt_Older_VariantError : PySem.W.kitOne K (.ref C_Older) (.ref C_VariantError) = some true
  kt_BadStep_all : PySem.W.kitAny K (.ref C_BadStep) [.ref C_BadTree, .ref C_BadPiece, .ref C_NothingToUndo, .ref C_NothingToRedo, .ref C_NoNode, .ref C_BadEntry, .ref C_TwoEntries, .ref C_NoKey, .ref C_UnknownTemplate, .ref C_Ring, .ref C_TooLarge, .ref C_BadName, .ref C_NameInUse, .ref C_InUse, .ref C_IdInUse, .ref C_NoUse, .ref C_Rests, .ref C_Outside, .ref C_NotPlain, .ref C_NoProp, .ref C_PropInUse, .ref C_Older, .ref C_NoStep, .ref C_Broken, .ref C_BadText, .ref C_BadLine, .ref C_UnknownRelease, .ref C_Frozen, .ref C_Clash] = some false
  kt_BadStep_ValueError : PySem.W.kitOne K (.ref C_BadStep) (.type "ValueError") = some true
  kt_BadStep_VariantError : PySem.W.kitOne K (.ref C_BadStep) (.ref C_VariantError) = some true
  kt_NoStep_all : PySem.W.kitAny K (.ref C_NoStep) [.ref C_BadTree, .ref C_BadPiece, .ref C_NothingToUndo, .ref C_NothingToRedo, .ref C_NoNode, .ref C_BadEntry, .ref C_TwoEntries, .ref C_NoKey, .ref C_UnknownTemplate, .ref C_Ring, .ref C_TooLarge, .ref C_BadName, .ref C_NameInUse, .ref C_InUse, .ref C_IdInUse, .ref C_NoUse, .ref C_Rests, .ref C_Outside, .ref C_NotPlain, .ref C_NoProp, .ref C_PropInUse, .ref C_Older, .ref C_BadStep, .ref C_Broken, .ref C_BadText, .ref C_BadLine, .ref C_UnknownRelease, .ref C_Frozen, .ref C_Clash] = some false
  kt_NoStep_ValueError : PySem.W.kitOne K (.ref C_NoStep) (.type "ValueError") = some true
  kt_NoStep_VariantError : PySem.W.kitOne K (.ref C_NoStep) (.ref C_VariantError) = some true
  kt_Broken_all : PySem.W.kitAny K (.ref C_Broken) [.ref C_BadTree, .ref C_BadPiece, .ref C_NothingToUndo, .ref C_NothingToRedo, .ref C_NoNode, .ref C_BadEntry, .ref C_TwoEntries, .ref C_NoKey, .ref C_UnknownTemplate, .ref C_Ring, .ref C_TooLarge, .ref C_BadName, .ref C_NameInUse, .ref C_InUse, .ref C_IdInUse, .ref C_NoUse, .ref C_Rests, .ref C_Outside, .ref C_NotPlain, .ref C_NoProp, .ref C_PropInUse, .ref C_Older, .ref C_BadStep, .ref C_NoStep, .ref C_BadText, .ref C_BadLine, .ref C_UnknownRelease, .ref C_Frozen, .ref C_Clash] = some false
  kt_Broken_ValueError : PySem.W.kitOne K (.ref C_Broken) (.type "ValueError") = some true
  kt_Broken_VariantError : PySem.W.kitOne K (.ref C_Broken) (.ref C_VariantError) = some true
  kt_BadText_all : PySem.W.kitAny K (.ref C_BadText) [.ref C_BadTree, .ref C_BadPiece, .ref C_NothingToUndo, .ref C_NothingToRedo, .ref C_NoNode, .ref C_BadEntry, .ref C_TwoEntries, .ref C_NoKey, .ref C_UnknownTemplate, .ref C_Ring, .ref C_TooLarge, .ref C_BadName, .ref C_NameInUse, .ref C_InUse, .ref C_IdInUse, .ref C_NoUse, .ref C_Rests, .ref C_Outside, .ref C_NotPlain, .ref C_NoProp, .ref C_PropInUse, .ref C_Older, .ref C_BadStep, .ref C_NoStep, .ref C_Broken, .ref C_BadLine, .ref C_UnknownRelease, .ref C_Frozen, .ref C_Clash] = some false
  kt_BadText_ValueError : PySem.W.kitOne K (.ref C_BadText) (.type "ValueError") = some true
  kt_BadText_VariantError : PySem.W.kitOne K (.ref C_BadText) (.ref C_VariantError) = some true
  kt_BadLine_all : PySem.W.kitAny K (.ref C_BadLine) [.ref C_BadTree, .ref C_BadPiece, .ref C_NothingToUndo, .ref C_NothingToRedo, .ref C_NoNode, .ref C_BadEntry, .ref C_TwoEntries, .ref C_NoKey, .ref C_UnknownTemplate, .ref C_Ring, .ref C_TooLarge, .ref C_BadName, .ref C_NameInUse, .ref C_InUse, .ref C_IdInUse, .ref C_NoUse, .ref C_Rests, .ref C_Outside, .ref C_NotPlain, .ref C_NoProp, .ref C_PropInUse, .ref C_Older, .ref C_BadStep, .ref C_NoStep, .ref C_Broken, .ref C_BadText, .ref C_UnknownRelease, .ref C_Frozen, .ref C_Clash] = some false
  kt_BadLine_ValueError : PySem.W.kitOne K (.ref C_BadLine) (.type "ValueError") = some true
  kt_BadLine_VariantError : PySem.W.kitOne K (.ref C_BadLine) (.ref C_VariantError) = some true
  kt_UnknownRelease_all : PySem.W.kitAny K (.ref C_UnknownRelease) [.ref C_BadTree, .ref C_BadPiece, .ref C_NothingToUndo, .ref C_NothingToRedo, .ref C_NoNode, .ref C_BadEntry, .ref C_TwoEntries, .ref C_NoKey, .ref C_UnknownTemplate, .ref C_Ring, .ref C_TooLarge, .ref C_BadName, .ref C_NameInUse, .ref C_InUse, .ref C_IdInUse, .ref C_NoUse, .ref C_Rests, .ref C_Outside, .ref C_NotPlain, .ref C_NoProp, .ref C_PropInUse, .ref C_Older, .ref C_BadStep, .ref C_NoStep, .ref C_Broken, .ref C_BadText, .ref C_BadLine, .ref C_Frozen, .ref C_Clash] = some false
  kt_UnknownRelease_ValueError : PySem.W.kitOne K (.ref C_UnknownRelease) (.type "ValueError") = some true
  kt_UnknownRelease_VariantError : PySem.W.kitOne K (.ref C_UnknownRelease) (.ref C_VariantError) = some true
  kt_Frozen_all : PySem.W.kitAny K (.ref C_Frozen) [.ref C_BadTree, .ref C_BadPiece, .ref C_NothingToUndo, .ref C_NothingToRedo, .ref C_NoNode, .ref C_BadEntry, .ref C_TwoEntries, .ref C_NoKey, .ref C_UnknownTemplate, .ref C_Ring, .ref C_TooLarge, .ref C_BadName, .ref C_NameInUse, .ref C_InUse, .ref C_IdInUse, .ref C_NoUse, .ref C_Rests, .ref C_Outside, .ref C_NotPlain, .ref C_NoProp, .ref C_PropInUse, .ref C_Older, .ref C_BadStep, .ref C_NoStep, .ref C_Broken, .ref C_BadText, .ref C_BadLine, .ref C_UnknownRelease, .ref C_Clash] = some false
  kt_Frozen_ValueError : PySem.W.kitOne K (.ref C_Frozen) (.type "ValueError") = some true
  kt_Frozen_VariantError : PySem.W.kitOne K (.ref C_Frozen) (.ref C_VariantError) = some true
  kt_Clash_all : PySem.W.kitAny K (.ref C_Clash) [.ref C_BadTree, .ref C_BadPiece, .ref C_NothingToUndo, .ref C_NothingToRedo, .ref C_NoNode, .ref C_BadEntry, .ref C_TwoEntries, .ref C_NoKey, .ref C_UnknownTemplate, .ref C_Ring, .ref C_TooLarge, .ref C_BadName, .ref C_NameInUse, .ref C_InUse, .ref C_IdInUse, .ref C_NoUse, .ref C_Rests, .ref C_Outside, .ref C_NotPlain, .ref C_NoProp, .ref C_PropInUse, .ref C_Older, .ref C_BadStep, .ref C_NoStep, .ref C_Broken, .ref C_BadText, .ref C_BadLine, .ref C_UnknownRelease, .ref C_Frozen] = some false
  kt_Clash_ValueError : PySem.W.kitOne K (.ref C_Clash) (.type "ValueError") = some true
  kt_Clash_VariantError : PySem.W.kitOne K (.ref C_Clash) (.ref C_VariantError) = some true
  kt_VariantError_all : PySem.W.kitAny K (.ref C_VariantError) [.ref C_BadTree, .ref C_BadPiece, .ref C_NothingToUndo, .ref C_NothingToRedo, .ref C_NoNode, .ref C_BadEntry, .ref C_TwoEntries, .ref C_NoKey, .ref C_UnknownTemplate, .ref C_Ring, .ref C_TooLarge, .ref C_BadName, .ref C_NameInUse, .ref C_InUse, .ref C_IdInUse, .ref C_NoUse, .ref C_Rests, .ref C_Outside, .ref C_NotPlain, .ref C_NoProp, .ref C_PropInUse, .ref C_Older, .ref C_BadStep, .ref C_NoStep, .ref C_Broken, .ref C_BadText, .ref C_BadLine, .ref C_UnknownRelease, .ref C_Frozen, .ref C_Clash] = some false
  kt_VariantError_ValueError : PySem.W.kitOne K (.ref C_VariantError) (.type "ValueError") = some true

section
variable {P : Program} {w : World} {K : PySem.W.Frag} {mg : Str → Option Value} {base : Heap}

/-! ### as_tuples -/
mutual
/-- lists become tuples -/
def tupU : U → U
  | .tup xs => .tup (tupUs xs)
  | .lst xs => .tup (tupUs xs)
  | .non => .non
  | .bl b => .bl b
  | .int i => .int i
  | .str z => .str z
  | .ref a => .ref a
  | .ty n => .ty n
def tupUs : List U → List U
  | [] => []
  | x :: xs => tupU x :: tupUs xs
end
theorem tupUs_map : ∀ xs : List U, tupUs xs = xs.map tupU
  | [] => rfl
  | x :: xs => by simp [tupUs, tupUs_map xs]
def sp_as_tuples (k : Nat) : USp := fun us M Q _ => ∃ x, us = [x] ∧ isD (val M x) = true ∧ dep (val M x) ≤ k ∧ Q (tupU (val M x)) M
local macro_rules | `(tactic| walk_at "q3") => `(tactic| simp only [uLc,z8i,uOr,z8d,z8m,uCB,z7t,z8l,uC,z8o,z7w,uOp,uUn,z8s,z8j,uIf,z8e,z7v,z7u,z7s,uBM,z8g,uSl,z4x,z8r,z72,z8q,z7x,List.append_nil,z8t,z80,z8y,z7z,z8u,z81,z8w,z8v,xIf,z74,z8x,z8p,z3t,z8n,z7m,z7q,z7o,z7p,z5w,z5v,z7a,z3l,z3m,z75,z5g,z8k,asD,uXf,z8f,z5n,z7y,z6e,z6d,z68,z67,z63,z5h,z5i,z5j,z3v,z3w,z6f,z64,z62,z5r,z6b,z7j,z7k,z7i,z7c,z7b,z7l,z7e,z5o,z2m,z2w,z2k,z2o,z2p,z2l,z2n,z5c,z73,z5a,z5e,z5f,z5b,z3g,z5d,z3e,z2q,z2r,z3i,z3k,z3j,z39,z3a,z37,z38,z4q,z6h,z4o,z4s,z4t,z4p,z3f,z4r,z4e,z4d,z3b,z2s,z3d,z3c,z0h,z0g,z0d,z0a,z0f,z0e,z1o,z1n,z0u,z0j,z0w,z0v,z2d,z2c,z1r,z10,z1t,z1s,z2f,z2e,z1w,z14,z1y,z1x,z16,z15,z0m,z0i,z0o,z0n,z1v,z1u,z11,z0l,z13,z12,z1q,z1p,z0x,z0k,z0z,z0y,z4i,z6g,z4g,z4j,z4k,z4h,z82,z88,z46,z5x,z44,z47,z48,z45,z2v,z2j,z40,z5q,z3y,z41,z42,z3z,z2u,z2i,z6y,z70,z6x,z71,z6z,z59,z56,z57,z58,z87,z86,z7r,z79,z7n,z7d,z5y,z76,z77,z6c,z69,z6a,z8b,z8c,z89,z8a,z85,z83,z84,z4v,z4u,z6i,z78,z5m,z5l,z5k,z6n,z6o,z6p,z6q,z6r,z6s,z6t,z6u,z6v,z6w,z50,z51,z52,z53,z54,z55,z4b,z4c,z49,z27,z26,z1e,z0r,z1g,z1f,z05,z04,z2h,z2g,z1z,z17,z21,z20,z0c,z0b,z23,z22,z18,z0p,z1a,z19,z01,z00,z29,z28,z1h,z0s,z1j,z1i,z07,z06,z2b,z2a,z1k,z0t,z1m,z1l,z09,z08,z25,z24,z1b,z0q,z1d,z1c,z03,z02,z6m,z8h,z4z,z6l,z6k,z4w,z4y,z3s,z6j,z3p,z4f,z3n,z3q,z3r,z3o,z5p,z2t,z3h,z4n,z4l,z4a,z66,z65,z4m,z60,z61,z5z,z32,z2x,z33,z2y,z34,z2z,z35,z30,z36,z31,z7h,z7g,z3u,z5u,z3x,z7f,z5t,z43,z5s,cle,clt,cge,cgt,ceq,cne,lenN,xFor,xTryM,uMix,uEnum,uZip,ltT,uSortK,sortK,sortN,uDNew,uDGet,inN,setN,uDNewS,uDGetS,inS,setS,uDm,uDm0,getR,popS,setdS,getNR,setdN,popNR,itemsR,lenS,dictS,sortItR,uFld,uFst,uMake,uLock,uLockE,uKeys,sortE,sortL,xOp,reprT_1,listN,uMkV,uMkK,uXv,uExo,exists_eq_left',exists_eq_left,Option.some.injEq,U.int.injEq,U.bl.injEq,U.str.injEq,U.ref.injEq,U.tup.injEq,U.lst.injEq,U.ty.injEq,List.cons.injEq,and_true,true_and,and_self,List.map_cons,List.map_nil,List.length_cons,List.length_nil,List.cons_append,List.nil_append,List.append_nil,List.getElem?_cons_zero,List.getElem?_cons_succ,List.set_cons_zero,List.set_cons_succ,List.replicate,↓reduceIte,Bool.false_eq_true,Bool.not_true,Bool.not_false,reduceCtorEq,Nat.reduceAdd,Nat.reduceSub,Nat.reduceLeDiff,Nat.reduceEqDiff,decide_true,decide_false,at0,at1,at2,at3,at4,ix0,ix1,ix2,ix3,ix4,updM_same,beq_self_eq_true,Option.bind,Option.map,wipeU,NT.put,puts,MO.lst.injEq,exists_and_left,decide_eq_true_eq,Bool.and_eq_true,Bool.or_eq_true,exists_eq',Nat.zero_le,true_or,or_true])
local macro_rules | `(tactic| walk_at "q1") => `(tactic| simp only [z8i,uOr,z8d,z8m,uCB,z7t,z8l,uC,z8o,z7w,uOp,uUn,z8s,z8j,uIf,z8e,z7v,z7u,z7s,uBM,z8g,uSl,z4x,z8r,z72,z8q,z7x,List.append_nil,z8t,z80,z8y,z7z,z8u,z81,z8w,z8v,xIf,z74,z8x,z8p,z3t,z8n,z7m,z7q,z7o,z7p,z5w,z5v,z7a,z3l,z3m,z75,z5g,z8k,asD,uXf,z8f,z5n,z7y,z6e,z6d,z68,z67,z63,z5h,z5i,z5j,z3v,z3w,z6f,z64,z62,z5r,z6b,z7j,z7k,z7i,z7c,z7b,z7l,z7e,z5o,z2m,z2w,z2k,z2o,z2p,z2l,z2n,z5c,z73,z5a,z5e,z5f,z5b,z3g,z5d,z3e,z2q,z2r,z3i,z3k,z3j,z39,z3a,z37,z38,z4q,z6h,z4o,z4s,z4t,z4p,z3f,z4r,z4e,z4d,z3b,z2s,z3d,z3c,z0h,z0g,z0d,z0a,z0f,z0e,z1o,z1n,z0u,z0j,z0w,z0v,z2d,z2c,z1r,z10,z1t,z1s,z2f,z2e,z1w,z14,z1y,z1x,z16,z15,z0m,z0i,z0o,z0n,z1v,z1u,z11,z0l,z13,z12,z1q,z1p,z0x,z0k,z0z,z0y,z4i,z6g,z4g,z4j,z4k,z4h,z82,z88,z46,z5x,z44,z47,z48,z45,z2v,z2j,z40,z5q,z3y,z41,z42,z3z,z2u,z2i,z6y,z70,z6x,z71,z6z,z59,z56,z57,z58,z87,z86,z7r,z79,z7n,z7d,z5y,z76,z77,z6c,z69,z6a,z8b,z8c,z89,z8a,z85,z83,z84,z4v,z4u,z6i,z78,z5m,z5l,z5k,z6n,z6o,z6p,z6q,z6r,z6s,z6t,z6u,z6v,z6w,z50,z51,z52,z53,z54,z55,z4b,z4c,z49,z27,z26,z1e,z0r,z1g,z1f,z05,z04,z2h,z2g,z1z,z17,z21,z20,z0c,z0b,z23,z22,z18,z0p,z1a,z19,z01,z00,z29,z28,z1h,z0s,z1j,z1i,z07,z06,z2b,z2a,z1k,z0t,z1m,z1l,z09,z08,z25,z24,z1b,z0q,z1d,z1c,z03,z02,z6m,z8h,z4z,z6l,z6k,z4w,z4y,z3s,z6j,z3p,z4f,z3n,z3q,z3r,z3o,z5p,z2t,z3h,z4n,z4l,z4a,z66,z65,z4m,z60,z61,z5z,z32,z2x,z33,z2y,z34,z2z,z35,z30,z36,z31,z7h,z7g,z3u,z5u,z3x,z7f,z5t,z43,z5s,cle,clt,cge,cgt,ceq,cne,lenN,xFor,xTryM,uMix,uEnum,uZip,ltT,uSortK,sortK,sortN,uDNew,uDGet,inN,setN,uDNewS,uDGetS,inS,setS,uDm,uDm0,getR,popS,setdS,getNR,setdN,popNR,itemsR,lenS,dictS,sortItR,uFld,uFst,uMake,uLock,uLockE,uKeys,sortE,sortL,xOp,reprT_1,listN,uMkV,uMkK,uXv,uExo,exists_eq_left',exists_eq_left,Option.some.injEq,U.int.injEq,U.bl.injEq,U.str.injEq,U.ref.injEq,U.tup.injEq,U.lst.injEq,U.ty.injEq,List.cons.injEq,and_true,true_and,and_self,List.map_cons,List.map_nil,List.length_cons,List.length_nil,List.cons_append,List.nil_append,List.append_nil,List.getElem?_cons_zero,List.getElem?_cons_succ,List.set_cons_zero,List.set_cons_succ,List.replicate,↓reduceIte,Bool.false_eq_true,Bool.not_true,Bool.not_false,reduceCtorEq,Nat.reduceAdd,Nat.reduceSub,Nat.reduceLeDiff,Nat.reduceEqDiff,decide_true,decide_false,at0,at1,at2,at3,at4,ix0,ix1,ix2,ix3,ix4,updM_same,beq_self_eq_true,Option.bind,Option.map,wipeU,NT.put,puts,MO.lst.injEq,exists_and_left,decide_eq_true_eq,Bool.and_eq_true,Bool.or_eq_true,exists_eq',Nat.zero_le,true_or,or_true])
theorem step_as_tuples (L : Lw K mg) {k : Nat} {sp' : USp} (k0 : Nat) (G : UFn P w K mg base CX0 (1 + k) L.f_as_tuples L.fd_as_tuples ["thing"] sp') (hsp : ∀ k', k0 = k' + 1 → sp' = sp_as_tuples k') : UFn P w K mg base CX0 (1 + k + 1) L.f_as_tuples L.fd_as_tuples ["thing"] (sp_as_tuples k0) := by
  refine ufn_ok L.D_as_tuples.F sc_as_tuples (fun us M Q E h => ?_) (fun cdv A outer s H E hr hG =>
      (uss_cons (us_if (ut_val (ue_callB uc_isi (by rfl) L.n_isinstance bt_isi (ua_cons (uv 0) (ua_cons (ue_tup (ua_cons (ue_bltn (by rfl) L.n_tuple bt_tuple) (ua_cons (ue_bltn (by rfl) L.n_list bt_list) ua_nil))) ua_nil)))) (uss_one (us_ret (ue_callTy uc_tuple (by rfl) L.n_tuple bt_tuple (ua_cons (ue_lc (own := [("part", 1)]) (n := (.one 1)) false rfl sc_as_tuples.nd (ui_any (uv 0)) (blkOk_by (own := [("part", 1)]) (N := ["thing", "part"]) (sc := defScope s_as_tuples) (by decide +kernel)) (by decide) (fun _ _ _ _ _ => (pg_nt sc_as_tuples.nd rfl (.inl rfl))) (fun _ _ _ _ _ => uts_nil) (fun _ _ _ _ _ => (ue_call G (hr.mono (by omega)) hG rfl L.D_as_tuples.g L.D_as_tuples.F.kp L.D_as_tuples.b .nil (fun _ => RelUs.nil) (ua_cons (uv 1) ua_nil)))) ua_nil)))) uss_nil)
      (uss_one (us_ret (uv 0))))) (fun us M Q E h => ?_)
  · obtain ⟨x, rfl, _⟩ := h
    rfl
  · obtain ⟨x, rfl, hx, hk, q⟩ := h
    have q : ZQ Q (tupU (val M x)) M := .inl q
    have each : ∀ {xs : List U} {k' : Nat}, isDs xs = true → deps xs ≤ k' → ∀ y ∈ xs, ∀ (M1 : UHp) (Q1 : UK) (E1 : UXK), Q1 (tupU y) M1 → sp_as_tuples k' [y] M1 Q1 E1 := fun h1 h2 y hy M1 Q1 E1 q1 => by
      have hd := isDs_iff.mp h1 y hy
      refine ⟨y, rfl, ?_⟩
      rw [val_isD hd]
      exact ⟨hd, deps_le.mp h2 y hy, q1⟩
    cases x with
    | tup xs =>
      have hx : isDs xs = true := hx
      have hk : deps xs + 1 ≤ k0 := hk
      obtain ⟨k', rfl⟩ : ∃ k', k0 = k' + 1 := ⟨k0 - 1, by omega⟩
      obtain rfl := hsp k' rfl
      have q : ZQ Q (.tup (xs.map tupU)) M := by
        have q : ZQ Q (.tup (tupUs xs)) M := q
        rw [tupUs_map] at q; exact q
      walk_at "q3"
      refine ⟨line_le, ?_⟩
      refine lc_map tupU (fun _ _ _ => True.intro) (fun D acc hD x hx2 => ⟨_, rfl, fun Q q => ?_⟩) ?_
      · walk_at "q1"
        exact each hx (by omega) x hx2 _ _ _ q
      · walk_at "q1"
        exact q
    | lst xs =>
      have hx : isDs xs = true := hx
      have hk : deps xs + 1 ≤ k0 := hk
      obtain ⟨k', rfl⟩ : ∃ k', k0 = k' + 1 := ⟨k0 - 1, by omega⟩
      obtain rfl := hsp k' rfl
      have q : ZQ Q (.tup (xs.map tupU)) M := by
        have q : ZQ Q (.tup (tupUs xs)) M := q
        rw [tupUs_map] at q; exact q
      walk_at "q3"
      refine ⟨line_le, ?_⟩
      refine lc_map tupU (fun _ _ _ => True.intro) (fun D acc hD x hx2 => ⟨_, rfl, fun Q q => ?_⟩) ?_
      · walk_at "q1"
        exact each hx (by omega) x hx2 _ _ _ q
      · walk_at "q1"
        exact q
    | ref a =>
      obtain ⟨xs, ha⟩ : ∃ xs, M a = some (.lst xs) := by
        cases e : M a with
        | none => simp only [val,e] at hx; simp [isD] at hx
        | some o =>
          cases o with
          | lst xs => exact ⟨xs, rfl⟩
          | _ => simp only [val,e] at hx; simp [isD] at hx
      have ev : val M (.ref a) = .lst xs := by simp only [val,ha]
      rw [ev] at hx hk q
      have hx : isDs xs = true := hx
      have hk : deps xs + 1 ≤ k0 := hk
      obtain ⟨k', rfl⟩ : ∃ k', k0 = k' + 1 := ⟨k0 - 1, by omega⟩
      obtain rfl := hsp k' rfl
      have q : ZQ Q (.tup (xs.map tupU)) M := by
        have q : ZQ Q (.tup (tupUs xs)) M := q
        rw [tupUs_map] at q; exact q
      simp only [uLc,z8i,uOr,z8d,z8m,uCB,z7t,z8l,uC,z8o,z7w,uOp,uUn,z8s,z8j,uIf,z8e,z7v,z7u,z7s,uBM,z8g,uSl,z4x,z8r,z72,z8q,z7x,List.append_nil,z8t,z80,z8y,z7z,z8u,z81,z8w,z8v,xIf,z74,z8x,z8p,z3t,z8n,z7m,z7q,z7o,z7p,z5w,z5v,z7a,z3l,z3m,z75,z5g,z8k,asD,uXf,z8f,z5n,z7y,z6e,z6d,z68,z67,z63,z5h,z5i,z5j,z3v,z3w,z6f,z64,z62,z5r,z6b,z7j,z7k,z7i,z7c,z7b,z7l,z7e,z5o,z2m,z2w,z2k,z2o,z2p,z2l,z2n,z5c,z73,z5a,z5e,z5f,z5b,z3g,z5d,z3e,z2q,z2r,z3i,z3k,z3j,z39,z3a,z37,z38,z4q,z6h,z4o,z4s,z4t,z4p,z3f,z4r,z4e,z4d,z3b,z2s,z3d,z3c,z0h,z0g,z0d,z0a,z0f,z0e,z1o,z1n,z0u,z0j,z0w,z0v,z2d,z2c,z1r,z10,z1t,z1s,z2f,z2e,z1w,z14,z1y,z1x,z16,z15,z0m,z0i,z0o,z0n,z1v,z1u,z11,z0l,z13,z12,z1q,z1p,z0x,z0k,z0z,z0y,z4i,z6g,z4g,z4j,z4k,z4h,z82,z88,z46,z5x,z44,z47,z48,z45,z2v,z2j,z40,z5q,z3y,z41,z42,z3z,z2u,z2i,z6y,z70,z6x,z71,z6z,z59,z56,z57,z58,z87,z86,z7r,z79,z7n,z7d,z5y,z76,z77,z6c,z69,z6a,z8b,z8c,z89,z8a,z85,z83,z84,z4v,z4u,z6i,z78,z5m,z5l,z5k,z6n,z6o,z6p,z6q,z6r,z6s,z6t,z6u,z6v,z6w,z50,z51,z52,z53,z54,z55,z4b,z4c,z49,z27,z26,z1e,z0r,z1g,z1f,z05,z04,z2h,z2g,z1z,z17,z21,z20,z0c,z0b,z23,z22,z18,z0p,z1a,z19,z01,z00,z29,z28,z1h,z0s,z1j,z1i,z07,z06,z2b,z2a,z1k,z0t,z1m,z1l,z09,z08,z25,z24,z1b,z0q,z1d,z1c,z03,z02,z6m,z8h,z4z,z6l,z6k,z4w,z4y,z3s,z6j,z3p,z4f,z3n,z3q,z3r,z3o,z5p,z2t,z3h,z4n,z4l,z4a,z66,z65,z4m,z60,z61,z5z,z32,z2x,z33,z2y,z34,z2z,z35,z30,z36,z31,z7h,z7g,z3u,z5u,z3x,z7f,z5t,z43,z5s,cle,clt,cge,cgt,ceq,cne,lenN,xFor,xTryM,uMix,uEnum,uZip,ltT,uSortK,sortK,sortN,uDNew,uDGet,inN,setN,uDNewS,uDGetS,inS,setS,uDm,uDm0,getR,popS,setdS,getNR,setdN,popNR,itemsR,lenS,dictS,sortItR,uFld,uFst,uMake,uLock,uLockE,uKeys,sortE,sortL,xOp,reprT_1,listN,uMkV,uMkK,uXv,uExo,exists_eq_left',exists_eq_left,Option.some.injEq,U.int.injEq,U.bl.injEq,U.str.injEq,U.ref.injEq,U.tup.injEq,U.lst.injEq,U.ty.injEq,List.cons.injEq,and_true,true_and,and_self,List.map_cons,List.map_nil,List.length_cons,List.length_nil,List.cons_append,List.nil_append,List.append_nil,List.getElem?_cons_zero,List.getElem?_cons_succ,List.set_cons_zero,List.set_cons_succ,List.replicate,↓reduceIte,Bool.false_eq_true,Bool.not_true,Bool.not_false,reduceCtorEq,Nat.reduceAdd,Nat.reduceSub,Nat.reduceLeDiff,Nat.reduceEqDiff,decide_true,decide_false,at0,at1,at2,at3,at4,ix0,ix1,ix2,ix3,ix4,updM_same,beq_self_eq_true,Option.bind,Option.map,wipeU,NT.put,puts,MO.lst.injEq,exists_and_left,decide_eq_true_eq,Bool.and_eq_true,Bool.or_eq_true,exists_eq',Nat.zero_le,true_or,or_true,ha]
      refine ⟨line_le, "list", by simp only [tyM,ha], by decide, by decide, ?_⟩
      simp only [z8i,uOr,z8d,z8m,uCB,z7t,z8l,uC,z8o,z7w,uOp,uUn,z8s,z8j,uIf,z8e,z7v,z7u,z7s,uBM,z8g,uSl,z4x,z8r,z72,z8q,z7x,List.append_nil,z8t,z80,z8y,z7z,z8u,z81,z8w,z8v,xIf,z74,z8x,z8p,z3t,z8n,z7m,z7q,z7o,z7p,z5w,z5v,z7a,z3l,z3m,z75,z5g,z8k,asD,uXf,z8f,z5n,z7y,z6e,z6d,z68,z67,z63,z5h,z5i,z5j,z3v,z3w,z6f,z64,z62,z5r,z6b,z7j,z7k,z7i,z7c,z7b,z7l,z7e,z5o,z2m,z2w,z2k,z2o,z2p,z2l,z2n,z5c,z73,z5a,z5e,z5f,z5b,z3g,z5d,z3e,z2q,z2r,z3i,z3k,z3j,z39,z3a,z37,z38,z4q,z6h,z4o,z4s,z4t,z4p,z3f,z4r,z4e,z4d,z3b,z2s,z3d,z3c,z0h,z0g,z0d,z0a,z0f,z0e,z1o,z1n,z0u,z0j,z0w,z0v,z2d,z2c,z1r,z10,z1t,z1s,z2f,z2e,z1w,z14,z1y,z1x,z16,z15,z0m,z0i,z0o,z0n,z1v,z1u,z11,z0l,z13,z12,z1q,z1p,z0x,z0k,z0z,z0y,z4i,z6g,z4g,z4j,z4k,z4h,z82,z88,z46,z5x,z44,z47,z48,z45,z2v,z2j,z40,z5q,z3y,z41,z42,z3z,z2u,z2i,z6y,z70,z6x,z71,z6z,z59,z56,z57,z58,z87,z86,z7r,z79,z7n,z7d,z5y,z76,z77,z6c,z69,z6a,z8b,z8c,z89,z8a,z85,z83,z84,z4v,z4u,z6i,z78,z5m,z5l,z5k,z6n,z6o,z6p,z6q,z6r,z6s,z6t,z6u,z6v,z6w,z50,z51,z52,z53,z54,z55,z4b,z4c,z49,z27,z26,z1e,z0r,z1g,z1f,z05,z04,z2h,z2g,z1z,z17,z21,z20,z0c,z0b,z23,z22,z18,z0p,z1a,z19,z01,z00,z29,z28,z1h,z0s,z1j,z1i,z07,z06,z2b,z2a,z1k,z0t,z1m,z1l,z09,z08,z25,z24,z1b,z0q,z1d,z1c,z03,z02,z6m,z8h,z4z,z6l,z6k,z4w,z4y,z3s,z6j,z3p,z4f,z3n,z3q,z3r,z3o,z5p,z2t,z3h,z4n,z4l,z4a,z66,z65,z4m,z60,z61,z5z,z32,z2x,z33,z2y,z34,z2z,z35,z30,z36,z31,z7h,z7g,z3u,z5u,z3x,z7f,z5t,z43,z5s,cle,clt,cge,cgt,ceq,cne,lenN,xFor,xTryM,uMix,uEnum,uZip,ltT,uSortK,sortK,sortN,uDNew,uDGet,inN,setN,uDNewS,uDGetS,inS,setS,uDm,uDm0,getR,popS,setdS,getNR,setdN,popNR,itemsR,lenS,dictS,sortItR,uFld,uFst,uMake,uLock,uLockE,uKeys,sortE,sortL,xOp,reprT_1,listN,uMkV,uMkK,uXv,uExo,exists_eq_left',exists_eq_left,Option.some.injEq,U.int.injEq,U.bl.injEq,U.str.injEq,U.ref.injEq,U.tup.injEq,U.lst.injEq,U.ty.injEq,List.cons.injEq,and_true,true_and,and_self,List.map_cons,List.map_nil,List.length_cons,List.length_nil,List.cons_append,List.nil_append,List.append_nil,List.getElem?_cons_zero,List.getElem?_cons_succ,List.set_cons_zero,List.set_cons_succ,List.replicate,↓reduceIte,Bool.false_eq_true,Bool.not_true,Bool.not_false,reduceCtorEq,Nat.reduceAdd,Nat.reduceSub,Nat.reduceLeDiff,Nat.reduceEqDiff,decide_true,decide_false,at0,at1,at2,at3,at4,ix0,ix1,ix2,ix3,ix4,updM_same,beq_self_eq_true,Option.bind,Option.map,wipeU,NT.put,puts,MO.lst.injEq,exists_and_left,decide_eq_true_eq,Bool.and_eq_true,Bool.or_eq_true,exists_eq',Nat.zero_le,true_or,or_true,ha,Bool.or_true]
      have st : ∀ D acc, M D = none → refL (updM M D (.lst acc) a) = some xs := fun D acc hD => by
        rw [updM_ne (fun e => by rw [← e, ha] at hD; cases hD), ha]; rfl
      refine lc_map tupU st (fun D acc hD x hx2 => ⟨_, rfl, fun Q q => ?_⟩) ?_
      · walk_at "q1"
        exact each hx (by omega) x hx2 _ _ _ q
      · walk_at "q1"
        exact q
    | ty n => simp [val, isD] at hx
    | _ =>
      simp only [z8i,uOr,z8d,z8m,uCB,z7t,z8l,uC,z8o,z7w,uOp,uUn,z8s,z8j,uIf,z8e,z7v,z7u,z7s,uBM,z8g,uSl,z4x,z8r,z72,z8q,z7x,List.append_nil,z8t,z80,z8y,z7z,z8u,z81,z8w,z8v,xIf,z74,z8x,z8p,z3t,z8n,z7m,z7q,z7o,z7p,z5w,z5v,z7a,z3l,z3m,z75,z5g,z8k,asD,uXf,z8f,z5n,z7y,z6e,z6d,z68,z67,z63,z5h,z5i,z5j,z3v,z3w,z6f,z64,z62,z5r,z6b,z7j,z7k,z7i,z7c,z7b,z7l,z7e,z5o,z2m,z2w,z2k,z2o,z2p,z2l,z2n,z5c,z73,z5a,z5e,z5f,z5b,z3g,z5d,z3e,z2q,z2r,z3i,z3k,z3j,z39,z3a,z37,z38,z4q,z6h,z4o,z4s,z4t,z4p,z3f,z4r,z4e,z4d,z3b,z2s,z3d,z3c,z0h,z0g,z0d,z0a,z0f,z0e,z1o,z1n,z0u,z0j,z0w,z0v,z2d,z2c,z1r,z10,z1t,z1s,z2f,z2e,z1w,z14,z1y,z1x,z16,z15,z0m,z0i,z0o,z0n,z1v,z1u,z11,z0l,z13,z12,z1q,z1p,z0x,z0k,z0z,z0y,z4i,z6g,z4g,z4j,z4k,z4h,z82,z88,z46,z5x,z44,z47,z48,z45,z2v,z2j,z40,z5q,z3y,z41,z42,z3z,z2u,z2i,z6y,z70,z6x,z71,z6z,z59,z56,z57,z58,z87,z86,z7r,z79,z7n,z7d,z5y,z76,z77,z6c,z69,z6a,z8b,z8c,z89,z8a,z85,z83,z84,z4v,z4u,z6i,z78,z5m,z5l,z5k,z6n,z6o,z6p,z6q,z6r,z6s,z6t,z6u,z6v,z6w,z50,z51,z52,z53,z54,z55,z4b,z4c,z49,z27,z26,z1e,z0r,z1g,z1f,z05,z04,z2h,z2g,z1z,z17,z21,z20,z0c,z0b,z23,z22,z18,z0p,z1a,z19,z01,z00,z29,z28,z1h,z0s,z1j,z1i,z07,z06,z2b,z2a,z1k,z0t,z1m,z1l,z09,z08,z25,z24,z1b,z0q,z1d,z1c,z03,z02,z6m,z8h,z4z,z6l,z6k,z4w,z4y,z3s,z6j,z3p,z4f,z3n,z3q,z3r,z3o,z5p,z2t,z3h,z4n,z4l,z4a,z66,z65,z4m,z60,z61,z5z,z32,z2x,z33,z2y,z34,z2z,z35,z30,z36,z31,z7h,z7g,z3u,z5u,z3x,z7f,z5t,z43,z5s,cle,clt,cge,cgt,ceq,cne,lenN,xFor,xTryM,uMix,uEnum,uZip,ltT,uSortK,sortK,sortN,uDNew,uDGet,inN,setN,uDNewS,uDGetS,inS,setS,uDm,uDm0,getR,popS,setdS,getNR,setdN,popNR,itemsR,lenS,dictS,sortItR,uFld,uFst,uMake,uLock,uLockE,uKeys,sortE,sortL,xOp,reprT_1,listN,uMkV,uMkK,uXv,uExo,exists_eq_left',exists_eq_left,Option.some.injEq,U.int.injEq,U.bl.injEq,U.str.injEq,U.ref.injEq,U.tup.injEq,U.lst.injEq,U.ty.injEq,List.cons.injEq,and_true,true_and,and_self,List.map_cons,List.map_nil,List.length_cons,List.length_nil,List.cons_append,List.nil_append,List.append_nil,List.getElem?_cons_zero,List.getElem?_cons_succ,List.set_cons_zero,List.set_cons_succ,List.replicate,↓reduceIte,Bool.false_eq_true,Bool.not_true,Bool.not_false,reduceCtorEq,Nat.reduceAdd,Nat.reduceSub,Nat.reduceLeDiff,Nat.reduceEqDiff,decide_true,decide_false,at0,at1,at2,at3,at4,ix0,ix1,ix2,ix3,ix4,updM_same,beq_self_eq_true,Option.bind,Option.map,wipeU,NT.put,puts,MO.lst.injEq,exists_and_left,decide_eq_true_eq,Bool.and_eq_true,Bool.or_eq_true,exists_eq',Nat.zero_le,true_or,or_true,tupU] at q ⊢
      exact ⟨line_le, q⟩

theorem ok_as_tuples (L : Lw K mg) : ∀ k : Nat, UFn P w K mg base CX0 (1 + k + 1) L.f_as_tuples L.fd_as_tuples ["thing"] (sp_as_tuples k)
  | 0 => step_as_tuples L (k := 0) (sp' := fun _ _ _ _ => False) 0 ufn_none (fun k' h => by cases h)
  | k + 1 => step_as_tuples L (k := k + 1) (sp' := sp_as_tuples k) (k + 1) (ok_as_tuples L k) (fun k' h => by cases h; rfl)
/-! ### _law_draw -/
def sp__law_draw : USp := fun us M Q _ => ∃ s c n many, us = [.ref s, .int many] ∧ 0 < many ∧ many < 536870912 ∧ Strm M s c (n + 1) ∧ ∀ r M', 0 ≤ r → r < many → Strm M' s c n → But s c M M' → Q (.int r) M'
theorem draw_use {M : UHp} {Q : UK} {E : UXK} {s c : Addr} {n : Nat} {many : Int} (hS : Strm M s c (n + 1)) (h0 : 0 < many) (h1 : many < 536870912) (h : ∀ r M', 0 ≤ r → r < many → Strm M' s c n → But s c M M' → Q (.int r) M') :
    sp__law_draw [.ref s, .int many] M Q E := ⟨s, c, n, many, rfl, h0, h1, hS, h⟩
theorem ok__law_draw (L : Lw K mg) : UFn P w K mg base CX0 1 L.f__law_draw L.fd__law_draw ["_law_stream", "_law_many"] (sp__law_draw) := by
  refine ufn_ok L.D__law_draw.F sc__law_draw (fun us M Q E h => ?_) (fun cdv A outer s H E hr hG =>
      (uss_cons (us_asg (ue_op (uo_add false) (ue_ix (uv 0) ue_int) ue_int) (ug_sub ui_set (uv 0) ue_int))
      (uss_cons (us_if (PW.pt (uw_and (ut_cmp (uo_eq (hu6 hr)) (ue_ix (uv 0) ue_int) ue_int (nomark _)) (uw_and1 (ut_cmp (uo_ne (hu6 hr)) (ue_ix (uv 0) ue_int) (ue_lst false ua_nil) (nomark _))))) (uss_cons (us_asg (ue_bm PySem.F.plainAttrs_list PySem.F.slot_list_pop PySem.F.type_list_pop um_popAt (ue_ix (uv 0) ue_int) (ua_cons ue_int ua_nil)) (ug_sub ui_set (uv 0) ue_int))
      (uss_one (us_if (ut_cmp uo_lt (ue_ix (uv 0) ue_int) (ue_op uo_pow ue_int ue_int) (nomark _)) (uss_cons (us_asg (ue_op uo_mod (ue_callTy uc_int2 (by rfl) L.n_int bt_int (ua_cons (ue_op (uo_add false) (ue_op (uo_add false) (ue_op (uo_mul false false) (ue_ix (uv 0) ue_int) ue_int) (ue_ix (uv 0) ue_int)) ue_int) ua_nil)) ue_int) (ug_sub ui_set (uv 0) ue_int))
      (uss_one (us_asg ue_int (ug_sub ui_set (uv 0) ue_int)))) uss_nil))) uss_nil)
      (uss_cons (us_if (ut_cmp uo_gt (ue_ix (uv 0) ue_int) ue_int (nomark _)) (uss_cons (us_set (i := 3) sc__law_draw.nd rfl (.inl rfl) (ue_op uo_mod (ue_callTy uc_int2 (by rfl) L.n_int bt_int (ua_cons (ue_ix (uv 0) ue_int) ua_nil)) (uv 1)))
      (uss_cons (us_asg (ue_op uo_div (ue_ix (uv 0) ue_int) (uv 1)) (ug_sub ui_set (uv 0) ue_int))
      (uss_one (us_ret (uv 3))))) uss_nil)
      (uss_cons (us_set (i := 2) sc__law_draw.nd rfl (.inl rfl) (ue_op uo_mod (ue_op uo_pow (ue_op (uo_add false) (ue_op (uo_add false) (ue_ix (uv 0) ue_int) (ue_op (uo_mul false false) ue_int (ue_ix (uv 0) ue_int))) ue_int) ue_int) ue_int))
      (uss_one (us_ret (ue_op uo_mod (ue_op uo_mod (ue_op uo_pow (ue_op (uo_add false) (ue_op (uo_add false) (ue_op (uo_mul false false) (uv 2) ue_int) (ue_op (uo_mul false false) (ue_op (uo_mul false false) ue_int (ue_ix (uv 0) ue_int)) (ue_ix (uv 0) ue_int))) ue_int) ue_int) ue_int) (uv 1))))))))) (fun us M Q E h => ?_)
  · obtain ⟨s, c, n, many, rfl, _⟩ := h
    rfl
  · obtain ⟨s, c, n, many, rfl, hm0, hm1, ⟨hsc, ks, a, b, d, e1, e2, ha, hb, hd0, hd1, hk⟩, q⟩ := h
    have q : ∀ r M', 0 ≤ r → r < many → Strm M' s c n → But s c M M' → ZQ Q (.int r) M' := fun r M' h0 h1 h2 h3 => .inl (q r M' h0 h1 h2 h3)
    have hcs := Ne.symm hsc
    by_cases h0 : a = 0
    · subst h0
      cases ks with
      | nil =>
        simp only [z8i,uOr,z8d,z8m,uCB,z7t,z8l,uC,z8o,z7w,uOp,uUn,z8s,z8j,uIf,z8e,z7v,z7u,z7s,uBM,z8g,uSl,z4x,z8r,z72,z8q,z7x,List.append_nil,z8t,z80,z8y,z7z,z8u,z81,z8w,z8v,xIf,z74,z8x,z8p,z3t,z8n,z7m,z7q,z7o,z7p,z5w,z5v,z7a,z3l,z3m,z75,z5g,z8k,asD,uXf,z8f,z5n,z7y,z6e,z6d,z68,z67,z63,z5h,z5i,z5j,z3v,z3w,z6f,z64,z62,z5r,z6b,z7j,z7k,z7i,z7c,z7b,z7l,z7e,z5o,z2m,z2w,z2k,z2o,z2p,z2l,z2n,z5c,z73,z5a,z5e,z5f,z5b,z3g,z5d,z3e,z2q,z2r,z3i,z3k,z3j,z39,z3a,z37,z38,z4q,z6h,z4o,z4s,z4t,z4p,z3f,z4r,z4e,z4d,z3b,z2s,z3d,z3c,z0h,z0g,z0d,z0a,z0f,z0e,z1o,z1n,z0u,z0j,z0w,z0v,z2d,z2c,z1r,z10,z1t,z1s,z2f,z2e,z1w,z14,z1y,z1x,z16,z15,z0m,z0i,z0o,z0n,z1v,z1u,z11,z0l,z13,z12,z1q,z1p,z0x,z0k,z0z,z0y,z4i,z6g,z4g,z4j,z4k,z4h,z82,z88,z46,z5x,z44,z47,z48,z45,z2v,z2j,z40,z5q,z3y,z41,z42,z3z,z2u,z2i,z6y,z70,z6x,z71,z6z,z59,z56,z57,z58,z87,z86,z7r,z79,z7n,z7d,z5y,z76,z77,z6c,z69,z6a,z8b,z8c,z89,z8a,z85,z83,z84,z4v,z4u,z6i,z78,z5m,z5l,z5k,z6n,z6o,z6p,z6q,z6r,z6s,z6t,z6u,z6v,z6w,z50,z51,z52,z53,z54,z55,z4b,z4c,z49,z27,z26,z1e,z0r,z1g,z1f,z05,z04,z2h,z2g,z1z,z17,z21,z20,z0c,z0b,z23,z22,z18,z0p,z1a,z19,z01,z00,z29,z28,z1h,z0s,z1j,z1i,z07,z06,z2b,z2a,z1k,z0t,z1m,z1l,z09,z08,z25,z24,z1b,z0q,z1d,z1c,z03,z02,z6m,z8h,z4z,z6l,z6k,z4w,z4y,z3s,z6j,z3p,z4f,z3n,z3q,z3r,z3o,z5p,z2t,z3h,z4n,z4l,z4a,z66,z65,z4m,z60,z61,z5z,z32,z2x,z33,z2y,z34,z2z,z35,z30,z36,z31,z7h,z7g,z3u,z5u,z3x,z7f,z5t,z43,z5s,cle,clt,cge,cgt,ceq,cne,lenN,xFor,xTryM,uMix,uEnum,uZip,ltT,uSortK,sortK,sortN,uDNew,uDGet,inN,setN,uDNewS,uDGetS,inS,setS,uDm,uDm0,getR,popS,setdS,getNR,setdN,popNR,itemsR,lenS,dictS,sortItR,uFld,uFst,uMake,uLock,uLockE,uKeys,sortE,sortL,xOp,reprT_1,listN,uMkV,uMkK,uXv,uExo,exists_eq_left',exists_eq_left,Option.some.injEq,U.int.injEq,U.bl.injEq,U.str.injEq,U.ref.injEq,U.tup.injEq,U.lst.injEq,U.ty.injEq,List.cons.injEq,and_true,true_and,and_self,List.map_cons,List.map_nil,List.length_cons,List.length_nil,List.cons_append,List.nil_append,List.append_nil,List.getElem?_cons_zero,List.getElem?_cons_succ,List.set_cons_zero,List.set_cons_succ,List.replicate,↓reduceIte,Bool.false_eq_true,Bool.not_true,Bool.not_false,reduceCtorEq,Nat.reduceAdd,Nat.reduceSub,Nat.reduceLeDiff,Nat.reduceEqDiff,decide_true,decide_false,at0,at1,at2,at3,at4,ix0,ix1,ix2,ix3,ix4,updM_same,beq_self_eq_true,Option.bind,Option.map,wipeU,NT.put,puts,MO.lst.injEq,exists_and_left,decide_eq_true_eq,Bool.and_eq_true,Bool.or_eq_true,exists_eq',Nat.zero_le,true_or,or_true,e1,e2,updM_ne hcs,updM_ne hsc]
        rw [if_neg (Int.lt_irrefl 0)]
        refine mix_ok (G := fun r => ZQ Q (.int r) _) hd0 hd1 (by omega) hm0 fun r h0 h1 => q r _ h0 h1 (strm_mk hsc updM_same (by rw [updM_ne hcs, e2]) (by decide) hb hd0 hd1 hk) (But.eq fun x h1 h2 => updM_ne h1)
      | cons k ks =>
        have hk' : ks.length ≤ 63 := by simp at hk; omega
        simp only [z8i,uOr,z8d,z8m,uCB,z7t,z8l,uC,z8o,z7w,uOp,uUn,z8s,z8j,uIf,z8e,z7v,z7u,z7s,uBM,z8g,uSl,z4x,z8r,z72,z8q,z7x,List.append_nil,z8t,z80,z8y,z7z,z8u,z81,z8w,z8v,xIf,z74,z8x,z8p,z3t,z8n,z7m,z7q,z7o,z7p,z5w,z5v,z7a,z3l,z3m,z75,z5g,z8k,asD,uXf,z8f,z5n,z7y,z6e,z6d,z68,z67,z63,z5h,z5i,z5j,z3v,z3w,z6f,z64,z62,z5r,z6b,z7j,z7k,z7i,z7c,z7b,z7l,z7e,z5o,z2m,z2w,z2k,z2o,z2p,z2l,z2n,z5c,z73,z5a,z5e,z5f,z5b,z3g,z5d,z3e,z2q,z2r,z3i,z3k,z3j,z39,z3a,z37,z38,z4q,z6h,z4o,z4s,z4t,z4p,z3f,z4r,z4e,z4d,z3b,z2s,z3d,z3c,z0h,z0g,z0d,z0a,z0f,z0e,z1o,z1n,z0u,z0j,z0w,z0v,z2d,z2c,z1r,z10,z1t,z1s,z2f,z2e,z1w,z14,z1y,z1x,z16,z15,z0m,z0i,z0o,z0n,z1v,z1u,z11,z0l,z13,z12,z1q,z1p,z0x,z0k,z0z,z0y,z4i,z6g,z4g,z4j,z4k,z4h,z82,z88,z46,z5x,z44,z47,z48,z45,z2v,z2j,z40,z5q,z3y,z41,z42,z3z,z2u,z2i,z6y,z70,z6x,z71,z6z,z59,z56,z57,z58,z87,z86,z7r,z79,z7n,z7d,z5y,z76,z77,z6c,z69,z6a,z8b,z8c,z89,z8a,z85,z83,z84,z4v,z4u,z6i,z78,z5m,z5l,z5k,z6n,z6o,z6p,z6q,z6r,z6s,z6t,z6u,z6v,z6w,z50,z51,z52,z53,z54,z55,z4b,z4c,z49,z27,z26,z1e,z0r,z1g,z1f,z05,z04,z2h,z2g,z1z,z17,z21,z20,z0c,z0b,z23,z22,z18,z0p,z1a,z19,z01,z00,z29,z28,z1h,z0s,z1j,z1i,z07,z06,z2b,z2a,z1k,z0t,z1m,z1l,z09,z08,z25,z24,z1b,z0q,z1d,z1c,z03,z02,z6m,z8h,z4z,z6l,z6k,z4w,z4y,z3s,z6j,z3p,z4f,z3n,z3q,z3r,z3o,z5p,z2t,z3h,z4n,z4l,z4a,z66,z65,z4m,z60,z61,z5z,z32,z2x,z33,z2y,z34,z2z,z35,z30,z36,z31,z7h,z7g,z3u,z5u,z3x,z7f,z5t,z43,z5s,cle,clt,cge,cgt,ceq,cne,lenN,xFor,xTryM,uMix,uEnum,uZip,ltT,uSortK,sortK,sortN,uDNew,uDGet,inN,setN,uDNewS,uDGetS,inS,setS,uDm,uDm0,getR,popS,setdS,getNR,setdN,popNR,itemsR,lenS,dictS,sortItR,uFld,uFst,uMake,uLock,uLockE,uKeys,sortE,sortL,xOp,reprT_1,listN,uMkV,uMkK,uXv,uExo,exists_eq_left',exists_eq_left,Option.some.injEq,U.int.injEq,U.bl.injEq,U.str.injEq,U.ref.injEq,U.tup.injEq,U.lst.injEq,U.ty.injEq,List.cons.injEq,and_true,true_and,and_self,List.map_cons,List.map_nil,List.length_cons,List.length_nil,List.cons_append,List.nil_append,List.append_nil,List.getElem?_cons_zero,List.getElem?_cons_succ,List.set_cons_zero,List.set_cons_succ,List.replicate,↓reduceIte,Bool.false_eq_true,Bool.not_true,Bool.not_false,reduceCtorEq,Nat.reduceAdd,Nat.reduceSub,Nat.reduceLeDiff,Nat.reduceEqDiff,decide_true,decide_false,at0,at1,at2,at3,at4,ix0,ix1,ix2,ix3,ix4,updM_same,beq_self_eq_true,Option.bind,Option.map,wipeU,NT.put,puts,MO.lst.injEq,exists_and_left,decide_eq_true_eq,Bool.and_eq_true,Bool.or_eq_true,exists_eq',Nat.zero_le,true_or,or_true,e1,e2,updM_ne hcs,updM_ne hsc,isDs_ints,List.eraseIdx,updM_updM]
        refine ⟨by decide, ⟨by decide, by decide, by decide⟩, ?_⟩
        have hd2 := Int.emod_nonneg (d * 31 + k + 7) (show (2147483647 : Int) ≠ 0 by decide)
        have hd3 := Int.emod_lt_of_pos (d * 31 + k + 7) (show (0 : Int) < 2147483647 by decide)
        split
        · refine ⟨.inl ⟨by omega, by omega⟩, by decide, ?_⟩
          rw [if_neg (Int.lt_irrefl 0)]
          refine mix_ok (G := fun r => ZQ Q (.int r) _) hd2 hd3 (by omega) hm0 fun r h0 h1 => q r _ h0 h1 (strm_mk (ks := ks) hsc updM_same (by rw [updM_ne hcs, updM_same]) (by decide) hb hd2 hd3 hk') (But.eq fun x h1 h2 => ?_)
          rw [updM_ne h1, updM_ne h2, updM_ne h1]
        · rename_i h10
          have h11 : ¬ k < 1000000000000000000 := h10
          rw [if_pos (by omega)]
          refine ⟨hm0, ⟨hm0, by omega⟩, ?_⟩
          refine q _ _ (Int.emod_nonneg _ (by omega)) (Int.emod_lt_of_pos _ hm0) (strm_mk (ks := ks) hsc updM_same (by rw [updM_ne hcs, updM_same]) (Int.ediv_nonneg (by omega) (by omega)) hb hd0 hd1 hk') (But.eq fun x h1 h2 => ?_)
          rw [updM_ne h1, updM_ne h2, updM_ne h1]
    · simp only [z8i,uOr,z8d,z8m,uCB,z7t,z8l,uC,z8o,z7w,uOp,uUn,z8s,z8j,uIf,z8e,z7v,z7u,z7s,uBM,z8g,uSl,z4x,z8r,z72,z8q,z7x,List.append_nil,z8t,z80,z8y,z7z,z8u,z81,z8w,z8v,xIf,z74,z8x,z8p,z3t,z8n,z7m,z7q,z7o,z7p,z5w,z5v,z7a,z3l,z3m,z75,z5g,z8k,asD,uXf,z8f,z5n,z7y,z6e,z6d,z68,z67,z63,z5h,z5i,z5j,z3v,z3w,z6f,z64,z62,z5r,z6b,z7j,z7k,z7i,z7c,z7b,z7l,z7e,z5o,z2m,z2w,z2k,z2o,z2p,z2l,z2n,z5c,z73,z5a,z5e,z5f,z5b,z3g,z5d,z3e,z2q,z2r,z3i,z3k,z3j,z39,z3a,z37,z38,z4q,z6h,z4o,z4s,z4t,z4p,z3f,z4r,z4e,z4d,z3b,z2s,z3d,z3c,z0h,z0g,z0d,z0a,z0f,z0e,z1o,z1n,z0u,z0j,z0w,z0v,z2d,z2c,z1r,z10,z1t,z1s,z2f,z2e,z1w,z14,z1y,z1x,z16,z15,z0m,z0i,z0o,z0n,z1v,z1u,z11,z0l,z13,z12,z1q,z1p,z0x,z0k,z0z,z0y,z4i,z6g,z4g,z4j,z4k,z4h,z82,z88,z46,z5x,z44,z47,z48,z45,z2v,z2j,z40,z5q,z3y,z41,z42,z3z,z2u,z2i,z6y,z70,z6x,z71,z6z,z59,z56,z57,z58,z87,z86,z7r,z79,z7n,z7d,z5y,z76,z77,z6c,z69,z6a,z8b,z8c,z89,z8a,z85,z83,z84,z4v,z4u,z6i,z78,z5m,z5l,z5k,z6n,z6o,z6p,z6q,z6r,z6s,z6t,z6u,z6v,z6w,z50,z51,z52,z53,z54,z55,z4b,z4c,z49,z27,z26,z1e,z0r,z1g,z1f,z05,z04,z2h,z2g,z1z,z17,z21,z20,z0c,z0b,z23,z22,z18,z0p,z1a,z19,z01,z00,z29,z28,z1h,z0s,z1j,z1i,z07,z06,z2b,z2a,z1k,z0t,z1m,z1l,z09,z08,z25,z24,z1b,z0q,z1d,z1c,z03,z02,z6m,z8h,z4z,z6l,z6k,z4w,z4y,z3s,z6j,z3p,z4f,z3n,z3q,z3r,z3o,z5p,z2t,z3h,z4n,z4l,z4a,z66,z65,z4m,z60,z61,z5z,z32,z2x,z33,z2y,z34,z2z,z35,z30,z36,z31,z7h,z7g,z3u,z5u,z3x,z7f,z5t,z43,z5s,cle,clt,cge,cgt,ceq,cne,lenN,xFor,xTryM,uMix,uEnum,uZip,ltT,uSortK,sortK,sortN,uDNew,uDGet,inN,setN,uDNewS,uDGetS,inS,setS,uDm,uDm0,getR,popS,setdS,getNR,setdN,popNR,itemsR,lenS,dictS,sortItR,uFld,uFst,uMake,uLock,uLockE,uKeys,sortE,sortL,xOp,reprT_1,listN,uMkV,uMkK,uXv,uExo,exists_eq_left',exists_eq_left,Option.some.injEq,U.int.injEq,U.bl.injEq,U.str.injEq,U.ref.injEq,U.tup.injEq,U.lst.injEq,U.ty.injEq,List.cons.injEq,and_true,true_and,and_self,List.map_cons,List.map_nil,List.length_cons,List.length_nil,List.cons_append,List.nil_append,List.append_nil,List.getElem?_cons_zero,List.getElem?_cons_succ,List.set_cons_zero,List.set_cons_succ,List.replicate,↓reduceIte,Bool.false_eq_true,Bool.not_true,Bool.not_false,reduceCtorEq,Nat.reduceAdd,Nat.reduceSub,Nat.reduceLeDiff,Nat.reduceEqDiff,decide_true,decide_false,at0,at1,at2,at3,at4,ix0,ix1,ix2,ix3,ix4,updM_same,beq_self_eq_true,Option.bind,Option.map,wipeU,NT.put,puts,MO.lst.injEq,exists_and_left,decide_eq_true_eq,Bool.and_eq_true,Bool.or_eq_true,exists_eq',Nat.zero_le,true_or,or_true,e1,e2,updM_ne hcs,updM_ne hsc,beq_eq_false_iff_ne.mpr h0,updM_updM]
      rw [if_pos (by omega)]
      refine ⟨hm0, ⟨hm0, by omega⟩, ?_⟩
      exact q _ _ (Int.emod_nonneg _ (by omega)) (Int.emod_lt_of_pos _ hm0) (strm_mk hsc updM_same (by rw [updM_ne hcs, e2]) (Int.ediv_nonneg (by omega) (by omega)) hb hd0 hd1 hk) (But.eq fun x h1 h2 => updM_ne h1)

/-! ### _law_same -/
def sp__law_same : USp := fun us M Q _ => ∃ x y, us = [x, y] ∧ okR (val M x) ∧ okR (val M y) ∧ Q (.bl (rep (val M x) == rep (val M y))) M
theorem ok__law_same (L : Lw K mg) : UFn P w K mg base CX0 1 L.f__law_same L.fd__law_same ["_law_found", "_law_due"] (sp__law_same) := by
  refine ufn_ok L.D__law_same.F sc__law_same (fun us M Q E h => ?_) (fun cdv A outer s H E hr hG =>
      (uss_one (us_ret (ue_cmp (uo_eq (hu6 hr)) (ue_callB (uc_repr hG (hu2 hr)) (by rfl) L.n_repr bt_repr (ua_cons (uv 0) ua_nil)) (ue_callB (uc_repr hG (hu2 hr)) (by rfl) L.n_repr bt_repr (ua_cons (uv 1) ua_nil)) (nomark _))))) (fun us M Q E h => ?_)
  · obtain ⟨x, y, rfl, _⟩ := h
    rfl
  · obtain ⟨x, y, rfl, hx, hy, q⟩ := h
    have q : ZQ Q _ M := .inl q
    simp only [z8i,uOr,z8d,z8m,uCB,z7t,z8l,uC,z8o,z7w,uOp,uUn,z8s,z8j,uIf,z8e,z7v,z7u,z7s,uBM,z8g,uSl,z4x,z8r,z72,z8q,z7x,List.append_nil,z8t,z80,z8y,z7z,z8u,z81,z8w,z8v,xIf,z74,z8x,z8p,z3t,z8n,z7m,z7q,z7o,z7p,z5w,z5v,z7a,z3l,z3m,z75,z5g,z8k,asD,uXf,z8f,z5n,z7y,z6e,z6d,z68,z67,z63,z5h,z5i,z5j,z3v,z3w,z6f,z64,z62,z5r,z6b,z7j,z7k,z7i,z7c,z7b,z7l,z7e,z5o,z2m,z2w,z2k,z2o,z2p,z2l,z2n,z5c,z73,z5a,z5e,z5f,z5b,z3g,z5d,z3e,z2q,z2r,z3i,z3k,z3j,z39,z3a,z37,z38,z4q,z6h,z4o,z4s,z4t,z4p,z3f,z4r,z4e,z4d,z3b,z2s,z3d,z3c,z0h,z0g,z0d,z0a,z0f,z0e,z1o,z1n,z0u,z0j,z0w,z0v,z2d,z2c,z1r,z10,z1t,z1s,z2f,z2e,z1w,z14,z1y,z1x,z16,z15,z0m,z0i,z0o,z0n,z1v,z1u,z11,z0l,z13,z12,z1q,z1p,z0x,z0k,z0z,z0y,z4i,z6g,z4g,z4j,z4k,z4h,z82,z88,z46,z5x,z44,z47,z48,z45,z2v,z2j,z40,z5q,z3y,z41,z42,z3z,z2u,z2i,z6y,z70,z6x,z71,z6z,z59,z56,z57,z58,z87,z86,z7r,z79,z7n,z7d,z5y,z76,z77,z6c,z69,z6a,z8b,z8c,z89,z8a,z85,z83,z84,z4v,z4u,z6i,z78,z5m,z5l,z5k,z6n,z6o,z6p,z6q,z6r,z6s,z6t,z6u,z6v,z6w,z50,z51,z52,z53,z54,z55,z4b,z4c,z49,z27,z26,z1e,z0r,z1g,z1f,z05,z04,z2h,z2g,z1z,z17,z21,z20,z0c,z0b,z23,z22,z18,z0p,z1a,z19,z01,z00,z29,z28,z1h,z0s,z1j,z1i,z07,z06,z2b,z2a,z1k,z0t,z1m,z1l,z09,z08,z25,z24,z1b,z0q,z1d,z1c,z03,z02,z6m,z8h,z4z,z6l,z6k,z4w,z4y,z3s,z6j,z3p,z4f,z3n,z3q,z3r,z3o,z5p,z2t,z3h,z4n,z4l,z4a,z66,z65,z4m,z60,z61,z5z,z32,z2x,z33,z2y,z34,z2z,z35,z30,z36,z31,z7h,z7g,z3u,z5u,z3x,z7f,z5t,z43,z5s,cle,clt,cge,cgt,ceq,cne,lenN,xFor,xTryM,uMix,uEnum,uZip,ltT,uSortK,sortK,sortN,uDNew,uDGet,inN,setN,uDNewS,uDGetS,inS,setS,uDm,uDm0,getR,popS,setdS,getNR,setdN,popNR,itemsR,lenS,dictS,sortItR,uFld,uFst,uMake,uLock,uLockE,uKeys,sortE,sortL,xOp,reprT_1,listN,uMkV,uMkK,uXv,uExo,exists_eq_left',exists_eq_left,Option.some.injEq,U.int.injEq,U.bl.injEq,U.str.injEq,U.ref.injEq,U.tup.injEq,U.lst.injEq,U.ty.injEq,List.cons.injEq,and_true,true_and,and_self,List.map_cons,List.map_nil,List.length_cons,List.length_nil,List.cons_append,List.nil_append,List.append_nil,List.getElem?_cons_zero,List.getElem?_cons_succ,List.set_cons_zero,List.set_cons_succ,List.replicate,↓reduceIte,Bool.false_eq_true,Bool.not_true,Bool.not_false,reduceCtorEq,Nat.reduceAdd,Nat.reduceSub,Nat.reduceLeDiff,Nat.reduceEqDiff,decide_true,decide_false,at0,at1,at2,at3,at4,ix0,ix1,ix2,ix3,ix4,updM_same,beq_self_eq_true,Option.bind,Option.map,wipeU,NT.put,puts,MO.lst.injEq,exists_and_left,decide_eq_true_eq,Bool.and_eq_true,Bool.or_eq_true,exists_eq',Nat.zero_le,true_or,or_true,rep_ok hx,rep_ok hy]
    exact ⟨hx, hy, q⟩

/-! ### _law_thing -/
/-- y stands for x: by value, or as a list by address that was not there before -/
def TopU (m : Bool) (M M' : UHp) (y x : U) : Prop := (y = x ∧ (m = true → ∀ xs, x ≠ .lst xs)) ∨ (m = true ∧ ∃ a xs, y = .ref a ∧ x = .lst xs ∧ M a = none ∧ M' a = some (.lst xs))
theorem TopU.eq {M M' : UHp} {y x : U} (h : TopU false M M' y x) : y = x := h.elim (fun h => h.1) fun h => by cases h.1
theorem top_val {m : Bool} {M M' : UHp} {x : U} (h : m = true → ∀ xs, x ≠ .lst xs) : TopU m M M' x x := .inl ⟨rfl, h⟩
theorem top_zq {m : Bool} {M M' : UHp} {Q : UK} {s c a : Addr} {n : Nat} {P : U → Prop} {xs : List U} (q : ∀ y x M', P x → TopU m M M' y x → Strm M' s c n → But s c M M' → Q y M')
    (hp : P (.lst xs)) (hM : M a = none) (h' : M' a = some (.lst xs)) (hS : Strm M' s c n) (hB : But s c M M') (h1 : s ≠ a) (h2 : c ≠ a) : ZQ Q (.ref a) M' := by
  cases m with
  | true => exact .inl (q _ _ _ hp (.inr ⟨rfl, a, xs, rfl, rfl, hM, h'⟩) hS hB)
  | false => exact zq_f h' (q _ _ _ hp (.inl ⟨rfl, fun h => by cases h⟩) (hS.del h1 h2) (hB.del hM))
theorem TopU.val {m : Bool} {M M' : UHp} {y x : U} (h : TopU m M M' y x) (hx : isD x = true) : val M' y = x := by
  rcases h with ⟨rfl, _⟩ | ⟨_, a, xs, rfl, rfl, _, e⟩
  · exact val_isD hx
  · simp only [PU.val,e]
def tC : Nat → Nat
  | 0 => 1
  | d + 1 => 3 + 3 * tC d
def tZ : Nat → Nat
  | 0 => 110
  | d + 1 => 3 * (tZ d + 2) + 4
theorem tZ_ge : ∀ d, 110 ≤ tZ d
  | 0 => Nat.le_refl _
  | d + 1 => by have := tZ_ge d; simp only [tZ]; omega
def sp__law_thing (d : Nat) : USp := fun us M Q _ => ∃ (s c : Addr) (n : Nat) (m : Bool), us = [.ref s, .int d] ∧ Strm M s c (n + tC d) ∧ ∀ y x M', Dt (d + 1) (tZ d) x → TopU m M M' y x → Strm M' s c n → But s c M M' → Q y M'
theorem thing_use {M : UHp} {Q : UK} {E : UXK} {s c : Addr} {n d : Nat} (hS : Strm M s c (n + tC d)) (h : ∀ y M', Dt (d + 1) (tZ d) y → Strm M' s c n → But s c M M' → Q y M') : sp__law_thing d [.ref s, .int d] M Q E := ⟨s, c, n, false, rfl, hS, fun y x M' hx ht hS hB => by rw [ht.eq]; exact h x M' hx hS hB⟩
theorem step__law_thing (L : Lw K mg) {k : Nat} {sp' : USp} (d : Nat) (G : UFn P w K mg base CX0 (5 + k) L.f__law_thing L.fd__law_thing ["_law_stream", "_law_deep"] sp') (hsp : ∀ d', d = d' + 1 → sp' = sp__law_thing d') : UFn P w K mg base CX0 (5 + k + 1) L.f__law_thing L.fd__law_thing ["_law_stream", "_law_deep"] (sp__law_thing d) := by
  refine ufn_ok L.D__law_thing.F sc__law_thing (fun us M Q E h => ?_) (fun cdv A outer s H E hr hG =>
      (uss_cons (us_if (PW.pt (uw_and (ut_cmp uo_gt (uv 1) ue_int (nomark _)) (uw_and1 (ut_cmp (uo_eq (hu6 hr)) (ue_call (ok__law_draw L) (hr.mono (by omega)) hG rfl L.D__law_draw.g L.D__law_draw.F.kp L.D__law_draw.b .nil (fun _ => RelUs.nil) (ua_cons (uv 0) (ua_cons ue_int ua_nil))) ue_int (nomark _))))) (uss_cons (us_setLc (i := 3) (own := [("_law_k", 4)]) (n := (.one 4)) true rfl sc__law_thing.nd rfl rfl (sw_true rfl rfl rfl (by decide +kernel)) (ui_range1 (by rfl) L.n_range (ua_cons (ue_call (ok__law_draw L) (hr.mono (by omega)) hG rfl L.D__law_draw.g L.D__law_draw.F.kp L.D__law_draw.b .nil (fun _ => RelUs.nil) (ua_cons (uv 0) (ua_cons ue_int ua_nil))) ua_nil)) (blkOk_by (own := [("_law_k", 4)]) (N := ["_law_stream", "_law_deep", "_law_some", "_law_parts", "_law_k"]) (sc := defScope s__law_thing) (by decide +kernel)) (by decide) (fun _ _ _ _ _ => (pg_nt sc__law_thing.nd rfl (.inl rfl))) (fun _ _ _ _ _ => uts_nil) (fun _ _ _ _ _ => (ue_call G (hr.mono (by omega)) hG rfl L.D__law_thing.g L.D__law_thing.F.kp L.D__law_thing.b .nil (fun _ => RelUs.nil) (ua_cons (uv 0) (ua_cons (ue_op uo_sub (uv 1) ue_int) ua_nil)))))
      (uss_one (us_ret (ue_if (ut_cmp (uo_eq (hu6 hr)) (ue_call (ok__law_draw L) (hr.mono (by omega)) hG rfl L.D__law_draw.g L.D__law_draw.F.kp L.D__law_draw.b .nil (fun _ => RelUs.nil) (ua_cons (uv 0) (ua_cons ue_int ua_nil))) ue_int (nomark _)) (uv 3) (ue_callTy uc_tuple (by rfl) L.n_tuple bt_tuple (ua_cons (uv 3) ua_nil)))))) uss_nil)
      (uss_cons (us_set (i := 2) sc__law_thing.nd rfl (.inl rfl) (ue_lst false (ua_cons ue_non (ua_cons ue_bl (ua_cons ue_bl (ua_cons ue_int (ua_cons ue_int (ua_cons (ue_un uu_neg ue_int) (ua_cons (ue_op uo_pow ue_int ue_int) (ua_cons ue_str (ua_cons ue_str (ua_cons ue_str (ua_cons ue_str (ua_cons ue_int ua_nil))))))))))))))
      (uss_one (us_ret (ue_ix (uv 2) (ue_call (ok__law_draw L) (hr.mono (by omega)) hG rfl L.D__law_draw.g L.D__law_draw.F.kp L.D__law_draw.b .nil (fun _ => RelUs.nil) (ua_cons (uv 0) (ua_cons ue_int ua_nil))))))))) (fun us M Q E h => ?_)
  · obtain ⟨s, c, n, m, rfl, _⟩ := h
    rfl
  · obtain ⟨s, c, n, m, rfl, hS, q⟩ := h
    have base : ∀ y ∈ [U.non, .bl true, .bl false, .int 0, .int 1, .int (-7), .int (10 ^ Int.toNat 29), .str "", .str "lamp", .str "a b", .str "x/y", .int 12], Dt (d + 1) (tZ d) y :=
      fun y hy => (Dt.ofs (k := 1) (n := 110) (by decide +kernel) y hy).mono (by omega) (tZ_ge d)
    have pick : ∀ (v : U) (M1 : UHp), v ∈ [U.non, .bl true, .bl false, .int 0, .int 1, .int (-7), .int (10 ^ Int.toNat 29), .str "", .str "lamp", .str "a b", .str "x/y", .int 12] → Strm M1 s c n → But s c M M1 → ZQ Q v M1 := fun v M1 hv hS hB => .inl (q v v M1 (base v hv) (top_val fun _ xs e => by
      subst e
      simp at hv) hS hB)
    have leaf : ∀ M1, Strm M1 s c (n + 1) → But s c M M1 → (CPow 10 29 ∧ 12 ≤ sizeLine ∧ sp__law_draw [U.ref s, U.int 12] M1 (fun y M2 => ixR (U.lst [U.non, .bl true, .bl false, .int 0, .int 1, .int (-7), .int (10 ^ Int.toNat 29), .str "", .str "lamp", .str "a b", .str "x/y", .int 12]) y M2 (ZQ Q)) EU0) := fun M1 hS1 hB1 =>
      ⟨⟨by decide, by decide, by decide⟩, line_le, draw_use hS1 (by decide) (by decide) fun r M2 h0 h1 hS2 hB2 => by
        obtain ⟨v, e, hv⟩ := at_draw (xs := [U.non, .bl true, .bl false, .int 0, .int 1, .int (-7), .int (10 ^ Int.toNat 29), .str "", .str "lamp", .str "a b", .str "x/y", .int 12]) h0 h1
        walk_at "q1"
        exact ⟨v, e, pick v M2 hv hS2 (hB1.trans hB2)⟩⟩
    clear base pick
    cases d with
    | zero =>
      simp only [tC] at hS
      walk_at "q1"
      exact iteF (Nat.lt_irrefl 0) (leaf M hS But.refl)
    | succ d =>
      obtain rfl := hsp d rfl
      simp only [tC] at hS
      walk_at "q1"
      refine iteT (by omega) ?_
      refine draw_use (n := n + 2 + 3 * tC d) (hS.le (by omega)) (by decide) (by decide) fun r M1 h0 h1 hS1 hB1 => ?_
      walk_at "q1"
      refine iteI (fun e0 => ?_) (fun e0 => leaf M1 (hS1.le (by omega)) hB1)
      clear leaf
      walk_at "q3"
      refine draw_use (n := n + 1 + 3 * tC d) (hS1.le (by omega)) (by decide) (by decide) fun r2 M2 h2 h3 hS2 hB2 => ?_
      walk_at "q1"
      refine ⟨by omega, by omega, line_le (by omega), ?_⟩
      refine lc_strmT (k := tC d) (N := n + 1) (Dt (d + 1) (tZ d)) (hS2.le ?_) (fun x hx => ⟨_, rfl, fun M N' hS3 Q q => ?_⟩) fun D ys M' hD hl hP hS3 hB3 hD3 k1 k2 => ?_
      · rw [range_len]
        have : r2.toNat * tC d ≤ 3 * tC d := Nat.mul_le_mul_right _ (by omega)
        omega
      · walk_at "q1"
        have e : (((d + 1 : Nat) : Int) - 1) = (d : Int) := by omega
        rw [e]
        exact thing_use hS3 fun y M' hy hS4 hB4 => q y M' hy hS4 hB4
      · have hy : ys.length ≤ 3 := by rw [hl, range_len]; omega
        have hlen : ys.length * (tZ d + 2) + 4 ≤ tZ (d + 1) := by
          have : ys.length * (tZ d + 2) ≤ 3 * (tZ d + 2) := Nat.mul_le_mul_right _ hy
          simp only [tZ]; omega
        have hB02 := hB1.trans hB2
        have hMD : M D = none := by
          cases z : M D with
          | none => rfl
          | some o => rw [hB02 D (Ne.symm k1) (Ne.symm k2) o z] at hD; cases hD
        simp only [z8i,uOr,z8d,z8m,uCB,z7t,z8l,uC,z8o,z7w,uOp,uUn,z8s,z8j,uIf,z8e,z7v,z7u,z7s,uBM,z8g,uSl,z4x,z8r,z72,z8q,z7x,List.append_nil,z8t,z80,z8y,z7z,z8u,z81,z8w,z8v,xIf,z74,z8x,z8p,z3t,z8n,z7m,z7q,z7o,z7p,z5w,z5v,z7a,z3l,z3m,z75,z5g,z8k,asD,uXf,z8f,z5n,z7y,z6e,z6d,z68,z67,z63,z5h,z5i,z5j,z3v,z3w,z6f,z64,z62,z5r,z6b,z7j,z7k,z7i,z7c,z7b,z7l,z7e,z5o,z2m,z2w,z2k,z2o,z2p,z2l,z2n,z5c,z73,z5a,z5e,z5f,z5b,z3g,z5d,z3e,z2q,z2r,z3i,z3k,z3j,z39,z3a,z37,z38,z4q,z6h,z4o,z4s,z4t,z4p,z3f,z4r,z4e,z4d,z3b,z2s,z3d,z3c,z0h,z0g,z0d,z0a,z0f,z0e,z1o,z1n,z0u,z0j,z0w,z0v,z2d,z2c,z1r,z10,z1t,z1s,z2f,z2e,z1w,z14,z1y,z1x,z16,z15,z0m,z0i,z0o,z0n,z1v,z1u,z11,z0l,z13,z12,z1q,z1p,z0x,z0k,z0z,z0y,z4i,z6g,z4g,z4j,z4k,z4h,z82,z88,z46,z5x,z44,z47,z48,z45,z2v,z2j,z40,z5q,z3y,z41,z42,z3z,z2u,z2i,z6y,z70,z6x,z71,z6z,z59,z56,z57,z58,z87,z86,z7r,z79,z7n,z7d,z5y,z76,z77,z6c,z69,z6a,z8b,z8c,z89,z8a,z85,z83,z84,z4v,z4u,z6i,z78,z5m,z5l,z5k,z6n,z6o,z6p,z6q,z6r,z6s,z6t,z6u,z6v,z6w,z50,z51,z52,z53,z54,z55,z4b,z4c,z49,z27,z26,z1e,z0r,z1g,z1f,z05,z04,z2h,z2g,z1z,z17,z21,z20,z0c,z0b,z23,z22,z18,z0p,z1a,z19,z01,z00,z29,z28,z1h,z0s,z1j,z1i,z07,z06,z2b,z2a,z1k,z0t,z1m,z1l,z09,z08,z25,z24,z1b,z0q,z1d,z1c,z03,z02,z6m,z8h,z4z,z6l,z6k,z4w,z4y,z3s,z6j,z3p,z4f,z3n,z3q,z3r,z3o,z5p,z2t,z3h,z4n,z4l,z4a,z66,z65,z4m,z60,z61,z5z,z32,z2x,z33,z2y,z34,z2z,z35,z30,z36,z31,z7h,z7g,z3u,z5u,z3x,z7f,z5t,z43,z5s,cle,clt,cge,cgt,ceq,cne,lenN,xFor,xTryM,uMix,uEnum,uZip,ltT,uSortK,sortK,sortN,uDNew,uDGet,inN,setN,uDNewS,uDGetS,inS,setS,uDm,uDm0,getR,popS,setdS,getNR,setdN,popNR,itemsR,lenS,dictS,sortItR,uFld,uFst,uMake,uLock,uLockE,uKeys,sortE,sortL,xOp,reprT_1,listN,uMkV,uMkK,uXv,uExo,exists_eq_left',exists_eq_left,Option.some.injEq,U.int.injEq,U.bl.injEq,U.str.injEq,U.ref.injEq,U.tup.injEq,U.lst.injEq,U.ty.injEq,List.cons.injEq,and_true,true_and,and_self,List.map_cons,List.map_nil,List.length_cons,List.length_nil,List.cons_append,List.nil_append,List.append_nil,List.getElem?_cons_zero,List.getElem?_cons_succ,List.set_cons_zero,List.set_cons_succ,List.replicate,↓reduceIte,Bool.false_eq_true,Bool.not_true,Bool.not_false,reduceCtorEq,Nat.reduceAdd,Nat.reduceSub,Nat.reduceLeDiff,Nat.reduceEqDiff,decide_true,decide_false,at0,at1,at2,at3,at4,ix0,ix1,ix2,ix3,ix4,updM_same,beq_self_eq_true,Option.bind,Option.map,wipeU,NT.put,puts,MO.lst.injEq,exists_and_left,decide_eq_true_eq,Bool.and_eq_true,Bool.or_eq_true,exists_eq',Nat.zero_le,true_or,or_true,hD3]
        refine draw_use hS3 (by decide) (by decide) fun r3 M4 h4 h5 hS4 hB4 => ?_
        have hB := (hB02.trans hB3).trans hB4
        have hD4 := hB4 D (Ne.symm k1) (Ne.symm k2) _ hD3
        simp only [z8i,uOr,z8d,z8m,uCB,z7t,z8l,uC,z8o,z7w,uOp,uUn,z8s,z8j,uIf,z8e,z7v,z7u,z7s,uBM,z8g,uSl,z4x,z8r,z72,z8q,z7x,List.append_nil,z8t,z80,z8y,z7z,z8u,z81,z8w,z8v,xIf,z74,z8x,z8p,z3t,z8n,z7m,z7q,z7o,z7p,z5w,z5v,z7a,z3l,z3m,z75,z5g,z8k,asD,uXf,z8f,z5n,z7y,z6e,z6d,z68,z67,z63,z5h,z5i,z5j,z3v,z3w,z6f,z64,z62,z5r,z6b,z7j,z7k,z7i,z7c,z7b,z7l,z7e,z5o,z2m,z2w,z2k,z2o,z2p,z2l,z2n,z5c,z73,z5a,z5e,z5f,z5b,z3g,z5d,z3e,z2q,z2r,z3i,z3k,z3j,z39,z3a,z37,z38,z4q,z6h,z4o,z4s,z4t,z4p,z3f,z4r,z4e,z4d,z3b,z2s,z3d,z3c,z0h,z0g,z0d,z0a,z0f,z0e,z1o,z1n,z0u,z0j,z0w,z0v,z2d,z2c,z1r,z10,z1t,z1s,z2f,z2e,z1w,z14,z1y,z1x,z16,z15,z0m,z0i,z0o,z0n,z1v,z1u,z11,z0l,z13,z12,z1q,z1p,z0x,z0k,z0z,z0y,z4i,z6g,z4g,z4j,z4k,z4h,z82,z88,z46,z5x,z44,z47,z48,z45,z2v,z2j,z40,z5q,z3y,z41,z42,z3z,z2u,z2i,z6y,z70,z6x,z71,z6z,z59,z56,z57,z58,z87,z86,z7r,z79,z7n,z7d,z5y,z76,z77,z6c,z69,z6a,z8b,z8c,z89,z8a,z85,z83,z84,z4v,z4u,z6i,z78,z5m,z5l,z5k,z6n,z6o,z6p,z6q,z6r,z6s,z6t,z6u,z6v,z6w,z50,z51,z52,z53,z54,z55,z4b,z4c,z49,z27,z26,z1e,z0r,z1g,z1f,z05,z04,z2h,z2g,z1z,z17,z21,z20,z0c,z0b,z23,z22,z18,z0p,z1a,z19,z01,z00,z29,z28,z1h,z0s,z1j,z1i,z07,z06,z2b,z2a,z1k,z0t,z1m,z1l,z09,z08,z25,z24,z1b,z0q,z1d,z1c,z03,z02,z6m,z8h,z4z,z6l,z6k,z4w,z4y,z3s,z6j,z3p,z4f,z3n,z3q,z3r,z3o,z5p,z2t,z3h,z4n,z4l,z4a,z66,z65,z4m,z60,z61,z5z,z32,z2x,z33,z2y,z34,z2z,z35,z30,z36,z31,z7h,z7g,z3u,z5u,z3x,z7f,z5t,z43,z5s,cle,clt,cge,cgt,ceq,cne,lenN,xFor,xTryM,uMix,uEnum,uZip,ltT,uSortK,sortK,sortN,uDNew,uDGet,inN,setN,uDNewS,uDGetS,inS,setS,uDm,uDm0,getR,popS,setdS,getNR,setdN,popNR,itemsR,lenS,dictS,sortItR,uFld,uFst,uMake,uLock,uLockE,uKeys,sortE,sortL,xOp,reprT_1,listN,uMkV,uMkK,uXv,uExo,exists_eq_left',exists_eq_left,Option.some.injEq,U.int.injEq,U.bl.injEq,U.str.injEq,U.ref.injEq,U.tup.injEq,U.lst.injEq,U.ty.injEq,List.cons.injEq,and_true,true_and,and_self,List.map_cons,List.map_nil,List.length_cons,List.length_nil,List.cons_append,List.nil_append,List.append_nil,List.getElem?_cons_zero,List.getElem?_cons_succ,List.set_cons_zero,List.set_cons_succ,List.replicate,↓reduceIte,Bool.false_eq_true,Bool.not_true,Bool.not_false,reduceCtorEq,Nat.reduceAdd,Nat.reduceSub,Nat.reduceLeDiff,Nat.reduceEqDiff,decide_true,decide_false,at0,at1,at2,at3,at4,ix0,ix1,ix2,ix3,ix4,updM_same,beq_self_eq_true,Option.bind,Option.map,wipeU,NT.put,puts,MO.lst.injEq,exists_and_left,decide_eq_true_eq,Bool.and_eq_true,Bool.or_eq_true,exists_eq',Nat.zero_le,true_or,or_true,hD4]
        refine iteI (fun e0 => ?_) (fun e0 => ?_)
        · exact top_zq q (Dt.lst hP hlen) hMD hD4 hS4 hB k1 k2
        · exact .inl (q _ _ M4 (Dt.tup hP hlen) (top_val fun _ => nofun) hS4 hB)

theorem ok__law_thing (L : Lw K mg) : ∀ d : Nat, UFn P w K mg base CX0 (5 + d + 1) L.f__law_thing L.fd__law_thing ["_law_stream", "_law_deep"] (sp__law_thing d)
  | 0 => step__law_thing L (k := 0) (sp' := fun _ _ _ _ => False) 0 ufn_none (fun d' h => by cases h)
  | d + 1 => step__law_thing L (k := d + 1) (sp' := sp__law_thing d) (d + 1) (ok__law_thing L d) (fun d' h => by cases h; rfl)
/-! ### _law_fixed -/
def sp__law_fixed (k : Nat) : USp := fun us M Q _ => ∃ x, us = [x] ∧ isD (val M x) = true ∧ dep (val M x) ≤ k ∧ Q (tupU (val M x)) M
theorem step__law_fixed (L : Lw K mg) {k : Nat} {sp' : USp} (k0 : Nat) (G : UFn P w K mg base CX0 (1 + k) L.f__law_fixed L.fd__law_fixed ["_law_thing_here"] sp') (hsp : ∀ k', k0 = k' + 1 → sp' = sp__law_fixed k') : UFn P w K mg base CX0 (1 + k + 1) L.f__law_fixed L.fd__law_fixed ["_law_thing_here"] (sp__law_fixed k0) := by
  refine ufn_ok L.D__law_fixed.F sc__law_fixed (fun us M Q E h => ?_) (fun cdv A outer s H E hr hG =>
      (uss_cons (us_if (ut_val (ue_callB uc_isi (by rfl) L.n_isinstance bt_isi (ua_cons (uv 0) (ua_cons (ue_tup (ua_cons (ue_bltn (by rfl) L.n_tuple bt_tuple) (ua_cons (ue_bltn (by rfl) L.n_list bt_list) ua_nil))) ua_nil)))) (uss_one (us_ret (ue_callTy uc_tuple (by rfl) L.n_tuple bt_tuple (ua_cons (ue_lc (own := [("_law_part", 1)]) (n := (.one 1)) false rfl sc__law_fixed.nd (ui_any (uv 0)) (blkOk_by (own := [("_law_part", 1)]) (N := ["_law_thing_here", "_law_part"]) (sc := defScope s__law_fixed) (by decide +kernel)) (by decide) (fun _ _ _ _ _ => (pg_nt sc__law_fixed.nd rfl (.inl rfl))) (fun _ _ _ _ _ => uts_nil) (fun _ _ _ _ _ => (ue_call G (hr.mono (by omega)) hG rfl L.D__law_fixed.g L.D__law_fixed.F.kp L.D__law_fixed.b .nil (fun _ => RelUs.nil) (ua_cons (uv 1) ua_nil)))) ua_nil)))) uss_nil)
      (uss_one (us_ret (uv 0))))) (fun us M Q E h => ?_)
  · obtain ⟨x, rfl, _⟩ := h
    rfl
  · obtain ⟨x, rfl, hx, hk, q⟩ := h
    have q : ZQ Q (tupU (val M x)) M := .inl q
    have each : ∀ {xs : List U} {k' : Nat}, isDs xs = true → deps xs ≤ k' → ∀ y ∈ xs, ∀ (M1 : UHp) (Q1 : UK) (E1 : UXK), Q1 (tupU y) M1 → sp__law_fixed k' [y] M1 Q1 E1 := fun h1 h2 y hy M1 Q1 E1 q1 => by
      have hd := isDs_iff.mp h1 y hy
      refine ⟨y, rfl, ?_⟩
      rw [val_isD hd]
      exact ⟨hd, deps_le.mp h2 y hy, q1⟩
    cases x with
    | tup xs =>
      have hx : isDs xs = true := hx
      have hk : deps xs + 1 ≤ k0 := hk
      obtain ⟨k', rfl⟩ : ∃ k', k0 = k' + 1 := ⟨k0 - 1, by omega⟩
      obtain rfl := hsp k' rfl
      have q : ZQ Q (.tup (xs.map tupU)) M := by
        have q : ZQ Q (.tup (tupUs xs)) M := q
        rw [tupUs_map] at q; exact q
      walk_at "q3"
      refine ⟨line_le, ?_⟩
      refine lc_map tupU (fun _ _ _ => True.intro) (fun D acc hD x hx2 => ⟨_, rfl, fun Q q => ?_⟩) ?_
      · walk_at "q1"
        exact each hx (by omega) x hx2 _ _ _ q
      · walk_at "q1"
        exact q
    | lst xs =>
      have hx : isDs xs = true := hx
      have hk : deps xs + 1 ≤ k0 := hk
      obtain ⟨k', rfl⟩ : ∃ k', k0 = k' + 1 := ⟨k0 - 1, by omega⟩
      obtain rfl := hsp k' rfl
      have q : ZQ Q (.tup (xs.map tupU)) M := by
        have q : ZQ Q (.tup (tupUs xs)) M := q
        rw [tupUs_map] at q; exact q
      walk_at "q3"
      refine ⟨line_le, ?_⟩
      refine lc_map tupU (fun _ _ _ => True.intro) (fun D acc hD x hx2 => ⟨_, rfl, fun Q q => ?_⟩) ?_
      · walk_at "q1"
        exact each hx (by omega) x hx2 _ _ _ q
      · walk_at "q1"
        exact q
    | ref a =>
      obtain ⟨xs, ha⟩ : ∃ xs, M a = some (.lst xs) := by
        cases e : M a with
        | none => simp only [val,e] at hx; simp [isD] at hx
        | some o =>
          cases o with
          | lst xs => exact ⟨xs, rfl⟩
          | _ => simp only [val,e] at hx; simp [isD] at hx
      have ev : val M (.ref a) = .lst xs := by simp only [val,ha]
      rw [ev] at hx hk q
      have hx : isDs xs = true := hx
      have hk : deps xs + 1 ≤ k0 := hk
      obtain ⟨k', rfl⟩ : ∃ k', k0 = k' + 1 := ⟨k0 - 1, by omega⟩
      obtain rfl := hsp k' rfl
      have q : ZQ Q (.tup (xs.map tupU)) M := by
        have q : ZQ Q (.tup (tupUs xs)) M := q
        rw [tupUs_map] at q; exact q
      simp only [uLc,z8i,uOr,z8d,z8m,uCB,z7t,z8l,uC,z8o,z7w,uOp,uUn,z8s,z8j,uIf,z8e,z7v,z7u,z7s,uBM,z8g,uSl,z4x,z8r,z72,z8q,z7x,List.append_nil,z8t,z80,z8y,z7z,z8u,z81,z8w,z8v,xIf,z74,z8x,z8p,z3t,z8n,z7m,z7q,z7o,z7p,z5w,z5v,z7a,z3l,z3m,z75,z5g,z8k,asD,uXf,z8f,z5n,z7y,z6e,z6d,z68,z67,z63,z5h,z5i,z5j,z3v,z3w,z6f,z64,z62,z5r,z6b,z7j,z7k,z7i,z7c,z7b,z7l,z7e,z5o,z2m,z2w,z2k,z2o,z2p,z2l,z2n,z5c,z73,z5a,z5e,z5f,z5b,z3g,z5d,z3e,z2q,z2r,z3i,z3k,z3j,z39,z3a,z37,z38,z4q,z6h,z4o,z4s,z4t,z4p,z3f,z4r,z4e,z4d,z3b,z2s,z3d,z3c,z0h,z0g,z0d,z0a,z0f,z0e,z1o,z1n,z0u,z0j,z0w,z0v,z2d,z2c,z1r,z10,z1t,z1s,z2f,z2e,z1w,z14,z1y,z1x,z16,z15,z0m,z0i,z0o,z0n,z1v,z1u,z11,z0l,z13,z12,z1q,z1p,z0x,z0k,z0z,z0y,z4i,z6g,z4g,z4j,z4k,z4h,z82,z88,z46,z5x,z44,z47,z48,z45,z2v,z2j,z40,z5q,z3y,z41,z42,z3z,z2u,z2i,z6y,z70,z6x,z71,z6z,z59,z56,z57,z58,z87,z86,z7r,z79,z7n,z7d,z5y,z76,z77,z6c,z69,z6a,z8b,z8c,z89,z8a,z85,z83,z84,z4v,z4u,z6i,z78,z5m,z5l,z5k,z6n,z6o,z6p,z6q,z6r,z6s,z6t,z6u,z6v,z6w,z50,z51,z52,z53,z54,z55,z4b,z4c,z49,z27,z26,z1e,z0r,z1g,z1f,z05,z04,z2h,z2g,z1z,z17,z21,z20,z0c,z0b,z23,z22,z18,z0p,z1a,z19,z01,z00,z29,z28,z1h,z0s,z1j,z1i,z07,z06,z2b,z2a,z1k,z0t,z1m,z1l,z09,z08,z25,z24,z1b,z0q,z1d,z1c,z03,z02,z6m,z8h,z4z,z6l,z6k,z4w,z4y,z3s,z6j,z3p,z4f,z3n,z3q,z3r,z3o,z5p,z2t,z3h,z4n,z4l,z4a,z66,z65,z4m,z60,z61,z5z,z32,z2x,z33,z2y,z34,z2z,z35,z30,z36,z31,z7h,z7g,z3u,z5u,z3x,z7f,z5t,z43,z5s,cle,clt,cge,cgt,ceq,cne,lenN,xFor,xTryM,uMix,uEnum,uZip,ltT,uSortK,sortK,sortN,uDNew,uDGet,inN,setN,uDNewS,uDGetS,inS,setS,uDm,uDm0,getR,popS,setdS,getNR,setdN,popNR,itemsR,lenS,dictS,sortItR,uFld,uFst,uMake,uLock,uLockE,uKeys,sortE,sortL,xOp,reprT_1,listN,uMkV,uMkK,uXv,uExo,exists_eq_left',exists_eq_left,Option.some.injEq,U.int.injEq,U.bl.injEq,U.str.injEq,U.ref.injEq,U.tup.injEq,U.lst.injEq,U.ty.injEq,List.cons.injEq,and_true,true_and,and_self,List.map_cons,List.map_nil,List.length_cons,List.length_nil,List.cons_append,List.nil_append,List.append_nil,List.getElem?_cons_zero,List.getElem?_cons_succ,List.set_cons_zero,List.set_cons_succ,List.replicate,↓reduceIte,Bool.false_eq_true,Bool.not_true,Bool.not_false,reduceCtorEq,Nat.reduceAdd,Nat.reduceSub,Nat.reduceLeDiff,Nat.reduceEqDiff,decide_true,decide_false,at0,at1,at2,at3,at4,ix0,ix1,ix2,ix3,ix4,updM_same,beq_self_eq_true,Option.bind,Option.map,wipeU,NT.put,puts,MO.lst.injEq,exists_and_left,decide_eq_true_eq,Bool.and_eq_true,Bool.or_eq_true,exists_eq',Nat.zero_le,true_or,or_true,ha]
      refine ⟨line_le, "list", by simp only [tyM,ha], by decide, by decide, ?_⟩
      simp only [z8i,uOr,z8d,z8m,uCB,z7t,z8l,uC,z8o,z7w,uOp,uUn,z8s,z8j,uIf,z8e,z7v,z7u,z7s,uBM,z8g,uSl,z4x,z8r,z72,z8q,z7x,List.append_nil,z8t,z80,z8y,z7z,z8u,z81,z8w,z8v,xIf,z74,z8x,z8p,z3t,z8n,z7m,z7q,z7o,z7p,z5w,z5v,z7a,z3l,z3m,z75,z5g,z8k,asD,uXf,z8f,z5n,z7y,z6e,z6d,z68,z67,z63,z5h,z5i,z5j,z3v,z3w,z6f,z64,z62,z5r,z6b,z7j,z7k,z7i,z7c,z7b,z7l,z7e,z5o,z2m,z2w,z2k,z2o,z2p,z2l,z2n,z5c,z73,z5a,z5e,z5f,z5b,z3g,z5d,z3e,z2q,z2r,z3i,z3k,z3j,z39,z3a,z37,z38,z4q,z6h,z4o,z4s,z4t,z4p,z3f,z4r,z4e,z4d,z3b,z2s,z3d,z3c,z0h,z0g,z0d,z0a,z0f,z0e,z1o,z1n,z0u,z0j,z0w,z0v,z2d,z2c,z1r,z10,z1t,z1s,z2f,z2e,z1w,z14,z1y,z1x,z16,z15,z0m,z0i,z0o,z0n,z1v,z1u,z11,z0l,z13,z12,z1q,z1p,z0x,z0k,z0z,z0y,z4i,z6g,z4g,z4j,z4k,z4h,z82,z88,z46,z5x,z44,z47,z48,z45,z2v,z2j,z40,z5q,z3y,z41,z42,z3z,z2u,z2i,z6y,z70,z6x,z71,z6z,z59,z56,z57,z58,z87,z86,z7r,z79,z7n,z7d,z5y,z76,z77,z6c,z69,z6a,z8b,z8c,z89,z8a,z85,z83,z84,z4v,z4u,z6i,z78,z5m,z5l,z5k,z6n,z6o,z6p,z6q,z6r,z6s,z6t,z6u,z6v,z6w,z50,z51,z52,z53,z54,z55,z4b,z4c,z49,z27,z26,z1e,z0r,z1g,z1f,z05,z04,z2h,z2g,z1z,z17,z21,z20,z0c,z0b,z23,z22,z18,z0p,z1a,z19,z01,z00,z29,z28,z1h,z0s,z1j,z1i,z07,z06,z2b,z2a,z1k,z0t,z1m,z1l,z09,z08,z25,z24,z1b,z0q,z1d,z1c,z03,z02,z6m,z8h,z4z,z6l,z6k,z4w,z4y,z3s,z6j,z3p,z4f,z3n,z3q,z3r,z3o,z5p,z2t,z3h,z4n,z4l,z4a,z66,z65,z4m,z60,z61,z5z,z32,z2x,z33,z2y,z34,z2z,z35,z30,z36,z31,z7h,z7g,z3u,z5u,z3x,z7f,z5t,z43,z5s,cle,clt,cge,cgt,ceq,cne,lenN,xFor,xTryM,uMix,uEnum,uZip,ltT,uSortK,sortK,sortN,uDNew,uDGet,inN,setN,uDNewS,uDGetS,inS,setS,uDm,uDm0,getR,popS,setdS,getNR,setdN,popNR,itemsR,lenS,dictS,sortItR,uFld,uFst,uMake,uLock,uLockE,uKeys,sortE,sortL,xOp,reprT_1,listN,uMkV,uMkK,uXv,uExo,exists_eq_left',exists_eq_left,Option.some.injEq,U.int.injEq,U.bl.injEq,U.str.injEq,U.ref.injEq,U.tup.injEq,U.lst.injEq,U.ty.injEq,List.cons.injEq,and_true,true_and,and_self,List.map_cons,List.map_nil,List.length_cons,List.length_nil,List.cons_append,List.nil_append,List.append_nil,List.getElem?_cons_zero,List.getElem?_cons_succ,List.set_cons_zero,List.set_cons_succ,List.replicate,↓reduceIte,Bool.false_eq_true,Bool.not_true,Bool.not_false,reduceCtorEq,Nat.reduceAdd,Nat.reduceSub,Nat.reduceLeDiff,Nat.reduceEqDiff,decide_true,decide_false,at0,at1,at2,at3,at4,ix0,ix1,ix2,ix3,ix4,updM_same,beq_self_eq_true,Option.bind,Option.map,wipeU,NT.put,puts,MO.lst.injEq,exists_and_left,decide_eq_true_eq,Bool.and_eq_true,Bool.or_eq_true,exists_eq',Nat.zero_le,true_or,or_true,ha,Bool.or_true]
      have st : ∀ D acc, M D = none → refL (updM M D (.lst acc) a) = some xs := fun D acc hD => by
        rw [updM_ne (fun e => by rw [← e, ha] at hD; cases hD), ha]; rfl
      refine lc_map tupU st (fun D acc hD x hx2 => ⟨_, rfl, fun Q q => ?_⟩) ?_
      · walk_at "q1"
        exact each hx (by omega) x hx2 _ _ _ q
      · walk_at "q1"
        exact q
    | ty n => simp [val, isD] at hx
    | _ =>
      simp only [z8i,uOr,z8d,z8m,uCB,z7t,z8l,uC,z8o,z7w,uOp,uUn,z8s,z8j,uIf,z8e,z7v,z7u,z7s,uBM,z8g,uSl,z4x,z8r,z72,z8q,z7x,List.append_nil,z8t,z80,z8y,z7z,z8u,z81,z8w,z8v,xIf,z74,z8x,z8p,z3t,z8n,z7m,z7q,z7o,z7p,z5w,z5v,z7a,z3l,z3m,z75,z5g,z8k,asD,uXf,z8f,z5n,z7y,z6e,z6d,z68,z67,z63,z5h,z5i,z5j,z3v,z3w,z6f,z64,z62,z5r,z6b,z7j,z7k,z7i,z7c,z7b,z7l,z7e,z5o,z2m,z2w,z2k,z2o,z2p,z2l,z2n,z5c,z73,z5a,z5e,z5f,z5b,z3g,z5d,z3e,z2q,z2r,z3i,z3k,z3j,z39,z3a,z37,z38,z4q,z6h,z4o,z4s,z4t,z4p,z3f,z4r,z4e,z4d,z3b,z2s,z3d,z3c,z0h,z0g,z0d,z0a,z0f,z0e,z1o,z1n,z0u,z0j,z0w,z0v,z2d,z2c,z1r,z10,z1t,z1s,z2f,z2e,z1w,z14,z1y,z1x,z16,z15,z0m,z0i,z0o,z0n,z1v,z1u,z11,z0l,z13,z12,z1q,z1p,z0x,z0k,z0z,z0y,z4i,z6g,z4g,z4j,z4k,z4h,z82,z88,z46,z5x,z44,z47,z48,z45,z2v,z2j,z40,z5q,z3y,z41,z42,z3z,z2u,z2i,z6y,z70,z6x,z71,z6z,z59,z56,z57,z58,z87,z86,z7r,z79,z7n,z7d,z5y,z76,z77,z6c,z69,z6a,z8b,z8c,z89,z8a,z85,z83,z84,z4v,z4u,z6i,z78,z5m,z5l,z5k,z6n,z6o,z6p,z6q,z6r,z6s,z6t,z6u,z6v,z6w,z50,z51,z52,z53,z54,z55,z4b,z4c,z49,z27,z26,z1e,z0r,z1g,z1f,z05,z04,z2h,z2g,z1z,z17,z21,z20,z0c,z0b,z23,z22,z18,z0p,z1a,z19,z01,z00,z29,z28,z1h,z0s,z1j,z1i,z07,z06,z2b,z2a,z1k,z0t,z1m,z1l,z09,z08,z25,z24,z1b,z0q,z1d,z1c,z03,z02,z6m,z8h,z4z,z6l,z6k,z4w,z4y,z3s,z6j,z3p,z4f,z3n,z3q,z3r,z3o,z5p,z2t,z3h,z4n,z4l,z4a,z66,z65,z4m,z60,z61,z5z,z32,z2x,z33,z2y,z34,z2z,z35,z30,z36,z31,z7h,z7g,z3u,z5u,z3x,z7f,z5t,z43,z5s,cle,clt,cge,cgt,ceq,cne,lenN,xFor,xTryM,uMix,uEnum,uZip,ltT,uSortK,sortK,sortN,uDNew,uDGet,inN,setN,uDNewS,uDGetS,inS,setS,uDm,uDm0,getR,popS,setdS,getNR,setdN,popNR,itemsR,lenS,dictS,sortItR,uFld,uFst,uMake,uLock,uLockE,uKeys,sortE,sortL,xOp,reprT_1,listN,uMkV,uMkK,uXv,uExo,exists_eq_left',exists_eq_left,Option.some.injEq,U.int.injEq,U.bl.injEq,U.str.injEq,U.ref.injEq,U.tup.injEq,U.lst.injEq,U.ty.injEq,List.cons.injEq,and_true,true_and,and_self,List.map_cons,List.map_nil,List.length_cons,List.length_nil,List.cons_append,List.nil_append,List.append_nil,List.getElem?_cons_zero,List.getElem?_cons_succ,List.set_cons_zero,List.set_cons_succ,List.replicate,↓reduceIte,Bool.false_eq_true,Bool.not_true,Bool.not_false,reduceCtorEq,Nat.reduceAdd,Nat.reduceSub,Nat.reduceLeDiff,Nat.reduceEqDiff,decide_true,decide_false,at0,at1,at2,at3,at4,ix0,ix1,ix2,ix3,ix4,updM_same,beq_self_eq_true,Option.bind,Option.map,wipeU,NT.put,puts,MO.lst.injEq,exists_and_left,decide_eq_true_eq,Bool.and_eq_true,Bool.or_eq_true,exists_eq',Nat.zero_le,true_or,or_true,tupU] at q ⊢
      exact ⟨line_le, q⟩

theorem ok__law_fixed (L : Lw K mg) : ∀ k : Nat, UFn P w K mg base CX0 (1 + k + 1) L.f__law_fixed L.fd__law_fixed ["_law_thing_here"] (sp__law_fixed k)
  | 0 => step__law_fixed L (k := 0) (sp' := fun _ _ _ _ => False) 0 ufn_none (fun k' h => by cases h)
  | k + 1 => step__law_fixed L (k := k + 1) (sp' := sp__law_fixed k) (k + 1) (ok__law_fixed L k) (fun k' h => by cases h; rfl)
/-! ### ini_BadEntry -/
def mk1 (n : Str) : UHp → List U → List (Str × U) → Prop := fun M us fs => ∃ x0, us = [x0] ∧ ((isD (val M x0) = true ∧ dep (val M x0) ≤ 60)) ∧ fs = [((n : Str), tupU (val M x0))]
theorem mono1 (n : Str) : ∀ M M' us fs, (∀ b o, M b = some o → M' b = some o) → mk1 n M us fs → mk1 n M' us fs := by
  rintro M M' us fs E ⟨x0, rfl, ⟨h0, k0⟩, rfl⟩
  have e0 : val M' x0 = val M x0 := val_keep h0 (fun b xs => E b _)
  exact ⟨x0, rfl, by rw [e0]; exact ⟨h0, k0⟩, by rw [e0]⟩
theorem len1 {C : Addr} {n : Str} {us : List U} {M : UHp} {Q : UK} {E : UXK} (h : spFV C (mk1 n) us M Q E) : us.length = 2 := by
  obtain ⟨a, xs, fs, rfl, ⟨x0, rfl, _⟩, _⟩ := h
  rfl
local macro_rules | `(tactic| walk_at "q4") => `(tactic| simp only [z8i,uOr,z8d,z8m,uCB,z7t,z8l,uC,z8o,z7w,uOp,uUn,z8s,z8j,uIf,z8e,z7v,z7u,z7s,uBM,z8g,uSl,z4x,z8r,z72,z8q,z7x,List.append_nil,z8t,z80,z8y,z7z,z8u,z81,z8w,z8v,xIf,z74,z8x,z8p,z3t,z8n,z7m,z7q,z7o,z7p,z5w,z5v,z7a,z3l,z3m,z75,z5g,z8k,asD,uXf,z8f,z5n,z7y,z6e,z6d,z68,z67,z63,z5h,z5i,z5j,z3v,z3w,z6f,z64,z62,z5r,z6b,z7j,z7k,z7i,z7c,z7b,z7l,z7e,z5o,z2m,z2w,z2k,z2o,z2p,z2l,z2n,z5c,z73,z5a,z5e,z5f,z5b,z3g,z5d,z3e,z2q,z2r,z3i,z3k,z3j,z39,z3a,z37,z38,z4q,z6h,z4o,z4s,z4t,z4p,z3f,z4r,z4e,z4d,z3b,z2s,z3d,z3c,z0h,z0g,z0d,z0a,z0f,z0e,z1o,z1n,z0u,z0j,z0w,z0v,z2d,z2c,z1r,z10,z1t,z1s,z2f,z2e,z1w,z14,z1y,z1x,z16,z15,z0m,z0i,z0o,z0n,z1v,z1u,z11,z0l,z13,z12,z1q,z1p,z0x,z0k,z0z,z0y,z4i,z6g,z4g,z4j,z4k,z4h,z82,z88,z46,z5x,z44,z47,z48,z45,z2v,z2j,z40,z5q,z3y,z41,z42,z3z,z2u,z2i,z6y,z70,z6x,z71,z6z,z59,z56,z57,z58,z87,z86,z7r,z79,z7n,z7d,z5y,z76,z77,z6c,z69,z6a,z8b,z8c,z89,z8a,z85,z83,z84,z4v,z4u,z6i,z78,z5m,z5l,z5k,z6n,z6o,z6p,z6q,z6r,z6s,z6t,z6u,z6v,z6w,z50,z51,z52,z53,z54,z55,z4b,z4c,z49,z27,z26,z1e,z0r,z1g,z1f,z05,z04,z2h,z2g,z1z,z17,z21,z20,z0c,z0b,z23,z22,z18,z0p,z1a,z19,z01,z00,z29,z28,z1h,z0s,z1j,z1i,z07,z06,z2b,z2a,z1k,z0t,z1m,z1l,z09,z08,z25,z24,z1b,z0q,z1d,z1c,z03,z02,z6m,z8h,z4z,z6l,z6k,z4w,z4y,z3s,z6j,z3p,z4f,z3n,z3q,z3r,z3o,z5p,z2t,z3h,z4n,z4l,z4a,z66,z65,z4m,z60,z61,z5z,z32,z2x,z33,z2y,z34,z2z,z35,z30,z36,z31,z7h,z7g,z3u,z5u,z3x,z7f,z5t,z43,z5s,cle,clt,cge,cgt,ceq,cne,lenN,xFor,xTryM,uMix,uEnum,uZip,ltT,uSortK,sortK,sortN,uDNew,uDGet,inN,setN,uDNewS,uDGetS,inS,setS,uDm,uDm0,getR,popS,setdS,getNR,setdN,popNR,itemsR,lenS,dictS,sortItR,uFld,uFst,uMake,uLock,uLockE,uKeys,sortE,sortL,xOp,reprT_1,listN,uMkV,uMkK,uXv,uExo,exists_eq_left',exists_eq_left,Option.some.injEq,U.int.injEq,U.bl.injEq,U.str.injEq,U.ref.injEq,U.tup.injEq,U.lst.injEq,U.ty.injEq,List.cons.injEq,and_true,true_and,and_self,List.map_cons,List.map_nil,List.length_cons,List.length_nil,List.cons_append,List.nil_append,List.append_nil,List.getElem?_cons_zero,List.getElem?_cons_succ,List.set_cons_zero,List.set_cons_succ,List.replicate,↓reduceIte,Bool.false_eq_true,Bool.not_true,Bool.not_false,reduceCtorEq,Nat.reduceAdd,Nat.reduceSub,Nat.reduceLeDiff,Nat.reduceEqDiff,decide_true,decide_false,at0,at1,at2,at3,at4,ix0,ix1,ix2,ix3,ix4,updM_same,beq_self_eq_true,Option.bind,Option.map,wipeU,NT.put,puts,MO.lst.injEq,exists_and_left,decide_eq_true_eq,Bool.and_eq_true,Bool.or_eq_true,exists_eq',Nat.zero_le,true_or,or_true,uVeI,uOst,sp_as_tuples])
theorem pure1 {C : Addr} {n msg : Str} {us : List U} {M : UHp} {Q : UK} {E : UXK} (hO : OexC K C) (hn : PySem.W.findIn K (.ref C) n = some none) (h : spFV C (mk1 n) us M Q E) :
    (z8q (z7u (uVeI K (z7t (uVar 0) (z7t (uC (.str msg)) z8l)))) (uOst K n (uVar 0) (z7s (sp_as_tuples 60) [] (z7t (uVar 1) z8l)))) { nx := fun _ M' => Q .non M', rt := ZQ Q } (z72 ["self", n] us) M := by
  obtain ⟨a, xs, fs, rfl, ⟨x0, rfl, ⟨h0, k0⟩, rfl⟩, hm, q⟩ := h
  walk_at "q4"
  refine ⟨a, C, _, ⟨rfl, rfl⟩, by show (1 : Nat) ≤ 1000; decide, hO, hm, h0, k0, C, hO, hn, .inl ⟨hm, fun dx h1 h2 => ?_⟩⟩
  exact q dx h1 h2
def mk_BadEntry : UHp → List U → List (Str × U) → Prop := mk1 "index"
theorem mono_BadEntry : ∀ M M' us fs, (∀ b o, M b = some o → M' b = some o) → mk_BadEntry M us fs → mk_BadEntry M' us fs := mono1 "index"
theorem ok_ini_BadEntry (L : Lw K mg) : UFn P w K mg base CX0 63 L.f_ini_BadEntry L.fd_ini_BadEntry ["self", "index"] (spFV L.C_BadEntry mk_BadEntry) := by
  refine ufn_ok (t := z8q (z7u (uVeI K (z7t (uVar 0) (z7t (uC (.str "an object that is no entry")) z8l)))) (uOst K "index" (uVar 0) (z7s (sp_as_tuples 60) [] (z7t (uVar 1) z8l)))) L.D_ini_BadEntry.F sc_ini_BadEntry (fun us M Q E h => ?_) (fun cdv A outer s H E hr hG => ?t1) (fun us M Q E h => ?_)
  case t1 =>
    refine uss_cons ?_ ?_
    · exact (us_expr (ue_veown rfl L.g_VariantError L.ve_VariantError (ua_cons (uv 0) (ua_cons ue_str ua_nil))))
    exact uss_one ((us_ost (uv 0) (ue_call (ok_as_tuples L 60) (hr.mono (by decide)) hG rfl L.D_as_tuples.g L.D_as_tuples.F.kp L.D_as_tuples.b .nil (fun _ => RelUs.nil) (ua_cons (uv 1) ua_nil))))
  · exact len1 h
  · exact pure1 L.o_BadEntry L.no_BadEntry_index h

/-! ### ini_BadLine -/
def mk_BadLine : UHp → List U → List (Str × U) → Prop := mk1 "index"
theorem mono_BadLine : ∀ M M' us fs, (∀ b o, M b = some o → M' b = some o) → mk_BadLine M us fs → mk_BadLine M' us fs := mono1 "index"
theorem ok_ini_BadLine (L : Lw K mg) : UFn P w K mg base CX0 63 L.f_ini_BadLine L.fd_ini_BadLine ["self", "index"] (spFV L.C_BadLine mk_BadLine) := by
  refine ufn_ok (t := z8q (z7u (uVeI K (z7t (uVar 0) (z7t (uC (.str "a line of a wrong form")) z8l)))) (uOst K "index" (uVar 0) (z7s (sp_as_tuples 60) [] (z7t (uVar 1) z8l)))) L.D_ini_BadLine.F sc_ini_BadLine (fun us M Q E h => ?_) (fun cdv A outer s H E hr hG => ?t1) (fun us M Q E h => ?_)
  case t1 =>
    refine uss_cons ?_ ?_
    · exact (us_expr (ue_veown rfl L.g_VariantError L.ve_VariantError (ua_cons (uv 0) (ua_cons ue_str ua_nil))))
    exact uss_one ((us_ost (uv 0) (ue_call (ok_as_tuples L 60) (hr.mono (by decide)) hG rfl L.D_as_tuples.g L.D_as_tuples.F.kp L.D_as_tuples.b .nil (fun _ => RelUs.nil) (ua_cons (uv 1) ua_nil))))
  · exact len1 h
  · exact pure1 L.o_BadLine L.no_BadLine_index h

/-! ### ini_BadName -/
def mk_BadName : UHp → List U → List (Str × U) → Prop := mk1 "name"
theorem mono_BadName : ∀ M M' us fs, (∀ b o, M b = some o → M' b = some o) → mk_BadName M us fs → mk_BadName M' us fs := mono1 "name"
theorem ok_ini_BadName (L : Lw K mg) : UFn P w K mg base CX0 63 L.f_ini_BadName L.fd_ini_BadName ["self", "name"] (spFV L.C_BadName mk_BadName) := by
  refine ufn_ok (t := z8q (z7u (uVeI K (z7t (uVar 0) (z7t (uC (.str "an object that is no name")) z8l)))) (uOst K "name" (uVar 0) (z7s (sp_as_tuples 60) [] (z7t (uVar 1) z8l)))) L.D_ini_BadName.F sc_ini_BadName (fun us M Q E h => ?_) (fun cdv A outer s H E hr hG => ?t1) (fun us M Q E h => ?_)
  case t1 =>
    refine uss_cons ?_ ?_
    · exact (us_expr (ue_veown rfl L.g_VariantError L.ve_VariantError (ua_cons (uv 0) (ua_cons ue_str ua_nil))))
    exact uss_one ((us_ost (uv 0) (ue_call (ok_as_tuples L 60) (hr.mono (by decide)) hG rfl L.D_as_tuples.g L.D_as_tuples.F.kp L.D_as_tuples.b .nil (fun _ => RelUs.nil) (ua_cons (uv 1) ua_nil))))
  · exact len1 h
  · exact pure1 L.o_BadName L.no_BadName_name h

/-! ### ini_BadStep -/
def mk_BadStep : UHp → List U → List (Str × U) → Prop := mk1 "index"
theorem mono_BadStep : ∀ M M' us fs, (∀ b o, M b = some o → M' b = some o) → mk_BadStep M us fs → mk_BadStep M' us fs := mono1 "index"
theorem ok_ini_BadStep (L : Lw K mg) : UFn P w K mg base CX0 63 L.f_ini_BadStep L.fd_ini_BadStep ["self", "index"] (spFV L.C_BadStep mk_BadStep) := by
  refine ufn_ok (t := z8q (z7u (uVeI K (z7t (uVar 0) (z7t (uC (.str "a step that cannot be done")) z8l)))) (uOst K "index" (uVar 0) (z7s (sp_as_tuples 60) [] (z7t (uVar 1) z8l)))) L.D_ini_BadStep.F sc_ini_BadStep (fun us M Q E h => ?_) (fun cdv A outer s H E hr hG => ?t1) (fun us M Q E h => ?_)
  case t1 =>
    refine uss_cons ?_ ?_
    · exact (us_expr (ue_veown rfl L.g_VariantError L.ve_VariantError (ua_cons (uv 0) (ua_cons ue_str ua_nil))))
    exact uss_one ((us_ost (uv 0) (ue_call (ok_as_tuples L 60) (hr.mono (by decide)) hG rfl L.D_as_tuples.g L.D_as_tuples.F.kp L.D_as_tuples.b .nil (fun _ => RelUs.nil) (ua_cons (uv 1) ua_nil))))
  · exact len1 h
  · exact pure1 L.o_BadStep L.no_BadStep_index h

/-! ### ini_BadText -/
def mk_BadText : UHp → List U → List (Str × U) → Prop := mk1 "at"
theorem mono_BadText : ∀ M M' us fs, (∀ b o, M b = some o → M' b = some o) → mk_BadText M us fs → mk_BadText M' us fs := mono1 "at"
theorem ok_ini_BadText (L : Lw K mg) : UFn P w K mg base CX0 63 L.f_ini_BadText L.fd_ini_BadText ["self", "at"] (spFV L.C_BadText mk_BadText) := by
  refine ufn_ok (t := z8q (z7u (uVeI K (z7t (uVar 0) (z7t (uC (.str "a text of a wrong form")) z8l)))) (uOst K "at" (uVar 0) (z7s (sp_as_tuples 60) [] (z7t (uVar 1) z8l)))) L.D_ini_BadText.F sc_ini_BadText (fun us M Q E h => ?_) (fun cdv A outer s H E hr hG => ?t1) (fun us M Q E h => ?_)
  case t1 =>
    refine uss_cons ?_ ?_
    · exact (us_expr (ue_veown rfl L.g_VariantError L.ve_VariantError (ua_cons (uv 0) (ua_cons ue_str ua_nil))))
    exact uss_one ((us_ost (uv 0) (ue_call (ok_as_tuples L 60) (hr.mono (by decide)) hG rfl L.D_as_tuples.g L.D_as_tuples.F.kp L.D_as_tuples.b .nil (fun _ => RelUs.nil) (ua_cons (uv 1) ua_nil))))
  · exact len1 h
  · exact pure1 L.o_BadText L.no_BadText_at h

/-! ### ini_Broken -/
def mk_Broken : UHp → List U → List (Str × U) → Prop := mk1 "index"
theorem mono_Broken : ∀ M M' us fs, (∀ b o, M b = some o → M' b = some o) → mk_Broken M us fs → mk_Broken M' us fs := mono1 "index"
theorem ok_ini_Broken (L : Lw K mg) : UFn P w K mg base CX0 63 L.f_ini_Broken L.fd_ini_Broken ["self", "index"] (spFV L.C_Broken mk_Broken) := by
  refine ufn_ok (t := z8q (z7u (uVeI K (z7t (uVar 0) (z7t (uC (.str "a later step that cannot be done")) z8l)))) (uOst K "index" (uVar 0) (z7s (sp_as_tuples 60) [] (z7t (uVar 1) z8l)))) L.D_ini_Broken.F sc_ini_Broken (fun us M Q E h => ?_) (fun cdv A outer s H E hr hG => ?t1) (fun us M Q E h => ?_)
  case t1 =>
    refine uss_cons ?_ ?_
    · exact (us_expr (ue_veown rfl L.g_VariantError L.ve_VariantError (ua_cons (uv 0) (ua_cons ue_str ua_nil))))
    exact uss_one ((us_ost (uv 0) (ue_call (ok_as_tuples L 60) (hr.mono (by decide)) hG rfl L.D_as_tuples.g L.D_as_tuples.F.kp L.D_as_tuples.b .nil (fun _ => RelUs.nil) (ua_cons (uv 1) ua_nil))))
  · exact len1 h
  · exact pure1 L.o_Broken L.no_Broken_index h

/-! ### ini_Clash -/
def mk_Clash : UHp → List U → List (Str × U) → Prop := fun M us fs => ∃ x0 x1, us = [x0, x1] ∧ ((isD (val M x0) = true ∧ dep (val M x0) ≤ 60) ∧ (isD (val M x1) = true ∧ dep (val M x1) ≤ 60)) ∧ fs = [(("key" : Str), tupU (val M x1)), (("name" : Str), tupU (val M x0))]
theorem mono_Clash : ∀ M M' us fs, (∀ b o, M b = some o → M' b = some o) → mk_Clash M us fs → mk_Clash M' us fs := by
  rintro M M' us fs E ⟨x0, x1, rfl, ⟨⟨h0, k0⟩, ⟨h1, k1⟩⟩, rfl⟩
  have e0 : val M' x0 = val M x0 := val_keep h0 (fun b xs => E b _)
  have e1 : val M' x1 = val M x1 := val_keep h1 (fun b xs => E b _)
  exact ⟨x0, x1, rfl, by rw [e0, e1]; exact ⟨⟨h0, k0⟩, ⟨h1, k1⟩⟩, by rw [e0, e1]⟩
theorem ok_ini_Clash (L : Lw K mg) : UFn P w K mg base CX0 63 L.f_ini_Clash L.fd_ini_Clash ["self", "name", "key"] (spFV L.C_Clash mk_Clash) := by
  refine ufn_ok (t := z8q (z7u (uVeI K (z7t (uVar 0) (z7t (uC (.str "an entry that is in the way of a new name")) z8l)))) (z8q (uOst K "name" (uVar 0) (z7s (sp_as_tuples 60) [] (z7t (uVar 1) z8l))) (uOst K "key" (uVar 0) (z7s (sp_as_tuples 60) [] (z7t (uVar 2) z8l))))) L.D_ini_Clash.F sc_ini_Clash (fun us M Q E h => ?_) (fun cdv A outer s H E hr hG => ?t1) (fun us M Q E h => ?_)
  case t1 =>
    refine uss_cons ?_ ?_
    · exact (us_expr (ue_veown rfl L.g_VariantError L.ve_VariantError (ua_cons (uv 0) (ua_cons ue_str ua_nil))))
    refine uss_cons ?_ ?_
    · exact ((us_ost (uv 0) (ue_call (ok_as_tuples L 60) (hr.mono (by decide)) hG rfl L.D_as_tuples.g L.D_as_tuples.F.kp L.D_as_tuples.b .nil (fun _ => RelUs.nil) (ua_cons (uv 1) ua_nil))))
    exact uss_one ((us_ost (uv 0) (ue_call (ok_as_tuples L 60) (hr.mono (by decide)) hG rfl L.D_as_tuples.g L.D_as_tuples.F.kp L.D_as_tuples.b .nil (fun _ => RelUs.nil) (ua_cons (uv 2) ua_nil))))
  · obtain ⟨a, xs, fs, rfl, ⟨x0, x1, rfl, _⟩, _⟩ := h
    rfl
  · obtain ⟨a, xs, fs, rfl, ⟨x0, x1, rfl, ⟨⟨h0, k0⟩, ⟨h1, k1⟩⟩, rfl⟩, hm, q⟩ := h
    walk_at "q4"
    refine ⟨a, L.C_Clash, _, ⟨rfl, rfl⟩, by decide, L.o_Clash, hm, h0, k0, L.C_Clash, L.o_Clash, L.no_Clash_name, .inl ⟨hm, fun dx hd h2 => ?_⟩⟩
    have e1 : ∀ o u, val (updM (updM M dx o) a u) x1 = val M x1 := fun o u => val_keep h1 (fun b xs z => by
      have n1 : b ≠ a := fun e => by rw [e, hm] at z; cases z
      have n2 : b ≠ dx := fun e => by rw [e, hd] at z; cases z
      rw [updM_ne n1, updM_ne n2]; exact z)
    rw [e1]
    refine ⟨h1, k1, L.C_Clash, L.o_Clash, L.no_Clash_key, .inr ⟨dx, rfl, _, by rw [updM_ne h2, updM_same], by simp, ?_⟩⟩
    have z := q dx hd h2
    rw [updM_comm (Ne.symm h2), updM_updM]
    exact z

/-! ### ini_Frozen -/
def mk_Frozen : UHp → List U → List (Str × U) → Prop := fun M us fs => ∃ x0 x1, us = [x0, x1] ∧ ((isD (val M x0) = true ∧ dep (val M x0) ≤ 60) ∧ (isD (val M x1) = true ∧ dep (val M x1) ≤ 60)) ∧ fs = [(("number" : Str), tupU (val M x1)), (("name" : Str), tupU (val M x0))]
theorem mono_Frozen : ∀ M M' us fs, (∀ b o, M b = some o → M' b = some o) → mk_Frozen M us fs → mk_Frozen M' us fs := by
  rintro M M' us fs E ⟨x0, x1, rfl, ⟨⟨h0, k0⟩, ⟨h1, k1⟩⟩, rfl⟩
  have e0 : val M' x0 = val M x0 := val_keep h0 (fun b xs => E b _)
  have e1 : val M' x1 = val M x1 := val_keep h1 (fun b xs => E b _)
  exact ⟨x0, x1, rfl, by rw [e0, e1]; exact ⟨⟨h0, k0⟩, ⟨h1, k1⟩⟩, by rw [e0, e1]⟩
theorem ok_ini_Frozen (L : Lw K mg) : UFn P w K mg base CX0 63 L.f_ini_Frozen L.fd_ini_Frozen ["self", "name", "number"] (spFV L.C_Frozen mk_Frozen) := by
  refine ufn_ok (t := z8q (z7u (uVeI K (z7t (uVar 0) (z7t (uC (.str "a use of a release")) z8l)))) (z8q (uOst K "name" (uVar 0) (z7s (sp_as_tuples 60) [] (z7t (uVar 1) z8l))) (uOst K "number" (uVar 0) (z7s (sp_as_tuples 60) [] (z7t (uVar 2) z8l))))) L.D_ini_Frozen.F sc_ini_Frozen (fun us M Q E h => ?_) (fun cdv A outer s H E hr hG => ?t1) (fun us M Q E h => ?_)
  case t1 =>
    refine uss_cons ?_ ?_
    · exact (us_expr (ue_veown rfl L.g_VariantError L.ve_VariantError (ua_cons (uv 0) (ua_cons ue_str ua_nil))))
    refine uss_cons ?_ ?_
    · exact ((us_ost (uv 0) (ue_call (ok_as_tuples L 60) (hr.mono (by decide)) hG rfl L.D_as_tuples.g L.D_as_tuples.F.kp L.D_as_tuples.b .nil (fun _ => RelUs.nil) (ua_cons (uv 1) ua_nil))))
    exact uss_one ((us_ost (uv 0) (ue_call (ok_as_tuples L 60) (hr.mono (by decide)) hG rfl L.D_as_tuples.g L.D_as_tuples.F.kp L.D_as_tuples.b .nil (fun _ => RelUs.nil) (ua_cons (uv 2) ua_nil))))
  · obtain ⟨a, xs, fs, rfl, ⟨x0, x1, rfl, _⟩, _⟩ := h
    rfl
  · obtain ⟨a, xs, fs, rfl, ⟨x0, x1, rfl, ⟨⟨h0, k0⟩, ⟨h1, k1⟩⟩, rfl⟩, hm, q⟩ := h
    walk_at "q4"
    refine ⟨a, L.C_Frozen, _, ⟨rfl, rfl⟩, by decide, L.o_Frozen, hm, h0, k0, L.C_Frozen, L.o_Frozen, L.no_Frozen_name, .inl ⟨hm, fun dx hd h2 => ?_⟩⟩
    have e1 : ∀ o u, val (updM (updM M dx o) a u) x1 = val M x1 := fun o u => val_keep h1 (fun b xs z => by
      have n1 : b ≠ a := fun e => by rw [e, hm] at z; cases z
      have n2 : b ≠ dx := fun e => by rw [e, hd] at z; cases z
      rw [updM_ne n1, updM_ne n2]; exact z)
    rw [e1]
    refine ⟨h1, k1, L.C_Frozen, L.o_Frozen, L.no_Frozen_number, .inr ⟨dx, rfl, _, by rw [updM_ne h2, updM_same], by simp, ?_⟩⟩
    have z := q dx hd h2
    rw [updM_comm (Ne.symm h2), updM_updM]
    exact z

/-! ### ini_IdInUse -/
def mk_IdInUse : UHp → List U → List (Str × U) → Prop := mk1 "path"
theorem mono_IdInUse : ∀ M M' us fs, (∀ b o, M b = some o → M' b = some o) → mk_IdInUse M us fs → mk_IdInUse M' us fs := mono1 "path"
theorem ok_ini_IdInUse (L : Lw K mg) : UFn P w K mg base CX0 63 L.f_ini_IdInUse L.fd_ini_IdInUse ["self", "path"] (spFV L.C_IdInUse mk_IdInUse) := by
  refine ufn_ok (t := z8q (z7u (uVeI K (z7t (uVar 0) (z7t (uC (.str "a path at which there is a node")) z8l)))) (uOst K "path" (uVar 0) (z7s (sp_as_tuples 60) [] (z7t (uVar 1) z8l)))) L.D_ini_IdInUse.F sc_ini_IdInUse (fun us M Q E h => ?_) (fun cdv A outer s H E hr hG => ?t1) (fun us M Q E h => ?_)
  case t1 =>
    refine uss_cons ?_ ?_
    · exact (us_expr (ue_veown rfl L.g_VariantError L.ve_VariantError (ua_cons (uv 0) (ua_cons ue_str ua_nil))))
    exact uss_one ((us_ost (uv 0) (ue_call (ok_as_tuples L 60) (hr.mono (by decide)) hG rfl L.D_as_tuples.g L.D_as_tuples.F.kp L.D_as_tuples.b .nil (fun _ => RelUs.nil) (ua_cons (uv 1) ua_nil))))
  · exact len1 h
  · exact pure1 L.o_IdInUse L.no_IdInUse_path h

/-! ### ini_InUse -/
def mk_InUse : UHp → List U → List (Str × U) → Prop := mk1 "user"
theorem mono_InUse : ∀ M M' us fs, (∀ b o, M b = some o → M' b = some o) → mk_InUse M us fs → mk_InUse M' us fs := mono1 "user"
theorem ok_ini_InUse (L : Lw K mg) : UFn P w K mg base CX0 63 L.f_ini_InUse L.fd_ini_InUse ["self", "user"] (spFV L.C_InUse mk_InUse) := by
  refine ufn_ok (t := z8q (z7u (uVeI K (z7t (uVar 0) (z7t (uC (.str "a template that another one uses")) z8l)))) (uOst K "user" (uVar 0) (z7s (sp_as_tuples 60) [] (z7t (uVar 1) z8l)))) L.D_ini_InUse.F sc_ini_InUse (fun us M Q E h => ?_) (fun cdv A outer s H E hr hG => ?t1) (fun us M Q E h => ?_)
  case t1 =>
    refine uss_cons ?_ ?_
    · exact (us_expr (ue_veown rfl L.g_VariantError L.ve_VariantError (ua_cons (uv 0) (ua_cons ue_str ua_nil))))
    exact uss_one ((us_ost (uv 0) (ue_call (ok_as_tuples L 60) (hr.mono (by decide)) hG rfl L.D_as_tuples.g L.D_as_tuples.F.kp L.D_as_tuples.b .nil (fun _ => RelUs.nil) (ua_cons (uv 1) ua_nil))))
  · exact len1 h
  · exact pure1 L.o_InUse L.no_InUse_user h

/-! ### ini_NameInUse -/
def mk_NameInUse : UHp → List U → List (Str × U) → Prop := mk1 "name"
theorem mono_NameInUse : ∀ M M' us fs, (∀ b o, M b = some o → M' b = some o) → mk_NameInUse M us fs → mk_NameInUse M' us fs := mono1 "name"
theorem ok_ini_NameInUse (L : Lw K mg) : UFn P w K mg base CX0 63 L.f_ini_NameInUse L.fd_ini_NameInUse ["self", "name"] (spFV L.C_NameInUse mk_NameInUse) := by
  refine ufn_ok (t := z8q (z7u (uVeI K (z7t (uVar 0) (z7t (uC (.str "a name that a template has")) z8l)))) (uOst K "name" (uVar 0) (z7s (sp_as_tuples 60) [] (z7t (uVar 1) z8l)))) L.D_ini_NameInUse.F sc_ini_NameInUse (fun us M Q E h => ?_) (fun cdv A outer s H E hr hG => ?t1) (fun us M Q E h => ?_)
  case t1 =>
    refine uss_cons ?_ ?_
    · exact (us_expr (ue_veown rfl L.g_VariantError L.ve_VariantError (ua_cons (uv 0) (ua_cons ue_str ua_nil))))
    exact uss_one ((us_ost (uv 0) (ue_call (ok_as_tuples L 60) (hr.mono (by decide)) hG rfl L.D_as_tuples.g L.D_as_tuples.F.kp L.D_as_tuples.b .nil (fun _ => RelUs.nil) (ua_cons (uv 1) ua_nil))))
  · exact len1 h
  · exact pure1 L.o_NameInUse L.no_NameInUse_name h

/-! ### ini_NoKey -/
def mk_NoKey : UHp → List U → List (Str × U) → Prop := mk1 "key"
theorem mono_NoKey : ∀ M M' us fs, (∀ b o, M b = some o → M' b = some o) → mk_NoKey M us fs → mk_NoKey M' us fs := mono1 "key"
theorem ok_ini_NoKey (L : Lw K mg) : UFn P w K mg base CX0 63 L.f_ini_NoKey L.fd_ini_NoKey ["self", "key"] (spFV L.C_NoKey mk_NoKey) := by
  refine ufn_ok (t := z8q (z7u (uVeI K (z7t (uVar 0) (z7t (uC (.str "a key of no entry")) z8l)))) (uOst K "key" (uVar 0) (z7s (sp_as_tuples 60) [] (z7t (uVar 1) z8l)))) L.D_ini_NoKey.F sc_ini_NoKey (fun us M Q E h => ?_) (fun cdv A outer s H E hr hG => ?t1) (fun us M Q E h => ?_)
  case t1 =>
    refine uss_cons ?_ ?_
    · exact (us_expr (ue_veown rfl L.g_VariantError L.ve_VariantError (ua_cons (uv 0) (ua_cons ue_str ua_nil))))
    exact uss_one ((us_ost (uv 0) (ue_call (ok_as_tuples L 60) (hr.mono (by decide)) hG rfl L.D_as_tuples.g L.D_as_tuples.F.kp L.D_as_tuples.b .nil (fun _ => RelUs.nil) (ua_cons (uv 1) ua_nil))))
  · exact len1 h
  · exact pure1 L.o_NoKey L.no_NoKey_key h

/-! ### ini_NoNode -/
def mk_NoNode : UHp → List U → List (Str × U) → Prop := mk1 "path"
theorem mono_NoNode : ∀ M M' us fs, (∀ b o, M b = some o → M' b = some o) → mk_NoNode M us fs → mk_NoNode M' us fs := mono1 "path"
theorem ok_ini_NoNode (L : Lw K mg) : UFn P w K mg base CX0 63 L.f_ini_NoNode L.fd_ini_NoNode ["self", "path"] (spFV L.C_NoNode mk_NoNode) := by
  refine ufn_ok (t := z8q (z7u (uVeI K (z7t (uVar 0) (z7t (uC (.str "a path of no node")) z8l)))) (uOst K "path" (uVar 0) (z7s (sp_as_tuples 60) [] (z7t (uVar 1) z8l)))) L.D_ini_NoNode.F sc_ini_NoNode (fun us M Q E h => ?_) (fun cdv A outer s H E hr hG => ?t1) (fun us M Q E h => ?_)
  case t1 =>
    refine uss_cons ?_ ?_
    · exact (us_expr (ue_veown rfl L.g_VariantError L.ve_VariantError (ua_cons (uv 0) (ua_cons ue_str ua_nil))))
    exact uss_one ((us_ost (uv 0) (ue_call (ok_as_tuples L 60) (hr.mono (by decide)) hG rfl L.D_as_tuples.g L.D_as_tuples.F.kp L.D_as_tuples.b .nil (fun _ => RelUs.nil) (ua_cons (uv 1) ua_nil))))
  · exact len1 h
  · exact pure1 L.o_NoNode L.no_NoNode_path h

/-! ### ini_NoProp -/
def mk_NoProp : UHp → List U → List (Str × U) → Prop := mk1 "prop"
theorem mono_NoProp : ∀ M M' us fs, (∀ b o, M b = some o → M' b = some o) → mk_NoProp M us fs → mk_NoProp M' us fs := mono1 "prop"
theorem ok_ini_NoProp (L : Lw K mg) : UFn P w K mg base CX0 63 L.f_ini_NoProp L.fd_ini_NoProp ["self", "prop"] (spFV L.C_NoProp mk_NoProp) := by
  refine ufn_ok (t := z8q (z7u (uVeI K (z7t (uVar 0) (z7t (uC (.str "a prop that a node does not have")) z8l)))) (uOst K "prop" (uVar 0) (z7s (sp_as_tuples 60) [] (z7t (uVar 1) z8l)))) L.D_ini_NoProp.F sc_ini_NoProp (fun us M Q E h => ?_) (fun cdv A outer s H E hr hG => ?t1) (fun us M Q E h => ?_)
  case t1 =>
    refine uss_cons ?_ ?_
    · exact (us_expr (ue_veown rfl L.g_VariantError L.ve_VariantError (ua_cons (uv 0) (ua_cons ue_str ua_nil))))
    exact uss_one ((us_ost (uv 0) (ue_call (ok_as_tuples L 60) (hr.mono (by decide)) hG rfl L.D_as_tuples.g L.D_as_tuples.F.kp L.D_as_tuples.b .nil (fun _ => RelUs.nil) (ua_cons (uv 1) ua_nil))))
  · exact len1 h
  · exact pure1 L.o_NoProp L.no_NoProp_prop h

/-! ### ini_NoStep -/
def mk_NoStep : UHp → List U → List (Str × U) → Prop := mk1 "index"
theorem mono_NoStep : ∀ M M' us fs, (∀ b o, M b = some o → M' b = some o) → mk_NoStep M us fs → mk_NoStep M' us fs := mono1 "index"
theorem ok_ini_NoStep (L : Lw K mg) : UFn P w K mg base CX0 63 L.f_ini_NoStep L.fd_ini_NoStep ["self", "index"] (spFV L.C_NoStep mk_NoStep) := by
  refine ufn_ok (t := z8q (z7u (uVeI K (z7t (uVar 0) (z7t (uC (.str "an index of no step")) z8l)))) (uOst K "index" (uVar 0) (z7s (sp_as_tuples 60) [] (z7t (uVar 1) z8l)))) L.D_ini_NoStep.F sc_ini_NoStep (fun us M Q E h => ?_) (fun cdv A outer s H E hr hG => ?t1) (fun us M Q E h => ?_)
  case t1 =>
    refine uss_cons ?_ ?_
    · exact (us_expr (ue_veown rfl L.g_VariantError L.ve_VariantError (ua_cons (uv 0) (ua_cons ue_str ua_nil))))
    exact uss_one ((us_ost (uv 0) (ue_call (ok_as_tuples L 60) (hr.mono (by decide)) hG rfl L.D_as_tuples.g L.D_as_tuples.F.kp L.D_as_tuples.b .nil (fun _ => RelUs.nil) (ua_cons (uv 1) ua_nil))))
  · exact len1 h
  · exact pure1 L.o_NoStep L.no_NoStep_index h

/-! ### ini_NoUse -/
def mk_NoUse : UHp → List U → List (Str × U) → Prop := mk1 "place"
theorem mono_NoUse : ∀ M M' us fs, (∀ b o, M b = some o → M' b = some o) → mk_NoUse M us fs → mk_NoUse M' us fs := mono1 "place"
theorem ok_ini_NoUse (L : Lw K mg) : UFn P w K mg base CX0 63 L.f_ini_NoUse L.fd_ini_NoUse ["self", "place"] (spFV L.C_NoUse mk_NoUse) := by
  refine ufn_ok (t := z8q (z7u (uVeI K (z7t (uVar 0) (z7t (uC (.str "a place at which there is no use")) z8l)))) (uOst K "place" (uVar 0) (z7s (sp_as_tuples 60) [] (z7t (uVar 1) z8l)))) L.D_ini_NoUse.F sc_ini_NoUse (fun us M Q E h => ?_) (fun cdv A outer s H E hr hG => ?t1) (fun us M Q E h => ?_)
  case t1 =>
    refine uss_cons ?_ ?_
    · exact (us_expr (ue_veown rfl L.g_VariantError L.ve_VariantError (ua_cons (uv 0) (ua_cons ue_str ua_nil))))
    exact uss_one ((us_ost (uv 0) (ue_call (ok_as_tuples L 60) (hr.mono (by decide)) hG rfl L.D_as_tuples.g L.D_as_tuples.F.kp L.D_as_tuples.b .nil (fun _ => RelUs.nil) (ua_cons (uv 1) ua_nil))))
  · exact len1 h
  · exact pure1 L.o_NoUse L.no_NoUse_place h

/-! ### ini_NotPlain -/
def mk_NotPlain : UHp → List U → List (Str × U) → Prop := mk1 "name"
theorem mono_NotPlain : ∀ M M' us fs, (∀ b o, M b = some o → M' b = some o) → mk_NotPlain M us fs → mk_NotPlain M' us fs := mono1 "name"
theorem ok_ini_NotPlain (L : Lw K mg) : UFn P w K mg base CX0 63 L.f_ini_NotPlain L.fd_ini_NotPlain ["self", "name"] (spFV L.C_NotPlain mk_NotPlain) := by
  refine ufn_ok (t := z8q (z7u (uVeI K (z7t (uVar 0) (z7t (uC (.str "a template with uses")) z8l)))) (uOst K "name" (uVar 0) (z7s (sp_as_tuples 60) [] (z7t (uVar 1) z8l)))) L.D_ini_NotPlain.F sc_ini_NotPlain (fun us M Q E h => ?_) (fun cdv A outer s H E hr hG => ?t1) (fun us M Q E h => ?_)
  case t1 =>
    refine uss_cons ?_ ?_
    · exact (us_expr (ue_veown rfl L.g_VariantError L.ve_VariantError (ua_cons (uv 0) (ua_cons ue_str ua_nil))))
    exact uss_one ((us_ost (uv 0) (ue_call (ok_as_tuples L 60) (hr.mono (by decide)) hG rfl L.D_as_tuples.g L.D_as_tuples.F.kp L.D_as_tuples.b .nil (fun _ => RelUs.nil) (ua_cons (uv 1) ua_nil))))
  · exact len1 h
  · exact pure1 L.o_NotPlain L.no_NotPlain_name h

/-! ### ini_Older -/
def mk_Older : UHp → List U → List (Str × U) → Prop := mk1 "number"
theorem mono_Older : ∀ M M' us fs, (∀ b o, M b = some o → M' b = some o) → mk_Older M us fs → mk_Older M' us fs := mono1 "number"
theorem ok_ini_Older (L : Lw K mg) : UFn P w K mg base CX0 63 L.f_ini_Older L.fd_ini_Older ["self", "number"] (spFV L.C_Older mk_Older) := by
  refine ufn_ok (t := z8q (z7u (uVeI K (z7t (uVar 0) (z7t (uC (.str "an older release")) z8l)))) (uOst K "number" (uVar 0) (z7s (sp_as_tuples 60) [] (z7t (uVar 1) z8l)))) L.D_ini_Older.F sc_ini_Older (fun us M Q E h => ?_) (fun cdv A outer s H E hr hG => ?t1) (fun us M Q E h => ?_)
  case t1 =>
    refine uss_cons ?_ ?_
    · exact (us_expr (ue_veown rfl L.g_VariantError L.ve_VariantError (ua_cons (uv 0) (ua_cons ue_str ua_nil))))
    exact uss_one ((us_ost (uv 0) (ue_call (ok_as_tuples L 60) (hr.mono (by decide)) hG rfl L.D_as_tuples.g L.D_as_tuples.F.kp L.D_as_tuples.b .nil (fun _ => RelUs.nil) (ua_cons (uv 1) ua_nil))))
  · exact len1 h
  · exact pure1 L.o_Older L.no_Older_number h

/-! ### ini_Outside -/
def mk_Outside : UHp → List U → List (Str × U) → Prop := mk1 "path"
theorem mono_Outside : ∀ M M' us fs, (∀ b o, M b = some o → M' b = some o) → mk_Outside M us fs → mk_Outside M' us fs := mono1 "path"
theorem ok_ini_Outside (L : Lw K mg) : UFn P w K mg base CX0 63 L.f_ini_Outside L.fd_ini_Outside ["self", "path"] (spFV L.C_Outside mk_Outside) := by
  refine ufn_ok (t := z8q (z7u (uVeI K (z7t (uVar 0) (z7t (uC (.str "a link that leads outside")) z8l)))) (uOst K "path" (uVar 0) (z7s (sp_as_tuples 60) [] (z7t (uVar 1) z8l)))) L.D_ini_Outside.F sc_ini_Outside (fun us M Q E h => ?_) (fun cdv A outer s H E hr hG => ?t1) (fun us M Q E h => ?_)
  case t1 =>
    refine uss_cons ?_ ?_
    · exact (us_expr (ue_veown rfl L.g_VariantError L.ve_VariantError (ua_cons (uv 0) (ua_cons ue_str ua_nil))))
    exact uss_one ((us_ost (uv 0) (ue_call (ok_as_tuples L 60) (hr.mono (by decide)) hG rfl L.D_as_tuples.g L.D_as_tuples.F.kp L.D_as_tuples.b .nil (fun _ => RelUs.nil) (ua_cons (uv 1) ua_nil))))
  · exact len1 h
  · exact pure1 L.o_Outside L.no_Outside_path h

/-! ### ini_PropInUse -/
def mk_PropInUse : UHp → List U → List (Str × U) → Prop := mk1 "prop"
theorem mono_PropInUse : ∀ M M' us fs, (∀ b o, M b = some o → M' b = some o) → mk_PropInUse M us fs → mk_PropInUse M' us fs := mono1 "prop"
theorem ok_ini_PropInUse (L : Lw K mg) : UFn P w K mg base CX0 63 L.f_ini_PropInUse L.fd_ini_PropInUse ["self", "prop"] (spFV L.C_PropInUse mk_PropInUse) := by
  refine ufn_ok (t := z8q (z7u (uVeI K (z7t (uVar 0) (z7t (uC (.str "a prop that a node has")) z8l)))) (uOst K "prop" (uVar 0) (z7s (sp_as_tuples 60) [] (z7t (uVar 1) z8l)))) L.D_ini_PropInUse.F sc_ini_PropInUse (fun us M Q E h => ?_) (fun cdv A outer s H E hr hG => ?t1) (fun us M Q E h => ?_)
  case t1 =>
    refine uss_cons ?_ ?_
    · exact (us_expr (ue_veown rfl L.g_VariantError L.ve_VariantError (ua_cons (uv 0) (ua_cons ue_str ua_nil))))
    exact uss_one ((us_ost (uv 0) (ue_call (ok_as_tuples L 60) (hr.mono (by decide)) hG rfl L.D_as_tuples.g L.D_as_tuples.F.kp L.D_as_tuples.b .nil (fun _ => RelUs.nil) (ua_cons (uv 1) ua_nil))))
  · exact len1 h
  · exact pure1 L.o_PropInUse L.no_PropInUse_prop h

/-! ### ini_Rests -/
def mk_Rests : UHp → List U → List (Str × U) → Prop := mk1 "key"
theorem mono_Rests : ∀ M M' us fs, (∀ b o, M b = some o → M' b = some o) → mk_Rests M us fs → mk_Rests M' us fs := mono1 "key"
theorem ok_ini_Rests (L : Lw K mg) : UFn P w K mg base CX0 63 L.f_ini_Rests L.fd_ini_Rests ["self", "key"] (spFV L.C_Rests mk_Rests) := by
  refine ufn_ok (t := z8q (z7u (uVeI K (z7t (uVar 0) (z7t (uC (.str "an entry that rests")) z8l)))) (uOst K "key" (uVar 0) (z7s (sp_as_tuples 60) [] (z7t (uVar 1) z8l)))) L.D_ini_Rests.F sc_ini_Rests (fun us M Q E h => ?_) (fun cdv A outer s H E hr hG => ?t1) (fun us M Q E h => ?_)
  case t1 =>
    refine uss_cons ?_ ?_
    · exact (us_expr (ue_veown rfl L.g_VariantError L.ve_VariantError (ua_cons (uv 0) (ua_cons ue_str ua_nil))))
    exact uss_one ((us_ost (uv 0) (ue_call (ok_as_tuples L 60) (hr.mono (by decide)) hG rfl L.D_as_tuples.g L.D_as_tuples.F.kp L.D_as_tuples.b .nil (fun _ => RelUs.nil) (ua_cons (uv 1) ua_nil))))
  · exact len1 h
  · exact pure1 L.o_Rests L.no_Rests_key h

/-! ### ini_Ring -/
def mk_Ring : UHp → List U → List (Str × U) → Prop := mk1 "circle"
theorem mono_Ring : ∀ M M' us fs, (∀ b o, M b = some o → M' b = some o) → mk_Ring M us fs → mk_Ring M' us fs := mono1 "circle"
theorem ok_ini_Ring (L : Lw K mg) : UFn P w K mg base CX0 63 L.f_ini_Ring L.fd_ini_Ring ["self", "circle"] (spFV L.C_Ring mk_Ring) := by
  refine ufn_ok (t := z8q (z7u (uVeI K (z7t (uVar 0) (z7t (uC (.str "templates that lead back to themselves")) z8l)))) (uOst K "circle" (uVar 0) (z7s (sp_as_tuples 60) [] (z7t (uVar 1) z8l)))) L.D_ini_Ring.F sc_ini_Ring (fun us M Q E h => ?_) (fun cdv A outer s H E hr hG => ?t1) (fun us M Q E h => ?_)
  case t1 =>
    refine uss_cons ?_ ?_
    · exact (us_expr (ue_veown rfl L.g_VariantError L.ve_VariantError (ua_cons (uv 0) (ua_cons ue_str ua_nil))))
    exact uss_one ((us_ost (uv 0) (ue_call (ok_as_tuples L 60) (hr.mono (by decide)) hG rfl L.D_as_tuples.g L.D_as_tuples.F.kp L.D_as_tuples.b .nil (fun _ => RelUs.nil) (ua_cons (uv 1) ua_nil))))
  · exact len1 h
  · exact pure1 L.o_Ring L.no_Ring_circle h

/-! ### ini_TooLarge -/
def mk_TooLarge : UHp → List U → List (Str × U) → Prop := mk1 "name"
theorem mono_TooLarge : ∀ M M' us fs, (∀ b o, M b = some o → M' b = some o) → mk_TooLarge M us fs → mk_TooLarge M' us fs := mono1 "name"
theorem ok_ini_TooLarge (L : Lw K mg) : UFn P w K mg base CX0 63 L.f_ini_TooLarge L.fd_ini_TooLarge ["self", "name"] (spFV L.C_TooLarge mk_TooLarge) := by
  refine ufn_ok (t := z8q (z7u (uVeI K (z7t (uVar 0) (z7t (uC (.str "a template that shows too much")) z8l)))) (uOst K "name" (uVar 0) (z7s (sp_as_tuples 60) [] (z7t (uVar 1) z8l)))) L.D_ini_TooLarge.F sc_ini_TooLarge (fun us M Q E h => ?_) (fun cdv A outer s H E hr hG => ?t1) (fun us M Q E h => ?_)
  case t1 =>
    refine uss_cons ?_ ?_
    · exact (us_expr (ue_veown rfl L.g_VariantError L.ve_VariantError (ua_cons (uv 0) (ua_cons ue_str ua_nil))))
    exact uss_one ((us_ost (uv 0) (ue_call (ok_as_tuples L 60) (hr.mono (by decide)) hG rfl L.D_as_tuples.g L.D_as_tuples.F.kp L.D_as_tuples.b .nil (fun _ => RelUs.nil) (ua_cons (uv 1) ua_nil))))
  · exact len1 h
  · exact pure1 L.o_TooLarge L.no_TooLarge_name h

/-! ### ini_TwoEntries -/
def mk_TwoEntries : UHp → List U → List (Str × U) → Prop := mk1 "key"
theorem mono_TwoEntries : ∀ M M' us fs, (∀ b o, M b = some o → M' b = some o) → mk_TwoEntries M us fs → mk_TwoEntries M' us fs := mono1 "key"
theorem ok_ini_TwoEntries (L : Lw K mg) : UFn P w K mg base CX0 63 L.f_ini_TwoEntries L.fd_ini_TwoEntries ["self", "key"] (spFV L.C_TwoEntries mk_TwoEntries) := by
  refine ufn_ok (t := z8q (z7u (uVeI K (z7t (uVar 0) (z7t (uC (.str "two entries with one key")) z8l)))) (uOst K "key" (uVar 0) (z7s (sp_as_tuples 60) [] (z7t (uVar 1) z8l)))) L.D_ini_TwoEntries.F sc_ini_TwoEntries (fun us M Q E h => ?_) (fun cdv A outer s H E hr hG => ?t1) (fun us M Q E h => ?_)
  case t1 =>
    refine uss_cons ?_ ?_
    · exact (us_expr (ue_veown rfl L.g_VariantError L.ve_VariantError (ua_cons (uv 0) (ua_cons ue_str ua_nil))))
    exact uss_one ((us_ost (uv 0) (ue_call (ok_as_tuples L 60) (hr.mono (by decide)) hG rfl L.D_as_tuples.g L.D_as_tuples.F.kp L.D_as_tuples.b .nil (fun _ => RelUs.nil) (ua_cons (uv 1) ua_nil))))
  · exact len1 h
  · exact pure1 L.o_TwoEntries L.no_TwoEntries_key h

/-! ### ini_UnknownRelease -/
def mk_UnknownRelease : UHp → List U → List (Str × U) → Prop := fun M us fs => ∃ x0 x1, us = [x0, x1] ∧ ((isD (val M x0) = true ∧ dep (val M x0) ≤ 60) ∧ (isD (val M x1) = true ∧ dep (val M x1) ≤ 60)) ∧ fs = [(("number" : Str), tupU (val M x1)), (("name" : Str), tupU (val M x0))]
theorem mono_UnknownRelease : ∀ M M' us fs, (∀ b o, M b = some o → M' b = some o) → mk_UnknownRelease M us fs → mk_UnknownRelease M' us fs := by
  rintro M M' us fs E ⟨x0, x1, rfl, ⟨⟨h0, k0⟩, ⟨h1, k1⟩⟩, rfl⟩
  have e0 : val M' x0 = val M x0 := val_keep h0 (fun b xs => E b _)
  have e1 : val M' x1 = val M x1 := val_keep h1 (fun b xs => E b _)
  exact ⟨x0, x1, rfl, by rw [e0, e1]; exact ⟨⟨h0, k0⟩, ⟨h1, k1⟩⟩, by rw [e0, e1]⟩
theorem ok_ini_UnknownRelease (L : Lw K mg) : UFn P w K mg base CX0 63 L.f_ini_UnknownRelease L.fd_ini_UnknownRelease ["self", "name", "number"] (spFV L.C_UnknownRelease mk_UnknownRelease) := by
  refine ufn_ok (t := z8q (z7u (uVeI K (z7t (uVar 0) (z7t (uC (.str "a number of no release")) z8l)))) (z8q (uOst K "name" (uVar 0) (z7s (sp_as_tuples 60) [] (z7t (uVar 1) z8l))) (uOst K "number" (uVar 0) (z7s (sp_as_tuples 60) [] (z7t (uVar 2) z8l))))) L.D_ini_UnknownRelease.F sc_ini_UnknownRelease (fun us M Q E h => ?_) (fun cdv A outer s H E hr hG => ?t1) (fun us M Q E h => ?_)
  case t1 =>
    refine uss_cons ?_ ?_
    · exact (us_expr (ue_veown rfl L.g_VariantError L.ve_VariantError (ua_cons (uv 0) (ua_cons ue_str ua_nil))))
    refine uss_cons ?_ ?_
    · exact ((us_ost (uv 0) (ue_call (ok_as_tuples L 60) (hr.mono (by decide)) hG rfl L.D_as_tuples.g L.D_as_tuples.F.kp L.D_as_tuples.b .nil (fun _ => RelUs.nil) (ua_cons (uv 1) ua_nil))))
    exact uss_one ((us_ost (uv 0) (ue_call (ok_as_tuples L 60) (hr.mono (by decide)) hG rfl L.D_as_tuples.g L.D_as_tuples.F.kp L.D_as_tuples.b .nil (fun _ => RelUs.nil) (ua_cons (uv 2) ua_nil))))
  · obtain ⟨a, xs, fs, rfl, ⟨x0, x1, rfl, _⟩, _⟩ := h
    rfl
  · obtain ⟨a, xs, fs, rfl, ⟨x0, x1, rfl, ⟨⟨h0, k0⟩, ⟨h1, k1⟩⟩, rfl⟩, hm, q⟩ := h
    walk_at "q4"
    refine ⟨a, L.C_UnknownRelease, _, ⟨rfl, rfl⟩, by decide, L.o_UnknownRelease, hm, h0, k0, L.C_UnknownRelease, L.o_UnknownRelease, L.no_UnknownRelease_name, .inl ⟨hm, fun dx hd h2 => ?_⟩⟩
    have e1 : ∀ o u, val (updM (updM M dx o) a u) x1 = val M x1 := fun o u => val_keep h1 (fun b xs z => by
      have n1 : b ≠ a := fun e => by rw [e, hm] at z; cases z
      have n2 : b ≠ dx := fun e => by rw [e, hd] at z; cases z
      rw [updM_ne n1, updM_ne n2]; exact z)
    rw [e1]
    refine ⟨h1, k1, L.C_UnknownRelease, L.o_UnknownRelease, L.no_UnknownRelease_number, .inr ⟨dx, rfl, _, by rw [updM_ne h2, updM_same], by simp, ?_⟩⟩
    have z := q dx hd h2
    rw [updM_comm (Ne.symm h2), updM_updM]
    exact z

/-! ### ini_UnknownTemplate -/
def mk_UnknownTemplate : UHp → List U → List (Str × U) → Prop := mk1 "name"
theorem mono_UnknownTemplate : ∀ M M' us fs, (∀ b o, M b = some o → M' b = some o) → mk_UnknownTemplate M us fs → mk_UnknownTemplate M' us fs := mono1 "name"
theorem ok_ini_UnknownTemplate (L : Lw K mg) : UFn P w K mg base CX0 63 L.f_ini_UnknownTemplate L.fd_ini_UnknownTemplate ["self", "name"] (spFV L.C_UnknownTemplate mk_UnknownTemplate) := by
  refine ufn_ok (t := z8q (z7u (uVeI K (z7t (uVar 0) (z7t (uC (.str "a name of no template")) z8l)))) (uOst K "name" (uVar 0) (z7s (sp_as_tuples 60) [] (z7t (uVar 1) z8l)))) L.D_ini_UnknownTemplate.F sc_ini_UnknownTemplate (fun us M Q E h => ?_) (fun cdv A outer s H E hr hG => ?t1) (fun us M Q E h => ?_)
  case t1 =>
    refine uss_cons ?_ ?_
    · exact (us_expr (ue_veown rfl L.g_VariantError L.ve_VariantError (ua_cons (uv 0) (ua_cons ue_str ua_nil))))
    exact uss_one ((us_ost (uv 0) (ue_call (ok_as_tuples L 60) (hr.mono (by decide)) hG rfl L.D_as_tuples.g L.D_as_tuples.F.kp L.D_as_tuples.b .nil (fun _ => RelUs.nil) (ua_cons (uv 1) ua_nil))))
  · exact len1 h
  · exact pure1 L.o_UnknownTemplate L.no_UnknownTemplate_name h

/-! ### _law_made -/
/-- what stood still stands -/
def Ext (M M' : UHp) : Prop := ∀ b o, M b = some o → M' b = some o
theorem Ext.refl {M : UHp} : Ext M M := fun _ _ h => h
theorem Ext.trans {M M1 M2 : UHp} (a : Ext M M1) (b : Ext M1 M2) : Ext M M2 := fun x o h => b x o (a x o h)
theorem Ext.upd {M M' : UHp} {d : Addr} {o : MO} (h : Ext M M') (hd : M d = none) : Ext M (updM M' d o) := fun b u e => by
  by_cases k : b = d
  · rw [k, hd] at e; cases e
  · rw [updM_ne k]; exact h b u e
theorem Ext.none {M M' : UHp} {d : Addr} (h : Ext M M') (e : M' d = none) : M d = Option.none := by
  cases q : M d with
  | none => rfl
  | some o => rw [h d o q] at e; cases e
theorem range_nth {n i : Nat} {x : U} (h : (rangeU 0 n)[i]? = some x) : x = .int i ∧ i < n := by
  have h1 := (List.getElem?_eq_some_iff.mp h).1
  rw [range_len] at h1
  unfold rangeU at h
  rw [List.getElem?_map, List.getElem?_range h1, Option.map_some, Option.some.injEq] at h
  refine ⟨?_, h1⟩
  rw [← h]
  simp

/-- the names of the fields of the classes, by their numbers -/
def nmK : List (List Str) := [[], [], [], [], [("path" : Str)], [("index" : Str)], [("key" : Str)], [("key" : Str)], [("name" : Str)], [("circle" : Str)], [("name" : Str)], [("name" : Str)], [("name" : Str)], [("user" : Str)], [("path" : Str)], [("place" : Str)], [("key" : Str)], [("path" : Str)], [("name" : Str)], [("prop" : Str)], [("prop" : Str)], [("number" : Str)], [("index" : Str)], [("index" : Str)], [("index" : Str)], [("at" : Str)], [("index" : Str)], [("name" : Str), ("number" : Str)], [("name" : Str), ("number" : Str)], [("name" : Str), ("key" : Str)]]
/-- x is an error with the fields fs (any object for a class without fields) -/
def FldU (K : PySem.W.Frag) (M : UHp) (ns : List Str) (x : U) (vs : List U) : Prop := (ns = [] ∧ vs = []) ∨ ∃ a C dx fs, x = .ref a ∧ M a = some (.raw (exo a C (some dx))) ∧ M dx = some (.exd fs) ∧ XfC K C ∧ (∀ z ∈ ns, PySem.W.findIn K (.ref C) z = some none) ∧ ns.map (fs.lookup ·) = vs.map some
theorem fld1 {M : UHp} {n : Str} {x : U} {vs : List U} (h : FldU K M [n] x vs) : ∃ a C dx fs v, x = .ref a ∧ M a = some (.raw (exo a C (some dx))) ∧ M dx = some (.exd fs) ∧ XfC K C ∧ PySem.W.findIn K (.ref C) n = some none ∧ fs.lookup n = some v ∧ vs = [v] := by
  rcases h with ⟨h, _⟩ | ⟨a, C, dx, fs, rfl, ha, hd, T, hf, hl⟩
  · cases h
  · match vs, hl with
    | [], hl => simp at hl
    | _ :: _ :: _, hl => simp at hl
    | [v], hl => exact ⟨a, C, dx, fs, v, rfl, ha, hd, T, hf n (by simp), by simpa using hl, rfl⟩
theorem fld2 {M : UHp} {n m : Str} {x : U} {vs : List U} (h : FldU K M [n, m] x vs) : ∃ a C dx fs v w, x = .ref a ∧ M a = some (.raw (exo a C (some dx))) ∧ M dx = some (.exd fs) ∧ XfC K C ∧ PySem.W.findIn K (.ref C) n = some none ∧ PySem.W.findIn K (.ref C) m = some none ∧ fs.lookup n = some v ∧ fs.lookup m = some w ∧ vs = [v, w] := by
  rcases h with ⟨h, _⟩ | ⟨a, C, dx, fs, rfl, ha, hd, T, hf, hl⟩
  · cases h
  · match vs, hl with
    | [], hl => simp at hl
    | [_], hl => simp at hl
    | _ :: _ :: _ :: _, hl => simp at hl
    | [v, w], hl =>
      simp only [List.map_cons,List.map_nil,List.cons.injEq,and_true] at hl
      exact ⟨a, C, dx, fs, v, w, rfl, ha, hd, T, hf n (by simp), hf m (by simp), hl.1, hl.2, rfl⟩

theorem seq_oneM {t u : UTS} {D : UEnds} {σ : USt} {M : UHp} (h : t { D with nx := u D } σ M) : z8q t u D σ M := h
theorem ExI.ext {M M' : UHp} {a C : Addr} (h : ExI M a C) (E : Ext M M') : ExI M' a C := by
  rcases h with h | ⟨dx, fs, h1, h2⟩
  · exact .inl (E _ _ h)
  · exact .inr ⟨dx, fs, E _ _ h1, E _ _ h2⟩
theorem FldU.ext {M M' : UHp} {ns : List Str} {x : U} {vs : List U} (h : FldU K M ns x vs) (E : Ext M M') : FldU K M' ns x vs := by
  rcases h with h | ⟨a, C, dx, fs, rfl, ha, hd, T, hf, hl⟩
  · exact .inl h
  · exact .inr ⟨a, C, dx, fs, rfl, E _ _ ha, E _ _ hd, T, hf, hl⟩
/-- a is an error of the i-th class, with what it is made of -/
def MadeU (K : PySem.W.Frag) (M : UHp) (Cs : List Addr) (dues : List U) (i : Nat) (a : Addr) : Prop := ∃ C ns, Cs[i]? = some C ∧ nmK[i]? = some ns ∧ ExI M a C ∧ FldU K M ns (.ref a) (dues.take ns.length)
def MadeL (K : PySem.W.Frag) (M : UHp) (Cs : List Addr) (dues : List U) : Nat → List Addr → Prop
  | _, [] => True
  | i, a :: as => MadeU K M Cs dues i a ∧ MadeL K M Cs dues (i + 1) as
theorem MadeU.ext {M M' : UHp} {Cs : List Addr} {dues : List U} {i : Nat} {a : Addr} (h : MadeU K M Cs dues i a) (E : Ext M M') : MadeU K M' Cs dues i a := by
  obtain ⟨C, ns, h1, h2, h3, h4⟩ := h
  exact ⟨C, ns, h1, h2, h3.ext E, h4.ext E⟩
theorem MadeL.get {M : UHp} {Cs : List Addr} {dues : List U} : ∀ {as : List Addr} {j i : Nat} {a : Addr}, MadeL K M Cs dues j as → as[i]? = some a → MadeU K M Cs dues (j + i) a
  | [], _, _, _, _, e => by simp at e
  | b :: as, j, 0, a, h, e => by
    simp at e; subst e; exact h.1
  | b :: as, j, i + 1, a, h, e => by
    have := MadeL.get h.2 (show as[i]? = some a by simpa using e)
    rwa [show j + 1 + i = j + (i + 1) by omega] at this
theorem MadeL.ext {M M' : UHp} {Cs : List Addr} {dues : List U} (E : Ext M M') : ∀ {as : List Addr} {j : Nat}, MadeL K M Cs dues j as → MadeL K M' Cs dues j as
  | [], _, _ => True.intro
  | _ :: _, _, h => ⟨h.1.ext E, h.2.ext E⟩
theorem mk1_at {M : UHp} {C a dx : Addr} {n : Str} {v : U} (T : XfC K C) (hn : PySem.W.findIn K (.ref C) n = some none) (ha : M a = none) (hd : M dx = none) (ne : dx ≠ a) :
    Ext M (updM (updM M dx (.exd [(n, v)])) a (.raw (exo a C (some dx)))) ∧ ExI (updM (updM M dx (.exd [(n, v)])) a (.raw (exo a C (some dx)))) a C ∧ FldU K (updM (updM M dx (.exd [(n, v)])) a (.raw (exo a C (some dx)))) [n] (.ref a) [v] := by
  have e1 : updM (updM M dx (.exd [(n, v)])) a (.raw (exo a C (some dx))) dx = some (.exd [(n, v)]) := by rw [updM_ne ne, updM_same]
  exact ⟨(Ext.refl.upd hd).upd ha, .inr ⟨dx, _, updM_same, e1⟩, .inr ⟨a, C, dx, _, rfl, updM_same, e1, T, fun z hz => by rw [List.mem_singleton.mp hz]; exact hn, by simp⟩⟩
theorem mk2_at {M : UHp} {C a dx : Addr} {n m : Str} {v u : U} (T : XfC K C) (nm : n ≠ m) (hn : PySem.W.findIn K (.ref C) n = some none) (hm : PySem.W.findIn K (.ref C) m = some none) (ha : M a = none) (hd : M dx = none) (ne : dx ≠ a) :
    Ext M (updM (updM M dx (.exd [(m, u), (n, v)])) a (.raw (exo a C (some dx)))) ∧ ExI (updM (updM M dx (.exd [(m, u), (n, v)])) a (.raw (exo a C (some dx)))) a C ∧ FldU K (updM (updM M dx (.exd [(m, u), (n, v)])) a (.raw (exo a C (some dx)))) [n, m] (.ref a) [v, u] := by
  have e1 : updM (updM M dx (.exd [(m, u), (n, v)])) a (.raw (exo a C (some dx))) dx = some (.exd [(m, u), (n, v)]) := by rw [updM_ne ne, updM_same]
  refine ⟨(Ext.refl.upd hd).upd ha, .inr ⟨dx, _, updM_same, e1⟩, .inr ⟨a, C, dx, _, rfl, updM_same, e1, T, fun z hz => ?_, ?_⟩⟩
  · simp only [List.mem_cons,List.not_mem_nil,or_false] at hz
    rcases hz with rfl | rfl
    · exact hn
    · exact hm
  · have b1 : (n == m) = false := beq_eq_false_iff_ne.mpr nm
    simp [List.lookup_cons, b1]

def sp__law_made (Cs : List Addr) : USp := fun us M Q _ => ∃ (x y X Y : U), us = [x, y] ∧ val M x = X ∧ val M y = Y ∧ isD X = true ∧ dep X ≤ 60 ∧ isD Y = true ∧ dep Y ≤ 60 ∧ ∀ (as : List Addr) (M' : UHp), as.length = 30 → MadeL K M' Cs [tupU X, tupU Y] 0 as → Ext M M' → Q (.lst (as.map .ref)) M'
local macro_rules | `(tactic| walk_at "q0") => `(tactic| simp only [z8i,uOr,z8d,z8m,uCB,z7t,z8l,uC,z8o,z7w,uOp,uUn,z8s,z8j,uIf,z8e,z7v,z7u,z7s,uBM,z8g,uSl,z4x,z8r,z72,z7x,List.append_nil,z8t,z80,z8y,z7z,z8u,z81,z8w,z8v,xIf,z74,z8x,z8p,z3t,z8n,z7m,z7q,z7o,z7p,z5w,z5v,z7a,z3l,z3m,z75,z5g,z8k,asD,uXf,z8f,z5n,z7y,z6e,z6d,z68,z67,z63,z5h,z5i,z5j,z3v,z3w,z6f,z64,z62,z5r,z6b,z7j,z7k,z7i,z7c,z7b,z7l,z7e,z5o,z2m,z2w,z2k,z2o,z2p,z2l,z2n,z5c,z73,z5a,z5e,z5f,z5b,z3g,z5d,z3e,z2q,z2r,z3i,z3k,z3j,z39,z3a,z37,z38,z4q,z6h,z4o,z4s,z4t,z4p,z3f,z4r,z4e,z4d,z3b,z2s,z3d,z3c,z0h,z0g,z0d,z0a,z0f,z0e,z1o,z1n,z0u,z0j,z0w,z0v,z2d,z2c,z1r,z10,z1t,z1s,z2f,z2e,z1w,z14,z1y,z1x,z16,z15,z0m,z0i,z0o,z0n,z1v,z1u,z11,z0l,z13,z12,z1q,z1p,z0x,z0k,z0z,z0y,z4i,z6g,z4g,z4j,z4k,z4h,z82,z88,z46,z5x,z44,z47,z48,z45,z2v,z2j,z40,z5q,z3y,z41,z42,z3z,z2u,z2i,z6y,z70,z6x,z71,z6z,z59,z56,z57,z58,z87,z86,z7r,z79,z7n,z7d,z5y,z76,z77,z6c,z69,z6a,z8b,z8c,z89,z8a,z85,z83,z84,z4v,z4u,z6i,z78,z5m,z5l,z5k,z6n,z6o,z6p,z6q,z6r,z6s,z6t,z6u,z6v,z6w,z50,z51,z52,z53,z54,z55,z4b,z4c,z49,z27,z26,z1e,z0r,z1g,z1f,z05,z04,z2h,z2g,z1z,z17,z21,z20,z0c,z0b,z23,z22,z18,z0p,z1a,z19,z01,z00,z29,z28,z1h,z0s,z1j,z1i,z07,z06,z2b,z2a,z1k,z0t,z1m,z1l,z09,z08,z25,z24,z1b,z0q,z1d,z1c,z03,z02,z6m,z8h,z4z,z6l,z6k,z4w,z4y,z3s,z6j,z3p,z4f,z3n,z3q,z3r,z3o,z5p,z2t,z3h,z4n,z4l,z4a,z66,z65,z4m,z60,z61,z5z,z32,z2x,z33,z2y,z34,z2z,z35,z30,z36,z31,z7h,z7g,z3u,z5u,z3x,z7f,z5t,z43,z5s,cle,clt,cge,cgt,ceq,cne,lenN,xFor,xTryM,uMix,uEnum,uZip,ltT,uSortK,sortK,sortN,uDNew,uDGet,inN,setN,uDNewS,uDGetS,inS,setS,uDm,uDm0,getR,popS,setdS,getNR,setdN,popNR,itemsR,lenS,dictS,sortItR,uFld,uFst,uMake,uLock,uLockE,uKeys,sortE,sortL,xOp,reprT_1,listN,uMkV,uMkK,uXv,uExo,exists_eq_left',exists_eq_left,Option.some.injEq,U.int.injEq,U.bl.injEq,U.str.injEq,U.ref.injEq,U.tup.injEq,U.lst.injEq,U.ty.injEq,List.cons.injEq,and_true,true_and,and_self,List.map_cons,List.map_nil,List.length_cons,List.length_nil,List.cons_append,List.nil_append,List.append_nil,List.getElem?_cons_zero,List.getElem?_cons_succ,List.set_cons_zero,List.set_cons_succ,List.replicate,↓reduceIte,Bool.false_eq_true,Bool.not_true,Bool.not_false,reduceCtorEq,Nat.reduceAdd,Nat.reduceSub,Nat.reduceLeDiff,Nat.reduceEqDiff,decide_true,decide_false,at0,at1,at2,at3,at4,ix0,ix1,ix2,ix3,ix4,updM_same,beq_self_eq_true,Option.bind,Option.map,wipeU,NT.put,puts,MO.lst.injEq,exists_and_left,decide_eq_true_eq,Bool.and_eq_true,Bool.or_eq_true,exists_eq',Nat.zero_le,true_or,or_true])
theorem ok__law_made (L : Lw K mg) : UFn P w K mg base CX0 65 L.f__law_made L.fd__law_made ["_law_one", "_law_two"] (sp__law_made (K := K) [L.C_BadTree, L.C_BadPiece, L.C_NothingToUndo, L.C_NothingToRedo, L.C_NoNode, L.C_BadEntry, L.C_TwoEntries, L.C_NoKey, L.C_UnknownTemplate, L.C_Ring, L.C_TooLarge, L.C_BadName, L.C_NameInUse, L.C_InUse, L.C_IdInUse, L.C_NoUse, L.C_Rests, L.C_Outside, L.C_NotPlain, L.C_NoProp, L.C_PropInUse, L.C_Older, L.C_BadStep, L.C_NoStep, L.C_Broken, L.C_BadText, L.C_BadLine, L.C_UnknownRelease, L.C_Frozen, L.C_Clash]) := by
  refine ufn_ok L.D__law_made.F sc__law_made (fun us M Q E h => ?_) (fun cdv A outer s H E hr hG =>
      (uss_cons (us_set (i := 2) sc__law_made.nd rfl (.inl rfl) (ue_lst false (ua_cons (ue_exo0 PySem.F.excBase_ValueError L.x_BadTree L.g_BadTree L.k_BadTree rfl) (ua_cons (ue_exo0 PySem.F.excBase_ValueError L.x_BadPiece L.g_BadPiece L.k_BadPiece rfl) (ua_cons (ue_exo0 PySem.F.excBase_ValueError L.x_NothingToUndo L.g_NothingToUndo L.k_NothingToUndo rfl) (ua_cons (ue_exo0 PySem.F.excBase_ValueError L.x_NothingToRedo L.g_NothingToRedo L.k_NothingToRedo rfl) ua_nil))))))
      (uss_cons (us_set (i := 2) sc__law_made.nd rfl (.inl rfl) (ue_op (uo_add false) (uv 2) (ue_lst false (ua_cons (ue_mkv L.o_NoNode L.iC_NoNode L.tI_NoNode (ok_ini_NoNode L) mono_NoNode (hr.mono (by decide)) hG L.D_ini_NoNode.b rfl L.g_NoNode (ua_cons (uv 0) ua_nil)) (ua_cons (ue_mkv L.o_BadEntry L.iC_BadEntry L.tI_BadEntry (ok_ini_BadEntry L) mono_BadEntry (hr.mono (by decide)) hG L.D_ini_BadEntry.b rfl L.g_BadEntry (ua_cons (uv 0) ua_nil)) (ua_cons (ue_mkv L.o_TwoEntries L.iC_TwoEntries L.tI_TwoEntries (ok_ini_TwoEntries L) mono_TwoEntries (hr.mono (by decide)) hG L.D_ini_TwoEntries.b rfl L.g_TwoEntries (ua_cons (uv 0) ua_nil)) (ua_cons (ue_mkv L.o_NoKey L.iC_NoKey L.tI_NoKey (ok_ini_NoKey L) mono_NoKey (hr.mono (by decide)) hG L.D_ini_NoKey.b rfl L.g_NoKey (ua_cons (uv 0) ua_nil)) ua_nil)))))))
      (uss_cons (us_set (i := 2) sc__law_made.nd rfl (.inl rfl) (ue_op (uo_add false) (uv 2) (ue_lst false (ua_cons (ue_mkv L.o_UnknownTemplate L.iC_UnknownTemplate L.tI_UnknownTemplate (ok_ini_UnknownTemplate L) mono_UnknownTemplate (hr.mono (by decide)) hG L.D_ini_UnknownTemplate.b rfl L.g_UnknownTemplate (ua_cons (uv 0) ua_nil)) (ua_cons (ue_mkv L.o_Ring L.iC_Ring L.tI_Ring (ok_ini_Ring L) mono_Ring (hr.mono (by decide)) hG L.D_ini_Ring.b rfl L.g_Ring (ua_cons (uv 0) ua_nil)) (ua_cons (ue_mkv L.o_TooLarge L.iC_TooLarge L.tI_TooLarge (ok_ini_TooLarge L) mono_TooLarge (hr.mono (by decide)) hG L.D_ini_TooLarge.b rfl L.g_TooLarge (ua_cons (uv 0) ua_nil)) (ua_cons (ue_mkv L.o_BadName L.iC_BadName L.tI_BadName (ok_ini_BadName L) mono_BadName (hr.mono (by decide)) hG L.D_ini_BadName.b rfl L.g_BadName (ua_cons (uv 0) ua_nil)) ua_nil)))))))
      (uss_cons (us_set (i := 2) sc__law_made.nd rfl (.inl rfl) (ue_op (uo_add false) (uv 2) (ue_lst false (ua_cons (ue_mkv L.o_NameInUse L.iC_NameInUse L.tI_NameInUse (ok_ini_NameInUse L) mono_NameInUse (hr.mono (by decide)) hG L.D_ini_NameInUse.b rfl L.g_NameInUse (ua_cons (uv 0) ua_nil)) (ua_cons (ue_mkv L.o_InUse L.iC_InUse L.tI_InUse (ok_ini_InUse L) mono_InUse (hr.mono (by decide)) hG L.D_ini_InUse.b rfl L.g_InUse (ua_cons (uv 0) ua_nil)) (ua_cons (ue_mkv L.o_IdInUse L.iC_IdInUse L.tI_IdInUse (ok_ini_IdInUse L) mono_IdInUse (hr.mono (by decide)) hG L.D_ini_IdInUse.b rfl L.g_IdInUse (ua_cons (uv 0) ua_nil)) (ua_cons (ue_mkv L.o_NoUse L.iC_NoUse L.tI_NoUse (ok_ini_NoUse L) mono_NoUse (hr.mono (by decide)) hG L.D_ini_NoUse.b rfl L.g_NoUse (ua_cons (uv 0) ua_nil)) ua_nil)))))))
      (uss_cons (us_set (i := 2) sc__law_made.nd rfl (.inl rfl) (ue_op (uo_add false) (uv 2) (ue_lst false (ua_cons (ue_mkv L.o_Rests L.iC_Rests L.tI_Rests (ok_ini_Rests L) mono_Rests (hr.mono (by decide)) hG L.D_ini_Rests.b rfl L.g_Rests (ua_cons (uv 0) ua_nil)) (ua_cons (ue_mkv L.o_Outside L.iC_Outside L.tI_Outside (ok_ini_Outside L) mono_Outside (hr.mono (by decide)) hG L.D_ini_Outside.b rfl L.g_Outside (ua_cons (uv 0) ua_nil)) (ua_cons (ue_mkv L.o_NotPlain L.iC_NotPlain L.tI_NotPlain (ok_ini_NotPlain L) mono_NotPlain (hr.mono (by decide)) hG L.D_ini_NotPlain.b rfl L.g_NotPlain (ua_cons (uv 0) ua_nil)) (ua_cons (ue_mkv L.o_NoProp L.iC_NoProp L.tI_NoProp (ok_ini_NoProp L) mono_NoProp (hr.mono (by decide)) hG L.D_ini_NoProp.b rfl L.g_NoProp (ua_cons (uv 0) ua_nil)) ua_nil)))))))
      (uss_cons (us_set (i := 2) sc__law_made.nd rfl (.inl rfl) (ue_op (uo_add false) (uv 2) (ue_lst false (ua_cons (ue_mkv L.o_PropInUse L.iC_PropInUse L.tI_PropInUse (ok_ini_PropInUse L) mono_PropInUse (hr.mono (by decide)) hG L.D_ini_PropInUse.b rfl L.g_PropInUse (ua_cons (uv 0) ua_nil)) (ua_cons (ue_mkv L.o_Older L.iC_Older L.tI_Older (ok_ini_Older L) mono_Older (hr.mono (by decide)) hG L.D_ini_Older.b rfl L.g_Older (ua_cons (uv 0) ua_nil)) (ua_cons (ue_mkv L.o_BadStep L.iC_BadStep L.tI_BadStep (ok_ini_BadStep L) mono_BadStep (hr.mono (by decide)) hG L.D_ini_BadStep.b rfl L.g_BadStep (ua_cons (uv 0) ua_nil)) (ua_cons (ue_mkv L.o_NoStep L.iC_NoStep L.tI_NoStep (ok_ini_NoStep L) mono_NoStep (hr.mono (by decide)) hG L.D_ini_NoStep.b rfl L.g_NoStep (ua_cons (uv 0) ua_nil)) ua_nil)))))))
      (uss_cons (us_set (i := 2) sc__law_made.nd rfl (.inl rfl) (ue_op (uo_add false) (uv 2) (ue_lst false (ua_cons (ue_mkv L.o_Broken L.iC_Broken L.tI_Broken (ok_ini_Broken L) mono_Broken (hr.mono (by decide)) hG L.D_ini_Broken.b rfl L.g_Broken (ua_cons (uv 0) ua_nil)) (ua_cons (ue_mkv L.o_BadText L.iC_BadText L.tI_BadText (ok_ini_BadText L) mono_BadText (hr.mono (by decide)) hG L.D_ini_BadText.b rfl L.g_BadText (ua_cons (uv 0) ua_nil)) (ua_cons (ue_mkv L.o_BadLine L.iC_BadLine L.tI_BadLine (ok_ini_BadLine L) mono_BadLine (hr.mono (by decide)) hG L.D_ini_BadLine.b rfl L.g_BadLine (ua_cons (uv 0) ua_nil)) ua_nil))))))
      (uss_one (us_ret (ue_op (uo_add false) (uv 2) (ue_lst false (ua_cons (ue_mkv L.o_UnknownRelease L.iC_UnknownRelease L.tI_UnknownRelease (ok_ini_UnknownRelease L) mono_UnknownRelease (hr.mono (by decide)) hG L.D_ini_UnknownRelease.b rfl L.g_UnknownRelease (ua_cons (uv 0) (ua_cons (uv 1) ua_nil))) (ua_cons (ue_mkv L.o_Frozen L.iC_Frozen L.tI_Frozen (ok_ini_Frozen L) mono_Frozen (hr.mono (by decide)) hG L.D_ini_Frozen.b rfl L.g_Frozen (ua_cons (uv 0) (ua_cons (uv 1) ua_nil))) (ua_cons (ue_mkv L.o_Clash L.iC_Clash L.tI_Clash (ok_ini_Clash L) mono_Clash (hr.mono (by decide)) hG L.D_ini_Clash.b rfl L.g_Clash (ua_cons (uv 0) (ua_cons (uv 1) ua_nil))) ua_nil))))))))))))))) (fun us M Q E h => ?_)
  · obtain ⟨x, y, X, Y, rfl, _⟩ := h
    rfl
  · obtain ⟨x, y, X, Y, rfl, hx, hy, dX, pX, dY, pY, q⟩ := h
    have vx : ∀ M', Ext M M' → val M' x = X := fun M' E => by rw [← hx]; exact val_keep (by rw [hx]; exact dX) (fun b xs => E b _)
    have vy : ∀ M', Ext M M' → val M' y = Y := fun M' E => by rw [← hy]; exact val_keep (by rw [hy]; exact dY) (fun b xs => E b _)
    clear hx hy
    have F0 : Ext M M := Ext.refl
    refine seq_oneM ?_
    walk_at "q0"
    intro a0 n0
    have E0 : Ext M (updM M a0 (.raw (ExO (.ref L.C_BadTree) a0))) := Ext.refl.upd n0
    have x0 : ExI (updM M a0 (.raw (ExO (.ref L.C_BadTree) a0))) a0 L.C_BadTree := .inl updM_same
    generalize updM M a0 (.raw (ExO (.ref L.C_BadTree) a0)) = M0 at E0 x0 ⊢
    have F1 := F0.trans E0
    intro a1 n1
    have E1 : Ext M0 (updM M0 a1 (.raw (ExO (.ref L.C_BadPiece) a1))) := Ext.refl.upd n1
    have x1 : ExI (updM M0 a1 (.raw (ExO (.ref L.C_BadPiece) a1))) a1 L.C_BadPiece := .inl updM_same
    generalize updM M0 a1 (.raw (ExO (.ref L.C_BadPiece) a1)) = M1 at E1 x1 ⊢
    have F2 := F1.trans E1
    intro a2 n2
    have E2 : Ext M1 (updM M1 a2 (.raw (ExO (.ref L.C_NothingToUndo) a2))) := Ext.refl.upd n2
    have x2 : ExI (updM M1 a2 (.raw (ExO (.ref L.C_NothingToUndo) a2))) a2 L.C_NothingToUndo := .inl updM_same
    generalize updM M1 a2 (.raw (ExO (.ref L.C_NothingToUndo) a2)) = M2 at E2 x2 ⊢
    have F3 := F2.trans E2
    intro a3 n3
    have E3 : Ext M2 (updM M2 a3 (.raw (ExO (.ref L.C_NothingToRedo) a3))) := Ext.refl.upd n3
    have x3 : ExI (updM M2 a3 (.raw (ExO (.ref L.C_NothingToRedo) a3))) a3 L.C_NothingToRedo := .inl updM_same
    generalize updM M2 a3 (.raw (ExO (.ref L.C_NothingToRedo) a3)) = M3 at E3 x3 ⊢
    have F4 := F3.trans E3
    refine ⟨line_le, ?_⟩
    refine seq_oneM ?_
    walk_at "q0"
    refine ⟨_, ⟨_, rfl, ⟨by rw [vx _ F4]; exact dX, by rw [vx _ F4]; exact pX⟩, rfl⟩, fun a4 d4 n4 m4 k4 => ?_⟩
    rw [vx _ F4]
    obtain ⟨E4, x4, f4⟩ := mk1_at (v := tupU X) L.xf_NoNode L.no_NoNode_path n4 m4 k4
    generalize updM (updM M3 d4 (.exd [("path", tupU X)])) a4 (.raw (exo a4 L.C_NoNode (some d4))) = M4 at E4 x4 f4 ⊢
    have F5 := F4.trans E4
    refine ⟨_, ⟨_, rfl, ⟨by rw [vx _ F5]; exact dX, by rw [vx _ F5]; exact pX⟩, rfl⟩, fun a5 d5 n5 m5 k5 => ?_⟩
    rw [vx _ F5]
    obtain ⟨E5, x5, f5⟩ := mk1_at (v := tupU X) L.xf_BadEntry L.no_BadEntry_index n5 m5 k5
    generalize updM (updM M4 d5 (.exd [("index", tupU X)])) a5 (.raw (exo a5 L.C_BadEntry (some d5))) = M5 at E5 x5 f5 ⊢
    have F6 := F5.trans E5
    refine ⟨_, ⟨_, rfl, ⟨by rw [vx _ F6]; exact dX, by rw [vx _ F6]; exact pX⟩, rfl⟩, fun a6 d6 n6 m6 k6 => ?_⟩
    rw [vx _ F6]
    obtain ⟨E6, x6, f6⟩ := mk1_at (v := tupU X) L.xf_TwoEntries L.no_TwoEntries_key n6 m6 k6
    generalize updM (updM M5 d6 (.exd [("key", tupU X)])) a6 (.raw (exo a6 L.C_TwoEntries (some d6))) = M6 at E6 x6 f6 ⊢
    have F7 := F6.trans E6
    refine ⟨_, ⟨_, rfl, ⟨by rw [vx _ F7]; exact dX, by rw [vx _ F7]; exact pX⟩, rfl⟩, fun a7 d7 n7 m7 k7 => ?_⟩
    rw [vx _ F7]
    obtain ⟨E7, x7, f7⟩ := mk1_at (v := tupU X) L.xf_NoKey L.no_NoKey_key n7 m7 k7
    generalize updM (updM M6 d7 (.exd [("key", tupU X)])) a7 (.raw (exo a7 L.C_NoKey (some d7))) = M7 at E7 x7 f7 ⊢
    have F8 := F7.trans E7
    refine ⟨line_le, line_le, ?_⟩
    refine seq_oneM ?_
    walk_at "q0"
    refine ⟨_, ⟨_, rfl, ⟨by rw [vx _ F8]; exact dX, by rw [vx _ F8]; exact pX⟩, rfl⟩, fun a8 d8 n8 m8 k8 => ?_⟩
    rw [vx _ F8]
    obtain ⟨E8, x8, f8⟩ := mk1_at (v := tupU X) L.xf_UnknownTemplate L.no_UnknownTemplate_name n8 m8 k8
    generalize updM (updM M7 d8 (.exd [("name", tupU X)])) a8 (.raw (exo a8 L.C_UnknownTemplate (some d8))) = M8 at E8 x8 f8 ⊢
    have F9 := F8.trans E8
    refine ⟨_, ⟨_, rfl, ⟨by rw [vx _ F9]; exact dX, by rw [vx _ F9]; exact pX⟩, rfl⟩, fun a9 d9 n9 m9 k9 => ?_⟩
    rw [vx _ F9]
    obtain ⟨E9, x9, f9⟩ := mk1_at (v := tupU X) L.xf_Ring L.no_Ring_circle n9 m9 k9
    generalize updM (updM M8 d9 (.exd [("circle", tupU X)])) a9 (.raw (exo a9 L.C_Ring (some d9))) = M9 at E9 x9 f9 ⊢
    have F10 := F9.trans E9
    refine ⟨_, ⟨_, rfl, ⟨by rw [vx _ F10]; exact dX, by rw [vx _ F10]; exact pX⟩, rfl⟩, fun a10 d10 n10 m10 k10 => ?_⟩
    rw [vx _ F10]
    obtain ⟨E10, x10, f10⟩ := mk1_at (v := tupU X) L.xf_TooLarge L.no_TooLarge_name n10 m10 k10
    generalize updM (updM M9 d10 (.exd [("name", tupU X)])) a10 (.raw (exo a10 L.C_TooLarge (some d10))) = M10 at E10 x10 f10 ⊢
    have F11 := F10.trans E10
    refine ⟨_, ⟨_, rfl, ⟨by rw [vx _ F11]; exact dX, by rw [vx _ F11]; exact pX⟩, rfl⟩, fun a11 d11 n11 m11 k11 => ?_⟩
    rw [vx _ F11]
    obtain ⟨E11, x11, f11⟩ := mk1_at (v := tupU X) L.xf_BadName L.no_BadName_name n11 m11 k11
    generalize updM (updM M10 d11 (.exd [("name", tupU X)])) a11 (.raw (exo a11 L.C_BadName (some d11))) = M11 at E11 x11 f11 ⊢
    have F12 := F11.trans E11
    refine ⟨line_le, line_le, ?_⟩
    refine seq_oneM ?_
    walk_at "q0"
    refine ⟨_, ⟨_, rfl, ⟨by rw [vx _ F12]; exact dX, by rw [vx _ F12]; exact pX⟩, rfl⟩, fun a12 d12 n12 m12 k12 => ?_⟩
    rw [vx _ F12]
    obtain ⟨E12, x12, f12⟩ := mk1_at (v := tupU X) L.xf_NameInUse L.no_NameInUse_name n12 m12 k12
    generalize updM (updM M11 d12 (.exd [("name", tupU X)])) a12 (.raw (exo a12 L.C_NameInUse (some d12))) = M12 at E12 x12 f12 ⊢
    have F13 := F12.trans E12
    refine ⟨_, ⟨_, rfl, ⟨by rw [vx _ F13]; exact dX, by rw [vx _ F13]; exact pX⟩, rfl⟩, fun a13 d13 n13 m13 k13 => ?_⟩
    rw [vx _ F13]
    obtain ⟨E13, x13, f13⟩ := mk1_at (v := tupU X) L.xf_InUse L.no_InUse_user n13 m13 k13
    generalize updM (updM M12 d13 (.exd [("user", tupU X)])) a13 (.raw (exo a13 L.C_InUse (some d13))) = M13 at E13 x13 f13 ⊢
    have F14 := F13.trans E13
    refine ⟨_, ⟨_, rfl, ⟨by rw [vx _ F14]; exact dX, by rw [vx _ F14]; exact pX⟩, rfl⟩, fun a14 d14 n14 m14 k14 => ?_⟩
    rw [vx _ F14]
    obtain ⟨E14, x14, f14⟩ := mk1_at (v := tupU X) L.xf_IdInUse L.no_IdInUse_path n14 m14 k14
    generalize updM (updM M13 d14 (.exd [("path", tupU X)])) a14 (.raw (exo a14 L.C_IdInUse (some d14))) = M14 at E14 x14 f14 ⊢
    have F15 := F14.trans E14
    refine ⟨_, ⟨_, rfl, ⟨by rw [vx _ F15]; exact dX, by rw [vx _ F15]; exact pX⟩, rfl⟩, fun a15 d15 n15 m15 k15 => ?_⟩
    rw [vx _ F15]
    obtain ⟨E15, x15, f15⟩ := mk1_at (v := tupU X) L.xf_NoUse L.no_NoUse_place n15 m15 k15
    generalize updM (updM M14 d15 (.exd [("place", tupU X)])) a15 (.raw (exo a15 L.C_NoUse (some d15))) = M15 at E15 x15 f15 ⊢
    have F16 := F15.trans E15
    refine ⟨line_le, line_le, ?_⟩
    refine seq_oneM ?_
    walk_at "q0"
    refine ⟨_, ⟨_, rfl, ⟨by rw [vx _ F16]; exact dX, by rw [vx _ F16]; exact pX⟩, rfl⟩, fun a16 d16 n16 m16 k16 => ?_⟩
    rw [vx _ F16]
    obtain ⟨E16, x16, f16⟩ := mk1_at (v := tupU X) L.xf_Rests L.no_Rests_key n16 m16 k16
    generalize updM (updM M15 d16 (.exd [("key", tupU X)])) a16 (.raw (exo a16 L.C_Rests (some d16))) = M16 at E16 x16 f16 ⊢
    have F17 := F16.trans E16
    refine ⟨_, ⟨_, rfl, ⟨by rw [vx _ F17]; exact dX, by rw [vx _ F17]; exact pX⟩, rfl⟩, fun a17 d17 n17 m17 k17 => ?_⟩
    rw [vx _ F17]
    obtain ⟨E17, x17, f17⟩ := mk1_at (v := tupU X) L.xf_Outside L.no_Outside_path n17 m17 k17
    generalize updM (updM M16 d17 (.exd [("path", tupU X)])) a17 (.raw (exo a17 L.C_Outside (some d17))) = M17 at E17 x17 f17 ⊢
    have F18 := F17.trans E17
    refine ⟨_, ⟨_, rfl, ⟨by rw [vx _ F18]; exact dX, by rw [vx _ F18]; exact pX⟩, rfl⟩, fun a18 d18 n18 m18 k18 => ?_⟩
    rw [vx _ F18]
    obtain ⟨E18, x18, f18⟩ := mk1_at (v := tupU X) L.xf_NotPlain L.no_NotPlain_name n18 m18 k18
    generalize updM (updM M17 d18 (.exd [("name", tupU X)])) a18 (.raw (exo a18 L.C_NotPlain (some d18))) = M18 at E18 x18 f18 ⊢
    have F19 := F18.trans E18
    refine ⟨_, ⟨_, rfl, ⟨by rw [vx _ F19]; exact dX, by rw [vx _ F19]; exact pX⟩, rfl⟩, fun a19 d19 n19 m19 k19 => ?_⟩
    rw [vx _ F19]
    obtain ⟨E19, x19, f19⟩ := mk1_at (v := tupU X) L.xf_NoProp L.no_NoProp_prop n19 m19 k19
    generalize updM (updM M18 d19 (.exd [("prop", tupU X)])) a19 (.raw (exo a19 L.C_NoProp (some d19))) = M19 at E19 x19 f19 ⊢
    have F20 := F19.trans E19
    refine ⟨line_le, line_le, ?_⟩
    refine seq_oneM ?_
    walk_at "q0"
    refine ⟨_, ⟨_, rfl, ⟨by rw [vx _ F20]; exact dX, by rw [vx _ F20]; exact pX⟩, rfl⟩, fun a20 d20 n20 m20 k20 => ?_⟩
    rw [vx _ F20]
    obtain ⟨E20, x20, f20⟩ := mk1_at (v := tupU X) L.xf_PropInUse L.no_PropInUse_prop n20 m20 k20
    generalize updM (updM M19 d20 (.exd [("prop", tupU X)])) a20 (.raw (exo a20 L.C_PropInUse (some d20))) = M20 at E20 x20 f20 ⊢
    have F21 := F20.trans E20
    refine ⟨_, ⟨_, rfl, ⟨by rw [vx _ F21]; exact dX, by rw [vx _ F21]; exact pX⟩, rfl⟩, fun a21 d21 n21 m21 k21 => ?_⟩
    rw [vx _ F21]
    obtain ⟨E21, x21, f21⟩ := mk1_at (v := tupU X) L.xf_Older L.no_Older_number n21 m21 k21
    generalize updM (updM M20 d21 (.exd [("number", tupU X)])) a21 (.raw (exo a21 L.C_Older (some d21))) = M21 at E21 x21 f21 ⊢
    have F22 := F21.trans E21
    refine ⟨_, ⟨_, rfl, ⟨by rw [vx _ F22]; exact dX, by rw [vx _ F22]; exact pX⟩, rfl⟩, fun a22 d22 n22 m22 k22 => ?_⟩
    rw [vx _ F22]
    obtain ⟨E22, x22, f22⟩ := mk1_at (v := tupU X) L.xf_BadStep L.no_BadStep_index n22 m22 k22
    generalize updM (updM M21 d22 (.exd [("index", tupU X)])) a22 (.raw (exo a22 L.C_BadStep (some d22))) = M22 at E22 x22 f22 ⊢
    have F23 := F22.trans E22
    refine ⟨_, ⟨_, rfl, ⟨by rw [vx _ F23]; exact dX, by rw [vx _ F23]; exact pX⟩, rfl⟩, fun a23 d23 n23 m23 k23 => ?_⟩
    rw [vx _ F23]
    obtain ⟨E23, x23, f23⟩ := mk1_at (v := tupU X) L.xf_NoStep L.no_NoStep_index n23 m23 k23
    generalize updM (updM M22 d23 (.exd [("index", tupU X)])) a23 (.raw (exo a23 L.C_NoStep (some d23))) = M23 at E23 x23 f23 ⊢
    have F24 := F23.trans E23
    refine ⟨line_le, line_le, ?_⟩
    refine seq_oneM ?_
    walk_at "q0"
    refine ⟨_, ⟨_, rfl, ⟨by rw [vx _ F24]; exact dX, by rw [vx _ F24]; exact pX⟩, rfl⟩, fun a24 d24 n24 m24 k24 => ?_⟩
    rw [vx _ F24]
    obtain ⟨E24, x24, f24⟩ := mk1_at (v := tupU X) L.xf_Broken L.no_Broken_index n24 m24 k24
    generalize updM (updM M23 d24 (.exd [("index", tupU X)])) a24 (.raw (exo a24 L.C_Broken (some d24))) = M24 at E24 x24 f24 ⊢
    have F25 := F24.trans E24
    refine ⟨_, ⟨_, rfl, ⟨by rw [vx _ F25]; exact dX, by rw [vx _ F25]; exact pX⟩, rfl⟩, fun a25 d25 n25 m25 k25 => ?_⟩
    rw [vx _ F25]
    obtain ⟨E25, x25, f25⟩ := mk1_at (v := tupU X) L.xf_BadText L.no_BadText_at n25 m25 k25
    generalize updM (updM M24 d25 (.exd [("at", tupU X)])) a25 (.raw (exo a25 L.C_BadText (some d25))) = M25 at E25 x25 f25 ⊢
    have F26 := F25.trans E25
    refine ⟨_, ⟨_, rfl, ⟨by rw [vx _ F26]; exact dX, by rw [vx _ F26]; exact pX⟩, rfl⟩, fun a26 d26 n26 m26 k26 => ?_⟩
    rw [vx _ F26]
    obtain ⟨E26, x26, f26⟩ := mk1_at (v := tupU X) L.xf_BadLine L.no_BadLine_index n26 m26 k26
    generalize updM (updM M25 d26 (.exd [("index", tupU X)])) a26 (.raw (exo a26 L.C_BadLine (some d26))) = M26 at E26 x26 f26 ⊢
    have F27 := F26.trans E26
    refine ⟨line_le, line_le, ?_⟩
    refine ⟨_, ⟨_, _, rfl, ⟨⟨by rw [vx _ F27]; exact dX, by rw [vx _ F27]; exact pX⟩, ⟨by rw [vy _ F27]; exact dY, by rw [vy _ F27]; exact pY⟩⟩, rfl⟩, fun a27 d27 n27 m27 k27 => ?_⟩
    rw [vx _ F27, vy _ F27]
    obtain ⟨E27, x27, f27⟩ := mk2_at (v := tupU X) (u := tupU Y) L.xf_UnknownRelease (by decide) L.no_UnknownRelease_name L.no_UnknownRelease_number n27 m27 k27
    generalize updM (updM M26 d27 (.exd [("number", tupU Y), ("name", tupU X)])) a27 (.raw (exo a27 L.C_UnknownRelease (some d27))) = M27 at E27 x27 f27 ⊢
    have F28 := F27.trans E27
    refine ⟨_, ⟨_, _, rfl, ⟨⟨by rw [vx _ F28]; exact dX, by rw [vx _ F28]; exact pX⟩, ⟨by rw [vy _ F28]; exact dY, by rw [vy _ F28]; exact pY⟩⟩, rfl⟩, fun a28 d28 n28 m28 k28 => ?_⟩
    rw [vx _ F28, vy _ F28]
    obtain ⟨E28, x28, f28⟩ := mk2_at (v := tupU X) (u := tupU Y) L.xf_Frozen (by decide) L.no_Frozen_name L.no_Frozen_number n28 m28 k28
    generalize updM (updM M27 d28 (.exd [("number", tupU Y), ("name", tupU X)])) a28 (.raw (exo a28 L.C_Frozen (some d28))) = M28 at E28 x28 f28 ⊢
    have F29 := F28.trans E28
    refine ⟨_, ⟨_, _, rfl, ⟨⟨by rw [vx _ F29]; exact dX, by rw [vx _ F29]; exact pX⟩, ⟨by rw [vy _ F29]; exact dY, by rw [vy _ F29]; exact pY⟩⟩, rfl⟩, fun a29 d29 n29 m29 k29 => ?_⟩
    rw [vx _ F29, vy _ F29]
    obtain ⟨E29, x29, f29⟩ := mk2_at (v := tupU X) (u := tupU Y) L.xf_Clash (by decide) L.no_Clash_name L.no_Clash_key n29 m29 k29
    generalize updM (updM M28 d29 (.exd [("key", tupU Y), ("name", tupU X)])) a29 (.raw (exo a29 L.C_Clash (some d29))) = M29 at E29 x29 f29 ⊢
    have F30 := F29.trans E29
    refine ⟨line_le, line_le, ?_⟩
    have X29 : Ext M29 M29 := Ext.refl
    have X28 := E29.trans X29
    have X27 := E28.trans X28
    have X26 := E27.trans X27
    have X25 := E26.trans X26
    have X24 := E25.trans X25
    have X23 := E24.trans X24
    have X22 := E23.trans X23
    have X21 := E22.trans X22
    have X20 := E21.trans X21
    have X19 := E20.trans X20
    have X18 := E19.trans X19
    have X17 := E18.trans X18
    have X16 := E17.trans X17
    have X15 := E16.trans X16
    have X14 := E15.trans X15
    have X13 := E14.trans X14
    have X12 := E13.trans X13
    have X11 := E12.trans X12
    have X10 := E11.trans X11
    have X9 := E10.trans X10
    have X8 := E9.trans X9
    have X7 := E8.trans X8
    have X6 := E7.trans X7
    have X5 := E6.trans X6
    have X4 := E5.trans X5
    have X3 := E4.trans X4
    have X2 := E3.trans X3
    have X1 := E2.trans X2
    have X0 := E1.trans X1
    exact .inl (q [a0, a1, a2, a3, a4, a5, a6, a7, a8, a9, a10, a11, a12, a13, a14, a15, a16, a17, a18, a19, a20, a21, a22, a23, a24, a25, a26, a27, a28, a29] M29 rfl ⟨⟨L.C_BadTree, _, rfl, rfl, x0.ext X0, .inl ⟨rfl, rfl⟩⟩, ⟨L.C_BadPiece, _, rfl, rfl, x1.ext X1, .inl ⟨rfl, rfl⟩⟩, ⟨L.C_NothingToUndo, _, rfl, rfl, x2.ext X2, .inl ⟨rfl, rfl⟩⟩, ⟨L.C_NothingToRedo, _, rfl, rfl, x3.ext X3, .inl ⟨rfl, rfl⟩⟩, ⟨L.C_NoNode, _, rfl, rfl, x4.ext X4, f4.ext X4⟩, ⟨L.C_BadEntry, _, rfl, rfl, x5.ext X5, f5.ext X5⟩, ⟨L.C_TwoEntries, _, rfl, rfl, x6.ext X6, f6.ext X6⟩, ⟨L.C_NoKey, _, rfl, rfl, x7.ext X7, f7.ext X7⟩, ⟨L.C_UnknownTemplate, _, rfl, rfl, x8.ext X8, f8.ext X8⟩, ⟨L.C_Ring, _, rfl, rfl, x9.ext X9, f9.ext X9⟩, ⟨L.C_TooLarge, _, rfl, rfl, x10.ext X10, f10.ext X10⟩, ⟨L.C_BadName, _, rfl, rfl, x11.ext X11, f11.ext X11⟩, ⟨L.C_NameInUse, _, rfl, rfl, x12.ext X12, f12.ext X12⟩, ⟨L.C_InUse, _, rfl, rfl, x13.ext X13, f13.ext X13⟩, ⟨L.C_IdInUse, _, rfl, rfl, x14.ext X14, f14.ext X14⟩, ⟨L.C_NoUse, _, rfl, rfl, x15.ext X15, f15.ext X15⟩, ⟨L.C_Rests, _, rfl, rfl, x16.ext X16, f16.ext X16⟩, ⟨L.C_Outside, _, rfl, rfl, x17.ext X17, f17.ext X17⟩, ⟨L.C_NotPlain, _, rfl, rfl, x18.ext X18, f18.ext X18⟩, ⟨L.C_NoProp, _, rfl, rfl, x19.ext X19, f19.ext X19⟩, ⟨L.C_PropInUse, _, rfl, rfl, x20.ext X20, f20.ext X20⟩, ⟨L.C_Older, _, rfl, rfl, x21.ext X21, f21.ext X21⟩, ⟨L.C_BadStep, _, rfl, rfl, x22.ext X22, f22.ext X22⟩, ⟨L.C_NoStep, _, rfl, rfl, x23.ext X23, f23.ext X23⟩, ⟨L.C_Broken, _, rfl, rfl, x24.ext X24, f24.ext X24⟩, ⟨L.C_BadText, _, rfl, rfl, x25.ext X25, f25.ext X25⟩, ⟨L.C_BadLine, _, rfl, rfl, x26.ext X26, f26.ext X26⟩, ⟨L.C_UnknownRelease, _, rfl, rfl, x27.ext X27, f27.ext X27⟩, ⟨L.C_Frozen, _, rfl, rfl, x28.ext X28, f28.ext X28⟩, ⟨L.C_Clash, _, rfl, rfl, x29.ext X29, f29.ext X29⟩, True.intro⟩ F30)

/-! ### _law_named -/
def sp__law_named (Cs : List Addr) : USp := fun us M Q _ => ∃ (x y X Y : U), us = [x, y] ∧ val M x = X ∧ val M y = Y ∧ isD X = true ∧ dep X ≤ 60 ∧ isD Y = true ∧ dep Y ≤ 60 ∧ ∀ (as : List Addr) (M' : UHp), as.length = 30 → MadeL K M' Cs [tupU X, tupU Y] 0 as → Ext M M' → Q (.lst (as.map .ref)) M'
theorem ok__law_named (L : Lw K mg) : UFn P w K mg base CX0 65 L.f__law_named L.fd__law_named ["_law_one", "_law_two"] (sp__law_named (K := K) [L.C_BadTree, L.C_BadPiece, L.C_NothingToUndo, L.C_NothingToRedo, L.C_NoNode, L.C_BadEntry, L.C_TwoEntries, L.C_NoKey, L.C_UnknownTemplate, L.C_Ring, L.C_TooLarge, L.C_BadName, L.C_NameInUse, L.C_InUse, L.C_IdInUse, L.C_NoUse, L.C_Rests, L.C_Outside, L.C_NotPlain, L.C_NoProp, L.C_PropInUse, L.C_Older, L.C_BadStep, L.C_NoStep, L.C_Broken, L.C_BadText, L.C_BadLine, L.C_UnknownRelease, L.C_Frozen, L.C_Clash]) := by
  refine ufn_ok L.D__law_named.F sc__law_named (fun us M Q E h => ?_) (fun cdv A outer s H E hr hG =>
      (uss_cons (us_set (i := 2) sc__law_named.nd rfl (.inl rfl) (ue_lst false (ua_cons (ue_exo0 PySem.F.excBase_ValueError L.x_BadTree L.g_BadTree L.k_BadTree rfl) (ua_cons (ue_exo0 PySem.F.excBase_ValueError L.x_BadPiece L.g_BadPiece L.k_BadPiece rfl) (ua_cons (ue_exo0 PySem.F.excBase_ValueError L.x_NothingToUndo L.g_NothingToUndo L.k_NothingToUndo rfl) (ua_cons (ue_exo0 PySem.F.excBase_ValueError L.x_NothingToRedo L.g_NothingToRedo L.k_NothingToRedo rfl) ua_nil))))))
      (uss_cons (us_set (i := 2) sc__law_named.nd rfl (.inl rfl) (ue_op (uo_add false) (uv 2) (ue_lst false (ua_cons (ue_mkk (ks := ["path"]) L.o_NoNode L.iC_NoNode L.tI_NoNode (ok_ini_NoNode L) mono_NoNode (hr.mono (by decide)) hG (Fun.kwb L.D_ini_NoNode.F fun _ _ _ _ _ _ u ws hl => match ws, hl with | [_], _ => rfl) rfl L.g_NoNode (upk_cons (uv 0) upk_nil)) (ua_cons (ue_mkk (ks := ["index"]) L.o_BadEntry L.iC_BadEntry L.tI_BadEntry (ok_ini_BadEntry L) mono_BadEntry (hr.mono (by decide)) hG (Fun.kwb L.D_ini_BadEntry.F fun _ _ _ _ _ _ u ws hl => match ws, hl with | [_], _ => rfl) rfl L.g_BadEntry (upk_cons (uv 0) upk_nil)) (ua_cons (ue_mkk (ks := ["key"]) L.o_TwoEntries L.iC_TwoEntries L.tI_TwoEntries (ok_ini_TwoEntries L) mono_TwoEntries (hr.mono (by decide)) hG (Fun.kwb L.D_ini_TwoEntries.F fun _ _ _ _ _ _ u ws hl => match ws, hl with | [_], _ => rfl) rfl L.g_TwoEntries (upk_cons (uv 0) upk_nil)) ua_nil))))))
      (uss_cons (us_set (i := 2) sc__law_named.nd rfl (.inl rfl) (ue_op (uo_add false) (uv 2) (ue_lst false (ua_cons (ue_mkk (ks := ["key"]) L.o_NoKey L.iC_NoKey L.tI_NoKey (ok_ini_NoKey L) mono_NoKey (hr.mono (by decide)) hG (Fun.kwb L.D_ini_NoKey.F fun _ _ _ _ _ _ u ws hl => match ws, hl with | [_], _ => rfl) rfl L.g_NoKey (upk_cons (uv 0) upk_nil)) (ua_cons (ue_mkk (ks := ["name"]) L.o_UnknownTemplate L.iC_UnknownTemplate L.tI_UnknownTemplate (ok_ini_UnknownTemplate L) mono_UnknownTemplate (hr.mono (by decide)) hG (Fun.kwb L.D_ini_UnknownTemplate.F fun _ _ _ _ _ _ u ws hl => match ws, hl with | [_], _ => rfl) rfl L.g_UnknownTemplate (upk_cons (uv 0) upk_nil)) (ua_cons (ue_mkk (ks := ["circle"]) L.o_Ring L.iC_Ring L.tI_Ring (ok_ini_Ring L) mono_Ring (hr.mono (by decide)) hG (Fun.kwb L.D_ini_Ring.F fun _ _ _ _ _ _ u ws hl => match ws, hl with | [_], _ => rfl) rfl L.g_Ring (upk_cons (uv 0) upk_nil)) ua_nil))))))
      (uss_cons (us_set (i := 2) sc__law_named.nd rfl (.inl rfl) (ue_op (uo_add false) (uv 2) (ue_lst false (ua_cons (ue_mkk (ks := ["name"]) L.o_TooLarge L.iC_TooLarge L.tI_TooLarge (ok_ini_TooLarge L) mono_TooLarge (hr.mono (by decide)) hG (Fun.kwb L.D_ini_TooLarge.F fun _ _ _ _ _ _ u ws hl => match ws, hl with | [_], _ => rfl) rfl L.g_TooLarge (upk_cons (uv 0) upk_nil)) (ua_cons (ue_mkk (ks := ["name"]) L.o_BadName L.iC_BadName L.tI_BadName (ok_ini_BadName L) mono_BadName (hr.mono (by decide)) hG (Fun.kwb L.D_ini_BadName.F fun _ _ _ _ _ _ u ws hl => match ws, hl with | [_], _ => rfl) rfl L.g_BadName (upk_cons (uv 0) upk_nil)) (ua_cons (ue_mkk (ks := ["name"]) L.o_NameInUse L.iC_NameInUse L.tI_NameInUse (ok_ini_NameInUse L) mono_NameInUse (hr.mono (by decide)) hG (Fun.kwb L.D_ini_NameInUse.F fun _ _ _ _ _ _ u ws hl => match ws, hl with | [_], _ => rfl) rfl L.g_NameInUse (upk_cons (uv 0) upk_nil)) ua_nil))))))
      (uss_cons (us_set (i := 2) sc__law_named.nd rfl (.inl rfl) (ue_op (uo_add false) (uv 2) (ue_lst false (ua_cons (ue_mkk (ks := ["user"]) L.o_InUse L.iC_InUse L.tI_InUse (ok_ini_InUse L) mono_InUse (hr.mono (by decide)) hG (Fun.kwb L.D_ini_InUse.F fun _ _ _ _ _ _ u ws hl => match ws, hl with | [_], _ => rfl) rfl L.g_InUse (upk_cons (uv 0) upk_nil)) (ua_cons (ue_mkk (ks := ["path"]) L.o_IdInUse L.iC_IdInUse L.tI_IdInUse (ok_ini_IdInUse L) mono_IdInUse (hr.mono (by decide)) hG (Fun.kwb L.D_ini_IdInUse.F fun _ _ _ _ _ _ u ws hl => match ws, hl with | [_], _ => rfl) rfl L.g_IdInUse (upk_cons (uv 0) upk_nil)) (ua_cons (ue_mkk (ks := ["place"]) L.o_NoUse L.iC_NoUse L.tI_NoUse (ok_ini_NoUse L) mono_NoUse (hr.mono (by decide)) hG (Fun.kwb L.D_ini_NoUse.F fun _ _ _ _ _ _ u ws hl => match ws, hl with | [_], _ => rfl) rfl L.g_NoUse (upk_cons (uv 0) upk_nil)) ua_nil))))))
      (uss_cons (us_set (i := 2) sc__law_named.nd rfl (.inl rfl) (ue_op (uo_add false) (uv 2) (ue_lst false (ua_cons (ue_mkk (ks := ["key"]) L.o_Rests L.iC_Rests L.tI_Rests (ok_ini_Rests L) mono_Rests (hr.mono (by decide)) hG (Fun.kwb L.D_ini_Rests.F fun _ _ _ _ _ _ u ws hl => match ws, hl with | [_], _ => rfl) rfl L.g_Rests (upk_cons (uv 0) upk_nil)) (ua_cons (ue_mkk (ks := ["path"]) L.o_Outside L.iC_Outside L.tI_Outside (ok_ini_Outside L) mono_Outside (hr.mono (by decide)) hG (Fun.kwb L.D_ini_Outside.F fun _ _ _ _ _ _ u ws hl => match ws, hl with | [_], _ => rfl) rfl L.g_Outside (upk_cons (uv 0) upk_nil)) (ua_cons (ue_mkk (ks := ["name"]) L.o_NotPlain L.iC_NotPlain L.tI_NotPlain (ok_ini_NotPlain L) mono_NotPlain (hr.mono (by decide)) hG (Fun.kwb L.D_ini_NotPlain.F fun _ _ _ _ _ _ u ws hl => match ws, hl with | [_], _ => rfl) rfl L.g_NotPlain (upk_cons (uv 0) upk_nil)) ua_nil))))))
      (uss_cons (us_set (i := 2) sc__law_named.nd rfl (.inl rfl) (ue_op (uo_add false) (uv 2) (ue_lst false (ua_cons (ue_mkk (ks := ["prop"]) L.o_NoProp L.iC_NoProp L.tI_NoProp (ok_ini_NoProp L) mono_NoProp (hr.mono (by decide)) hG (Fun.kwb L.D_ini_NoProp.F fun _ _ _ _ _ _ u ws hl => match ws, hl with | [_], _ => rfl) rfl L.g_NoProp (upk_cons (uv 0) upk_nil)) (ua_cons (ue_mkk (ks := ["prop"]) L.o_PropInUse L.iC_PropInUse L.tI_PropInUse (ok_ini_PropInUse L) mono_PropInUse (hr.mono (by decide)) hG (Fun.kwb L.D_ini_PropInUse.F fun _ _ _ _ _ _ u ws hl => match ws, hl with | [_], _ => rfl) rfl L.g_PropInUse (upk_cons (uv 0) upk_nil)) (ua_cons (ue_mkk (ks := ["number"]) L.o_Older L.iC_Older L.tI_Older (ok_ini_Older L) mono_Older (hr.mono (by decide)) hG (Fun.kwb L.D_ini_Older.F fun _ _ _ _ _ _ u ws hl => match ws, hl with | [_], _ => rfl) rfl L.g_Older (upk_cons (uv 0) upk_nil)) ua_nil))))))
      (uss_cons (us_set (i := 2) sc__law_named.nd rfl (.inl rfl) (ue_op (uo_add false) (uv 2) (ue_lst false (ua_cons (ue_mkk (ks := ["index"]) L.o_BadStep L.iC_BadStep L.tI_BadStep (ok_ini_BadStep L) mono_BadStep (hr.mono (by decide)) hG (Fun.kwb L.D_ini_BadStep.F fun _ _ _ _ _ _ u ws hl => match ws, hl with | [_], _ => rfl) rfl L.g_BadStep (upk_cons (uv 0) upk_nil)) (ua_cons (ue_mkk (ks := ["index"]) L.o_NoStep L.iC_NoStep L.tI_NoStep (ok_ini_NoStep L) mono_NoStep (hr.mono (by decide)) hG (Fun.kwb L.D_ini_NoStep.F fun _ _ _ _ _ _ u ws hl => match ws, hl with | [_], _ => rfl) rfl L.g_NoStep (upk_cons (uv 0) upk_nil)) (ua_cons (ue_mkk (ks := ["index"]) L.o_Broken L.iC_Broken L.tI_Broken (ok_ini_Broken L) mono_Broken (hr.mono (by decide)) hG (Fun.kwb L.D_ini_Broken.F fun _ _ _ _ _ _ u ws hl => match ws, hl with | [_], _ => rfl) rfl L.g_Broken (upk_cons (uv 0) upk_nil)) ua_nil))))))
      (uss_cons (us_set (i := 2) sc__law_named.nd rfl (.inl rfl) (ue_op (uo_add false) (uv 2) (ue_lst false (ua_cons (ue_mkk (ks := ["at"]) L.o_BadText L.iC_BadText L.tI_BadText (ok_ini_BadText L) mono_BadText (hr.mono (by decide)) hG (Fun.kwb L.D_ini_BadText.F fun _ _ _ _ _ _ u ws hl => match ws, hl with | [_], _ => rfl) rfl L.g_BadText (upk_cons (uv 0) upk_nil)) (ua_cons (ue_mkk (ks := ["index"]) L.o_BadLine L.iC_BadLine L.tI_BadLine (ok_ini_BadLine L) mono_BadLine (hr.mono (by decide)) hG (Fun.kwb L.D_ini_BadLine.F fun _ _ _ _ _ _ u ws hl => match ws, hl with | [_], _ => rfl) rfl L.g_BadLine (upk_cons (uv 0) upk_nil)) ua_nil)))))
      (uss_one (us_ret (ue_op (uo_add false) (uv 2) (ue_lst false (ua_cons (ue_mkk (ks := ["number", "name"]) L.o_UnknownRelease L.iC_UnknownRelease L.tI_UnknownRelease (ok_ini_UnknownRelease L) mono_UnknownRelease (hr.mono (by decide)) hG (Fun.kwb L.D_ini_UnknownRelease.F fun _ _ _ _ _ _ u ws hl => match ws, hl with | [_, _], _ => rfl) rfl L.g_UnknownRelease (upk_cons (uv 1) (upk_cons (uv 0) upk_nil))) (ua_cons (ue_mkk (ks := ["number", "name"]) L.o_Frozen L.iC_Frozen L.tI_Frozen (ok_ini_Frozen L) mono_Frozen (hr.mono (by decide)) hG (Fun.kwb L.D_ini_Frozen.F fun _ _ _ _ _ _ u ws hl => match ws, hl with | [_, _], _ => rfl) rfl L.g_Frozen (upk_cons (uv 1) (upk_cons (uv 0) upk_nil))) (ua_cons (ue_mkk (ks := ["key", "name"]) L.o_Clash L.iC_Clash L.tI_Clash (ok_ini_Clash L) mono_Clash (hr.mono (by decide)) hG (Fun.kwb L.D_ini_Clash.F fun _ _ _ _ _ _ u ws hl => match ws, hl with | [_, _], _ => rfl) rfl L.g_Clash (upk_cons (uv 1) (upk_cons (uv 0) upk_nil))) ua_nil))))))))))))))))) (fun us M Q E h => ?_)
  · obtain ⟨x, y, X, Y, rfl, _⟩ := h
    rfl
  · obtain ⟨x, y, X, Y, rfl, hx, hy, dX, pX, dY, pY, q⟩ := h
    have vx : ∀ M', Ext M M' → val M' x = X := fun M' E => by rw [← hx]; exact val_keep (by rw [hx]; exact dX) (fun b xs => E b _)
    have vy : ∀ M', Ext M M' → val M' y = Y := fun M' E => by rw [← hy]; exact val_keep (by rw [hy]; exact dY) (fun b xs => E b _)
    clear hx hy
    have F0 : Ext M M := Ext.refl
    refine seq_oneM ?_
    walk_at "q0"
    intro a0 n0
    have E0 : Ext M (updM M a0 (.raw (ExO (.ref L.C_BadTree) a0))) := Ext.refl.upd n0
    have x0 : ExI (updM M a0 (.raw (ExO (.ref L.C_BadTree) a0))) a0 L.C_BadTree := .inl updM_same
    generalize updM M a0 (.raw (ExO (.ref L.C_BadTree) a0)) = M0 at E0 x0 ⊢
    have F1 := F0.trans E0
    intro a1 n1
    have E1 : Ext M0 (updM M0 a1 (.raw (ExO (.ref L.C_BadPiece) a1))) := Ext.refl.upd n1
    have x1 : ExI (updM M0 a1 (.raw (ExO (.ref L.C_BadPiece) a1))) a1 L.C_BadPiece := .inl updM_same
    generalize updM M0 a1 (.raw (ExO (.ref L.C_BadPiece) a1)) = M1 at E1 x1 ⊢
    have F2 := F1.trans E1
    intro a2 n2
    have E2 : Ext M1 (updM M1 a2 (.raw (ExO (.ref L.C_NothingToUndo) a2))) := Ext.refl.upd n2
    have x2 : ExI (updM M1 a2 (.raw (ExO (.ref L.C_NothingToUndo) a2))) a2 L.C_NothingToUndo := .inl updM_same
    generalize updM M1 a2 (.raw (ExO (.ref L.C_NothingToUndo) a2)) = M2 at E2 x2 ⊢
    have F3 := F2.trans E2
    intro a3 n3
    have E3 : Ext M2 (updM M2 a3 (.raw (ExO (.ref L.C_NothingToRedo) a3))) := Ext.refl.upd n3
    have x3 : ExI (updM M2 a3 (.raw (ExO (.ref L.C_NothingToRedo) a3))) a3 L.C_NothingToRedo := .inl updM_same
    generalize updM M2 a3 (.raw (ExO (.ref L.C_NothingToRedo) a3)) = M3 at E3 x3 ⊢
    have F4 := F3.trans E3
    refine ⟨line_le, ?_⟩
    refine seq_oneM ?_
    walk_at "q0"
    refine ⟨_, ⟨_, rfl, ⟨by rw [vx _ F4]; exact dX, by rw [vx _ F4]; exact pX⟩, rfl⟩, fun a4 d4 n4 m4 k4 => ?_⟩
    rw [vx _ F4]
    obtain ⟨E4, x4, f4⟩ := mk1_at (v := tupU X) L.xf_NoNode L.no_NoNode_path n4 m4 k4
    generalize updM (updM M3 d4 (.exd [("path", tupU X)])) a4 (.raw (exo a4 L.C_NoNode (some d4))) = M4 at E4 x4 f4 ⊢
    have F5 := F4.trans E4
    refine ⟨_, ⟨_, rfl, ⟨by rw [vx _ F5]; exact dX, by rw [vx _ F5]; exact pX⟩, rfl⟩, fun a5 d5 n5 m5 k5 => ?_⟩
    rw [vx _ F5]
    obtain ⟨E5, x5, f5⟩ := mk1_at (v := tupU X) L.xf_BadEntry L.no_BadEntry_index n5 m5 k5
    generalize updM (updM M4 d5 (.exd [("index", tupU X)])) a5 (.raw (exo a5 L.C_BadEntry (some d5))) = M5 at E5 x5 f5 ⊢
    have F6 := F5.trans E5
    refine ⟨_, ⟨_, rfl, ⟨by rw [vx _ F6]; exact dX, by rw [vx _ F6]; exact pX⟩, rfl⟩, fun a6 d6 n6 m6 k6 => ?_⟩
    rw [vx _ F6]
    obtain ⟨E6, x6, f6⟩ := mk1_at (v := tupU X) L.xf_TwoEntries L.no_TwoEntries_key n6 m6 k6
    generalize updM (updM M5 d6 (.exd [("key", tupU X)])) a6 (.raw (exo a6 L.C_TwoEntries (some d6))) = M6 at E6 x6 f6 ⊢
    have F7 := F6.trans E6
    refine ⟨line_le, line_le, ?_⟩
    refine seq_oneM ?_
    walk_at "q0"
    refine ⟨_, ⟨_, rfl, ⟨by rw [vx _ F7]; exact dX, by rw [vx _ F7]; exact pX⟩, rfl⟩, fun a7 d7 n7 m7 k7 => ?_⟩
    rw [vx _ F7]
    obtain ⟨E7, x7, f7⟩ := mk1_at (v := tupU X) L.xf_NoKey L.no_NoKey_key n7 m7 k7
    generalize updM (updM M6 d7 (.exd [("key", tupU X)])) a7 (.raw (exo a7 L.C_NoKey (some d7))) = M7 at E7 x7 f7 ⊢
    have F8 := F7.trans E7
    refine ⟨_, ⟨_, rfl, ⟨by rw [vx _ F8]; exact dX, by rw [vx _ F8]; exact pX⟩, rfl⟩, fun a8 d8 n8 m8 k8 => ?_⟩
    rw [vx _ F8]
    obtain ⟨E8, x8, f8⟩ := mk1_at (v := tupU X) L.xf_UnknownTemplate L.no_UnknownTemplate_name n8 m8 k8
    generalize updM (updM M7 d8 (.exd [("name", tupU X)])) a8 (.raw (exo a8 L.C_UnknownTemplate (some d8))) = M8 at E8 x8 f8 ⊢
    have F9 := F8.trans E8
    refine ⟨_, ⟨_, rfl, ⟨by rw [vx _ F9]; exact dX, by rw [vx _ F9]; exact pX⟩, rfl⟩, fun a9 d9 n9 m9 k9 => ?_⟩
    rw [vx _ F9]
    obtain ⟨E9, x9, f9⟩ := mk1_at (v := tupU X) L.xf_Ring L.no_Ring_circle n9 m9 k9
    generalize updM (updM M8 d9 (.exd [("circle", tupU X)])) a9 (.raw (exo a9 L.C_Ring (some d9))) = M9 at E9 x9 f9 ⊢
    have F10 := F9.trans E9
    refine ⟨line_le, line_le, ?_⟩
    refine seq_oneM ?_
    walk_at "q0"
    refine ⟨_, ⟨_, rfl, ⟨by rw [vx _ F10]; exact dX, by rw [vx _ F10]; exact pX⟩, rfl⟩, fun a10 d10 n10 m10 k10 => ?_⟩
    rw [vx _ F10]
    obtain ⟨E10, x10, f10⟩ := mk1_at (v := tupU X) L.xf_TooLarge L.no_TooLarge_name n10 m10 k10
    generalize updM (updM M9 d10 (.exd [("name", tupU X)])) a10 (.raw (exo a10 L.C_TooLarge (some d10))) = M10 at E10 x10 f10 ⊢
    have F11 := F10.trans E10
    refine ⟨_, ⟨_, rfl, ⟨by rw [vx _ F11]; exact dX, by rw [vx _ F11]; exact pX⟩, rfl⟩, fun a11 d11 n11 m11 k11 => ?_⟩
    rw [vx _ F11]
    obtain ⟨E11, x11, f11⟩ := mk1_at (v := tupU X) L.xf_BadName L.no_BadName_name n11 m11 k11
    generalize updM (updM M10 d11 (.exd [("name", tupU X)])) a11 (.raw (exo a11 L.C_BadName (some d11))) = M11 at E11 x11 f11 ⊢
    have F12 := F11.trans E11
    refine ⟨_, ⟨_, rfl, ⟨by rw [vx _ F12]; exact dX, by rw [vx _ F12]; exact pX⟩, rfl⟩, fun a12 d12 n12 m12 k12 => ?_⟩
    rw [vx _ F12]
    obtain ⟨E12, x12, f12⟩ := mk1_at (v := tupU X) L.xf_NameInUse L.no_NameInUse_name n12 m12 k12
    generalize updM (updM M11 d12 (.exd [("name", tupU X)])) a12 (.raw (exo a12 L.C_NameInUse (some d12))) = M12 at E12 x12 f12 ⊢
    have F13 := F12.trans E12
    refine ⟨line_le, line_le, ?_⟩
    refine seq_oneM ?_
    walk_at "q0"
    refine ⟨_, ⟨_, rfl, ⟨by rw [vx _ F13]; exact dX, by rw [vx _ F13]; exact pX⟩, rfl⟩, fun a13 d13 n13 m13 k13 => ?_⟩
    rw [vx _ F13]
    obtain ⟨E13, x13, f13⟩ := mk1_at (v := tupU X) L.xf_InUse L.no_InUse_user n13 m13 k13
    generalize updM (updM M12 d13 (.exd [("user", tupU X)])) a13 (.raw (exo a13 L.C_InUse (some d13))) = M13 at E13 x13 f13 ⊢
    have F14 := F13.trans E13
    refine ⟨_, ⟨_, rfl, ⟨by rw [vx _ F14]; exact dX, by rw [vx _ F14]; exact pX⟩, rfl⟩, fun a14 d14 n14 m14 k14 => ?_⟩
    rw [vx _ F14]
    obtain ⟨E14, x14, f14⟩ := mk1_at (v := tupU X) L.xf_IdInUse L.no_IdInUse_path n14 m14 k14
    generalize updM (updM M13 d14 (.exd [("path", tupU X)])) a14 (.raw (exo a14 L.C_IdInUse (some d14))) = M14 at E14 x14 f14 ⊢
    have F15 := F14.trans E14
    refine ⟨_, ⟨_, rfl, ⟨by rw [vx _ F15]; exact dX, by rw [vx _ F15]; exact pX⟩, rfl⟩, fun a15 d15 n15 m15 k15 => ?_⟩
    rw [vx _ F15]
    obtain ⟨E15, x15, f15⟩ := mk1_at (v := tupU X) L.xf_NoUse L.no_NoUse_place n15 m15 k15
    generalize updM (updM M14 d15 (.exd [("place", tupU X)])) a15 (.raw (exo a15 L.C_NoUse (some d15))) = M15 at E15 x15 f15 ⊢
    have F16 := F15.trans E15
    refine ⟨line_le, line_le, ?_⟩
    refine seq_oneM ?_
    walk_at "q0"
    refine ⟨_, ⟨_, rfl, ⟨by rw [vx _ F16]; exact dX, by rw [vx _ F16]; exact pX⟩, rfl⟩, fun a16 d16 n16 m16 k16 => ?_⟩
    rw [vx _ F16]
    obtain ⟨E16, x16, f16⟩ := mk1_at (v := tupU X) L.xf_Rests L.no_Rests_key n16 m16 k16
    generalize updM (updM M15 d16 (.exd [("key", tupU X)])) a16 (.raw (exo a16 L.C_Rests (some d16))) = M16 at E16 x16 f16 ⊢
    have F17 := F16.trans E16
    refine ⟨_, ⟨_, rfl, ⟨by rw [vx _ F17]; exact dX, by rw [vx _ F17]; exact pX⟩, rfl⟩, fun a17 d17 n17 m17 k17 => ?_⟩
    rw [vx _ F17]
    obtain ⟨E17, x17, f17⟩ := mk1_at (v := tupU X) L.xf_Outside L.no_Outside_path n17 m17 k17
    generalize updM (updM M16 d17 (.exd [("path", tupU X)])) a17 (.raw (exo a17 L.C_Outside (some d17))) = M17 at E17 x17 f17 ⊢
    have F18 := F17.trans E17
    refine ⟨_, ⟨_, rfl, ⟨by rw [vx _ F18]; exact dX, by rw [vx _ F18]; exact pX⟩, rfl⟩, fun a18 d18 n18 m18 k18 => ?_⟩
    rw [vx _ F18]
    obtain ⟨E18, x18, f18⟩ := mk1_at (v := tupU X) L.xf_NotPlain L.no_NotPlain_name n18 m18 k18
    generalize updM (updM M17 d18 (.exd [("name", tupU X)])) a18 (.raw (exo a18 L.C_NotPlain (some d18))) = M18 at E18 x18 f18 ⊢
    have F19 := F18.trans E18
    refine ⟨line_le, line_le, ?_⟩
    refine seq_oneM ?_
    walk_at "q0"
    refine ⟨_, ⟨_, rfl, ⟨by rw [vx _ F19]; exact dX, by rw [vx _ F19]; exact pX⟩, rfl⟩, fun a19 d19 n19 m19 k19 => ?_⟩
    rw [vx _ F19]
    obtain ⟨E19, x19, f19⟩ := mk1_at (v := tupU X) L.xf_NoProp L.no_NoProp_prop n19 m19 k19
    generalize updM (updM M18 d19 (.exd [("prop", tupU X)])) a19 (.raw (exo a19 L.C_NoProp (some d19))) = M19 at E19 x19 f19 ⊢
    have F20 := F19.trans E19
    refine ⟨_, ⟨_, rfl, ⟨by rw [vx _ F20]; exact dX, by rw [vx _ F20]; exact pX⟩, rfl⟩, fun a20 d20 n20 m20 k20 => ?_⟩
    rw [vx _ F20]
    obtain ⟨E20, x20, f20⟩ := mk1_at (v := tupU X) L.xf_PropInUse L.no_PropInUse_prop n20 m20 k20
    generalize updM (updM M19 d20 (.exd [("prop", tupU X)])) a20 (.raw (exo a20 L.C_PropInUse (some d20))) = M20 at E20 x20 f20 ⊢
    have F21 := F20.trans E20
    refine ⟨_, ⟨_, rfl, ⟨by rw [vx _ F21]; exact dX, by rw [vx _ F21]; exact pX⟩, rfl⟩, fun a21 d21 n21 m21 k21 => ?_⟩
    rw [vx _ F21]
    obtain ⟨E21, x21, f21⟩ := mk1_at (v := tupU X) L.xf_Older L.no_Older_number n21 m21 k21
    generalize updM (updM M20 d21 (.exd [("number", tupU X)])) a21 (.raw (exo a21 L.C_Older (some d21))) = M21 at E21 x21 f21 ⊢
    have F22 := F21.trans E21
    refine ⟨line_le, line_le, ?_⟩
    refine seq_oneM ?_
    walk_at "q0"
    refine ⟨_, ⟨_, rfl, ⟨by rw [vx _ F22]; exact dX, by rw [vx _ F22]; exact pX⟩, rfl⟩, fun a22 d22 n22 m22 k22 => ?_⟩
    rw [vx _ F22]
    obtain ⟨E22, x22, f22⟩ := mk1_at (v := tupU X) L.xf_BadStep L.no_BadStep_index n22 m22 k22
    generalize updM (updM M21 d22 (.exd [("index", tupU X)])) a22 (.raw (exo a22 L.C_BadStep (some d22))) = M22 at E22 x22 f22 ⊢
    have F23 := F22.trans E22
    refine ⟨_, ⟨_, rfl, ⟨by rw [vx _ F23]; exact dX, by rw [vx _ F23]; exact pX⟩, rfl⟩, fun a23 d23 n23 m23 k23 => ?_⟩
    rw [vx _ F23]
    obtain ⟨E23, x23, f23⟩ := mk1_at (v := tupU X) L.xf_NoStep L.no_NoStep_index n23 m23 k23
    generalize updM (updM M22 d23 (.exd [("index", tupU X)])) a23 (.raw (exo a23 L.C_NoStep (some d23))) = M23 at E23 x23 f23 ⊢
    have F24 := F23.trans E23
    refine ⟨_, ⟨_, rfl, ⟨by rw [vx _ F24]; exact dX, by rw [vx _ F24]; exact pX⟩, rfl⟩, fun a24 d24 n24 m24 k24 => ?_⟩
    rw [vx _ F24]
    obtain ⟨E24, x24, f24⟩ := mk1_at (v := tupU X) L.xf_Broken L.no_Broken_index n24 m24 k24
    generalize updM (updM M23 d24 (.exd [("index", tupU X)])) a24 (.raw (exo a24 L.C_Broken (some d24))) = M24 at E24 x24 f24 ⊢
    have F25 := F24.trans E24
    refine ⟨line_le, line_le, ?_⟩
    refine seq_oneM ?_
    walk_at "q0"
    refine ⟨_, ⟨_, rfl, ⟨by rw [vx _ F25]; exact dX, by rw [vx _ F25]; exact pX⟩, rfl⟩, fun a25 d25 n25 m25 k25 => ?_⟩
    rw [vx _ F25]
    obtain ⟨E25, x25, f25⟩ := mk1_at (v := tupU X) L.xf_BadText L.no_BadText_at n25 m25 k25
    generalize updM (updM M24 d25 (.exd [("at", tupU X)])) a25 (.raw (exo a25 L.C_BadText (some d25))) = M25 at E25 x25 f25 ⊢
    have F26 := F25.trans E25
    refine ⟨_, ⟨_, rfl, ⟨by rw [vx _ F26]; exact dX, by rw [vx _ F26]; exact pX⟩, rfl⟩, fun a26 d26 n26 m26 k26 => ?_⟩
    rw [vx _ F26]
    obtain ⟨E26, x26, f26⟩ := mk1_at (v := tupU X) L.xf_BadLine L.no_BadLine_index n26 m26 k26
    generalize updM (updM M25 d26 (.exd [("index", tupU X)])) a26 (.raw (exo a26 L.C_BadLine (some d26))) = M26 at E26 x26 f26 ⊢
    have F27 := F26.trans E26
    refine ⟨line_le, line_le, ?_⟩
    refine ⟨_, ⟨_, _, rfl, ⟨⟨by rw [vx _ F27]; exact dX, by rw [vx _ F27]; exact pX⟩, ⟨by rw [vy _ F27]; exact dY, by rw [vy _ F27]; exact pY⟩⟩, rfl⟩, fun a27 d27 n27 m27 k27 => ?_⟩
    rw [vx _ F27, vy _ F27]
    obtain ⟨E27, x27, f27⟩ := mk2_at (v := tupU X) (u := tupU Y) L.xf_UnknownRelease (by decide) L.no_UnknownRelease_name L.no_UnknownRelease_number n27 m27 k27
    generalize updM (updM M26 d27 (.exd [("number", tupU Y), ("name", tupU X)])) a27 (.raw (exo a27 L.C_UnknownRelease (some d27))) = M27 at E27 x27 f27 ⊢
    have F28 := F27.trans E27
    refine ⟨_, ⟨_, _, rfl, ⟨⟨by rw [vx _ F28]; exact dX, by rw [vx _ F28]; exact pX⟩, ⟨by rw [vy _ F28]; exact dY, by rw [vy _ F28]; exact pY⟩⟩, rfl⟩, fun a28 d28 n28 m28 k28 => ?_⟩
    rw [vx _ F28, vy _ F28]
    obtain ⟨E28, x28, f28⟩ := mk2_at (v := tupU X) (u := tupU Y) L.xf_Frozen (by decide) L.no_Frozen_name L.no_Frozen_number n28 m28 k28
    generalize updM (updM M27 d28 (.exd [("number", tupU Y), ("name", tupU X)])) a28 (.raw (exo a28 L.C_Frozen (some d28))) = M28 at E28 x28 f28 ⊢
    have F29 := F28.trans E28
    refine ⟨_, ⟨_, _, rfl, ⟨⟨by rw [vx _ F29]; exact dX, by rw [vx _ F29]; exact pX⟩, ⟨by rw [vy _ F29]; exact dY, by rw [vy _ F29]; exact pY⟩⟩, rfl⟩, fun a29 d29 n29 m29 k29 => ?_⟩
    rw [vx _ F29, vy _ F29]
    obtain ⟨E29, x29, f29⟩ := mk2_at (v := tupU X) (u := tupU Y) L.xf_Clash (by decide) L.no_Clash_name L.no_Clash_key n29 m29 k29
    generalize updM (updM M28 d29 (.exd [("key", tupU Y), ("name", tupU X)])) a29 (.raw (exo a29 L.C_Clash (some d29))) = M29 at E29 x29 f29 ⊢
    have F30 := F29.trans E29
    refine ⟨line_le, line_le, ?_⟩
    have X29 : Ext M29 M29 := Ext.refl
    have X28 := E29.trans X29
    have X27 := E28.trans X28
    have X26 := E27.trans X27
    have X25 := E26.trans X26
    have X24 := E25.trans X25
    have X23 := E24.trans X24
    have X22 := E23.trans X23
    have X21 := E22.trans X22
    have X20 := E21.trans X21
    have X19 := E20.trans X20
    have X18 := E19.trans X19
    have X17 := E18.trans X18
    have X16 := E17.trans X17
    have X15 := E16.trans X16
    have X14 := E15.trans X15
    have X13 := E14.trans X14
    have X12 := E13.trans X13
    have X11 := E12.trans X12
    have X10 := E11.trans X11
    have X9 := E10.trans X10
    have X8 := E9.trans X9
    have X7 := E8.trans X8
    have X6 := E7.trans X7
    have X5 := E6.trans X6
    have X4 := E5.trans X5
    have X3 := E4.trans X4
    have X2 := E3.trans X3
    have X1 := E2.trans X2
    have X0 := E1.trans X1
    exact .inl (q [a0, a1, a2, a3, a4, a5, a6, a7, a8, a9, a10, a11, a12, a13, a14, a15, a16, a17, a18, a19, a20, a21, a22, a23, a24, a25, a26, a27, a28, a29] M29 rfl ⟨⟨L.C_BadTree, _, rfl, rfl, x0.ext X0, .inl ⟨rfl, rfl⟩⟩, ⟨L.C_BadPiece, _, rfl, rfl, x1.ext X1, .inl ⟨rfl, rfl⟩⟩, ⟨L.C_NothingToUndo, _, rfl, rfl, x2.ext X2, .inl ⟨rfl, rfl⟩⟩, ⟨L.C_NothingToRedo, _, rfl, rfl, x3.ext X3, .inl ⟨rfl, rfl⟩⟩, ⟨L.C_NoNode, _, rfl, rfl, x4.ext X4, f4.ext X4⟩, ⟨L.C_BadEntry, _, rfl, rfl, x5.ext X5, f5.ext X5⟩, ⟨L.C_TwoEntries, _, rfl, rfl, x6.ext X6, f6.ext X6⟩, ⟨L.C_NoKey, _, rfl, rfl, x7.ext X7, f7.ext X7⟩, ⟨L.C_UnknownTemplate, _, rfl, rfl, x8.ext X8, f8.ext X8⟩, ⟨L.C_Ring, _, rfl, rfl, x9.ext X9, f9.ext X9⟩, ⟨L.C_TooLarge, _, rfl, rfl, x10.ext X10, f10.ext X10⟩, ⟨L.C_BadName, _, rfl, rfl, x11.ext X11, f11.ext X11⟩, ⟨L.C_NameInUse, _, rfl, rfl, x12.ext X12, f12.ext X12⟩, ⟨L.C_InUse, _, rfl, rfl, x13.ext X13, f13.ext X13⟩, ⟨L.C_IdInUse, _, rfl, rfl, x14.ext X14, f14.ext X14⟩, ⟨L.C_NoUse, _, rfl, rfl, x15.ext X15, f15.ext X15⟩, ⟨L.C_Rests, _, rfl, rfl, x16.ext X16, f16.ext X16⟩, ⟨L.C_Outside, _, rfl, rfl, x17.ext X17, f17.ext X17⟩, ⟨L.C_NotPlain, _, rfl, rfl, x18.ext X18, f18.ext X18⟩, ⟨L.C_NoProp, _, rfl, rfl, x19.ext X19, f19.ext X19⟩, ⟨L.C_PropInUse, _, rfl, rfl, x20.ext X20, f20.ext X20⟩, ⟨L.C_Older, _, rfl, rfl, x21.ext X21, f21.ext X21⟩, ⟨L.C_BadStep, _, rfl, rfl, x22.ext X22, f22.ext X22⟩, ⟨L.C_NoStep, _, rfl, rfl, x23.ext X23, f23.ext X23⟩, ⟨L.C_Broken, _, rfl, rfl, x24.ext X24, f24.ext X24⟩, ⟨L.C_BadText, _, rfl, rfl, x25.ext X25, f25.ext X25⟩, ⟨L.C_BadLine, _, rfl, rfl, x26.ext X26, f26.ext X26⟩, ⟨L.C_UnknownRelease, _, rfl, rfl, x27.ext X27, f27.ext X27⟩, ⟨L.C_Frozen, _, rfl, rfl, x28.ext X28, f28.ext X28⟩, ⟨L.C_Clash, _, rfl, rfl, x29.ext X29, f29.ext X29⟩, True.intro⟩ F30)

/-! ### _law_fields -/
def sp__law_fields : USp := fun us M Q _ => ∃ (k : Nat) (x : U) (vs : List U), us = [.int k, x] ∧ (∃ ns, nmK[k]? = some ns ∧ FldU K M ns x vs) ∧ ∀ M', Ext M M' → Q (.lst vs) M'
theorem ok__law_fields (L : Lw K mg) : UFn P w K mg base CX0 1 L.f__law_fields L.fd__law_fields ["_law_k", "_law_e"] (sp__law_fields (K := K)) := by
  refine ufn_ok L.D__law_fields.F sc__law_fields (fun us M Q E h => ?_) (fun cdv A outer s H E hr hG =>
      (uss_cons (us_if (ut_cmp uo_lt (uv 0) ue_int (nomark _)) (uss_one (us_ret (ue_lst false ua_nil))) uss_nil)
      (uss_cons (us_if (ut_cmp (uo_in (hu2 hr)) (uv 0) (ue_tup (ua_cons ue_int (ua_cons ue_int (ua_cons ue_int ua_nil)))) (by rfl)) (uss_one (us_ret (ue_lst false (ua_cons (ue_xv (K := K) rfl (uv 1)) ua_nil)))) uss_nil)
      (uss_cons (us_if (ut_cmp (uo_in (hu2 hr)) (uv 0) (ue_tup (ua_cons ue_int (ua_cons ue_int (ua_cons ue_int (ua_cons ue_int (ua_cons ue_int ua_nil)))))) (by rfl)) (uss_one (us_ret (ue_lst false (ua_cons (ue_xv (K := K) rfl (uv 1)) ua_nil)))) uss_nil)
      (uss_cons (us_if (ut_cmp (uo_in (hu2 hr)) (uv 0) (ue_tup (ua_cons ue_int (ua_cons ue_int (ua_cons ue_int ua_nil)))) (by rfl)) (uss_one (us_ret (ue_lst false (ua_cons (ue_xv (K := K) rfl (uv 1)) ua_nil)))) uss_nil)
      (uss_cons (us_if (ut_cmp (uo_in (hu2 hr)) (uv 0) (ue_tup (ua_cons ue_int (ua_cons ue_int (ua_cons ue_int (ua_cons ue_int (ua_cons ue_int ua_nil)))))) (by rfl)) (uss_one (us_ret (ue_lst false (ua_cons (ue_xv (K := K) rfl (uv 1)) ua_nil)))) uss_nil)
      (uss_cons (us_if (ut_cmp (uo_eq (hu6 hr)) (uv 0) ue_int (nomark _)) (uss_one (us_ret (ue_lst false (ua_cons (ue_xv (K := K) rfl (uv 1)) ua_nil)))) uss_nil)
      (uss_cons (us_if (ut_cmp (uo_eq (hu6 hr)) (uv 0) ue_int (nomark _)) (uss_one (us_ret (ue_lst false (ua_cons (ue_xv (K := K) rfl (uv 1)) ua_nil)))) uss_nil)
      (uss_cons (us_if (ut_cmp (uo_eq (hu6 hr)) (uv 0) ue_int (nomark _)) (uss_one (us_ret (ue_lst false (ua_cons (ue_xv (K := K) rfl (uv 1)) ua_nil)))) uss_nil)
      (uss_cons (us_if (ut_cmp (uo_in (hu2 hr)) (uv 0) (ue_tup (ua_cons ue_int (ua_cons ue_int ua_nil))) (by rfl)) (uss_one (us_ret (ue_lst false (ua_cons (ue_xv (K := K) rfl (uv 1)) ua_nil)))) uss_nil)
      (uss_cons (us_if (ut_cmp (uo_eq (hu6 hr)) (uv 0) ue_int (nomark _)) (uss_one (us_ret (ue_lst false (ua_cons (ue_xv (K := K) rfl (uv 1)) ua_nil)))) uss_nil)
      (uss_cons (us_if (ut_cmp (uo_eq (hu6 hr)) (uv 0) ue_int (nomark _)) (uss_one (us_ret (ue_lst false (ua_cons (ue_xv (K := K) rfl (uv 1)) ua_nil)))) uss_nil)
      (uss_one (us_ret (ue_if (ut_cmp uo_lt (uv 0) ue_int (nomark _)) (ue_lst false (ua_cons (ue_xv (K := K) rfl (uv 1)) (ua_cons (ue_xv (K := K) rfl (uv 1)) ua_nil))) (ue_lst false (ua_cons (ue_xv (K := K) rfl (uv 1)) (ua_cons (ue_xv (K := K) rfl (uv 1)) ua_nil)))))))))))))))))) (fun us M Q E h => ?_)
  · obtain ⟨k, x, vs, rfl, _⟩ := h
    rfl
  · obtain ⟨k, x, vs, rfl, ⟨ns, hk, hf⟩, q⟩ := h
    have hk30 : k < 30 := (List.getElem?_eq_some_iff.mp hk).1
    have q : ZQ Q (.lst vs) M := .inl (q M Ext.refl)
    walk_at "q1"
    refine iteI (fun h => ?_) (fun h0 => ?_)
    · have hk4 : k = 0 ∨ k = 1 ∨ k = 2 ∨ k = 3 := by
        try simp at h
        omega
      have en : ns = [] := by rcases hk4 with rfl | rfl | rfl | rfl <;> exact (Option.some.inj hk).symm
      subst en
      have e : vs = [] := by
        rcases hf with ⟨_, e⟩ | ⟨a, C, dx, fs, _, _, _, _, _, e⟩
        · exact e
        · simpa using e.symm
      subst e
      exact q
    have h4 : 4 ≤ k := by
      try simp at h0
      omega
    clear h0
    refine ⟨line_le, ?_⟩
    refine iteI (fun h => ?_) (fun h => ?_)
    · have hh : k = 4 ∨ k = 14 ∨ k = 17 := by
        simp [inU, ueq] at h
        omega
      have en : ns = [("path" : Str)] := by rcases hh with rfl | rfl | rfl <;> exact (Option.some.inj hk).symm
      subst en
      obtain ⟨a, C, dx, fs, v, rfl, ha, hd, T, h1, l1, rfl⟩ := fld1 hf
      exact ⟨a, rfl, C, dx, ha, fs, hd, T, h1, v, l1, line_le, q⟩
    have n0 : ¬ ((4 : Int) = k ∨ (14 : Int) = k ∨ (17 : Int) = k) := by
      simp [inU, ueq] at h
      omega
    clear h
    refine ⟨line_le, ?_⟩
    refine iteI (fun h => ?_) (fun h => ?_)
    · have hh : k = 5 ∨ k = 22 ∨ k = 23 ∨ k = 24 ∨ k = 26 := by
        simp [inU, ueq] at h
        omega
      have en : ns = [("index" : Str)] := by rcases hh with rfl | rfl | rfl | rfl | rfl <;> exact (Option.some.inj hk).symm
      subst en
      obtain ⟨a, C, dx, fs, v, rfl, ha, hd, T, h1, l1, rfl⟩ := fld1 hf
      exact ⟨a, rfl, C, dx, ha, fs, hd, T, h1, v, l1, line_le, q⟩
    have n1 : ¬ ((5 : Int) = k ∨ (22 : Int) = k ∨ (23 : Int) = k ∨ (24 : Int) = k ∨ (26 : Int) = k) := by
      simp [inU, ueq] at h
      omega
    clear h
    refine ⟨line_le, ?_⟩
    refine iteI (fun h => ?_) (fun h => ?_)
    · have hh : k = 6 ∨ k = 7 ∨ k = 16 := by
        simp [inU, ueq] at h
        omega
      have en : ns = [("key" : Str)] := by rcases hh with rfl | rfl | rfl <;> exact (Option.some.inj hk).symm
      subst en
      obtain ⟨a, C, dx, fs, v, rfl, ha, hd, T, h1, l1, rfl⟩ := fld1 hf
      exact ⟨a, rfl, C, dx, ha, fs, hd, T, h1, v, l1, line_le, q⟩
    have n2 : ¬ ((6 : Int) = k ∨ (7 : Int) = k ∨ (16 : Int) = k) := by
      simp [inU, ueq] at h
      omega
    clear h
    refine ⟨line_le, ?_⟩
    refine iteI (fun h => ?_) (fun h => ?_)
    · have hh : k = 8 ∨ k = 10 ∨ k = 11 ∨ k = 12 ∨ k = 18 := by
        simp [inU, ueq] at h
        omega
      have en : ns = [("name" : Str)] := by rcases hh with rfl | rfl | rfl | rfl | rfl <;> exact (Option.some.inj hk).symm
      subst en
      obtain ⟨a, C, dx, fs, v, rfl, ha, hd, T, h1, l1, rfl⟩ := fld1 hf
      exact ⟨a, rfl, C, dx, ha, fs, hd, T, h1, v, l1, line_le, q⟩
    have n3 : ¬ ((8 : Int) = k ∨ (10 : Int) = k ∨ (11 : Int) = k ∨ (12 : Int) = k ∨ (18 : Int) = k) := by
      simp [inU, ueq] at h
      omega
    clear h
    refine iteI (fun h => ?_) (fun h => ?_)
    · have hh : k = 9 := by
        simp [inU, ueq] at h
        omega
      have en : ns = [("circle" : Str)] := by rcases hh with rfl <;> exact (Option.some.inj hk).symm
      subst en
      obtain ⟨a, C, dx, fs, v, rfl, ha, hd, T, h1, l1, rfl⟩ := fld1 hf
      exact ⟨a, rfl, C, dx, ha, fs, hd, T, h1, v, l1, line_le, q⟩
    have n4 : ¬ ((k : Int) = 9) := by
      simp [inU, ueq] at h
      omega
    clear h
    refine iteI (fun h => ?_) (fun h => ?_)
    · have hh : k = 13 := by
        simp [inU, ueq] at h
        omega
      have en : ns = [("user" : Str)] := by rcases hh with rfl <;> exact (Option.some.inj hk).symm
      subst en
      obtain ⟨a, C, dx, fs, v, rfl, ha, hd, T, h1, l1, rfl⟩ := fld1 hf
      exact ⟨a, rfl, C, dx, ha, fs, hd, T, h1, v, l1, line_le, q⟩
    have n5 : ¬ ((k : Int) = 13) := by
      simp [inU, ueq] at h
      omega
    clear h
    refine iteI (fun h => ?_) (fun h => ?_)
    · have hh : k = 15 := by
        simp [inU, ueq] at h
        omega
      have en : ns = [("place" : Str)] := by rcases hh with rfl <;> exact (Option.some.inj hk).symm
      subst en
      obtain ⟨a, C, dx, fs, v, rfl, ha, hd, T, h1, l1, rfl⟩ := fld1 hf
      exact ⟨a, rfl, C, dx, ha, fs, hd, T, h1, v, l1, line_le, q⟩
    have n6 : ¬ ((k : Int) = 15) := by
      simp [inU, ueq] at h
      omega
    clear h
    refine ⟨line_le, ?_⟩
    refine iteI (fun h => ?_) (fun h => ?_)
    · have hh : k = 19 ∨ k = 20 := by
        simp [inU, ueq] at h
        omega
      have en : ns = [("prop" : Str)] := by rcases hh with rfl | rfl <;> exact (Option.some.inj hk).symm
      subst en
      obtain ⟨a, C, dx, fs, v, rfl, ha, hd, T, h1, l1, rfl⟩ := fld1 hf
      exact ⟨a, rfl, C, dx, ha, fs, hd, T, h1, v, l1, line_le, q⟩
    have n7 : ¬ ((19 : Int) = k ∨ (20 : Int) = k) := by
      simp [inU, ueq] at h
      omega
    clear h
    refine iteI (fun h => ?_) (fun h => ?_)
    · have hh : k = 21 := by
        simp [inU, ueq] at h
        omega
      have en : ns = [("number" : Str)] := by rcases hh with rfl <;> exact (Option.some.inj hk).symm
      subst en
      obtain ⟨a, C, dx, fs, v, rfl, ha, hd, T, h1, l1, rfl⟩ := fld1 hf
      exact ⟨a, rfl, C, dx, ha, fs, hd, T, h1, v, l1, line_le, q⟩
    have n8 : ¬ ((k : Int) = 21) := by
      simp [inU, ueq] at h
      omega
    clear h
    refine iteI (fun h => ?_) (fun h => ?_)
    · have hh : k = 25 := by
        simp [inU, ueq] at h
        omega
      have en : ns = [("at" : Str)] := by rcases hh with rfl <;> exact (Option.some.inj hk).symm
      subst en
      obtain ⟨a, C, dx, fs, v, rfl, ha, hd, T, h1, l1, rfl⟩ := fld1 hf
      exact ⟨a, rfl, C, dx, ha, fs, hd, T, h1, v, l1, line_le, q⟩
    have n9 : ¬ ((k : Int) = 25) := by
      simp [inU, ueq] at h
      omega
    clear h
    refine iteI (fun h => ?_) (fun h => ?_)
    · have hh : k = 27 ∨ k = 28 := by
        try simp at h
        omega
      have en : ns = [("name" : Str), ("number" : Str)] := by rcases hh with rfl | rfl <;> exact (Option.some.inj hk).symm
      subst en
      obtain ⟨a, C, dx, fs, v, u, rfl, ha, hd, T, h1, h2, l1, l2, rfl⟩ := fld2 hf
      exact ⟨a, rfl, C, dx, ha, fs, hd, T, h1, v, l1, a, rfl, C, dx, ha, fs, hd, T, h2, u, l2, line_le, q⟩
    · have hh : k = 29 := by
        try simp at h
        omega
      have en : ns = [("name" : Str), ("key" : Str)] := by subst hh; exact (Option.some.inj hk).symm
      subst en
      obtain ⟨a, C, dx, fs, v, u, rfl, ha, hd, T, h1, h2, l1, l2, rfl⟩ := fld2 hf
      exact ⟨a, rfl, C, dx, ha, fs, hd, T, h1, v, l1, a, rfl, C, dx, ha, fs, hd, T, h2, u, l2, line_le, q⟩

/-! ### _law_kinds -/
def sp__law_kinds (Cs : List Addr) : USp := fun us M Q _ => ∃ a C f, us = [.ref a] ∧ ExI M a C ∧ ExcC K C ∧ (∀ j D, Cs[j]? = some D → PySem.W.kitOne K (.ref C) (.ref D) = some (f j)) ∧ ∀ M', Ext M M' → Q (.lst (((List.range 30).filter f).map fun j => .int (j : Nat))) M'
local macro_rules | `(tactic| walk_at "q2") => `(tactic| simp only [z8i,uOr,z8d,z8m,uCB,z7t,z8l,uC,z8o,z7w,uOp,uUn,z8s,z8j,uIf,z8e,z7v,z7u,z7s,uBM,z8g,uSl,z4x,z8r,z72,z7x,List.append_nil,z8t,z80,z8y,z7z,z8u,z81,z8w,z8v,xIf,z74,z8x,z8p,z3t,z8n,z7m,z7q,z7o,z7p,z5w,z5v,z7a,z3l,z3m,z75,z5g,z8k,asD,uXf,z8f,z5n,z7y,z6e,z6d,z68,z67,z63,z5h,z5i,z5j,z3v,z3w,z6f,z64,z62,z5r,z6b,z7j,z7k,z7i,z7c,z7b,z7l,z7e,z5o,z2m,z2w,z2k,z2o,z2p,z2l,z2n,z5c,z73,z5a,z5e,z5f,z5b,z3g,z5d,z3e,z2q,z2r,z3i,z3k,z3j,z39,z3a,z37,z38,z4q,z6h,z4o,z4s,z4t,z4p,z3f,z4r,z4e,z4d,z3b,z2s,z3d,z3c,z0h,z0g,z0d,z0a,z0f,z0e,z1o,z1n,z0u,z0j,z0w,z0v,z2d,z2c,z1r,z10,z1t,z1s,z2f,z2e,z1w,z14,z1y,z1x,z16,z15,z0m,z0i,z0o,z0n,z1v,z1u,z11,z0l,z13,z12,z1q,z1p,z0x,z0k,z0z,z0y,z4i,z6g,z4g,z4j,z4k,z4h,z82,z88,z46,z5x,z44,z47,z48,z45,z2v,z2j,z40,z5q,z3y,z41,z42,z3z,z2u,z2i,z6y,z70,z6x,z71,z6z,z59,z56,z57,z58,z87,z86,z7r,z79,z7n,z7d,z5y,z76,z77,z6c,z69,z6a,z8b,z8c,z89,z8a,z85,z83,z84,z4v,z4u,z6i,z78,z5m,z5l,z5k,z6n,z6o,z6p,z6q,z6r,z6s,z6t,z6u,z6v,z6w,z50,z51,z52,z53,z54,z55,z4b,z4c,z49,z27,z26,z1e,z0r,z1g,z1f,z05,z04,z2h,z2g,z1z,z17,z21,z20,z0c,z0b,z23,z22,z18,z0p,z1a,z19,z01,z00,z29,z28,z1h,z0s,z1j,z1i,z07,z06,z2b,z2a,z1k,z0t,z1m,z1l,z09,z08,z25,z24,z1b,z0q,z1d,z1c,z03,z02,z6m,z8h,z4z,z6l,z6k,z4w,z4y,z3s,z6j,z3p,z4f,z3n,z3q,z3r,z3o,z5p,z2t,z3h,z4n,z4l,z4a,z66,z65,z4m,z60,z61,z5z,z32,z2x,z33,z2y,z34,z2z,z35,z30,z36,z31,z7h,z7g,z3u,z5u,z3x,z7f,z5t,z43,z5s,cle,clt,cge,cgt,ceq,cne,lenN,xFor,xTryM,uMix,uEnum,uZip,ltT,uSortK,sortK,sortN,uDNew,uDGet,inN,setN,uDNewS,uDGetS,inS,setS,uDm,uDm0,getR,popS,setdS,getNR,setdN,popNR,itemsR,lenS,dictS,sortItR,uFld,uFst,uMake,uLock,uLockE,uKeys,sortE,sortL,xOp,reprT_1,listN,uMkV,uMkK,uXv,uExo,exists_eq_left',exists_eq_left,Option.some.injEq,U.int.injEq,U.bl.injEq,U.str.injEq,U.ref.injEq,U.tup.injEq,U.lst.injEq,U.ty.injEq,List.cons.injEq,and_true,true_and,and_self,List.map_cons,List.map_nil,List.length_cons,List.length_nil,List.cons_append,List.nil_append,List.append_nil,List.getElem?_cons_zero,List.getElem?_cons_succ,List.set_cons_zero,List.set_cons_succ,List.replicate,↓reduceIte,Bool.false_eq_true,Bool.not_true,Bool.not_false,reduceCtorEq,Nat.reduceAdd,Nat.reduceSub,Nat.reduceLeDiff,Nat.reduceEqDiff,decide_true,decide_false,at0,at1,at2,at3,at4,ix0,ix1,ix2,ix3,ix4,updM_same,beq_self_eq_true,Option.bind,Option.map,wipeU,NT.put,puts,MO.lst.injEq,exists_and_left,decide_eq_true_eq,Bool.and_eq_true,Bool.or_eq_true,exists_eq',Nat.zero_le,true_or,or_true,isVu])
theorem ok__law_kinds (L : Lw K mg) : UFn P w K mg base CX0 1 L.f__law_kinds L.fd__law_kinds ["_law_e"] (sp__law_kinds (K := K) [L.C_BadTree, L.C_BadPiece, L.C_NothingToUndo, L.C_NothingToRedo, L.C_NoNode, L.C_BadEntry, L.C_TwoEntries, L.C_NoKey, L.C_UnknownTemplate, L.C_Ring, L.C_TooLarge, L.C_BadName, L.C_NameInUse, L.C_InUse, L.C_IdInUse, L.C_NoUse, L.C_Rests, L.C_Outside, L.C_NotPlain, L.C_NoProp, L.C_PropInUse, L.C_Older, L.C_BadStep, L.C_NoStep, L.C_Broken, L.C_BadText, L.C_BadLine, L.C_UnknownRelease, L.C_Frozen, L.C_Clash]) := by
  refine ufn_ok L.D__law_kinds.F sc__law_kinds (fun us M Q E h => ?_) (fun cdv A outer s H E hr hG =>
      (uss_cons (us_set (i := 1) sc__law_kinds.nd rfl (.inr rfl) (ue_lst false (ua_cons (ue_callB (uc_isV (K := K) rfl) (by rfl) L.n_isinstance bt_isi (ua_cons (uv 0) (ua_cons (ue_gref (by rfl) L.g_BadTree) ua_nil))) (ua_cons (ue_callB (uc_isV (K := K) rfl) (by rfl) L.n_isinstance bt_isi (ua_cons (uv 0) (ua_cons (ue_gref (by rfl) L.g_BadPiece) ua_nil))) ua_nil))))
      (uss_cons (us_set (i := 1) sc__law_kinds.nd rfl (.inr rfl) (ue_op (uo_add false) (uv 1) (ue_lst false (ua_cons (ue_callB (uc_isV (K := K) rfl) (by rfl) L.n_isinstance bt_isi (ua_cons (uv 0) (ua_cons (ue_gref (by rfl) L.g_NothingToUndo) ua_nil))) (ua_cons (ue_callB (uc_isV (K := K) rfl) (by rfl) L.n_isinstance bt_isi (ua_cons (uv 0) (ua_cons (ue_gref (by rfl) L.g_NothingToRedo) ua_nil))) ua_nil)))))
      (uss_cons (us_set (i := 1) sc__law_kinds.nd rfl (.inr rfl) (ue_op (uo_add false) (uv 1) (ue_lst false (ua_cons (ue_callB (uc_isV (K := K) rfl) (by rfl) L.n_isinstance bt_isi (ua_cons (uv 0) (ua_cons (ue_gref (by rfl) L.g_NoNode) ua_nil))) (ua_cons (ue_callB (uc_isV (K := K) rfl) (by rfl) L.n_isinstance bt_isi (ua_cons (uv 0) (ua_cons (ue_gref (by rfl) L.g_BadEntry) ua_nil))) ua_nil)))))
      (uss_cons (us_set (i := 1) sc__law_kinds.nd rfl (.inr rfl) (ue_op (uo_add false) (uv 1) (ue_lst false (ua_cons (ue_callB (uc_isV (K := K) rfl) (by rfl) L.n_isinstance bt_isi (ua_cons (uv 0) (ua_cons (ue_gref (by rfl) L.g_TwoEntries) ua_nil))) (ua_cons (ue_callB (uc_isV (K := K) rfl) (by rfl) L.n_isinstance bt_isi (ua_cons (uv 0) (ua_cons (ue_gref (by rfl) L.g_NoKey) ua_nil))) ua_nil)))))
      (uss_cons (us_set (i := 1) sc__law_kinds.nd rfl (.inr rfl) (ue_op (uo_add false) (uv 1) (ue_lst false (ua_cons (ue_callB (uc_isV (K := K) rfl) (by rfl) L.n_isinstance bt_isi (ua_cons (uv 0) (ua_cons (ue_gref (by rfl) L.g_UnknownTemplate) ua_nil))) (ua_cons (ue_callB (uc_isV (K := K) rfl) (by rfl) L.n_isinstance bt_isi (ua_cons (uv 0) (ua_cons (ue_gref (by rfl) L.g_Ring) ua_nil))) ua_nil)))))
      (uss_cons (us_set (i := 1) sc__law_kinds.nd rfl (.inr rfl) (ue_op (uo_add false) (uv 1) (ue_lst false (ua_cons (ue_callB (uc_isV (K := K) rfl) (by rfl) L.n_isinstance bt_isi (ua_cons (uv 0) (ua_cons (ue_gref (by rfl) L.g_TooLarge) ua_nil))) (ua_cons (ue_callB (uc_isV (K := K) rfl) (by rfl) L.n_isinstance bt_isi (ua_cons (uv 0) (ua_cons (ue_gref (by rfl) L.g_BadName) ua_nil))) ua_nil)))))
      (uss_cons (us_set (i := 1) sc__law_kinds.nd rfl (.inr rfl) (ue_op (uo_add false) (uv 1) (ue_lst false (ua_cons (ue_callB (uc_isV (K := K) rfl) (by rfl) L.n_isinstance bt_isi (ua_cons (uv 0) (ua_cons (ue_gref (by rfl) L.g_NameInUse) ua_nil))) (ua_cons (ue_callB (uc_isV (K := K) rfl) (by rfl) L.n_isinstance bt_isi (ua_cons (uv 0) (ua_cons (ue_gref (by rfl) L.g_InUse) ua_nil))) ua_nil)))))
      (uss_cons (us_set (i := 1) sc__law_kinds.nd rfl (.inr rfl) (ue_op (uo_add false) (uv 1) (ue_lst false (ua_cons (ue_callB (uc_isV (K := K) rfl) (by rfl) L.n_isinstance bt_isi (ua_cons (uv 0) (ua_cons (ue_gref (by rfl) L.g_IdInUse) ua_nil))) (ua_cons (ue_callB (uc_isV (K := K) rfl) (by rfl) L.n_isinstance bt_isi (ua_cons (uv 0) (ua_cons (ue_gref (by rfl) L.g_NoUse) ua_nil))) ua_nil)))))
      (uss_cons (us_set (i := 1) sc__law_kinds.nd rfl (.inr rfl) (ue_op (uo_add false) (uv 1) (ue_lst false (ua_cons (ue_callB (uc_isV (K := K) rfl) (by rfl) L.n_isinstance bt_isi (ua_cons (uv 0) (ua_cons (ue_gref (by rfl) L.g_Rests) ua_nil))) (ua_cons (ue_callB (uc_isV (K := K) rfl) (by rfl) L.n_isinstance bt_isi (ua_cons (uv 0) (ua_cons (ue_gref (by rfl) L.g_Outside) ua_nil))) ua_nil)))))
      (uss_cons (us_set (i := 1) sc__law_kinds.nd rfl (.inr rfl) (ue_op (uo_add false) (uv 1) (ue_lst false (ua_cons (ue_callB (uc_isV (K := K) rfl) (by rfl) L.n_isinstance bt_isi (ua_cons (uv 0) (ua_cons (ue_gref (by rfl) L.g_NotPlain) ua_nil))) (ua_cons (ue_callB (uc_isV (K := K) rfl) (by rfl) L.n_isinstance bt_isi (ua_cons (uv 0) (ua_cons (ue_gref (by rfl) L.g_NoProp) ua_nil))) ua_nil)))))
      (uss_cons (us_set (i := 1) sc__law_kinds.nd rfl (.inr rfl) (ue_op (uo_add false) (uv 1) (ue_lst false (ua_cons (ue_callB (uc_isV (K := K) rfl) (by rfl) L.n_isinstance bt_isi (ua_cons (uv 0) (ua_cons (ue_gref (by rfl) L.g_PropInUse) ua_nil))) (ua_cons (ue_callB (uc_isV (K := K) rfl) (by rfl) L.n_isinstance bt_isi (ua_cons (uv 0) (ua_cons (ue_gref (by rfl) L.g_Older) ua_nil))) ua_nil)))))
      (uss_cons (us_set (i := 1) sc__law_kinds.nd rfl (.inr rfl) (ue_op (uo_add false) (uv 1) (ue_lst false (ua_cons (ue_callB (uc_isV (K := K) rfl) (by rfl) L.n_isinstance bt_isi (ua_cons (uv 0) (ua_cons (ue_gref (by rfl) L.g_BadStep) ua_nil))) (ua_cons (ue_callB (uc_isV (K := K) rfl) (by rfl) L.n_isinstance bt_isi (ua_cons (uv 0) (ua_cons (ue_gref (by rfl) L.g_NoStep) ua_nil))) ua_nil)))))
      (uss_cons (us_set (i := 1) sc__law_kinds.nd rfl (.inr rfl) (ue_op (uo_add false) (uv 1) (ue_lst false (ua_cons (ue_callB (uc_isV (K := K) rfl) (by rfl) L.n_isinstance bt_isi (ua_cons (uv 0) (ua_cons (ue_gref (by rfl) L.g_Broken) ua_nil))) (ua_cons (ue_callB (uc_isV (K := K) rfl) (by rfl) L.n_isinstance bt_isi (ua_cons (uv 0) (ua_cons (ue_gref (by rfl) L.g_BadText) ua_nil))) ua_nil)))))
      (uss_cons (us_set (i := 1) sc__law_kinds.nd rfl (.inr rfl) (ue_op (uo_add false) (uv 1) (ue_lst false (ua_cons (ue_callB (uc_isV (K := K) rfl) (by rfl) L.n_isinstance bt_isi (ua_cons (uv 0) (ua_cons (ue_gref (by rfl) L.g_BadLine) ua_nil))) (ua_cons (ue_callB (uc_isV (K := K) rfl) (by rfl) L.n_isinstance bt_isi (ua_cons (uv 0) (ua_cons (ue_gref (by rfl) L.g_UnknownRelease) ua_nil))) ua_nil)))))
      (uss_cons (us_set (i := 1) sc__law_kinds.nd rfl (.inr rfl) (ue_op (uo_add false) (uv 1) (ue_lst false (ua_cons (ue_callB (uc_isV (K := K) rfl) (by rfl) L.n_isinstance bt_isi (ua_cons (uv 0) (ua_cons (ue_gref (by rfl) L.g_Frozen) ua_nil))) (ua_cons (ue_callB (uc_isV (K := K) rfl) (by rfl) L.n_isinstance bt_isi (ua_cons (uv 0) (ua_cons (ue_gref (by rfl) L.g_Clash) ua_nil))) ua_nil)))))
      (uss_one (us_ret (ue_lc (own := [("_law_k", 2)]) (n := (.one 2)) false rfl sc__law_kinds.nd (ui_range1 (by rfl) L.n_range (ua_cons ue_int ua_nil)) (blkOk_by (own := [("_law_k", 2)]) (N := ["_law_e", "_law_found", "_law_k"]) (sc := defScope s__law_kinds) (by decide +kernel)) (by decide) (fun _ _ _ _ _ => (pg_nt sc__law_kinds.nd rfl (.inl rfl))) (fun _ _ _ _ _ => (uts_one (ut_val (ue_ix (uv 1) (uv 2))))) (fun _ _ _ _ _ => (uv 2))))))))))))))))))))) (fun us M Q E h => ?_)
  · obtain ⟨a, C, f, rfl, _⟩ := h
    rfl
  · obtain ⟨a, C, f, rfl, hx, T, hk, q⟩ := h
    refine seq_oneM ?_
    walk_at "q2"
    refine ⟨C, hx, T, _, rfl, _, hk 0 _ rfl, ?_⟩
    refine ⟨C, hx, T, _, rfl, _, hk 1 _ rfl, line_le, ?_⟩
    refine seq_oneM ?_
    walk_at "q2"
    refine ⟨C, hx, T, _, rfl, _, hk 2 _ rfl, ?_⟩
    refine ⟨C, hx, T, _, rfl, _, hk 3 _ rfl, line_le, line_le, ?_⟩
    refine seq_oneM ?_
    walk_at "q2"
    refine ⟨C, hx, T, _, rfl, _, hk 4 _ rfl, ?_⟩
    refine ⟨C, hx, T, _, rfl, _, hk 5 _ rfl, line_le, line_le, ?_⟩
    refine seq_oneM ?_
    walk_at "q2"
    refine ⟨C, hx, T, _, rfl, _, hk 6 _ rfl, ?_⟩
    refine ⟨C, hx, T, _, rfl, _, hk 7 _ rfl, line_le, line_le, ?_⟩
    refine seq_oneM ?_
    walk_at "q2"
    refine ⟨C, hx, T, _, rfl, _, hk 8 _ rfl, ?_⟩
    refine ⟨C, hx, T, _, rfl, _, hk 9 _ rfl, line_le, line_le, ?_⟩
    refine seq_oneM ?_
    walk_at "q2"
    refine ⟨C, hx, T, _, rfl, _, hk 10 _ rfl, ?_⟩
    refine ⟨C, hx, T, _, rfl, _, hk 11 _ rfl, line_le, line_le, ?_⟩
    refine seq_oneM ?_
    walk_at "q2"
    refine ⟨C, hx, T, _, rfl, _, hk 12 _ rfl, ?_⟩
    refine ⟨C, hx, T, _, rfl, _, hk 13 _ rfl, line_le, line_le, ?_⟩
    refine seq_oneM ?_
    walk_at "q2"
    refine ⟨C, hx, T, _, rfl, _, hk 14 _ rfl, ?_⟩
    refine ⟨C, hx, T, _, rfl, _, hk 15 _ rfl, line_le, line_le, ?_⟩
    refine seq_oneM ?_
    walk_at "q2"
    refine ⟨C, hx, T, _, rfl, _, hk 16 _ rfl, ?_⟩
    refine ⟨C, hx, T, _, rfl, _, hk 17 _ rfl, line_le, line_le, ?_⟩
    refine seq_oneM ?_
    walk_at "q2"
    refine ⟨C, hx, T, _, rfl, _, hk 18 _ rfl, ?_⟩
    refine ⟨C, hx, T, _, rfl, _, hk 19 _ rfl, line_le, line_le, ?_⟩
    refine seq_oneM ?_
    walk_at "q2"
    refine ⟨C, hx, T, _, rfl, _, hk 20 _ rfl, ?_⟩
    refine ⟨C, hx, T, _, rfl, _, hk 21 _ rfl, line_le, line_le, ?_⟩
    refine seq_oneM ?_
    walk_at "q2"
    refine ⟨C, hx, T, _, rfl, _, hk 22 _ rfl, ?_⟩
    refine ⟨C, hx, T, _, rfl, _, hk 23 _ rfl, line_le, line_le, ?_⟩
    refine seq_oneM ?_
    walk_at "q2"
    refine ⟨C, hx, T, _, rfl, _, hk 24 _ rfl, ?_⟩
    refine ⟨C, hx, T, _, rfl, _, hk 25 _ rfl, line_le, line_le, ?_⟩
    refine seq_oneM ?_
    walk_at "q2"
    refine ⟨C, hx, T, _, rfl, _, hk 26 _ rfl, ?_⟩
    refine ⟨C, hx, T, _, rfl, _, hk 27 _ rfl, line_le, line_le, ?_⟩
    refine seq_oneM ?_
    simp only [uLc,z8i,uOr,z8d,z8m,uCB,z7t,z8l,uC,z8o,z7w,uOp,uUn,z8s,z8j,uIf,z8e,z7v,z7u,z7s,uBM,z8g,uSl,z4x,z8r,z72,z7x,List.append_nil,z8t,z80,z8y,z7z,z8u,z81,z8w,z8v,xIf,z74,z8x,z8p,z3t,z8n,z7m,z7q,z7o,z7p,z5w,z5v,z7a,z3l,z3m,z75,z5g,z8k,asD,uXf,z8f,z5n,z7y,z6e,z6d,z68,z67,z63,z5h,z5i,z5j,z3v,z3w,z6f,z64,z62,z5r,z6b,z7j,z7k,z7i,z7c,z7b,z7l,z7e,z5o,z2m,z2w,z2k,z2o,z2p,z2l,z2n,z5c,z73,z5a,z5e,z5f,z5b,z3g,z5d,z3e,z2q,z2r,z3i,z3k,z3j,z39,z3a,z37,z38,z4q,z6h,z4o,z4s,z4t,z4p,z3f,z4r,z4e,z4d,z3b,z2s,z3d,z3c,z0h,z0g,z0d,z0a,z0f,z0e,z1o,z1n,z0u,z0j,z0w,z0v,z2d,z2c,z1r,z10,z1t,z1s,z2f,z2e,z1w,z14,z1y,z1x,z16,z15,z0m,z0i,z0o,z0n,z1v,z1u,z11,z0l,z13,z12,z1q,z1p,z0x,z0k,z0z,z0y,z4i,z6g,z4g,z4j,z4k,z4h,z82,z88,z46,z5x,z44,z47,z48,z45,z2v,z2j,z40,z5q,z3y,z41,z42,z3z,z2u,z2i,z6y,z70,z6x,z71,z6z,z59,z56,z57,z58,z87,z86,z7r,z79,z7n,z7d,z5y,z76,z77,z6c,z69,z6a,z8b,z8c,z89,z8a,z85,z83,z84,z4v,z4u,z6i,z78,z5m,z5l,z5k,z6n,z6o,z6p,z6q,z6r,z6s,z6t,z6u,z6v,z6w,z50,z51,z52,z53,z54,z55,z4b,z4c,z49,z27,z26,z1e,z0r,z1g,z1f,z05,z04,z2h,z2g,z1z,z17,z21,z20,z0c,z0b,z23,z22,z18,z0p,z1a,z19,z01,z00,z29,z28,z1h,z0s,z1j,z1i,z07,z06,z2b,z2a,z1k,z0t,z1m,z1l,z09,z08,z25,z24,z1b,z0q,z1d,z1c,z03,z02,z6m,z8h,z4z,z6l,z6k,z4w,z4y,z3s,z6j,z3p,z4f,z3n,z3q,z3r,z3o,z5p,z2t,z3h,z4n,z4l,z4a,z66,z65,z4m,z60,z61,z5z,z32,z2x,z33,z2y,z34,z2z,z35,z30,z36,z31,z7h,z7g,z3u,z5u,z3x,z7f,z5t,z43,z5s,cle,clt,cge,cgt,ceq,cne,lenN,xFor,xTryM,uMix,uEnum,uZip,ltT,uSortK,sortK,sortN,uDNew,uDGet,inN,setN,uDNewS,uDGetS,inS,setS,uDm,uDm0,getR,popS,setdS,getNR,setdN,popNR,itemsR,lenS,dictS,sortItR,uFld,uFst,uMake,uLock,uLockE,uKeys,sortE,sortL,xOp,reprT_1,listN,uMkV,uMkK,uXv,uExo,exists_eq_left',exists_eq_left,Option.some.injEq,U.int.injEq,U.bl.injEq,U.str.injEq,U.ref.injEq,U.tup.injEq,U.lst.injEq,U.ty.injEq,List.cons.injEq,and_true,true_and,and_self,List.map_cons,List.map_nil,List.length_cons,List.length_nil,List.cons_append,List.nil_append,List.append_nil,List.getElem?_cons_zero,List.getElem?_cons_succ,List.set_cons_zero,List.set_cons_succ,List.replicate,↓reduceIte,Bool.false_eq_true,Bool.not_true,Bool.not_false,reduceCtorEq,Nat.reduceAdd,Nat.reduceSub,Nat.reduceLeDiff,Nat.reduceEqDiff,decide_true,decide_false,at0,at1,at2,at3,at4,ix0,ix1,ix2,ix3,ix4,updM_same,beq_self_eq_true,Option.bind,Option.map,wipeU,NT.put,puts,MO.lst.injEq,exists_and_left,decide_eq_true_eq,Bool.and_eq_true,Bool.or_eq_true,exists_eq',Nat.zero_le,true_or,or_true,isVu]
    refine ⟨C, hx, T, _, rfl, _, hk 28 _ rfl, ?_⟩
    refine ⟨C, hx, T, _, rfl, _, hk 29 _ rfl, line_le, line_le, ?_⟩
    refine ⟨by decide, by decide, line_le, ?_⟩
    rw [show [U.bl (f 0), U.bl (f 1), U.bl (f 2), U.bl (f 3), U.bl (f 4), U.bl (f 5), U.bl (f 6), U.bl (f 7), U.bl (f 8), U.bl (f 9), U.bl (f 10), U.bl (f 11), U.bl (f 12), U.bl (f 13), U.bl (f 14), U.bl (f 15), U.bl (f 16), U.bl (f 17), U.bl (f 18), U.bl (f 19), U.bl (f 20), U.bl (f 21), U.bl (f 22), U.bl (f 23), U.bl (f 24), U.bl (f 25), U.bl (f 26), U.bl (f 27), U.bl (f 28), U.bl (f 29)] = (List.range 30).map (fun j => U.bl (f j)) from rfl]
    have q : ZQ Q (.lst (((List.range 30).filter f).map fun j => .int (j : Nat))) M := .inl (q M Ext.refl)
    refine lc_pure id (fun x => match x with | .int i => f i.toNat | _ => false) (fun _ _ _ => True.intro) (fun D acc hD x hx => ?_) ?_
    · obtain ⟨j, hj⟩ := List.getElem?_of_mem hx
      obtain ⟨rfl, hj2⟩ := range_nth hj
      have hj3 : j < 30 := hj2
      have hat : atI ((List.range 30).map fun j => U.bl (f j)) (j : Int) = some (.bl (f j)) := atI_nat (by rw [List.getElem?_map, List.getElem?_range hj3]; rfl)
      refine ⟨_, rfl, fun Q q => ?_, fun _ Q q => ?_⟩
      · simp only [z8i,uOr,z8d,z8m,uCB,z7t,z8l,uC,z8o,z7w,uOp,uUn,z8s,z8j,uIf,z8e,z7v,z7u,z7s,uBM,z8g,uSl,z4x,z8r,z72,z8q,z7x,List.append_nil,z8t,z80,z8y,z7z,z8u,z81,z8w,z8v,xIf,z74,z8x,z8p,z3t,z8n,z7m,z7q,z7o,z7p,z5w,z5v,z7a,z3l,z3m,z75,z5g,z8k,asD,uXf,z8f,z5n,z7y,z6e,z6d,z68,z67,z63,z5h,z5i,z5j,z3v,z3w,z6f,z64,z62,z5r,z6b,z7j,z7k,z7i,z7c,z7b,z7l,z7e,z5o,z2m,z2w,z2k,z2o,z2p,z2l,z2n,z5c,z73,z5a,z5e,z5f,z5b,z3g,z5d,z3e,z2q,z2r,z3i,z3k,z3j,z39,z3a,z37,z38,z4q,z6h,z4o,z4s,z4t,z4p,z3f,z4r,z4e,z4d,z3b,z2s,z3d,z3c,z0h,z0g,z0d,z0a,z0f,z0e,z1o,z1n,z0u,z0j,z0w,z0v,z2d,z2c,z1r,z10,z1t,z1s,z2f,z2e,z1w,z14,z1y,z1x,z16,z15,z0m,z0i,z0o,z0n,z1v,z1u,z11,z0l,z13,z12,z1q,z1p,z0x,z0k,z0z,z0y,z4i,z6g,z4g,z4j,z4k,z4h,z82,z88,z46,z5x,z44,z47,z48,z45,z2v,z2j,z40,z5q,z3y,z41,z42,z3z,z2u,z2i,z6y,z70,z6x,z71,z6z,z59,z56,z57,z58,z87,z86,z7r,z79,z7n,z7d,z5y,z76,z77,z6c,z69,z6a,z8b,z8c,z89,z8a,z85,z83,z84,z4v,z4u,z6i,z78,z5m,z5l,z5k,z6n,z6o,z6p,z6q,z6r,z6s,z6t,z6u,z6v,z6w,z50,z51,z52,z53,z54,z55,z4b,z4c,z49,z27,z26,z1e,z0r,z1g,z1f,z05,z04,z2h,z2g,z1z,z17,z21,z20,z0c,z0b,z23,z22,z18,z0p,z1a,z19,z01,z00,z29,z28,z1h,z0s,z1j,z1i,z07,z06,z2b,z2a,z1k,z0t,z1m,z1l,z09,z08,z25,z24,z1b,z0q,z1d,z1c,z03,z02,z6m,z8h,z4z,z6l,z6k,z4w,z4y,z3s,z6j,z3p,z4f,z3n,z3q,z3r,z3o,z5p,z2t,z3h,z4n,z4l,z4a,z66,z65,z4m,z60,z61,z5z,z32,z2x,z33,z2y,z34,z2z,z35,z30,z36,z31,z7h,z7g,z3u,z5u,z3x,z7f,z5t,z43,z5s,cle,clt,cge,cgt,ceq,cne,lenN,xFor,xTryM,uMix,uEnum,uZip,ltT,uSortK,sortK,sortN,uDNew,uDGet,inN,setN,uDNewS,uDGetS,inS,setS,uDm,uDm0,getR,popS,setdS,getNR,setdN,popNR,itemsR,lenS,dictS,sortItR,uFld,uFst,uMake,uLock,uLockE,uKeys,sortE,sortL,xOp,reprT_1,listN,uMkV,uMkK,uXv,uExo,exists_eq_left',exists_eq_left,Option.some.injEq,U.int.injEq,U.bl.injEq,U.str.injEq,U.ref.injEq,U.tup.injEq,U.lst.injEq,U.ty.injEq,List.cons.injEq,and_true,true_and,and_self,List.map_cons,List.map_nil,List.length_cons,List.length_nil,List.cons_append,List.nil_append,List.append_nil,List.getElem?_cons_zero,List.getElem?_cons_succ,List.set_cons_zero,List.set_cons_succ,List.replicate,↓reduceIte,Bool.false_eq_true,Bool.not_true,Bool.not_false,reduceCtorEq,Nat.reduceAdd,Nat.reduceSub,Nat.reduceLeDiff,Nat.reduceEqDiff,decide_true,decide_false,at0,at1,at2,at3,at4,ix0,ix1,ix2,ix3,ix4,updM_same,beq_self_eq_true,Option.bind,Option.map,wipeU,NT.put,puts,MO.lst.injEq,exists_and_left,decide_eq_true_eq,Bool.and_eq_true,Bool.or_eq_true,exists_eq',Nat.zero_le,true_or,or_true,hat]
        exact q
      · walk_at "q1"
        exact q
    · have e : rangeU 0 (Int.toNat 30) = (List.range 30).map (fun j => U.int (j : Nat)) := by
        unfold rangeU
        exact List.map_congr_left fun j _ => by simp
      rw [e, List.filter_map, List.map_id]
      exact q

/-! ### law -/
theorem Strm.ext {M M' : UHp} {s c : Addr} {n : Nat} (h : Strm M s c n) (e : Ext M M') : Strm M' s c n := by
  obtain ⟨h1, ks, a, b, d, e1, e2, r⟩ := h
  exact ⟨h1, ks, a, b, d, e _ _ e1, e _ _ e2, r⟩

mutual
theorem tup_same : ∀ x : U, isD (tupU x) = isD x ∧ dep (tupU x) = dep x ∧ wid (tupU x) = wid x ∧ sz (tupU x) = sz x ∧ shw (tupU x) = shw x
  | .non => ⟨rfl, rfl, rfl, rfl, rfl⟩
  | .bl _ => ⟨rfl, rfl, rfl, rfl, rfl⟩
  | .int _ => ⟨rfl, rfl, rfl, rfl, rfl⟩
  | .str _ => ⟨rfl, rfl, rfl, rfl, rfl⟩
  | .ref _ => ⟨rfl, rfl, rfl, rfl, rfl⟩
  | .ty _ => ⟨rfl, rfl, rfl, rfl, rfl⟩
  | .tup xs => by
    obtain ⟨h1, h2, h3, h4, h5, h6⟩ := tups_same xs
    exact ⟨by simp only [tupU,isD,h1], by simp only [tupU,dep,h2], by simp only [tupU,wid,h3,h6], by simp only [tupU,sz,h4], by simp only [tupU,shw,h5]⟩
  | .lst xs => by
    obtain ⟨h1, h2, h3, h4, h5, h6⟩ := tups_same xs
    exact ⟨by simp only [tupU,isD,h1], by simp only [tupU,dep,h2], by simp only [tupU,wid,h3,h6], by simp only [tupU,sz,h4], by simp only [tupU,shw,h5]⟩
theorem tups_same : ∀ xs : List U, isDs (tupUs xs) = isDs xs ∧ deps (tupUs xs) = deps xs ∧ wids (tupUs xs) = wids xs ∧ szs (tupUs xs) = szs xs ∧ shws (tupUs xs) = shws xs ∧ (tupUs xs).length = xs.length
  | [] => ⟨rfl, rfl, rfl, rfl, rfl, rfl⟩
  | x :: xs => by
    obtain ⟨a1, a2, a3, a4, a5⟩ := tup_same x
    obtain ⟨h1, h2, h3, h4, h5, h6⟩ := tups_same xs
    exact ⟨by simp only [tupUs,isDs,a1,h1], by simp only [tupUs,deps,a2,h2], by simp only [tupUs,wids,a3,h3], by simp only [tupUs,szs,a4,h4], by simp only [tupUs,shws,a5,h5], by simp only [tupUs,List.length_cons,h6]⟩
end
theorem Dt.tupd {k n : Nat} {x : U} (h : Dt k n x) : Dt k n (tupU x) := by
  obtain ⟨a1, a2, a3, a4, a5⟩ := tup_same x
  exact ⟨by rw [a1]; exact h.d, by rw [a5]; exact h.s, by rw [a2]; exact h.p, by rw [a4]; exact h.z, by rw [a3]; exact h.w⟩
theorem ty_dat {M : UHp} {y : U} (h : isD y = true) (hl : ∀ xs, y ≠ .lst xs) : ∃ t, tyM M y = some t ∧ subT t "list" = false := by
  cases y with
  | lst xs => exact absurd rfl (hl xs)
  | ref a => simp [isD] at h
  | ty n => simp [isD] at h
  | non => exact ⟨_, rfl, by decide⟩
  | bl b => exact ⟨_, rfl, by decide⟩
  | int i => exact ⟨_, rfl, by decide⟩
  | str z => exact ⟨_, rfl, by decide⟩
  | tup xs => exact ⟨_, rfl, by decide⟩
/-- all but lists stands -/
def KpE (M M' : UHp) : Prop := ∀ b o, M b = some o → (∀ xs, o ≠ .lst xs) → M' b = some o
theorem KpE.refl {M : UHp} : KpE M M := fun _ _ h _ => h
theorem KpE.trans {M M1 M2 : UHp} (a : KpE M M1) (b : KpE M1 M2) : KpE M M2 := fun x o h n => b x o (a x o h n) n
theorem Ext.kp {M M' : UHp} (h : Ext M M') : KpE M M' := fun b o e _ => h b o e
theorem KpE.set {M M' : UHp} {d : Addr} {o : MO} {ys : List U} (h : KpE M M') (hd : M' d = some (.lst ys)) : KpE M (updM M' d o) := fun b u e n => by
  by_cases k : b = d
  · have := h b u e n
    rw [k, hd] at this
    cases this
    exact (n _ rfl).elim
  · rw [updM_ne k]; exact h b u e n
theorem But.kpe {s c : Addr} {M M' : UHp} {n : Nat} (h : But s c M M') (hS : Strm M s c n) : KpE M M' := fun b o e k => by
  obtain ⟨_, ks, x, y, d, q1, q2, _⟩ := hS
  refine h b ?_ ?_ o e
  · rintro rfl
    rw [q1] at e; cases e
    exact k _ rfl
  · rintro rfl
    rw [q2] at e; cases e
    exact k _ rfl
theorem ExI.kpe {M M' : UHp} {a C : Addr} (h : ExI M a C) (E : KpE M M') : ExI M' a C := by
  rcases h with h | ⟨dx, fs, h1, h2⟩
  · exact .inl (E _ _ h fun _ => nofun)
  · exact .inr ⟨dx, fs, E _ _ h1 (fun _ => nofun), E _ _ h2 fun _ => nofun⟩
theorem FldU.kpe {M M' : UHp} {ns : List Str} {x : U} {vs : List U} (h : FldU K M ns x vs) (E : KpE M M') : FldU K M' ns x vs := by
  rcases h with h | ⟨a, C, dx, fs, rfl, ha, hd, T, hf, hl⟩
  · exact .inl h
  · exact .inr ⟨a, C, dx, fs, rfl, E _ _ ha (fun _ => nofun), E _ _ hd (fun _ => nofun), T, hf, hl⟩
theorem MadeU.kpe {M M' : UHp} {Cs : List Addr} {dues : List U} {i : Nat} {a : Addr} (h : MadeU K M Cs dues i a) (E : KpE M M') : MadeU K M' Cs dues i a := by
  obtain ⟨C, ns, h1, h2, h3, h4⟩ := h
  exact ⟨C, ns, h1, h2, h3.kpe E, h4.kpe E⟩
theorem MadeL.kpe {M M' : UHp} {Cs : List Addr} {dues : List U} (E : KpE M M') : ∀ {as : List Addr} {j : Nat}, MadeL K M Cs dues j as → MadeL K M' Cs dues j as
  | [], _, _ => True.intro
  | _ :: _, _, h => ⟨h.1.kpe E, MadeL.kpe E h.2⟩
/-- what is kept: the errors of a turn and what they were made of -/
def KeptU (K : PySem.W.Frag) (M : UHp) (Cs : List Addr) (it : U) : Prop := ∃ (as : List Addr) (X Y : U), it = .tup [.lst (as.map .ref), .lst [X, Y]] ∧ as.length = 30 ∧ MadeL K M Cs [X, Y] 0 as ∧ Dt 4 4000 X ∧ Dt 4 4000 Y
theorem KeptU.kpe {M M' : UHp} {Cs : List Addr} {it : U} (h : KeptU K M Cs it) (E : KpE M M') : KeptU K M' Cs it := by
  obtain ⟨as, X, Y, e, h1, h2, h3, h4⟩ := h
  exact ⟨as, X, Y, e, h1, h2.kpe E, h3, h4⟩
/-- what holds of a class and its number -/
def ClsU (K : PySem.W.Frag) (Cs : List Addr) (V : Addr) (i : Nat) (C : Addr) : Prop := ExcC K C ∧ (∀ j D, Cs[j]? = some D → PySem.W.kitOne K (.ref C) (.ref D) = some (j == i)) ∧ PySem.W.kitOne K (.ref C) (.ref V) = some true ∧ PySem.W.kitOne K (.ref C) (.type "ValueError") = some true
def ClsL (K : PySem.W.Frag) (Cs : List Addr) (V : Addr) : Nat → List Addr → Prop
  | _, [] => True
  | i, C :: r => ClsU K Cs V i C ∧ ClsL K Cs V (i + 1) r
theorem ClsL.get {Cs : List Addr} {V : Addr} : ∀ {l : List Addr} {j i : Nat} {C : Addr}, ClsL K Cs V j l → l[i]? = some C → ClsU K Cs V (j + i) C
  | [], _, _, _, _, e => by simp at e
  | b :: l, j, 0, C, h, e => by
    simp at e; subst e; exact h.1
  | b :: l, j, i + 1, C, h, e => by
    have := ClsL.get h.2 (show l[i]? = some C by simpa using e)
    rwa [show j + 1 + i = j + (i + 1) by omega] at this
theorem any_none {t : Value} : ∀ {l : List Value}, PySem.W.kitAny K t l = some false → ∀ c ∈ l, PySem.W.kitOne K t c = some false
  | [], _, _, h => by cases h
  | d :: l, e, c, h => by
    unfold PySem.W.kitAny at e
    cases e1 : PySem.W.kitOne K t d with
    | none => rw [e1] at e; cases e
    | some b =>
      rw [e1] at e
      cases b with
      | true => cases e
      | false =>
        rcases List.mem_cons.mp h with rfl | h
        · exact e1
        · exact any_none e c h
theorem row_kit {Cs : List Addr} {C : Addr} {i : Nat} (hi : Cs[i]? = some C) (h : PySem.W.kitAny K (.ref C) ((Cs.eraseIdx i).map .ref) = some false) (j : Nat) (D : Addr) (hj : Cs[j]? = some D) : PySem.W.kitOne K (.ref C) (.ref D) = some (j == i) := by
  by_cases e : j = i
  · subst e
    rw [hi] at hj
    obtain rfl := Option.some.inj hj
    rw [beq_self_eq_true]
    unfold PySem.W.kitOne
    rw [if_pos (by simp)]
  · rw [beq_eq_false_iff_ne.mpr e]
    exact any_none h _ (List.mem_map.mpr ⟨D, List.mem_eraseIdx_iff_getElem?.mpr ⟨j, e, hj⟩, rfl⟩)
theorem row_none {Cs : List Addr} {C : Addr} (hl : Cs.length = 30) (h : PySem.W.kitAny K (.ref C) (Cs.map .ref) = some false) (j : Nat) (D : Addr) (hj : Cs[j]? = some D) : PySem.W.kitOne K (.ref C) (.ref D) = some (j == 30) := by
  have lt := (List.getElem?_eq_some_iff.mp hj).1
  rw [beq_eq_false_iff_ne.mpr (by omega)]
  exact any_none h _ (List.mem_map.mpr ⟨D, List.mem_of_getElem? hj, rfl⟩)
theorem filt_one {k : Nat} (h : k < 30) : ((List.range 30).filter (fun j => j == k)).map (fun j : Nat => U.int (j : Nat)) = [.int k] := by
  have : ∀ k, k < 30 → (List.range 30).filter (fun j => j == k) = [k] := by decide
  rw [this k h]
  rfl
theorem filt_none : ((List.range 30).filter (fun j => j == 30)).map (fun j : Nat => U.int (j : Nat)) = [] := by decide
/-- the dues of the error with the number k -/
theorem dues_at {X Y : U} {k : Nat} {ns : List Str} (hn : nmK[k]? = some ns) : (List.replicate 4 (U.lst []) ++ List.replicate 23 (U.lst [X]) ++ List.replicate 3 (U.lst [X, Y]))[k]? = some (.lst ([X, Y].take ns.length)) := by
  have hk : k < 30 := (List.getElem?_eq_some_iff.mp hn).1
  have hm : nmK.map (·.length) = List.replicate 4 0 ++ List.replicate 23 1 ++ List.replicate 3 2 := by decide
  have h2 : (nmK.map (·.length))[k]? = some ns.length := by rw [List.getElem?_map, hn]; rfl
  have e : (List.replicate 4 (U.lst []) ++ List.replicate 23 (U.lst [X]) ++ List.replicate 3 (U.lst [X, Y])) = (nmK.map (·.length)).map (fun n => U.lst ([X, Y].take n)) := by rw [hm]; rfl
  rw [e, List.getElem?_map, h2]
  rfl
theorem TopU.but {m : Bool} {s c : Addr} {n : Nat} {M M1 M2 : UHp} {y x : U} (h : TopU m M M1 y x) (hS : Strm M s c n) (hB : But s c M1 M2) : TopU m M M2 y x := by
  rcases h with h | ⟨hm, a, xs, h1, h2, h3, h4⟩
  · exact .inl h
  · obtain ⟨_, ks, u, v, d, q1, q2, _⟩ := hS
    exact .inr ⟨hm, a, xs, h1, h2, h3, hB a (fun e => by rw [e, q1] at h3; cases h3) (fun e => by rw [e, q2] at h3; cases h3) _ h4⟩

theorem seq_one {t u : UTS} {D : UEnds} {σ : USt} {M : UHp} (h : t { D with nx := u D } σ M) : z8q t u D σ M := h
theorem TopU.step {m : Bool} {M M1 M2 : UHp} {y x : U} (h : TopU m M M1 y x) (E : ∀ b o, M b = none → M1 b = some o → M2 b = some o) : TopU m M M2 y x := by
  rcases h with h | ⟨hm, a, xs, h1, h2, h3, h4⟩
  · exact .inl h
  · exact .inr ⟨hm, a, xs, h1, h2, h3, E a _ h3 h4⟩
theorem TopU.put {m : Bool} {M M1 : UHp} {y x : U} {p : Addr} {o o' : MO} (h : TopU m M M1 y x) (hp : M p = some o') : TopU m M (updM M1 p o) y x := h.step fun b u h1 h2 => by
  have : b ≠ p := fun e => by rw [e, hp] at h1; cases h1
  rw [updM_ne this]; exact h2
theorem Ext.tmp {M M' : UHp} {p : Addr} {o : MO} (h : Ext M M') (hp : M' p = Option.none) : Ext M (delM (updM M' p o) p) := fun b u e => by
  have k : b ≠ p := fun e2 => by rw [← e2, h b u e] at hp; cases hp
  rw [delM_ne k, updM_ne k]; exact h b u e

def sp_law : USp := fun us M Q _ => ∃ ns : List Int, us = [.lst (ns.map .int)] ∧ ns.length ≤ 63 ∧ ∀ M', Q (.bl true) M'
local macro_rules | `(tactic| walk_at "q5") => `(tactic| simp only [uFor,uRng1,z8i,uOr,z8d,z8m,uCB,z7t,z8l,uC,z8o,z7w,uOp,uUn,z8s,z8j,uIf,z8e,z7v,z7u,z7s,uBM,z8g,uSl,z4x,z8r,z72,z7x,List.append_nil,z8t,z80,z8y,z7z,z8u,z81,z8w,z8v,xIf,z74,z8x,z8p,z3t,z8n,z7m,z7q,z7o,z7p,z5w,z5v,z7a,z3l,z3m,z75,z5g,z8k,asD,uXf,z8f,z5n,z7y,z6e,z6d,z68,z67,z63,z5h,z5i,z5j,z3v,z3w,z6f,z64,z62,z5r,z6b,z7j,z7k,z7i,z7c,z7b,z7l,z7e,z5o,z2m,z2w,z2k,z2o,z2p,z2l,z2n,z5c,z73,z5a,z5e,z5f,z5b,z3g,z5d,z3e,z2q,z2r,z3i,z3k,z3j,z39,z3a,z37,z38,z4q,z6h,z4o,z4s,z4t,z4p,z3f,z4r,z4e,z4d,z3b,z2s,z3d,z3c,z0h,z0g,z0d,z0a,z0f,z0e,z1o,z1n,z0u,z0j,z0w,z0v,z2d,z2c,z1r,z10,z1t,z1s,z2f,z2e,z1w,z14,z1y,z1x,z16,z15,z0m,z0i,z0o,z0n,z1v,z1u,z11,z0l,z13,z12,z1q,z1p,z0x,z0k,z0z,z0y,z4i,z6g,z4g,z4j,z4k,z4h,z82,z88,z46,z5x,z44,z47,z48,z45,z2v,z2j,z40,z5q,z3y,z41,z42,z3z,z2u,z2i,z6y,z70,z6x,z71,z6z,z59,z56,z57,z58,z87,z86,z7r,z79,z7n,z7d,z5y,z76,z77,z6c,z69,z6a,z8b,z8c,z89,z8a,z85,z83,z84,z4v,z4u,z6i,z78,z5m,z5l,z5k,z6n,z6o,z6p,z6q,z6r,z6s,z6t,z6u,z6v,z6w,z50,z51,z52,z53,z54,z55,z4b,z4c,z49,z27,z26,z1e,z0r,z1g,z1f,z05,z04,z2h,z2g,z1z,z17,z21,z20,z0c,z0b,z23,z22,z18,z0p,z1a,z19,z01,z00,z29,z28,z1h,z0s,z1j,z1i,z07,z06,z2b,z2a,z1k,z0t,z1m,z1l,z09,z08,z25,z24,z1b,z0q,z1d,z1c,z03,z02,z6m,z8h,z4z,z6l,z6k,z4w,z4y,z3s,z6j,z3p,z4f,z3n,z3q,z3r,z3o,z5p,z2t,z3h,z4n,z4l,z4a,z66,z65,z4m,z60,z61,z5z,z32,z2x,z33,z2y,z34,z2z,z35,z30,z36,z31,z7h,z7g,z3u,z5u,z3x,z7f,z5t,z43,z5s,cle,clt,cge,cgt,ceq,cne,lenN,xFor,xTryM,uMix,uEnum,uZip,ltT,uSortK,sortK,sortN,uDNew,uDGet,inN,setN,uDNewS,uDGetS,inS,setS,uDm,uDm0,getR,popS,setdS,getNR,setdN,popNR,itemsR,lenS,dictS,sortItR,uFld,uFst,uMake,uLock,uLockE,uKeys,sortE,sortL,xOp,reprT_1,listN,uMkV,uMkK,uXv,uExo,exists_eq_left',exists_eq_left,Option.some.injEq,U.int.injEq,U.bl.injEq,U.str.injEq,U.ref.injEq,U.tup.injEq,U.lst.injEq,U.ty.injEq,List.cons.injEq,and_true,true_and,and_self,List.map_cons,List.map_nil,List.length_cons,List.length_nil,List.cons_append,List.nil_append,List.append_nil,List.getElem?_cons_zero,List.getElem?_cons_succ,List.set_cons_zero,List.set_cons_succ,List.replicate,↓reduceIte,Bool.false_eq_true,Bool.not_true,Bool.not_false,reduceCtorEq,Nat.reduceAdd,Nat.reduceSub,Nat.reduceLeDiff,Nat.reduceEqDiff,decide_true,decide_false,at0,at1,at2,at3,at4,ix0,ix1,ix2,ix3,ix4,updM_same,beq_self_eq_true,Option.bind,Option.map,wipeU,NT.put,puts,MO.lst.injEq,exists_and_left,decide_eq_true_eq,Bool.and_eq_true,Bool.or_eq_true,exists_eq',Nat.zero_le,true_or,or_true])
local macro_rules | `(tactic| walk_at "q6") => `(tactic| simp only [z8n,z8i,uOr,z8d,z8m,uCB,z7t,z8l,uC,z8o,z7w,uOp,uUn,z8s,z8j,uIf,z8e,z7v,z7u,z7s,uBM,z8g,uSl,z4x,z8r,z72,z7x,List.append_nil,z8t,z80,z8y,z7z,z8u,z81,z8w,z8v,xIf,z74,z8x,z8p,z3t,z8n,z7m,z7q,z7o,z7p,z5w,z5v,z7a,z3l,z3m,z75,z5g,z8k,asD,uXf,z8f,z5n,z7y,z6e,z6d,z68,z67,z63,z5h,z5i,z5j,z3v,z3w,z6f,z64,z62,z5r,z6b,z7j,z7k,z7i,z7c,z7b,z7l,z7e,z5o,z2m,z2w,z2k,z2o,z2p,z2l,z2n,z5c,z73,z5a,z5e,z5f,z5b,z3g,z5d,z3e,z2q,z2r,z3i,z3k,z3j,z39,z3a,z37,z38,z4q,z6h,z4o,z4s,z4t,z4p,z3f,z4r,z4e,z4d,z3b,z2s,z3d,z3c,z0h,z0g,z0d,z0a,z0f,z0e,z1o,z1n,z0u,z0j,z0w,z0v,z2d,z2c,z1r,z10,z1t,z1s,z2f,z2e,z1w,z14,z1y,z1x,z16,z15,z0m,z0i,z0o,z0n,z1v,z1u,z11,z0l,z13,z12,z1q,z1p,z0x,z0k,z0z,z0y,z4i,z6g,z4g,z4j,z4k,z4h,z82,z88,z46,z5x,z44,z47,z48,z45,z2v,z2j,z40,z5q,z3y,z41,z42,z3z,z2u,z2i,z6y,z70,z6x,z71,z6z,z59,z56,z57,z58,z87,z86,z7r,z79,z7n,z7d,z5y,z76,z77,z6c,z69,z6a,z8b,z8c,z89,z8a,z85,z83,z84,z4v,z4u,z6i,z78,z5m,z5l,z5k,z6n,z6o,z6p,z6q,z6r,z6s,z6t,z6u,z6v,z6w,z50,z51,z52,z53,z54,z55,z4b,z4c,z49,z27,z26,z1e,z0r,z1g,z1f,z05,z04,z2h,z2g,z1z,z17,z21,z20,z0c,z0b,z23,z22,z18,z0p,z1a,z19,z01,z00,z29,z28,z1h,z0s,z1j,z1i,z07,z06,z2b,z2a,z1k,z0t,z1m,z1l,z09,z08,z25,z24,z1b,z0q,z1d,z1c,z03,z02,z6m,z8h,z4z,z6l,z6k,z4w,z4y,z3s,z6j,z3p,z4f,z3n,z3q,z3r,z3o,z5p,z2t,z3h,z4n,z4l,z4a,z66,z65,z4m,z60,z61,z5z,z32,z2x,z33,z2y,z34,z2z,z35,z30,z36,z31,z7h,z7g,z3u,z5u,z3x,z7f,z5t,z43,z5s,cle,clt,cge,cgt,ceq,cne,lenN,xFor,xTryM,uMix,uEnum,uZip,ltT,uSortK,sortK,sortN,uDNew,uDGet,inN,setN,uDNewS,uDGetS,inS,setS,uDm,uDm0,getR,popS,setdS,getNR,setdN,popNR,itemsR,lenS,dictS,sortItR,uFld,uFst,uMake,uLock,uLockE,uKeys,sortE,sortL,xOp,reprT_1,listN,uMkV,uMkK,uXv,uExo,exists_eq_left',exists_eq_left,Option.some.injEq,U.int.injEq,U.bl.injEq,U.str.injEq,U.ref.injEq,U.tup.injEq,U.lst.injEq,U.ty.injEq,List.cons.injEq,and_true,true_and,and_self,List.map_cons,List.map_nil,List.length_cons,List.length_nil,List.cons_append,List.nil_append,List.append_nil,List.getElem?_cons_zero,List.getElem?_cons_succ,List.set_cons_zero,List.set_cons_succ,List.replicate,↓reduceIte,Bool.false_eq_true,Bool.not_true,Bool.not_false,reduceCtorEq,Nat.reduceAdd,Nat.reduceSub,Nat.reduceLeDiff,Nat.reduceEqDiff,decide_true,decide_false,at0,at1,at2,at3,at4,ix0,ix1,ix2,ix3,ix4,updM_same,beq_self_eq_true,Option.bind,Option.map,wipeU,NT.put,puts,MO.lst.injEq,exists_and_left,decide_eq_true_eq,Bool.and_eq_true,Bool.or_eq_true,exists_eq',Nat.zero_le,true_or,or_true])
theorem ok_law (L : Lw K mg) : UFn P w K mg base CX0 66 L.f_law L.fd_law ["_law_script"] (sp_law) := by
  refine ufn_ok L.D_law.F sc_law (fun us M Q E h => ?_) (fun cdv A outer s H E hr hG =>
      (uss_cons (us_set (i := 1) sc_law.nd rfl (.inl rfl) (ue_lst true (ua_cons (ue_callTy (uc_list true) (by rfl) L.n_list bt_list (ua_cons (uv 0) ua_nil)) (ua_cons ue_int (ua_cons ue_int (ua_cons ue_int ua_nil))))))
      (uss_cons (us_set (i := 2) sc_law.nd rfl (.inl rfl) (ue_lst true ua_nil))
      (uss_cons (us_for PassesOwn.never rfl (ui_range1 (by rfl) L.n_range (ua_cons ue_int ua_nil)) (ug_name (i := 3) sc_law.nd rfl (.inl rfl)) (uss_cons (us_par (i := 7) (j := 8) rfl sc_law.nd rfl rfl (by decide) rfl rfl (ua_cons (ue_call (ok__law_thing L 2) (hr.mono (by decide)) hG rfl L.D__law_thing.g L.D__law_thing.F.kp L.D__law_thing.b .nil (fun _ => RelUs.nil) (ua_cons (uv 1) (ua_cons ue_int ua_nil))) (ua_cons (ue_call (ok__law_thing L 3) (hr.mono (by decide)) hG rfl L.D__law_thing.g L.D__law_thing.F.kp L.D__law_thing.b .nil (fun _ => RelUs.nil) (ua_cons (uv 1) (ua_cons ue_int ua_nil))) ua_nil)) (by rfl))
      (uss_cons (us_par (i := 5) (j := 9) rfl sc_law.nd rfl rfl (by decide) rfl rfl (ua_cons (ue_lst false (ua_cons (ue_call (ok__law_fixed L 60) (hr.mono (by decide)) hG rfl L.D__law_fixed.g L.D__law_fixed.F.kp L.D__law_fixed.b .nil (fun _ => RelUs.nil) (ua_cons (uv 7) ua_nil)) (ua_cons (ue_call (ok__law_fixed L 60) (hr.mono (by decide)) hG rfl L.D__law_fixed.g L.D__law_fixed.F.kp L.D__law_fixed.b .nil (fun _ => RelUs.nil) (ua_cons (uv 8) ua_nil)) ua_nil))) (ua_cons (ue_callB (uc_reprT hG (hu2 hr)) (by rfl) L.n_repr bt_repr (ua_cons (ue_lst false (ua_cons (uv 7) (ua_cons (uv 8) ua_nil))) ua_nil)) ua_nil)) (by rfl))
      (uss_cons (us_expr (ue_bm PySem.F.plainAttrs_list PySem.F.slot_list_append PySem.F.type_list_append um_append (uv 2) (ua_cons (ue_tup (ua_cons (ue_call (ok__law_made L) (hr.mono (by decide)) hG rfl L.D__law_made.g L.D__law_made.F.kp L.D__law_made.b .nil (fun _ => RelUs.nil) (ua_cons (uv 7) (ua_cons (uv 8) ua_nil))) (ua_cons (uv 5) ua_nil))) ua_nil)))
      (uss_cons (us_expr (ue_bm PySem.F.plainAttrs_list PySem.F.slot_list_append PySem.F.type_list_append um_append (uv 2) (ua_cons (ue_tup (ua_cons (ue_call (ok__law_named L) (hr.mono (by decide)) hG rfl L.D__law_named.g L.D__law_named.F.kp L.D__law_named.b .nil (fun _ => RelUs.nil) (ua_cons (uv 7) (ua_cons (uv 8) ua_nil))) (ua_cons (uv 5) ua_nil))) ua_nil)))
      (uss_cons (us_if (ut_cmp (uo_ne (hu6 hr)) (ue_callB (uc_reprT hG (hu2 hr)) (by rfl) L.n_repr bt_repr (ua_cons (ue_lst false (ua_cons (uv 7) (ua_cons (uv 8) ua_nil))) ua_nil)) (uv 9) (nomark _)) (uss_one (us_ret ue_bl)) uss_nil)
      (uss_one (us_if (ut_val (ue_callB uc_isi (by rfl) L.n_isinstance bt_isi (ua_cons (uv 7) (ua_cons (ue_bltn (by rfl) L.n_list bt_list) ua_nil)))) (uss_one (us_expr (ue_bm PySem.F.plainAttrs_list PySem.F.slot_list_append PySem.F.type_list_append um_append (uv 7) (ua_cons ue_int ua_nil)))) uss_nil))))))))
      (uss_cons (us_for PassesOwn.never rfl (ui_any (uv 2)) (ug_tup (n := 2) rfl (ugs_cons (ug_name (i := 4) sc_law.nd rfl (.inl rfl)) (ugs_cons (ug_name (i := 5) sc_law.nd rfl (.inl rfl)) ugs_nil))) (uss_cons (us_set (i := 10) sc_law.nd rfl (.inl rfl) (ue_op (uo_add false) (ue_op (uo_add false) (ue_op (uo_mul false true) (ue_lst true (ua_cons (ue_lst false ua_nil) ua_nil)) ue_int) (ue_op (uo_mul false true) (ue_lst true (ua_cons (ue_slice false (uv 5) uo_none (uo_some ue_int)) ua_nil)) ue_int)) (ue_op (uo_mul false true) (ue_lst true (ua_cons (uv 5) ua_nil)) ue_int)))
      (uss_one (us_for PassesOwn.never rfl (ui_range1 (by rfl) L.n_range (ua_cons ue_int ua_nil)) (ug_name (i := 11) sc_law.nd rfl (.inl rfl)) (uss_cons (us_if (PW.pt (uw_or (ut_not (ut_val (ue_call (ok__law_same L) (hr.mono (by decide)) hG rfl L.D__law_same.g L.D__law_same.F.kp L.D__law_same.b .nil (fun _ => RelUs.nil) (ua_cons (ue_call (ok__law_fields L) (hr.mono (by decide)) hG rfl L.D__law_fields.g L.D__law_fields.F.kp L.D__law_fields.b .nil (fun _ => RelUs.nil) (ua_cons (uv 11) (ua_cons (ue_ix (uv 4) (uv 11)) ua_nil))) (ua_cons (ue_ix (uv 10) (uv 11)) ua_nil))))) (uw_or1 (ut_cmp (uo_ne (hu6 hr)) (ue_call (ok__law_kinds L) (hr.mono (by decide)) hG rfl L.D__law_kinds.g L.D__law_kinds.F.kp L.D__law_kinds.b .nil (fun _ => RelUs.nil) (ua_cons (ue_ix (uv 4) (uv 11)) ua_nil)) (ue_lst false (ua_cons (uv 11) ua_nil)) (nomark _))))) (uss_one (us_ret ue_bl)) uss_nil)
      (uss_one (us_if (PW.pt (uw_or (ut_not (ut_val (ue_callB (uc_isV (K := K) rfl) (by rfl) L.n_isinstance bt_isi (ua_cons (ue_ix (uv 4) (uv 11)) (ua_cons (ue_gref (by rfl) L.g_VariantError) ua_nil))))) (uw_or1 (ut_not (ut_val (ue_callB (uc_isV (K := K) rfl) (by rfl) L.n_isinstance bt_isi (ua_cons (ue_ix (uv 4) (uv 11)) (ua_cons (ue_bltn (by rfl) L.n_ValueError bt_ValueError) ua_nil)))))))) (uss_one (us_ret ue_bl)) uss_nil)))))))
      (uss_cons (us_set (i := 6) sc_law.nd rfl (.inl rfl) (ue_lst false (ua_cons (ue_exo0 PySem.F.excBase_ValueError L.x_VariantError L.g_VariantError L.k_VariantError rfl) (ua_cons (ue_exo PySem.F.excBase_ValueError L.x_VariantError L.g_VariantError L.k_VariantError rfl (ua_cons ue_str ua_nil)) (ua_cons (ue_exo PySem.F.excBase_ValueError L.x_VariantError L.g_VariantError L.k_VariantError rfl (ua_cons ue_str (ua_cons ue_int ua_nil))) ua_nil)))))
      (uss_one (us_ret (ue_callB (uc_all rfl) (by rfl) L.n_all bt_all (ua_cons (ue_lc (own := [("_law_e", 12)]) (n := (.one 12)) false rfl sc_law.nd (ui_any (uv 6)) (blkOk_by (own := [("_law_e", 12)]) (N := ["_law_script", "_law_stream", "_law_kept", "_law_turn", "_law_made_here", "_law_fixed_here", "_law_bare", "_law_one", "_law_two", "_law_text", "_law_dues", "_law_k", "_law_e"]) (sc := defScope s_law) (by decide +kernel)) (by decide) (fun _ _ _ _ _ => (pg_nt sc_law.nd rfl (.inl rfl))) (fun _ _ _ _ _ => uts_nil) (fun _ _ _ _ _ => (ue_and (ue_cmp (uo_eq (hu6 hr)) (ue_call (ok__law_kinds L) (hr.mono (by decide)) hG rfl L.D__law_kinds.g L.D__law_kinds.F.kp L.D__law_kinds.b .nil (fun _ => RelUs.nil) (ua_cons (uv 12) ua_nil)) (ue_lst false ua_nil) (nomark _)) (ue_one (ue_callB (uc_isV (K := K) rfl) (by rfl) L.n_isinstance bt_isi (ua_cons (uv 12) (ua_cons (ue_bltn (by rfl) L.n_ValueError bt_ValueError) ua_nil))))))) ua_nil)))))))))) (fun us M Q E h => ?_)
  · obtain ⟨ns, rfl, _⟩ := h
    rfl
  · obtain ⟨ns, rfl, hn, q⟩ := h
    have q : ∀ M', ZQ Q (.bl true) M' := fun M' => .inl (q M')
    have hcl : ClsL K [L.C_BadTree, L.C_BadPiece, L.C_NothingToUndo, L.C_NothingToRedo, L.C_NoNode, L.C_BadEntry, L.C_TwoEntries, L.C_NoKey, L.C_UnknownTemplate, L.C_Ring, L.C_TooLarge, L.C_BadName, L.C_NameInUse, L.C_InUse, L.C_IdInUse, L.C_NoUse, L.C_Rests, L.C_Outside, L.C_NotPlain, L.C_NoProp, L.C_PropInUse, L.C_Older, L.C_BadStep, L.C_NoStep, L.C_Broken, L.C_BadText, L.C_BadLine, L.C_UnknownRelease, L.C_Frozen, L.C_Clash] L.C_VariantError 0 [L.C_BadTree, L.C_BadPiece, L.C_NothingToUndo, L.C_NothingToRedo, L.C_NoNode, L.C_BadEntry, L.C_TwoEntries, L.C_NoKey, L.C_UnknownTemplate, L.C_Ring, L.C_TooLarge, L.C_BadName, L.C_NameInUse, L.C_InUse, L.C_IdInUse, L.C_NoUse, L.C_Rests, L.C_Outside, L.C_NotPlain, L.C_NoProp, L.C_PropInUse, L.C_Older, L.C_BadStep, L.C_NoStep, L.C_Broken, L.C_BadText, L.C_BadLine, L.C_UnknownRelease, L.C_Frozen, L.C_Clash] := ⟨⟨L.ec_BadTree, row_kit rfl L.kt_BadTree_all, L.kt_BadTree_VariantError, L.kt_BadTree_ValueError⟩, ⟨L.ec_BadPiece, row_kit rfl L.kt_BadPiece_all, L.kt_BadPiece_VariantError, L.kt_BadPiece_ValueError⟩, ⟨L.ec_NothingToUndo, row_kit rfl L.kt_NothingToUndo_all, L.kt_NothingToUndo_VariantError, L.kt_NothingToUndo_ValueError⟩, ⟨L.ec_NothingToRedo, row_kit rfl L.kt_NothingToRedo_all, L.kt_NothingToRedo_VariantError, L.kt_NothingToRedo_ValueError⟩, ⟨L.ec_NoNode, row_kit rfl L.kt_NoNode_all, L.kt_NoNode_VariantError, L.kt_NoNode_ValueError⟩, ⟨L.ec_BadEntry, row_kit rfl L.kt_BadEntry_all, L.kt_BadEntry_VariantError, L.kt_BadEntry_ValueError⟩, ⟨L.ec_TwoEntries, row_kit rfl L.kt_TwoEntries_all, L.kt_TwoEntries_VariantError, L.kt_TwoEntries_ValueError⟩, ⟨L.ec_NoKey, row_kit rfl L.kt_NoKey_all, L.kt_NoKey_VariantError, L.kt_NoKey_ValueError⟩, ⟨L.ec_UnknownTemplate, row_kit rfl L.kt_UnknownTemplate_all, L.kt_UnknownTemplate_VariantError, L.kt_UnknownTemplate_ValueError⟩, ⟨L.ec_Ring, row_kit rfl L.kt_Ring_all, L.kt_Ring_VariantError, L.kt_Ring_ValueError⟩, ⟨L.ec_TooLarge, row_kit rfl L.kt_TooLarge_all, L.kt_TooLarge_VariantError, L.kt_TooLarge_ValueError⟩, ⟨L.ec_BadName, row_kit rfl L.kt_BadName_all, L.kt_BadName_VariantError, L.kt_BadName_ValueError⟩, ⟨L.ec_NameInUse, row_kit rfl L.kt_NameInUse_all, L.kt_NameInUse_VariantError, L.kt_NameInUse_ValueError⟩, ⟨L.ec_InUse, row_kit rfl L.kt_InUse_all, L.kt_InUse_VariantError, L.kt_InUse_ValueError⟩, ⟨L.ec_IdInUse, row_kit rfl L.kt_IdInUse_all, L.kt_IdInUse_VariantError, L.kt_IdInUse_ValueError⟩, ⟨L.ec_NoUse, row_kit rfl L.kt_NoUse_all, L.kt_NoUse_VariantError, L.kt_NoUse_ValueError⟩, ⟨L.ec_Rests, row_kit rfl L.kt_Rests_all, L.kt_Rests_VariantError, L.kt_Rests_ValueError⟩, ⟨L.ec_Outside, row_kit rfl L.kt_Outside_all, L.kt_Outside_VariantError, L.kt_Outside_ValueError⟩, ⟨L.ec_NotPlain, row_kit rfl L.kt_NotPlain_all, L.kt_NotPlain_VariantError, L.kt_NotPlain_ValueError⟩, ⟨L.ec_NoProp, row_kit rfl L.kt_NoProp_all, L.kt_NoProp_VariantError, L.kt_NoProp_ValueError⟩, ⟨L.ec_PropInUse, row_kit rfl L.kt_PropInUse_all, L.kt_PropInUse_VariantError, L.kt_PropInUse_ValueError⟩, ⟨L.ec_Older, row_kit rfl L.kt_Older_all, L.kt_Older_VariantError, L.kt_Older_ValueError⟩, ⟨L.ec_BadStep, row_kit rfl L.kt_BadStep_all, L.kt_BadStep_VariantError, L.kt_BadStep_ValueError⟩, ⟨L.ec_NoStep, row_kit rfl L.kt_NoStep_all, L.kt_NoStep_VariantError, L.kt_NoStep_ValueError⟩, ⟨L.ec_Broken, row_kit rfl L.kt_Broken_all, L.kt_Broken_VariantError, L.kt_Broken_ValueError⟩, ⟨L.ec_BadText, row_kit rfl L.kt_BadText_all, L.kt_BadText_VariantError, L.kt_BadText_ValueError⟩, ⟨L.ec_BadLine, row_kit rfl L.kt_BadLine_all, L.kt_BadLine_VariantError, L.kt_BadLine_ValueError⟩, ⟨L.ec_UnknownRelease, row_kit rfl L.kt_UnknownRelease_all, L.kt_UnknownRelease_VariantError, L.kt_UnknownRelease_ValueError⟩, ⟨L.ec_Frozen, row_kit rfl L.kt_Frozen_all, L.kt_Frozen_VariantError, L.kt_Frozen_ValueError⟩, ⟨L.ec_Clash, row_kit rfl L.kt_Clash_all, L.kt_Clash_VariantError, L.kt_Clash_ValueError⟩, trivial⟩
    have hev : ExcC K L.C_VariantError := L.ec_VariantError
    have hkv : ∀ j D, [L.C_BadTree, L.C_BadPiece, L.C_NothingToUndo, L.C_NothingToRedo, L.C_NoNode, L.C_BadEntry, L.C_TwoEntries, L.C_NoKey, L.C_UnknownTemplate, L.C_Ring, L.C_TooLarge, L.C_BadName, L.C_NameInUse, L.C_InUse, L.C_IdInUse, L.C_NoUse, L.C_Rests, L.C_Outside, L.C_NotPlain, L.C_NoProp, L.C_PropInUse, L.C_Older, L.C_BadStep, L.C_NoStep, L.C_Broken, L.C_BadText, L.C_BadLine, L.C_UnknownRelease, L.C_Frozen, L.C_Clash][j]? = some D → PySem.W.kitOne K (.ref L.C_VariantError) (.ref D) = some (j == 30) := row_none rfl L.kt_VariantError_all
    have hke : PySem.W.kitOne K (.ref L.C_VariantError) (.type "ValueError") = some true := L.kt_VariantError_ValueError
    walk_at "q1"
    generalize [L.C_BadTree, L.C_BadPiece, L.C_NothingToUndo, L.C_NothingToRedo, L.C_NoNode, L.C_BadEntry, L.C_TwoEntries, L.C_NoKey, L.C_UnknownTemplate, L.C_Ring, L.C_TooLarge, L.C_BadName, L.C_NameInUse, L.C_InUse, L.C_IdInUse, L.C_NoUse, L.C_Rests, L.C_Outside, L.C_NotPlain, L.C_NoProp, L.C_PropInUse, L.C_Older, L.C_BadStep, L.C_NoStep, L.C_Broken, L.C_BadText, L.C_BadLine, L.C_UnknownRelease, L.C_Frozen, L.C_Clash] = Cs at hcl hkv ⊢
    generalize L.C_VariantError = V at hcl hev hkv hke ⊢
    refine fun c hc => ⟨line_le, fun s hs => ?_⟩
    intro kp hkp
    have hsc : s ≠ c := fun e => by rw [e, updM_same] at hs; cases hs
    have hS0 : Strm (updM (updM M c (.lst (ns.map .int))) s (.lst [.ref c, .int 0, .int 0, .int 0])) s c 8000000 := ⟨hsc, ns, 0, 0, 0, updM_same, by rw [updM_ne (Ne.symm hsc), updM_same], by decide, by simp, by decide, by decide, hn⟩
    obtain ⟨k1, k2⟩ := hS0.sp hkp
    generalize (updM (updM M c (.lst (ns.map .int))) s (.lst [.ref c, .int 0, .int 0, .int 0])) = M0 at hS0 hkp ⊢
    have hS1 := hS0.upd k1 k2 (o := .lst [])
    have hK1 : updM M0 kp (.lst []) kp = some (.lst []) := updM_same
    generalize updM M0 kp (.lst []) = M1 at hS1 hK1 ⊢
    walk_at "q5"
    refine ⟨by decide, by decide, line_le, ?_⟩
    refine for_inv (fun i σ M => ∃ a3 a4 a5 a6 a7 a8 a9 a10 a11 a12, σ = [some (U.lst (List.map U.int ns)), some (U.ref s), some (U.ref kp), a3, a4, a5, a6, a7, a8, a9, a10, a11, a12] ∧ Strm M s c (100 * (4 - i)) ∧ ∃ its, M kp = some (.lst its) ∧ its.length ≤ 2 * i ∧ ∀ it ∈ its, KeptU K M Cs it) _ (fun _ _ _ _ => True.intro) ?_ ?_ ⟨_, _, _, _, _, _, _, _, _, _, rfl, hS1.le (by omega), [], hK1, by simp, by simp⟩
    · rintro i x σ M2 N hx ⟨a3, a4, a5, a6, a7, a8, a9, a10, a11, a12, rfl, hS2, its, hk2, hl2, hits⟩ hN
      obtain ⟨rfl, hi4⟩ := range_nth hx
      have hS2' : Strm M2 s c (100 * (4 - (i + 1)) + 100) := hS2.le (by omega)
      generalize 100 * (4 - (i + 1)) = B at hS2' hN
      simp only [z7v,List.set]
      refine seq_one ?_
      walk_at "q6"
      refine ⟨s, c, B + 79, true, rfl, hS2'.le (by simp only [tC]; omega), fun y1 x1 M3 d1 t1 hS3 hB3 => ?_⟩
      refine ⟨s, c, B + 13, true, rfl, hS3.le (by simp only [tC]; omega), fun y2 x2 M4 d2 t2 hS4 hB4 => ?_⟩
      have t1' := t1.but hS2' hB4
      have v1 : val M4 y1 = x1 := t1'.val d1.d
      have v2 : val M4 y2 = x2 := t2.val d2.d
      simp only [parK,z8i,uOr,z8d,z8m,uCB,z7t,z8l,uC,z8o,z7w,uOp,uUn,z8s,z8j,uIf,z8e,z7v,z7u,z7s,uBM,z8g,uSl,z4x,z8r,z72,z7x,List.append_nil,z8t,z80,z8y,z7z,z8u,z81,z8w,z8v,xIf,z74,z8x,z8p,z3t,z8n,z7m,z7q,z7o,z7p,z5w,z5v,z7a,z3l,z3m,z75,z5g,z8k,asD,uXf,z8f,z5n,z7y,z6e,z6d,z68,z67,z63,z5h,z5i,z5j,z3v,z3w,z6f,z64,z62,z5r,z6b,z7j,z7k,z7i,z7c,z7b,z7l,z7e,z5o,z2m,z2w,z2k,z2o,z2p,z2l,z2n,z5c,z73,z5a,z5e,z5f,z5b,z3g,z5d,z3e,z2q,z2r,z3i,z3k,z3j,z39,z3a,z37,z38,z4q,z6h,z4o,z4s,z4t,z4p,z3f,z4r,z4e,z4d,z3b,z2s,z3d,z3c,z0h,z0g,z0d,z0a,z0f,z0e,z1o,z1n,z0u,z0j,z0w,z0v,z2d,z2c,z1r,z10,z1t,z1s,z2f,z2e,z1w,z14,z1y,z1x,z16,z15,z0m,z0i,z0o,z0n,z1v,z1u,z11,z0l,z13,z12,z1q,z1p,z0x,z0k,z0z,z0y,z4i,z6g,z4g,z4j,z4k,z4h,z82,z88,z46,z5x,z44,z47,z48,z45,z2v,z2j,z40,z5q,z3y,z41,z42,z3z,z2u,z2i,z6y,z70,z6x,z71,z6z,z59,z56,z57,z58,z87,z86,z7r,z79,z7n,z7d,z5y,z76,z77,z6c,z69,z6a,z8b,z8c,z89,z8a,z85,z83,z84,z4v,z4u,z6i,z78,z5m,z5l,z5k,z6n,z6o,z6p,z6q,z6r,z6s,z6t,z6u,z6v,z6w,z50,z51,z52,z53,z54,z55,z4b,z4c,z49,z27,z26,z1e,z0r,z1g,z1f,z05,z04,z2h,z2g,z1z,z17,z21,z20,z0c,z0b,z23,z22,z18,z0p,z1a,z19,z01,z00,z29,z28,z1h,z0s,z1j,z1i,z07,z06,z2b,z2a,z1k,z0t,z1m,z1l,z09,z08,z25,z24,z1b,z0q,z1d,z1c,z03,z02,z6m,z8h,z4z,z6l,z6k,z4w,z4y,z3s,z6j,z3p,z4f,z3n,z3q,z3r,z3o,z5p,z2t,z3h,z4n,z4l,z4a,z66,z65,z4m,z60,z61,z5z,z32,z2x,z33,z2y,z34,z2z,z35,z30,z36,z31,z7h,z7g,z3u,z5u,z3x,z7f,z5t,z43,z5s,cle,clt,cge,cgt,ceq,cne,lenN,xFor,xTryM,uMix,uEnum,uZip,ltT,uSortK,sortK,sortN,uDNew,uDGet,inN,setN,uDNewS,uDGetS,inS,setS,uDm,uDm0,getR,popS,setdS,getNR,setdN,popNR,itemsR,lenS,dictS,sortItR,uFld,uFst,uMake,uLock,uLockE,uKeys,sortE,sortL,xOp,reprT_1,listN,uMkV,uMkK,uXv,uExo,exists_eq_left',exists_eq_left,Option.some.injEq,U.int.injEq,U.bl.injEq,U.str.injEq,U.ref.injEq,U.tup.injEq,U.lst.injEq,U.ty.injEq,List.cons.injEq,and_true,true_and,and_self,List.map_cons,List.map_nil,List.length_cons,List.length_nil,List.cons_append,List.nil_append,List.append_nil,List.getElem?_cons_zero,List.getElem?_cons_succ,List.set_cons_zero,List.set_cons_succ,List.replicate,↓reduceIte,Bool.false_eq_true,Bool.not_true,Bool.not_false,reduceCtorEq,Nat.reduceAdd,Nat.reduceSub,Nat.reduceLeDiff,Nat.reduceEqDiff,decide_true,decide_false,at0,at1,at2,at3,at4,ix0,ix1,ix2,ix3,ix4,updM_same,beq_self_eq_true,Option.bind,Option.map,wipeU,NT.put,puts,MO.lst.injEq,exists_and_left,decide_eq_true_eq,Bool.and_eq_true,Bool.or_eq_true,exists_eq',Nat.zero_le,true_or,or_true]
      refine seq_one ?_
      walk_at "q6"
      refine ⟨y1, rfl, by rw [v1]; exact d1.d, by rw [v1]; exact Nat.le_trans d1.p (by decide), y2, rfl, by rw [v2]; exact d2.d, by rw [v2]; exact Nat.le_trans d2.p (by decide), line_le, line_le, ?_⟩
      have evT : ∀ M', val M' y1 = x1 → val M' y2 = x2 → valT M' (.lst [y1, y2]) = .lst [x1, x2] := fun M' e1 e2 => by
        show U.lst [val M' y1, val M' y2] = _
        rw [e1, e2]
      have D1 : Dt 4 4000 x1 := d1.mono (by decide) (by decide)
      have D2 : Dt 4 4000 x2 := d2.mono (by decide) (by decide)
      have okW : okR (.lst [x1, x2]) := (Dt.lst (k := 4) (n := 4000) (m := 9000) (fun z hz => by
        simp only [List.mem_cons,List.not_mem_nil,or_false] at hz
        rcases hz with rfl | rfl
        · exact D1
        · exact D2) (by simp)).okR (by decide) (by decide)
      rw [v1, v2, evT M4 v1 v2]
      refine ⟨okW, ?_⟩
      refine seq_one ?_
      walk_at "q0"
      have hk4 : M4 kp = some (.lst its) := hB4 kp (Ne.symm k1) (Ne.symm k2) _ (hB3 kp (Ne.symm k1) (Ne.symm k2) _ hk2)
      refine ⟨⟨its, hk4⟩, y1, y2, x1, x2, rfl, v1, v2, d1.d, Nat.le_trans d1.p (by decide), d2.d, Nat.le_trans d2.p (by decide), fun as M5 la ma E5 => ?_⟩
      have hk5 : M5 kp = some (.lst its) := E5 _ _ hk4
      have hk3 : M3 kp = some (.lst its) := hB3 kp (Ne.symm k1) (Ne.symm k2) _ hk2
      have T1 := (t1'.step fun b o _ e => E5 b o e).put (o := .lst (its ++ [.tup [.lst (as.map .ref), .lst [tupU x1, tupU x2]]])) hk2
      have T2 := (t2.step fun b o _ e => E5 b o e).put (o := .lst (its ++ [.tup [.lst (as.map .ref), .lst [tupU x1, tupU x2]]])) hk3
      have hS6 := (hS4.ext E5).upd k1 k2 (o := .lst (its ++ [.tup [.lst (as.map .ref), .lst [tupU x1, tupU x2]]]))
      have E6 : KpE M5 (updM M5 kp (.lst (its ++ [.tup [.lst (as.map .ref), .lst [tupU x1, tupU x2]]]))) := KpE.refl.set hk5
      have hk6 : updM M5 kp (.lst (its ++ [.tup [.lst (as.map .ref), .lst [tupU x1, tupU x2]]])) kp = some (.lst (its ++ [.tup [.lst (as.map .ref), .lst [tupU x1, tupU x2]]])) := updM_same
      refine ⟨line_le, its, hk5, line_lt (by omega), ?_⟩
      have K6 : ∀ it ∈ its ++ [.tup [.lst (as.map .ref), .lst [tupU x1, tupU x2]]], KeptU K (updM M5 kp (.lst (its ++ [.tup [.lst (as.map .ref), .lst [tupU x1, tupU x2]]]))) Cs it := fun it hit => by
        rcases List.mem_append.mp hit with h | h
        · exact (hits it h).kpe ((((hB3.kpe hS2').trans (hB4.kpe hS3)).trans E5.kp).trans E6)
        · rw [List.mem_singleton.mp h]
          exact ⟨as, _, _, rfl, la, ma.kpe E6, D1.tupd, D2.tupd⟩
      generalize updM M5 kp (.lst (its ++ [.tup [.lst (as.map .ref), .lst [tupU x1, tupU x2]]])) = M6 at T1 T2 hS6 hk6 K6 ⊢
      clear E6 hk5
      have l6 : (its ++ [U.tup [.lst (as.map U.ref), .lst [tupU x1, tupU x2]]]).length ≤ 2 * i + 1 := by rw [List.length_append, List.length_singleton]; omega
      generalize its ++ [U.tup [.lst (as.map U.ref), .lst [tupU x1, tupU x2]]] = its2 at hk6 K6 l6 ⊢
      have w1 := T1.val d1.d
      have w2 := T2.val d2.d
      refine seq_one ?_
      walk_at "q0"
      refine ⟨⟨its2, hk6⟩, y1, y2, x1, x2, rfl, w1, w2, d1.d, Nat.le_trans d1.p (by decide), d2.d, Nat.le_trans d2.p (by decide), fun as2 M7 la2 ma2 E7 => ?_⟩
      have hk7 : M7 kp = some (.lst its2) := E7 _ _ hk6
      have T3 := (T1.step fun b o _ e => E7 b o e).put (o := .lst (its2 ++ [.tup [.lst (as2.map .ref), .lst [tupU x1, tupU x2]]])) hk2
      have T4 := (T2.step fun b o _ e => E7 b o e).put (o := .lst (its2 ++ [.tup [.lst (as2.map .ref), .lst [tupU x1, tupU x2]]])) hk3
      have hS8 := (hS6.ext E7).upd k1 k2 (o := .lst (its2 ++ [.tup [.lst (as2.map .ref), .lst [tupU x1, tupU x2]]]))
      have E8 : KpE M7 (updM M7 kp (.lst (its2 ++ [.tup [.lst (as2.map .ref), .lst [tupU x1, tupU x2]]]))) := KpE.refl.set hk7
      have hk8 : updM M7 kp (.lst (its2 ++ [.tup [.lst (as2.map .ref), .lst [tupU x1, tupU x2]]])) kp = some (.lst (its2 ++ [.tup [.lst (as2.map .ref), .lst [tupU x1, tupU x2]]])) := updM_same
      refine ⟨line_le, its2, hk7, line_lt (by omega), ?_⟩
      have K8 : ∀ it ∈ its2 ++ [.tup [.lst (as2.map .ref), .lst [tupU x1, tupU x2]]], KeptU K (updM M7 kp (.lst (its2 ++ [.tup [.lst (as2.map .ref), .lst [tupU x1, tupU x2]]]))) Cs it := fun it hit => by
        rcases List.mem_append.mp hit with h | h
        · exact (K6 it h).kpe (E7.kp.trans E8)
        · rw [List.mem_singleton.mp h]
          exact ⟨as2, _, _, rfl, la2, ma2.kpe E8, D1.tupd, D2.tupd⟩
      generalize updM M7 kp (.lst (its2 ++ [.tup [.lst (as2.map .ref), .lst [tupU x1, tupU x2]]])) = M8 at T3 T4 hS8 hk8 K8 ⊢
      clear E8 hk7
      have l8 : (its2 ++ [U.tup [.lst (as2.map U.ref), .lst [tupU x1, tupU x2]]]).length ≤ 2 * (i + 1) := by rw [List.length_append, List.length_singleton]; omega
      generalize its2 ++ [U.tup [.lst (as2.map U.ref), .lst [tupU x1, tupU x2]]] = its3 at hk8 K8 l8 ⊢
      have z1 := T3.val d1.d
      have z2 := T4.val d2.d
      refine seq_one ?_
      walk_at "q0"
      rw [evT M8 z1 z2]
      refine ⟨line_le, okW, rep_ok okW, rep_ok okW, ?_⟩
      refine iteI (fun e => by simp at e) (fun _ => ?_)
      rcases T3 with ⟨rfl, hnl⟩ | ⟨_, a, xs, rfl, rfl, na, ea⟩
      · obtain ⟨t, e1, e2⟩ := ty_dat (M := M8) d1.d (hnl rfl)
        refine ⟨t, e1, by decide, ?_⟩
        rw [e2]
        walk_at "q0"
        exact hN _ _ ⟨_, _, _, _, _, _, _, _, _, _, rfl, hS8.le (by omega), its3, hk8, l8, K8⟩
      · obtain ⟨g1, g2⟩ := hS2'.sp na
        have g3 : kp ≠ a := fun e => by rw [← e, hk2] at na; cases na
        have hw : xs.length ≤ 60 := by have := d1.w; simp only [wid] at this; omega
        refine ⟨"list", by simp only [tyM,ea], by decide, ?_⟩
        simp only [z8i,uOr,z8d,z8m,uCB,z7t,z8l,uC,z8o,z7w,uOp,uUn,z8s,z8j,uIf,z8e,z7v,z7u,z7s,uBM,z8g,uSl,z4x,z8r,z72,z7x,List.append_nil,z8t,z80,z8y,z7z,z8u,z81,z8w,z8v,xIf,z74,z8x,z8p,z3t,z8n,z7m,z7q,z7o,z7p,z5w,z5v,z7a,z3l,z3m,z75,z5g,z8k,asD,uXf,z8f,z5n,z7y,z6e,z6d,z68,z67,z63,z5h,z5i,z5j,z3v,z3w,z6f,z64,z62,z5r,z6b,z7j,z7k,z7i,z7c,z7b,z7l,z7e,z5o,z2m,z2w,z2k,z2o,z2p,z2l,z2n,z5c,z73,z5a,z5e,z5f,z5b,z3g,z5d,z3e,z2q,z2r,z3i,z3k,z3j,z39,z3a,z37,z38,z4q,z6h,z4o,z4s,z4t,z4p,z3f,z4r,z4e,z4d,z3b,z2s,z3d,z3c,z0h,z0g,z0d,z0a,z0f,z0e,z1o,z1n,z0u,z0j,z0w,z0v,z2d,z2c,z1r,z10,z1t,z1s,z2f,z2e,z1w,z14,z1y,z1x,z16,z15,z0m,z0i,z0o,z0n,z1v,z1u,z11,z0l,z13,z12,z1q,z1p,z0x,z0k,z0z,z0y,z4i,z6g,z4g,z4j,z4k,z4h,z82,z88,z46,z5x,z44,z47,z48,z45,z2v,z2j,z40,z5q,z3y,z41,z42,z3z,z2u,z2i,z6y,z70,z6x,z71,z6z,z59,z56,z57,z58,z87,z86,z7r,z79,z7n,z7d,z5y,z76,z77,z6c,z69,z6a,z8b,z8c,z89,z8a,z85,z83,z84,z4v,z4u,z6i,z78,z5m,z5l,z5k,z6n,z6o,z6p,z6q,z6r,z6s,z6t,z6u,z6v,z6w,z50,z51,z52,z53,z54,z55,z4b,z4c,z49,z27,z26,z1e,z0r,z1g,z1f,z05,z04,z2h,z2g,z1z,z17,z21,z20,z0c,z0b,z23,z22,z18,z0p,z1a,z19,z01,z00,z29,z28,z1h,z0s,z1j,z1i,z07,z06,z2b,z2a,z1k,z0t,z1m,z1l,z09,z08,z25,z24,z1b,z0q,z1d,z1c,z03,z02,z6m,z8h,z4z,z6l,z6k,z4w,z4y,z3s,z6j,z3p,z4f,z3n,z3q,z3r,z3o,z5p,z2t,z3h,z4n,z4l,z4a,z66,z65,z4m,z60,z61,z5z,z32,z2x,z33,z2y,z34,z2z,z35,z30,z36,z31,z7h,z7g,z3u,z5u,z3x,z7f,z5t,z43,z5s,cle,clt,cge,cgt,ceq,cne,lenN,xFor,xTryM,uMix,uEnum,uZip,ltT,uSortK,sortK,sortN,uDNew,uDGet,inN,setN,uDNewS,uDGetS,inS,setS,uDm,uDm0,getR,popS,setdS,getNR,setdN,popNR,itemsR,lenS,dictS,sortItR,uFld,uFst,uMake,uLock,uLockE,uKeys,sortE,sortL,xOp,reprT_1,listN,uMkV,uMkK,uXv,uExo,exists_eq_left',exists_eq_left,Option.some.injEq,U.int.injEq,U.bl.injEq,U.str.injEq,U.ref.injEq,U.tup.injEq,U.lst.injEq,U.ty.injEq,List.cons.injEq,and_true,true_and,and_self,List.map_cons,List.map_nil,List.length_cons,List.length_nil,List.cons_append,List.nil_append,List.append_nil,List.getElem?_cons_zero,List.getElem?_cons_succ,List.set_cons_zero,List.set_cons_succ,List.replicate,↓reduceIte,Bool.false_eq_true,Bool.not_true,Bool.not_false,reduceCtorEq,Nat.reduceAdd,Nat.reduceSub,Nat.reduceLeDiff,Nat.reduceEqDiff,decide_true,decide_false,at0,at1,at2,at3,at4,ix0,ix1,ix2,ix3,ix4,updM_same,beq_self_eq_true,Option.bind,Option.map,wipeU,NT.put,puts,MO.lst.injEq,exists_and_left,decide_eq_true_eq,Bool.and_eq_true,Bool.or_eq_true,exists_eq',Nat.zero_le,true_or,or_true,ea]
        exact ⟨line_lt (by omega), hN _ _ ⟨_, _, _, _, _, _, _, _, _, _, rfl, (hS8.upd g1 g2).le (by omega), its3, by rw [updM_ne g3]; exact hk8, l8, fun it hit => (K8 it hit).kpe (KpE.refl.set ea)⟩⟩
    · rintro σ M2 ⟨a3, a4, a5, a6, a7, a8, a9, a10, a11, a12, rfl, hS2, its, hk2, hl2, hits⟩
      dsimp only
      refine seq_one ?_
      simp only [uFor,z8i,uOr,z8d,z8m,uCB,z7t,z8l,uC,z8o,z7w,uOp,uUn,z8s,z8j,uIf,z8e,z7v,z7u,z7s,uBM,z8g,uSl,z4x,z8r,z72,z7x,List.append_nil,z8t,z80,z8y,z7z,z8u,z81,z8w,z8v,xIf,z74,z8x,z8p,z3t,z8n,z7m,z7q,z7o,z7p,z5w,z5v,z7a,z3l,z3m,z75,z5g,z8k,asD,uXf,z8f,z5n,z7y,z6e,z6d,z68,z67,z63,z5h,z5i,z5j,z3v,z3w,z6f,z64,z62,z5r,z6b,z7j,z7k,z7i,z7c,z7b,z7l,z7e,z5o,z2m,z2w,z2k,z2o,z2p,z2l,z2n,z5c,z73,z5a,z5e,z5f,z5b,z3g,z5d,z3e,z2q,z2r,z3i,z3k,z3j,z39,z3a,z37,z38,z4q,z6h,z4o,z4s,z4t,z4p,z3f,z4r,z4e,z4d,z3b,z2s,z3d,z3c,z0h,z0g,z0d,z0a,z0f,z0e,z1o,z1n,z0u,z0j,z0w,z0v,z2d,z2c,z1r,z10,z1t,z1s,z2f,z2e,z1w,z14,z1y,z1x,z16,z15,z0m,z0i,z0o,z0n,z1v,z1u,z11,z0l,z13,z12,z1q,z1p,z0x,z0k,z0z,z0y,z4i,z6g,z4g,z4j,z4k,z4h,z82,z88,z46,z5x,z44,z47,z48,z45,z2v,z2j,z40,z5q,z3y,z41,z42,z3z,z2u,z2i,z6y,z70,z6x,z71,z6z,z59,z56,z57,z58,z87,z86,z7r,z79,z7n,z7d,z5y,z76,z77,z6c,z69,z6a,z8b,z8c,z89,z8a,z85,z83,z84,z4v,z4u,z6i,z78,z5m,z5l,z5k,z6n,z6o,z6p,z6q,z6r,z6s,z6t,z6u,z6v,z6w,z50,z51,z52,z53,z54,z55,z4b,z4c,z49,z27,z26,z1e,z0r,z1g,z1f,z05,z04,z2h,z2g,z1z,z17,z21,z20,z0c,z0b,z23,z22,z18,z0p,z1a,z19,z01,z00,z29,z28,z1h,z0s,z1j,z1i,z07,z06,z2b,z2a,z1k,z0t,z1m,z1l,z09,z08,z25,z24,z1b,z0q,z1d,z1c,z03,z02,z6m,z8h,z4z,z6l,z6k,z4w,z4y,z3s,z6j,z3p,z4f,z3n,z3q,z3r,z3o,z5p,z2t,z3h,z4n,z4l,z4a,z66,z65,z4m,z60,z61,z5z,z32,z2x,z33,z2y,z34,z2z,z35,z30,z36,z31,z7h,z7g,z3u,z5u,z3x,z7f,z5t,z43,z5s,cle,clt,cge,cgt,ceq,cne,lenN,xFor,xTryM,uMix,uEnum,uZip,ltT,uSortK,sortK,sortN,uDNew,uDGet,inN,setN,uDNewS,uDGetS,inS,setS,uDm,uDm0,getR,popS,setdS,getNR,setdN,popNR,itemsR,lenS,dictS,sortItR,uFld,uFst,uMake,uLock,uLockE,uKeys,sortE,sortL,xOp,reprT_1,listN,uMkV,uMkK,uXv,uExo,exists_eq_left',exists_eq_left,Option.some.injEq,U.int.injEq,U.bl.injEq,U.str.injEq,U.ref.injEq,U.tup.injEq,U.lst.injEq,U.ty.injEq,List.cons.injEq,and_true,true_and,and_self,List.map_cons,List.map_nil,List.length_cons,List.length_nil,List.cons_append,List.nil_append,List.append_nil,List.getElem?_cons_zero,List.getElem?_cons_succ,List.set_cons_zero,List.set_cons_succ,List.replicate,↓reduceIte,Bool.false_eq_true,Bool.not_true,Bool.not_false,reduceCtorEq,Nat.reduceAdd,Nat.reduceSub,Nat.reduceLeDiff,Nat.reduceEqDiff,decide_true,decide_false,at0,at1,at2,at3,at4,ix0,ix1,ix2,ix3,ix4,updM_same,beq_self_eq_true,Option.bind,Option.map,wipeU,NT.put,puts,MO.lst.injEq,exists_and_left,decide_eq_true_eq,Bool.and_eq_true,Bool.or_eq_true,exists_eq',Nat.zero_le,true_or,or_true]
      refine ⟨its, by rw [hk2]; rfl, ?_⟩
      refine for_inv (fun j σ M => ∃ a3 a4 a5 a6 a7 a8 a9 a10 a11 a12, σ = [some (U.lst (List.map U.int ns)), some (U.ref s), some (U.ref kp), a3, a4, a5, a6, a7, a8, a9, a10, a11, a12] ∧ Ext M2 M) _ (fun _ _ _ ⟨_, _, _, _, _, _, _, _, _, _, _, E⟩ => by
        show refL _ = _
        rw [E _ _ hk2]; rfl) ?_ ?_ ⟨_, _, _, _, _, _, _, _, _, _, rfl, Ext.refl⟩
      · rintro j it σ M3 N hj ⟨b3, b4, b5, b6, b7, b8, b9, b10, b11, b12, rfl, E3⟩ hN
        obtain ⟨as, X, Y, rfl, las, mas, dX, dY⟩ := (hits it (List.mem_of_getElem? hj)).kpe E3.kp
        walk_at "q0"
        refine seq_one ?_
        walk_at "q0"
        refine ⟨line_le, fun p1 n1 => ⟨by decide, by decide, line_le, line_le, fun p2 n2 => ⟨by decide, by decide, line_le, line_le (show 27 ≤ 1000000 by decide), line_le, fun p3 n3 => ⟨by decide, by decide, line_le, line_le (show 30 ≤ 1000000 by decide), ?_⟩⟩⟩⟩
        have E4 : Ext M3 (delM (updM (delM (updM (delM (updM M3 p1 (MO.lst [U.lst []])) p1) p2 (MO.lst [U.lst (cutL [X, Y] none (some 1))])) p2) p3 (MO.lst [U.lst [X, Y]])) p3) := (((Ext.refl.tmp n1).trans (Ext.refl.tmp n2)).trans (Ext.refl.tmp n3))
        generalize (delM (updM (delM (updM (delM (updM M3 p1 (MO.lst [U.lst []])) p1) p2 (MO.lst [U.lst (cutL [X, Y] none (some 1))])) p2) p3 (MO.lst [U.lst [X, Y]])) p3) = M4 at E4 ⊢
        have hdu : ((List.replicate (Int.toNat 4) [U.lst []]).flatten ++ (List.replicate (Int.toNat 23) [U.lst (cutL [X, Y] none (some 1))]).flatten ++ (List.replicate (Int.toNat 3) [U.lst [X, Y]]).flatten) = List.replicate 4 (U.lst []) ++ List.replicate 23 (U.lst [X]) ++ List.replicate 3 (U.lst [X, Y]) := rfl
        rw [hdu]
        have hda : ∀ (k : Nat) (ns : List Str), nmK[k]? = some ns → (List.replicate 4 (U.lst []) ++ List.replicate 23 (U.lst [X]) ++ List.replicate 3 (U.lst [X, Y]))[k]? = some (.lst ([X, Y].take ns.length)) := fun k ns h => dues_at h
        clear hdu
        generalize (List.replicate 4 (U.lst []) ++ List.replicate 23 (U.lst [X]) ++ List.replicate 3 (U.lst [X, Y])) = du at hda ⊢
        have mas := mas.kpe E4.kp
        walk_at "q5"
        refine ⟨by decide, by decide, line_le, ?_⟩
        refine for_inv (fun k σ M => ∃ b11 b12, σ = [some (U.lst (List.map U.int ns)), some (U.ref s), some (U.ref kp), b3, some (U.lst (List.map U.ref as)), some (U.lst [X, Y]), b6, b7, b8, b9, some (U.lst du), b11, b12] ∧ Ext M4 M) _ (fun _ _ _ _ => True.intro) ?_ ?_ ⟨_, _, rfl, Ext.refl⟩
        · rintro k z σ M5 N2 hz ⟨c11, c12, rfl, E5⟩ hN2
          obtain ⟨rfl, hk⟩ := range_nth hz
          have hk : k < 30 := hk
          obtain ⟨a, ha⟩ : ∃ a, as[k]? = some a := ⟨as[k]'(by omega), List.getElem?_eq_getElem (by omega)⟩
          obtain ⟨C, nz, hC, hn2, xa, fa⟩ := (mas.get ha).kpe E5.kp
          rw [Nat.zero_add] at hC hn2
          have hda2 := hda k nz hn2
          obtain ⟨cx, ckit, cV, cE⟩ := hcl.get hC
          rw [Nat.zero_add] at ckit
          have hat1 : atI (as.map U.ref) (k : Int) = some (.ref a) := atI_nat (by rw [List.getElem?_map, ha]; rfl)
          have hat2 : atI du (k : Int) = some (.lst ([X, Y].take nz.length)) := atI_nat hda2
          refine seq_one ?_
          walk_at "q0"
          refine ⟨_, hat1, k, .ref a, _, rfl, ⟨nz, hn2, fa⟩, fun M6 E6 => ⟨_, hat2, ?_⟩⟩
          have okD : okR (.lst ([X, Y].take nz.length)) := (Dt.lst (k := 4) (n := 4000) (m := 9000) (fun z hz => by
            have hz := List.mem_of_mem_take hz
            simp only [List.mem_cons,List.not_mem_nil,or_false] at hz
            rcases hz with rfl | rfl
            · exact dX
            · exact dY) (by
              have : ([X, Y].take nz.length).length ≤ 2 := by rw [List.length_take]; exact Nat.min_le_right _ _
              omega) (by
              have : ([X, Y].take nz.length).length ≤ 2 := by rw [List.length_take]; exact Nat.min_le_right _ _
              omega)).okR (by decide) (by decide)
          refine ⟨_, _, rfl, okD, okD, ?_⟩
          simp only [z8i,uOr,z8d,z8m,uCB,z7t,z8l,uC,z8o,z7w,uOp,uUn,z8s,z8j,uIf,z8e,z7v,z7u,z7s,uBM,z8g,uSl,z4x,z8r,z72,z7x,List.append_nil,z8t,z80,z8y,z7z,z8u,z81,z8w,z8v,xIf,z74,z8x,z8p,z3t,z8n,z7m,z7q,z7o,z7p,z5w,z5v,z7a,z3l,z3m,z75,z5g,z8k,asD,uXf,z8f,z5n,z7y,z6e,z6d,z68,z67,z63,z5h,z5i,z5j,z3v,z3w,z6f,z64,z62,z5r,z6b,z7j,z7k,z7i,z7c,z7b,z7l,z7e,z5o,z2m,z2w,z2k,z2o,z2p,z2l,z2n,z5c,z73,z5a,z5e,z5f,z5b,z3g,z5d,z3e,z2q,z2r,z3i,z3k,z3j,z39,z3a,z37,z38,z4q,z6h,z4o,z4s,z4t,z4p,z3f,z4r,z4e,z4d,z3b,z2s,z3d,z3c,z0h,z0g,z0d,z0a,z0f,z0e,z1o,z1n,z0u,z0j,z0w,z0v,z2d,z2c,z1r,z10,z1t,z1s,z2f,z2e,z1w,z14,z1y,z1x,z16,z15,z0m,z0i,z0o,z0n,z1v,z1u,z11,z0l,z13,z12,z1q,z1p,z0x,z0k,z0z,z0y,z4i,z6g,z4g,z4j,z4k,z4h,z82,z88,z46,z5x,z44,z47,z48,z45,z2v,z2j,z40,z5q,z3y,z41,z42,z3z,z2u,z2i,z6y,z70,z6x,z71,z6z,z59,z56,z57,z58,z87,z86,z7r,z79,z7n,z7d,z5y,z76,z77,z6c,z69,z6a,z8b,z8c,z89,z8a,z85,z83,z84,z4v,z4u,z6i,z78,z5m,z5l,z5k,z6n,z6o,z6p,z6q,z6r,z6s,z6t,z6u,z6v,z6w,z50,z51,z52,z53,z54,z55,z4b,z4c,z49,z27,z26,z1e,z0r,z1g,z1f,z05,z04,z2h,z2g,z1z,z17,z21,z20,z0c,z0b,z23,z22,z18,z0p,z1a,z19,z01,z00,z29,z28,z1h,z0s,z1j,z1i,z07,z06,z2b,z2a,z1k,z0t,z1m,z1l,z09,z08,z25,z24,z1b,z0q,z1d,z1c,z03,z02,z6m,z8h,z4z,z6l,z6k,z4w,z4y,z3s,z6j,z3p,z4f,z3n,z3q,z3r,z3o,z5p,z2t,z3h,z4n,z4l,z4a,z66,z65,z4m,z60,z61,z5z,z32,z2x,z33,z2y,z34,z2z,z35,z30,z36,z31,z7h,z7g,z3u,z5u,z3x,z7f,z5t,z43,z5s,cle,clt,cge,cgt,ceq,cne,lenN,xFor,xTryM,uMix,uEnum,uZip,ltT,uSortK,sortK,sortN,uDNew,uDGet,inN,setN,uDNewS,uDGetS,inS,setS,uDm,uDm0,getR,popS,setdS,getNR,setdN,popNR,itemsR,lenS,dictS,sortItR,uFld,uFst,uMake,uLock,uLockE,uKeys,sortE,sortL,xOp,reprT_1,listN,uMkV,uMkK,uXv,uExo,exists_eq_left',exists_eq_left,Option.some.injEq,U.int.injEq,U.bl.injEq,U.str.injEq,U.ref.injEq,U.tup.injEq,U.lst.injEq,U.ty.injEq,List.cons.injEq,and_true,true_and,and_self,List.map_cons,List.map_nil,List.length_cons,List.length_nil,List.cons_append,List.nil_append,List.append_nil,List.getElem?_cons_zero,List.getElem?_cons_succ,List.set_cons_zero,List.set_cons_succ,List.replicate,↓reduceIte,Bool.false_eq_true,Bool.not_true,Bool.not_false,reduceCtorEq,Nat.reduceAdd,Nat.reduceSub,Nat.reduceLeDiff,Nat.reduceEqDiff,decide_true,decide_false,at0,at1,at2,at3,at4,ix0,ix1,ix2,ix3,ix4,updM_same,beq_self_eq_true,Option.bind,Option.map,wipeU,NT.put,puts,MO.lst.injEq,exists_and_left,decide_eq_true_eq,Bool.and_eq_true,Bool.or_eq_true,exists_eq',Nat.zero_le,true_or,or_true,beq_self_eq_true]
          refine ⟨_, hat1, a, C, fun j => j == k, rfl, xa.ext E6, cx, ckit, fun M7 E7 => ?_⟩
          have hf := filt_one hk
          rw [hf]
          refine ⟨line_le, rfl, .inr (by decide), ?_⟩
          refine iteF (by simp [ueq, ueqs, val]) ?_
          have xa7 := (xa.ext E6).ext E7
          refine ⟨_, hat1, a, C, .ref V, true, rfl, xa7, cx, rfl, cV, ?_⟩
          walk_at "q0"
          refine ⟨_, hat1, a, C, .type "ValueError", true, rfl, xa7, cx, rfl, cE, ?_⟩
          walk_at "q0"
          exact hN2 _ _ ⟨_, _, rfl, (E5.trans E6).trans E7⟩
        · rintro σ M5 ⟨c11, c12, rfl, E5⟩
          exact hN _ _ ⟨_, _, _, _, _, _, _, _, _, _, rfl, (E3.trans E4).trans E5⟩
      · rintro σ M3 ⟨b3, b4, b5, b6, b7, b8, b9, b10, b11, b12, rfl, E3⟩
        dsimp only
        refine seq_one ?_
        walk_at "q0"
        intro a1 n1 a2 n2 a3 n3
        refine ⟨line_le, ?_⟩
        have x1 : ExI (updM M3 a1 (MO.raw (ExO (Value.ref V) a1))) a1 V := .inl updM_same
        generalize updM M3 a1 (MO.raw (ExO (Value.ref V) a1)) = M4 at n2 n3 x1 ⊢
        have x2 : ExI (updM M4 a2 (MO.raw (ExO (Value.ref V) a2))) a2 V := .inl updM_same
        have x1 := x1.ext (Ext.refl.upd (o := MO.raw (ExO (Value.ref V) a2)) n2)
        generalize updM M4 a2 (MO.raw (ExO (Value.ref V) a2)) = M5 at n3 x1 x2 ⊢
        have x3 : ExI (updM M5 a3 (MO.raw (ExO (Value.ref V) a3))) a3 V := .inl updM_same
        have x1 := x1.ext (Ext.refl.upd (o := MO.raw (ExO (Value.ref V) a3)) n3)
        have x2 := x2.ext (Ext.refl.upd (o := MO.raw (ExO (Value.ref V) a3)) n3)
        generalize updM M5 a3 (MO.raw (ExO (Value.ref V) a3)) = M6 at x1 x2 x3 ⊢
        simp only [uLc,z8i,uOr,z8d,z8m,uCB,z7t,z8l,uC,z8o,z7w,uOp,uUn,z8s,z8j,uIf,z8e,z7v,z7u,z7s,uBM,z8g,uSl,z4x,z8r,z72,z7x,List.append_nil,z8t,z80,z8y,z7z,z8u,z81,z8w,z8v,xIf,z74,z8x,z8p,z3t,z8n,z7m,z7q,z7o,z7p,z5w,z5v,z7a,z3l,z3m,z75,z5g,z8k,asD,uXf,z8f,z5n,z7y,z6e,z6d,z68,z67,z63,z5h,z5i,z5j,z3v,z3w,z6f,z64,z62,z5r,z6b,z7j,z7k,z7i,z7c,z7b,z7l,z7e,z5o,z2m,z2w,z2k,z2o,z2p,z2l,z2n,z5c,z73,z5a,z5e,z5f,z5b,z3g,z5d,z3e,z2q,z2r,z3i,z3k,z3j,z39,z3a,z37,z38,z4q,z6h,z4o,z4s,z4t,z4p,z3f,z4r,z4e,z4d,z3b,z2s,z3d,z3c,z0h,z0g,z0d,z0a,z0f,z0e,z1o,z1n,z0u,z0j,z0w,z0v,z2d,z2c,z1r,z10,z1t,z1s,z2f,z2e,z1w,z14,z1y,z1x,z16,z15,z0m,z0i,z0o,z0n,z1v,z1u,z11,z0l,z13,z12,z1q,z1p,z0x,z0k,z0z,z0y,z4i,z6g,z4g,z4j,z4k,z4h,z82,z88,z46,z5x,z44,z47,z48,z45,z2v,z2j,z40,z5q,z3y,z41,z42,z3z,z2u,z2i,z6y,z70,z6x,z71,z6z,z59,z56,z57,z58,z87,z86,z7r,z79,z7n,z7d,z5y,z76,z77,z6c,z69,z6a,z8b,z8c,z89,z8a,z85,z83,z84,z4v,z4u,z6i,z78,z5m,z5l,z5k,z6n,z6o,z6p,z6q,z6r,z6s,z6t,z6u,z6v,z6w,z50,z51,z52,z53,z54,z55,z4b,z4c,z49,z27,z26,z1e,z0r,z1g,z1f,z05,z04,z2h,z2g,z1z,z17,z21,z20,z0c,z0b,z23,z22,z18,z0p,z1a,z19,z01,z00,z29,z28,z1h,z0s,z1j,z1i,z07,z06,z2b,z2a,z1k,z0t,z1m,z1l,z09,z08,z25,z24,z1b,z0q,z1d,z1c,z03,z02,z6m,z8h,z4z,z6l,z6k,z4w,z4y,z3s,z6j,z3p,z4f,z3n,z3q,z3r,z3o,z5p,z2t,z3h,z4n,z4l,z4a,z66,z65,z4m,z60,z61,z5z,z32,z2x,z33,z2y,z34,z2z,z35,z30,z36,z31,z7h,z7g,z3u,z5u,z3x,z7f,z5t,z43,z5s,cle,clt,cge,cgt,ceq,cne,lenN,xFor,xTryM,uMix,uEnum,uZip,ltT,uSortK,sortK,sortN,uDNew,uDGet,inN,setN,uDNewS,uDGetS,inS,setS,uDm,uDm0,getR,popS,setdS,getNR,setdN,popNR,itemsR,lenS,dictS,sortItR,uFld,uFst,uMake,uLock,uLockE,uKeys,sortE,sortL,xOp,reprT_1,listN,uMkV,uMkK,uXv,uExo,exists_eq_left',exists_eq_left,Option.some.injEq,U.int.injEq,U.bl.injEq,U.str.injEq,U.ref.injEq,U.tup.injEq,U.lst.injEq,U.ty.injEq,List.cons.injEq,and_true,true_and,and_self,List.map_cons,List.map_nil,List.length_cons,List.length_nil,List.cons_append,List.nil_append,List.append_nil,List.getElem?_cons_zero,List.getElem?_cons_succ,List.set_cons_zero,List.set_cons_succ,List.replicate,↓reduceIte,Bool.false_eq_true,Bool.not_true,Bool.not_false,reduceCtorEq,Nat.reduceAdd,Nat.reduceSub,Nat.reduceLeDiff,Nat.reduceEqDiff,decide_true,decide_false,at0,at1,at2,at3,at4,ix0,ix1,ix2,ix3,ix4,updM_same,beq_self_eq_true,Option.bind,Option.map,wipeU,NT.put,puts,MO.lst.injEq,exists_and_left,decide_eq_true_eq,Bool.and_eq_true,Bool.or_eq_true,exists_eq',Nat.zero_le,true_or,or_true]
        intro D hD
        refine lc_inv (fun k acc M' => acc = List.replicate k (.bl true) ∧ Ext M6 M') [U.ref a1, .ref a2, .ref a3] (fun _ _ _ _ => True.intro) ?_ ?_ ⟨rfl, Ext.refl.upd hD⟩ updM_same
        · rintro k y acc M7 hy ⟨rfl, E7⟩ hD7
          refine ⟨_, rfl, fun Q q => ?_⟩
          have hx : ∃ a, y = .ref a ∧ ExI M7 a V := by
            match k, hy with
            | 0, hy => cases hy; exact ⟨_, rfl, x1.ext E7⟩
            | 1, hy => cases hy; exact ⟨_, rfl, x2.ext E7⟩
            | 2, hy => cases hy; exact ⟨_, rfl, x3.ext E7⟩
            | k + 3, hy => cases hy
          obtain ⟨a, rfl, xa⟩ := hx
          walk_at "q0"
          refine ⟨a, V, fun j => j == 30, rfl, xa, hev, hkv, fun M8 E8 => ?_⟩
          have hf := filt_none
          rw [hf]
          refine ⟨rfl, ?_⟩
          refine iteT (by simp [ueq, ueqs, val]) ?_
          refine ⟨a, V, .type "ValueError", true, rfl, xa.ext E8, hev, rfl, hke, ?_⟩
          refine q _ _ (E8 _ _ hD7) ⟨List.replicate_succ'.symm, (E7.trans E8).upd hD⟩
        · rintro acc M7 ⟨rfl, E7⟩ hD7
          refine ⟨hD7, ?_⟩
          simp only [finL,z8i,uOr,z8d,z8m,uCB,z7t,z8l,uC,z8o,z7w,uOp,uUn,z8s,z8j,uIf,z8e,z7v,z7u,z7s,uBM,z8g,uSl,z4x,z8r,z72,z7x,List.append_nil,z8t,z80,z8y,z7z,z8u,z81,z8w,z8v,xIf,z74,z8x,z8p,z3t,z8n,z7m,z7q,z7o,z7p,z5w,z5v,z7a,z3l,z3m,z75,z5g,z8k,asD,uXf,z8f,z5n,z7y,z6e,z6d,z68,z67,z63,z5h,z5i,z5j,z3v,z3w,z6f,z64,z62,z5r,z6b,z7j,z7k,z7i,z7c,z7b,z7l,z7e,z5o,z2m,z2w,z2k,z2o,z2p,z2l,z2n,z5c,z73,z5a,z5e,z5f,z5b,z3g,z5d,z3e,z2q,z2r,z3i,z3k,z3j,z39,z3a,z37,z38,z4q,z6h,z4o,z4s,z4t,z4p,z3f,z4r,z4e,z4d,z3b,z2s,z3d,z3c,z0h,z0g,z0d,z0a,z0f,z0e,z1o,z1n,z0u,z0j,z0w,z0v,z2d,z2c,z1r,z10,z1t,z1s,z2f,z2e,z1w,z14,z1y,z1x,z16,z15,z0m,z0i,z0o,z0n,z1v,z1u,z11,z0l,z13,z12,z1q,z1p,z0x,z0k,z0z,z0y,z4i,z6g,z4g,z4j,z4k,z4h,z82,z88,z46,z5x,z44,z47,z48,z45,z2v,z2j,z40,z5q,z3y,z41,z42,z3z,z2u,z2i,z6y,z70,z6x,z71,z6z,z59,z56,z57,z58,z87,z86,z7r,z79,z7n,z7d,z5y,z76,z77,z6c,z69,z6a,z8b,z8c,z89,z8a,z85,z83,z84,z4v,z4u,z6i,z78,z5m,z5l,z5k,z6n,z6o,z6p,z6q,z6r,z6s,z6t,z6u,z6v,z6w,z50,z51,z52,z53,z54,z55,z4b,z4c,z49,z27,z26,z1e,z0r,z1g,z1f,z05,z04,z2h,z2g,z1z,z17,z21,z20,z0c,z0b,z23,z22,z18,z0p,z1a,z19,z01,z00,z29,z28,z1h,z0s,z1j,z1i,z07,z06,z2b,z2a,z1k,z0t,z1m,z1l,z09,z08,z25,z24,z1b,z0q,z1d,z1c,z03,z02,z6m,z8h,z4z,z6l,z6k,z4w,z4y,z3s,z6j,z3p,z4f,z3n,z3q,z3r,z3o,z5p,z2t,z3h,z4n,z4l,z4a,z66,z65,z4m,z60,z61,z5z,z32,z2x,z33,z2y,z34,z2z,z35,z30,z36,z31,z7h,z7g,z3u,z5u,z3x,z7f,z5t,z43,z5s,cle,clt,cge,cgt,ceq,cne,lenN,xFor,xTryM,uMix,uEnum,uZip,ltT,uSortK,sortK,sortN,uDNew,uDGet,inN,setN,uDNewS,uDGetS,inS,setS,uDm,uDm0,getR,popS,setdS,getNR,setdN,popNR,itemsR,lenS,dictS,sortItR,uFld,uFst,uMake,uLock,uLockE,uKeys,sortE,sortL,xOp,reprT_1,listN,uMkV,uMkK,uXv,uExo,exists_eq_left',exists_eq_left,Option.some.injEq,U.int.injEq,U.bl.injEq,U.str.injEq,U.ref.injEq,U.tup.injEq,U.lst.injEq,U.ty.injEq,List.cons.injEq,and_true,true_and,and_self,List.map_cons,List.map_nil,List.length_cons,List.length_nil,List.cons_append,List.nil_append,List.append_nil,List.getElem?_cons_zero,List.getElem?_cons_succ,List.set_cons_zero,List.set_cons_succ,List.replicate,↓reduceIte,Bool.false_eq_true,Bool.not_true,Bool.not_false,reduceCtorEq,Nat.reduceAdd,Nat.reduceSub,Nat.reduceLeDiff,Nat.reduceEqDiff,decide_true,decide_false,at0,at1,at2,at3,at4,ix0,ix1,ix2,ix3,ix4,updM_same,beq_self_eq_true,Option.bind,Option.map,wipeU,NT.put,puts,MO.lst.injEq,exists_and_left,decide_eq_true_eq,Bool.and_eq_true,Bool.or_eq_true,exists_eq',Nat.zero_le,true_or,or_true]
          exact ⟨_, rfl, q _⟩

end
set_option maxHeartbeats 0 in
theorem all_mk {l : PySem.W.OpenLaw} {w : World} {K : PySem.W.Frag} {h : Heap} {mg : Str → Option Value} {fa f0 f1 f2 f3 f4 f_ini_BadEntry f_ini_BadLine f_ini_BadName f_ini_BadStep f_ini_BadText f_ini_Broken f_ini_Clash f_ini_Frozen f_ini_IdInUse f_ini_InUse f_ini_NameInUse f_ini_NoKey f_ini_NoNode f_ini_NoProp f_ini_NoStep f_ini_NoUse f_ini_NotPlain f_ini_Older f_ini_Outside f_ini_PropInUse f_ini_Rests f_ini_Ring f_ini_TooLarge f_ini_TwoEntries f_ini_UnknownRelease f_ini_UnknownTemplate f31 f32 f33 f34 f35 : Addr} (X : K.In h) (G : h.Ns mainGlobals mg) (hfa : mg "law" = some (.ref fa))
  {od0 an0 od1 an1 od2 an2 od3 an3 od4 an4 od5 an5 od6 an6 od7 an7 od8 an8 od9 an9 od10 an10 od11 an11 od12 an12 od13 an13 od14 an14 od15 an15 od16 an16 od17 an17 od18 an18 od19 an19 od20 an20 od21 an21 od22 an22 od23 an23 od24 an24 od25 an25 od26 an26 od27 an27 od28 an28 od29 an29 od30 an30 od31 an31 od32 an32 od33 an33 od34 an34 od35 an35 : Option Addr} {sl0 sl1 sl2 sl3 sl4 sl5 sl6 sl7 sl8 sl9 sl10 sl11 sl12 sl13 sl14 sl15 sl16 sl17 sl18 sl19 sl20 sl21 sl22 sl23 sl24 sl25 sl26 sl27 sl28 sl29 sl30 sl31 sl32 sl33 sl34 sl35 : Array (Option Value)} {oc0 kV0 dc0 pm0 cd0 ct0 oc1 kV1 dc1 pm1 cd1 ct1 oc2 kV2 dc2 pm2 cd2 ct2 oc3 kV3 dc3 pm3 cd3 ct3 oc4 kV4 dc4 pm4 cd4 ct4 oc5 kV5 dc5 pm5 cd5 ct5 oc6 kV6 dc6 pm6 cd6 ct6 oc7 kV7 dc7 pm7 cd7 ct7 oc8 kV8 dc8 pm8 cd8 ct8 oc9 kV9 dc9 pm9 cd9 ct9 oc10 kV10 dc10 pm10 cd10 ct10 oc11 kV11 dc11 pm11 cd11 ct11 oc12 kV12 dc12 pm12 cd12 ct12 oc13 kV13 dc13 pm13 cd13 ct13 oc14 kV14 dc14 pm14 cd14 ct14 oc15 kV15 dc15 pm15 cd15 ct15 oc16 kV16 dc16 pm16 cd16 ct16 oc17 kV17 dc17 pm17 cd17 ct17 oc18 kV18 dc18 pm18 cd18 ct18 oc19 kV19 dc19 pm19 cd19 ct19 oc20 kV20 dc20 pm20 cd20 ct20 oc21 kV21 dc21 pm21 cd21 ct21 oc22 kV22 dc22 pm22 cd22 ct22 oc23 kV23 dc23 pm23 cd23 ct23 oc24 kV24 dc24 pm24 cd24 ct24 oc25 kV25 dc25 pm25 cd25 ct25 oc26 kV26 dc26 pm26 cd26 ct26 oc27 kV27 dc27 pm27 cd27 ct27 oc28 kV28 dc28 pm28 cd28 ct28 oc29 kV29 dc29 pm29 cd29 ct29 oc30 kV30 dc30 pm30 cd30 ct30 oc31 kV31 dc31 pm31 cd31 ct31 oc32 kV32 dc32 pm32 cd32 ct32 oc33 kV33 dc33 pm33 cd33 ct33 oc34 kV34 dc34 pm34 cd34 ct34 oc35 kV35 dc35 pm35 cd35 ct35 : Value} {C_VariantError C_BadEntry C_BadLine C_BadName C_BadPiece C_BadStep C_BadText C_BadTree C_Broken C_Clash C_Frozen C_IdInUse C_InUse C_NameInUse C_NoKey C_NoNode C_NoProp C_NoStep C_NoUse C_NotPlain C_NothingToRedo C_NothingToUndo C_Older C_Outside C_PropInUse C_Rests C_Ring C_TooLarge C_TwoEntries C_UnknownRelease C_UnknownTemplate : Addr}
  {nm_BadEntry q_BadEntry : Str} {N_BadEntry : Addr} {bs_BadEntry sub_BadEntry : List Value} {sn_BadEntry : List Str} {ab_BadEntry : Bool} {col_BadEntry : Option Bool} {dd_BadEntry : Option Addr} {m0_BadEntry m1_BadEntry m2_BadEntry m3_BadEntry m5_BadEntry : Option Value}
  {nm_BadLine q_BadLine : Str} {N_BadLine : Addr} {bs_BadLine sub_BadLine : List Value} {sn_BadLine : List Str} {ab_BadLine : Bool} {col_BadLine : Option Bool} {dd_BadLine : Option Addr} {m0_BadLine m1_BadLine m2_BadLine m3_BadLine m5_BadLine : Option Value}
  {nm_BadName q_BadName : Str} {N_BadName : Addr} {bs_BadName sub_BadName : List Value} {sn_BadName : List Str} {ab_BadName : Bool} {col_BadName : Option Bool} {dd_BadName : Option Addr} {m0_BadName m1_BadName m2_BadName m3_BadName m5_BadName : Option Value}
  {nm_BadStep q_BadStep : Str} {N_BadStep : Addr} {bs_BadStep sub_BadStep : List Value} {sn_BadStep : List Str} {ab_BadStep : Bool} {col_BadStep : Option Bool} {dd_BadStep : Option Addr} {m0_BadStep m1_BadStep m2_BadStep m3_BadStep m5_BadStep : Option Value}
  {nm_BadText q_BadText : Str} {N_BadText : Addr} {bs_BadText sub_BadText : List Value} {sn_BadText : List Str} {ab_BadText : Bool} {col_BadText : Option Bool} {dd_BadText : Option Addr} {m0_BadText m1_BadText m2_BadText m3_BadText m5_BadText : Option Value}
  {nm_Broken q_Broken : Str} {N_Broken : Addr} {bs_Broken sub_Broken : List Value} {sn_Broken : List Str} {ab_Broken : Bool} {col_Broken : Option Bool} {dd_Broken : Option Addr} {m0_Broken m1_Broken m2_Broken m3_Broken m5_Broken : Option Value}
  {nm_Clash q_Clash : Str} {N_Clash : Addr} {bs_Clash sub_Clash : List Value} {sn_Clash : List Str} {ab_Clash : Bool} {col_Clash : Option Bool} {dd_Clash : Option Addr} {m0_Clash m1_Clash m2_Clash m3_Clash m5_Clash : Option Value}
  {nm_Frozen q_Frozen : Str} {N_Frozen : Addr} {bs_Frozen sub_Frozen : List Value} {sn_Frozen : List Str} {ab_Frozen : Bool} {col_Frozen : Option Bool} {dd_Frozen : Option Addr} {m0_Frozen m1_Frozen m2_Frozen m3_Frozen m5_Frozen : Option Value}
  {nm_IdInUse q_IdInUse : Str} {N_IdInUse : Addr} {bs_IdInUse sub_IdInUse : List Value} {sn_IdInUse : List Str} {ab_IdInUse : Bool} {col_IdInUse : Option Bool} {dd_IdInUse : Option Addr} {m0_IdInUse m1_IdInUse m2_IdInUse m3_IdInUse m5_IdInUse : Option Value}
  {nm_InUse q_InUse : Str} {N_InUse : Addr} {bs_InUse sub_InUse : List Value} {sn_InUse : List Str} {ab_InUse : Bool} {col_InUse : Option Bool} {dd_InUse : Option Addr} {m0_InUse m1_InUse m2_InUse m3_InUse m5_InUse : Option Value}
  {nm_NameInUse q_NameInUse : Str} {N_NameInUse : Addr} {bs_NameInUse sub_NameInUse : List Value} {sn_NameInUse : List Str} {ab_NameInUse : Bool} {col_NameInUse : Option Bool} {dd_NameInUse : Option Addr} {m0_NameInUse m1_NameInUse m2_NameInUse m3_NameInUse m5_NameInUse : Option Value}
  {nm_NoKey q_NoKey : Str} {N_NoKey : Addr} {bs_NoKey sub_NoKey : List Value} {sn_NoKey : List Str} {ab_NoKey : Bool} {col_NoKey : Option Bool} {dd_NoKey : Option Addr} {m0_NoKey m1_NoKey m2_NoKey m3_NoKey m5_NoKey : Option Value}
  {nm_NoNode q_NoNode : Str} {N_NoNode : Addr} {bs_NoNode sub_NoNode : List Value} {sn_NoNode : List Str} {ab_NoNode : Bool} {col_NoNode : Option Bool} {dd_NoNode : Option Addr} {m0_NoNode m1_NoNode m2_NoNode m3_NoNode m5_NoNode : Option Value}
  {nm_NoProp q_NoProp : Str} {N_NoProp : Addr} {bs_NoProp sub_NoProp : List Value} {sn_NoProp : List Str} {ab_NoProp : Bool} {col_NoProp : Option Bool} {dd_NoProp : Option Addr} {m0_NoProp m1_NoProp m2_NoProp m3_NoProp m5_NoProp : Option Value}
  {nm_NoStep q_NoStep : Str} {N_NoStep : Addr} {bs_NoStep sub_NoStep : List Value} {sn_NoStep : List Str} {ab_NoStep : Bool} {col_NoStep : Option Bool} {dd_NoStep : Option Addr} {m0_NoStep m1_NoStep m2_NoStep m3_NoStep m5_NoStep : Option Value}
  {nm_NoUse q_NoUse : Str} {N_NoUse : Addr} {bs_NoUse sub_NoUse : List Value} {sn_NoUse : List Str} {ab_NoUse : Bool} {col_NoUse : Option Bool} {dd_NoUse : Option Addr} {m0_NoUse m1_NoUse m2_NoUse m3_NoUse m5_NoUse : Option Value}
  {nm_NotPlain q_NotPlain : Str} {N_NotPlain : Addr} {bs_NotPlain sub_NotPlain : List Value} {sn_NotPlain : List Str} {ab_NotPlain : Bool} {col_NotPlain : Option Bool} {dd_NotPlain : Option Addr} {m0_NotPlain m1_NotPlain m2_NotPlain m3_NotPlain m5_NotPlain : Option Value}
  {nm_Older q_Older : Str} {N_Older : Addr} {bs_Older sub_Older : List Value} {sn_Older : List Str} {ab_Older : Bool} {col_Older : Option Bool} {dd_Older : Option Addr} {m0_Older m1_Older m2_Older m3_Older m5_Older : Option Value}
  {nm_Outside q_Outside : Str} {N_Outside : Addr} {bs_Outside sub_Outside : List Value} {sn_Outside : List Str} {ab_Outside : Bool} {col_Outside : Option Bool} {dd_Outside : Option Addr} {m0_Outside m1_Outside m2_Outside m3_Outside m5_Outside : Option Value}
  {nm_PropInUse q_PropInUse : Str} {N_PropInUse : Addr} {bs_PropInUse sub_PropInUse : List Value} {sn_PropInUse : List Str} {ab_PropInUse : Bool} {col_PropInUse : Option Bool} {dd_PropInUse : Option Addr} {m0_PropInUse m1_PropInUse m2_PropInUse m3_PropInUse m5_PropInUse : Option Value}
  {nm_Rests q_Rests : Str} {N_Rests : Addr} {bs_Rests sub_Rests : List Value} {sn_Rests : List Str} {ab_Rests : Bool} {col_Rests : Option Bool} {dd_Rests : Option Addr} {m0_Rests m1_Rests m2_Rests m3_Rests m5_Rests : Option Value}
  {nm_Ring q_Ring : Str} {N_Ring : Addr} {bs_Ring sub_Ring : List Value} {sn_Ring : List Str} {ab_Ring : Bool} {col_Ring : Option Bool} {dd_Ring : Option Addr} {m0_Ring m1_Ring m2_Ring m3_Ring m5_Ring : Option Value}
  {nm_TooLarge q_TooLarge : Str} {N_TooLarge : Addr} {bs_TooLarge sub_TooLarge : List Value} {sn_TooLarge : List Str} {ab_TooLarge : Bool} {col_TooLarge : Option Bool} {dd_TooLarge : Option Addr} {m0_TooLarge m1_TooLarge m2_TooLarge m3_TooLarge m5_TooLarge : Option Value}
  {nm_TwoEntries q_TwoEntries : Str} {N_TwoEntries : Addr} {bs_TwoEntries sub_TwoEntries : List Value} {sn_TwoEntries : List Str} {ab_TwoEntries : Bool} {col_TwoEntries : Option Bool} {dd_TwoEntries : Option Addr} {m0_TwoEntries m1_TwoEntries m2_TwoEntries m3_TwoEntries m5_TwoEntries : Option Value}
  {nm_UnknownRelease q_UnknownRelease : Str} {N_UnknownRelease : Addr} {bs_UnknownRelease sub_UnknownRelease : List Value} {sn_UnknownRelease : List Str} {ab_UnknownRelease : Bool} {col_UnknownRelease : Option Bool} {dd_UnknownRelease : Option Addr} {m0_UnknownRelease m1_UnknownRelease m2_UnknownRelease m3_UnknownRelease m5_UnknownRelease : Option Value}
  {nm_UnknownTemplate q_UnknownTemplate : Str} {N_UnknownTemplate : Addr} {bs_UnknownTemplate sub_UnknownTemplate : List Value} {sn_UnknownTemplate : List Str} {ab_UnknownTemplate : Bool} {col_UnknownTemplate : Option Bool} {dd_UnknownTemplate : Option Addr} {m0_UnknownTemplate m1_UnknownTemplate m2_UnknownTemplate m3_UnknownTemplate m5_UnknownTemplate : Option Value}
  (g_VariantError : PySem.W.nsIn K mainGlobals "VariantError" = some (some (.ref C_VariantError)))
  (x_VariantError : PySem.W.excIn K C_VariantError [.type "ValueError", .type "Exception", .type "BaseException", .type "object"] "ValueError.__new__" = true)
  (k_VariantError : PySem.W.keepIn K (.ref C_VariantError) = true)
  (b_VariantError : PySem.W.subIn K (.ref C_VariantError) (.type "BaseException") = some true)
  (hd_VariantError : PySem.W.hasDictIn K C_VariantError = true)
  (rd_VariantError : PySem.W.readsIn K C_VariantError (.type "type") = true)
  (vg_VariantError : PySem.W.specialIn K (.ref C_VariantError) "__getattribute__" = some (some (.builtin "type.__getattribute__")))
  (va_VariantError : PySem.W.findCls K (.ref C_VariantError) (.type "type") "__init__" = some (.val (.builtin "ValueError.__init__")))
  (ga_VariantError : PySem.W.findIn K (.ref C_VariantError) "__getattribute__" = some (some (.builtin "BaseException.__getattribute__")))
  (gg_VariantError : PySem.W.findIn K (.ref C_VariantError) "__getattr__" = some none)
  (ca_VariantError : PySem.W.findIn K (.ref C_VariantError) "__class__" = some (some (.builtin "object.__class__")))
  (cg_VariantError : PySem.W.specialIn K (.builtin "object.__class__") "__get__" = some (some (.builtin "getset_descriptor.__get__")))
  (ct_VariantError : PySem.W.takesIn K (.builtin "object.__class__") = some true)
  (cm_VariantError : PySem.W.mroIn K C_VariantError (.type "object") = some true)
  (g_BadEntry : PySem.W.nsIn K mainGlobals "BadEntry" = some (some (.ref C_BadEntry)))
  (xL_BadEntry : K.lookup C_BadEntry = some (excClassObj nm_BadEntry q_BadEntry C_BadEntry N_BadEntry bs_BadEntry [.ref C_VariantError, .type "ValueError", .type "Exception", .type "BaseException", .type "object"] true sn_BadEntry sub_BadEntry ab_BadEntry col_BadEntry dd_BadEntry m0_BadEntry m1_BadEntry m2_BadEntry m3_BadEntry m5_BadEntry "ValueError.__new__"))
  (sa_BadEntry : PySem.W.findIn K (.ref C_BadEntry) "__setattr__" = some (some (.builtin "object.__setattr__")))
  (b_BadEntry : PySem.W.subIn K (.ref C_BadEntry) (.type "BaseException") = some true)
  (t_BadEntry : PySem.W.typeIn K (.ref C_BadEntry) = some (.type "type"))
  (k_BadEntry : PySem.W.keepIn K (.ref C_BadEntry) = true)
  (iC_BadEntry : PySem.W.findIn K (.ref C_BadEntry) "__init__" = some (some (.ref f_ini_BadEntry)))
  (tI_BadEntry : PySem.W.typeIn K (.ref f_ini_BadEntry) = some (.type "function"))
  (ga_BadEntry : PySem.W.findIn K (.ref C_BadEntry) "__getattribute__" = some (some (.builtin "BaseException.__getattribute__")))
  (gg_BadEntry : PySem.W.findIn K (.ref C_BadEntry) "__getattr__" = some none)
  (hd_BadEntry : PySem.W.hasDictIn K C_BadEntry = true)
  (no_BadEntry_index : PySem.W.findIn K (.ref C_BadEntry) "index" = some none)
  (s_BadEntry : PySem.W.subIn K (.ref C_BadEntry) (.ref C_BadEntry) = some true)
  (ca_BadEntry : PySem.W.findIn K (.ref C_BadEntry) "__class__" = some (some (.builtin "object.__class__")))
  (cg_BadEntry : PySem.W.specialIn K (.builtin "object.__class__") "__get__" = some (some (.builtin "getset_descriptor.__get__")))
  (ct_BadEntry : PySem.W.takesIn K (.builtin "object.__class__") = some true)
  (cm_BadEntry : PySem.W.mroIn K C_BadEntry (.type "object") = some true)
  (g_BadLine : PySem.W.nsIn K mainGlobals "BadLine" = some (some (.ref C_BadLine)))
  (xL_BadLine : K.lookup C_BadLine = some (excClassObj nm_BadLine q_BadLine C_BadLine N_BadLine bs_BadLine [.ref C_VariantError, .type "ValueError", .type "Exception", .type "BaseException", .type "object"] true sn_BadLine sub_BadLine ab_BadLine col_BadLine dd_BadLine m0_BadLine m1_BadLine m2_BadLine m3_BadLine m5_BadLine "ValueError.__new__"))
  (sa_BadLine : PySem.W.findIn K (.ref C_BadLine) "__setattr__" = some (some (.builtin "object.__setattr__")))
  (b_BadLine : PySem.W.subIn K (.ref C_BadLine) (.type "BaseException") = some true)
  (t_BadLine : PySem.W.typeIn K (.ref C_BadLine) = some (.type "type"))
  (k_BadLine : PySem.W.keepIn K (.ref C_BadLine) = true)
  (iC_BadLine : PySem.W.findIn K (.ref C_BadLine) "__init__" = some (some (.ref f_ini_BadLine)))
  (tI_BadLine : PySem.W.typeIn K (.ref f_ini_BadLine) = some (.type "function"))
  (ga_BadLine : PySem.W.findIn K (.ref C_BadLine) "__getattribute__" = some (some (.builtin "BaseException.__getattribute__")))
  (gg_BadLine : PySem.W.findIn K (.ref C_BadLine) "__getattr__" = some none)
  (hd_BadLine : PySem.W.hasDictIn K C_BadLine = true)
  (no_BadLine_index : PySem.W.findIn K (.ref C_BadLine) "index" = some none)
  (s_BadLine : PySem.W.subIn K (.ref C_BadLine) (.ref C_BadLine) = some true)
  (ca_BadLine : PySem.W.findIn K (.ref C_BadLine) "__class__" = some (some (.builtin "object.__class__")))
  (cg_BadLine : PySem.W.specialIn K (.builtin "object.__class__") "__get__" = some (some (.builtin "getset_descriptor.__get__")))
  (ct_BadLine : PySem.W.takesIn K (.builtin "object.__class__") = some true)
  (cm_BadLine : PySem.W.mroIn K C_BadLine (.type "object") = some true)
  (g_BadName : PySem.W.nsIn K mainGlobals "BadName" = some (some (.ref C_BadName)))
  (xL_BadName : K.lookup C_BadName = some (excClassObj nm_BadName q_BadName C_BadName N_BadName bs_BadName [.ref C_VariantError, .type "ValueError", .type "Exception", .type "BaseException", .type "object"] true sn_BadName sub_BadName ab_BadName col_BadName dd_BadName m0_BadName m1_BadName m2_BadName m3_BadName m5_BadName "ValueError.__new__"))
  (sa_BadName : PySem.W.findIn K (.ref C_BadName) "__setattr__" = some (some (.builtin "object.__setattr__")))
  (b_BadName : PySem.W.subIn K (.ref C_BadName) (.type "BaseException") = some true)
  (t_BadName : PySem.W.typeIn K (.ref C_BadName) = some (.type "type"))
  (k_BadName : PySem.W.keepIn K (.ref C_BadName) = true)
  (iC_BadName : PySem.W.findIn K (.ref C_BadName) "__init__" = some (some (.ref f_ini_BadName)))
  (tI_BadName : PySem.W.typeIn K (.ref f_ini_BadName) = some (.type "function"))
  (ga_BadName : PySem.W.findIn K (.ref C_BadName) "__getattribute__" = some (some (.builtin "BaseException.__getattribute__")))
  (gg_BadName : PySem.W.findIn K (.ref C_BadName) "__getattr__" = some none)
  (hd_BadName : PySem.W.hasDictIn K C_BadName = true)
  (no_BadName_name : PySem.W.findIn K (.ref C_BadName) "name" = some none)
  (s_BadName : PySem.W.subIn K (.ref C_BadName) (.ref C_BadName) = some true)
  (ca_BadName : PySem.W.findIn K (.ref C_BadName) "__class__" = some (some (.builtin "object.__class__")))
  (cg_BadName : PySem.W.specialIn K (.builtin "object.__class__") "__get__" = some (some (.builtin "getset_descriptor.__get__")))
  (ct_BadName : PySem.W.takesIn K (.builtin "object.__class__") = some true)
  (cm_BadName : PySem.W.mroIn K C_BadName (.type "object") = some true)
  (g_BadPiece : PySem.W.nsIn K mainGlobals "BadPiece" = some (some (.ref C_BadPiece)))
  (x_BadPiece : PySem.W.excIn K C_BadPiece [.type "ValueError", .type "Exception", .type "BaseException", .type "object"] "ValueError.__new__" = true)
  (k_BadPiece : PySem.W.keepIn K (.ref C_BadPiece) = true)
  (b_BadPiece : PySem.W.subIn K (.ref C_BadPiece) (.type "BaseException") = some true)
  (t_BadPiece : PySem.W.typeIn K (.ref C_BadPiece) = some (.type "type"))
  (hd_BadPiece : PySem.W.hasDictIn K C_BadPiece = true)
  (s_BadPiece : PySem.W.subIn K (.ref C_BadPiece) (.ref C_BadPiece) = some true)
  (ga_BadPiece : PySem.W.findIn K (.ref C_BadPiece) "__getattribute__" = some (some (.builtin "BaseException.__getattribute__")))
  (gg_BadPiece : PySem.W.findIn K (.ref C_BadPiece) "__getattr__" = some none)
  (ca_BadPiece : PySem.W.findIn K (.ref C_BadPiece) "__class__" = some (some (.builtin "object.__class__")))
  (cg_BadPiece : PySem.W.specialIn K (.builtin "object.__class__") "__get__" = some (some (.builtin "getset_descriptor.__get__")))
  (ct_BadPiece : PySem.W.takesIn K (.builtin "object.__class__") = some true)
  (cm_BadPiece : PySem.W.mroIn K C_BadPiece (.type "object") = some true)
  (g_BadStep : PySem.W.nsIn K mainGlobals "BadStep" = some (some (.ref C_BadStep)))
  (xL_BadStep : K.lookup C_BadStep = some (excClassObj nm_BadStep q_BadStep C_BadStep N_BadStep bs_BadStep [.ref C_VariantError, .type "ValueError", .type "Exception", .type "BaseException", .type "object"] true sn_BadStep sub_BadStep ab_BadStep col_BadStep dd_BadStep m0_BadStep m1_BadStep m2_BadStep m3_BadStep m5_BadStep "ValueError.__new__"))
  (sa_BadStep : PySem.W.findIn K (.ref C_BadStep) "__setattr__" = some (some (.builtin "object.__setattr__")))
  (b_BadStep : PySem.W.subIn K (.ref C_BadStep) (.type "BaseException") = some true)
  (t_BadStep : PySem.W.typeIn K (.ref C_BadStep) = some (.type "type"))
  (k_BadStep : PySem.W.keepIn K (.ref C_BadStep) = true)
  (iC_BadStep : PySem.W.findIn K (.ref C_BadStep) "__init__" = some (some (.ref f_ini_BadStep)))
  (tI_BadStep : PySem.W.typeIn K (.ref f_ini_BadStep) = some (.type "function"))
  (ga_BadStep : PySem.W.findIn K (.ref C_BadStep) "__getattribute__" = some (some (.builtin "BaseException.__getattribute__")))
  (gg_BadStep : PySem.W.findIn K (.ref C_BadStep) "__getattr__" = some none)
  (hd_BadStep : PySem.W.hasDictIn K C_BadStep = true)
  (no_BadStep_index : PySem.W.findIn K (.ref C_BadStep) "index" = some none)
  (s_BadStep : PySem.W.subIn K (.ref C_BadStep) (.ref C_BadStep) = some true)
  (ca_BadStep : PySem.W.findIn K (.ref C_BadStep) "__class__" = some (some (.builtin "object.__class__")))
  (cg_BadStep : PySem.W.specialIn K (.builtin "object.__class__") "__get__" = some (some (.builtin "getset_descriptor.__get__")))
  (ct_BadStep : PySem.W.takesIn K (.builtin "object.__class__") = some true)
  (cm_BadStep : PySem.W.mroIn K C_BadStep (.type "object") = some true)
  (g_BadText : PySem.W.nsIn K mainGlobals "BadText" = some (some (.ref C_BadText)))
  (xL_BadText : K.lookup C_BadText = some (excClassObj nm_BadText q_BadText C_BadText N_BadText bs_BadText [.ref C_VariantError, .type "ValueError", .type "Exception", .type "BaseException", .type "object"] true sn_BadText sub_BadText ab_BadText col_BadText dd_BadText m0_BadText m1_BadText m2_BadText m3_BadText m5_BadText "ValueError.__new__"))
  (sa_BadText : PySem.W.findIn K (.ref C_BadText) "__setattr__" = some (some (.builtin "object.__setattr__")))
  (b_BadText : PySem.W.subIn K (.ref C_BadText) (.type "BaseException") = some true)
  (t_BadText : PySem.W.typeIn K (.ref C_BadText) = some (.type "type"))
  (k_BadText : PySem.W.keepIn K (.ref C_BadText) = true)
  (iC_BadText : PySem.W.findIn K (.ref C_BadText) "__init__" = some (some (.ref f_ini_BadText)))
  (tI_BadText : PySem.W.typeIn K (.ref f_ini_BadText) = some (.type "function"))
  (ga_BadText : PySem.W.findIn K (.ref C_BadText) "__getattribute__" = some (some (.builtin "BaseException.__getattribute__")))
  (gg_BadText : PySem.W.findIn K (.ref C_BadText) "__getattr__" = some none)
  (hd_BadText : PySem.W.hasDictIn K C_BadText = true)
  (no_BadText_at : PySem.W.findIn K (.ref C_BadText) "at" = some none)
  (s_BadText : PySem.W.subIn K (.ref C_BadText) (.ref C_BadText) = some true)
  (ca_BadText : PySem.W.findIn K (.ref C_BadText) "__class__" = some (some (.builtin "object.__class__")))
  (cg_BadText : PySem.W.specialIn K (.builtin "object.__class__") "__get__" = some (some (.builtin "getset_descriptor.__get__")))
  (ct_BadText : PySem.W.takesIn K (.builtin "object.__class__") = some true)
  (cm_BadText : PySem.W.mroIn K C_BadText (.type "object") = some true)
  (g_BadTree : PySem.W.nsIn K mainGlobals "BadTree" = some (some (.ref C_BadTree)))
  (x_BadTree : PySem.W.excIn K C_BadTree [.type "ValueError", .type "Exception", .type "BaseException", .type "object"] "ValueError.__new__" = true)
  (k_BadTree : PySem.W.keepIn K (.ref C_BadTree) = true)
  (b_BadTree : PySem.W.subIn K (.ref C_BadTree) (.type "BaseException") = some true)
  (t_BadTree : PySem.W.typeIn K (.ref C_BadTree) = some (.type "type"))
  (hd_BadTree : PySem.W.hasDictIn K C_BadTree = true)
  (s_BadTree : PySem.W.subIn K (.ref C_BadTree) (.ref C_BadTree) = some true)
  (ga_BadTree : PySem.W.findIn K (.ref C_BadTree) "__getattribute__" = some (some (.builtin "BaseException.__getattribute__")))
  (gg_BadTree : PySem.W.findIn K (.ref C_BadTree) "__getattr__" = some none)
  (ca_BadTree : PySem.W.findIn K (.ref C_BadTree) "__class__" = some (some (.builtin "object.__class__")))
  (cg_BadTree : PySem.W.specialIn K (.builtin "object.__class__") "__get__" = some (some (.builtin "getset_descriptor.__get__")))
  (ct_BadTree : PySem.W.takesIn K (.builtin "object.__class__") = some true)
  (cm_BadTree : PySem.W.mroIn K C_BadTree (.type "object") = some true)
  (g_Broken : PySem.W.nsIn K mainGlobals "Broken" = some (some (.ref C_Broken)))
  (xL_Broken : K.lookup C_Broken = some (excClassObj nm_Broken q_Broken C_Broken N_Broken bs_Broken [.ref C_VariantError, .type "ValueError", .type "Exception", .type "BaseException", .type "object"] true sn_Broken sub_Broken ab_Broken col_Broken dd_Broken m0_Broken m1_Broken m2_Broken m3_Broken m5_Broken "ValueError.__new__"))
  (sa_Broken : PySem.W.findIn K (.ref C_Broken) "__setattr__" = some (some (.builtin "object.__setattr__")))
  (b_Broken : PySem.W.subIn K (.ref C_Broken) (.type "BaseException") = some true)
  (t_Broken : PySem.W.typeIn K (.ref C_Broken) = some (.type "type"))
  (k_Broken : PySem.W.keepIn K (.ref C_Broken) = true)
  (iC_Broken : PySem.W.findIn K (.ref C_Broken) "__init__" = some (some (.ref f_ini_Broken)))
  (tI_Broken : PySem.W.typeIn K (.ref f_ini_Broken) = some (.type "function"))
  (ga_Broken : PySem.W.findIn K (.ref C_Broken) "__getattribute__" = some (some (.builtin "BaseException.__getattribute__")))
  (gg_Broken : PySem.W.findIn K (.ref C_Broken) "__getattr__" = some none)
  (hd_Broken : PySem.W.hasDictIn K C_Broken = true)
  (no_Broken_index : PySem.W.findIn K (.ref C_Broken) "index" = some none)
  (s_Broken : PySem.W.subIn K (.ref C_Broken) (.ref C_Broken) = some true)
  (ca_Broken : PySem.W.findIn K (.ref C_Broken) "__class__" = some (some (.builtin "object.__class__")))
  (cg_Broken : PySem.W.specialIn K (.builtin "object.__class__") "__get__" = some (some (.builtin "getset_descriptor.__get__")))
  (ct_Broken : PySem.W.takesIn K (.builtin "object.__class__") = some true)
  (cm_Broken : PySem.W.mroIn K C_Broken (.type "object") = some true)
  (g_Clash : PySem.W.nsIn K mainGlobals "Clash" = some (some (.ref C_Clash)))
  (xL_Clash : K.lookup C_Clash = some (excClassObj nm_Clash q_Clash C_Clash N_Clash bs_Clash [.ref C_VariantError, .type "ValueError", .type "Exception", .type "BaseException", .type "object"] true sn_Clash sub_Clash ab_Clash col_Clash dd_Clash m0_Clash m1_Clash m2_Clash m3_Clash m5_Clash "ValueError.__new__"))
  (sa_Clash : PySem.W.findIn K (.ref C_Clash) "__setattr__" = some (some (.builtin "object.__setattr__")))
  (b_Clash : PySem.W.subIn K (.ref C_Clash) (.type "BaseException") = some true)
  (t_Clash : PySem.W.typeIn K (.ref C_Clash) = some (.type "type"))
  (k_Clash : PySem.W.keepIn K (.ref C_Clash) = true)
  (iC_Clash : PySem.W.findIn K (.ref C_Clash) "__init__" = some (some (.ref f_ini_Clash)))
  (tI_Clash : PySem.W.typeIn K (.ref f_ini_Clash) = some (.type "function"))
  (ga_Clash : PySem.W.findIn K (.ref C_Clash) "__getattribute__" = some (some (.builtin "BaseException.__getattribute__")))
  (gg_Clash : PySem.W.findIn K (.ref C_Clash) "__getattr__" = some none)
  (hd_Clash : PySem.W.hasDictIn K C_Clash = true)
  (no_Clash_name : PySem.W.findIn K (.ref C_Clash) "name" = some none)
  (no_Clash_key : PySem.W.findIn K (.ref C_Clash) "key" = some none)
  (s_Clash : PySem.W.subIn K (.ref C_Clash) (.ref C_Clash) = some true)
  (ca_Clash : PySem.W.findIn K (.ref C_Clash) "__class__" = some (some (.builtin "object.__class__")))
  (cg_Clash : PySem.W.specialIn K (.builtin "object.__class__") "__get__" = some (some (.builtin "getset_descriptor.__get__")))
  (ct_Clash : PySem.W.takesIn K (.builtin "object.__class__") = some true)
  (cm_Clash : PySem.W.mroIn K C_Clash (.type "object") = some true)
  (g_Frozen : PySem.W.nsIn K mainGlobals "Frozen" = some (some (.ref C_Frozen)))
  (xL_Frozen : K.lookup C_Frozen = some (excClassObj nm_Frozen q_Frozen C_Frozen N_Frozen bs_Frozen [.ref C_VariantError, .type "ValueError", .type "Exception", .type "BaseException", .type "object"] true sn_Frozen sub_Frozen ab_Frozen col_Frozen dd_Frozen m0_Frozen m1_Frozen m2_Frozen m3_Frozen m5_Frozen "ValueError.__new__"))
  (sa_Frozen : PySem.W.findIn K (.ref C_Frozen) "__setattr__" = some (some (.builtin "object.__setattr__")))
  (b_Frozen : PySem.W.subIn K (.ref C_Frozen) (.type "BaseException") = some true)
  (t_Frozen : PySem.W.typeIn K (.ref C_Frozen) = some (.type "type"))
  (k_Frozen : PySem.W.keepIn K (.ref C_Frozen) = true)
  (iC_Frozen : PySem.W.findIn K (.ref C_Frozen) "__init__" = some (some (.ref f_ini_Frozen)))
  (tI_Frozen : PySem.W.typeIn K (.ref f_ini_Frozen) = some (.type "function"))
  (ga_Frozen : PySem.W.findIn K (.ref C_Frozen) "__getattribute__" = some (some (.builtin "BaseException.__getattribute__")))
  (gg_Frozen : PySem.W.findIn K (.ref C_Frozen) "__getattr__" = some none)
  (hd_Frozen : PySem.W.hasDictIn K C_Frozen = true)
  (no_Frozen_name : PySem.W.findIn K (.ref C_Frozen) "name" = some none)
  (no_Frozen_number : PySem.W.findIn K (.ref C_Frozen) "number" = some none)
  (s_Frozen : PySem.W.subIn K (.ref C_Frozen) (.ref C_Frozen) = some true)
  (ca_Frozen : PySem.W.findIn K (.ref C_Frozen) "__class__" = some (some (.builtin "object.__class__")))
  (cg_Frozen : PySem.W.specialIn K (.builtin "object.__class__") "__get__" = some (some (.builtin "getset_descriptor.__get__")))
  (ct_Frozen : PySem.W.takesIn K (.builtin "object.__class__") = some true)
  (cm_Frozen : PySem.W.mroIn K C_Frozen (.type "object") = some true)
  (g_IdInUse : PySem.W.nsIn K mainGlobals "IdInUse" = some (some (.ref C_IdInUse)))
  (xL_IdInUse : K.lookup C_IdInUse = some (excClassObj nm_IdInUse q_IdInUse C_IdInUse N_IdInUse bs_IdInUse [.ref C_VariantError, .type "ValueError", .type "Exception", .type "BaseException", .type "object"] true sn_IdInUse sub_IdInUse ab_IdInUse col_IdInUse dd_IdInUse m0_IdInUse m1_IdInUse m2_IdInUse m3_IdInUse m5_IdInUse "ValueError.__new__"))
  (sa_IdInUse : PySem.W.findIn K (.ref C_IdInUse) "__setattr__" = some (some (.builtin "object.__setattr__")))
  (b_IdInUse : PySem.W.subIn K (.ref C_IdInUse) (.type "BaseException") = some true)
  (t_IdInUse : PySem.W.typeIn K (.ref C_IdInUse) = some (.type "type"))
  (k_IdInUse : PySem.W.keepIn K (.ref C_IdInUse) = true)
  (iC_IdInUse : PySem.W.findIn K (.ref C_IdInUse) "__init__" = some (some (.ref f_ini_IdInUse)))
  (tI_IdInUse : PySem.W.typeIn K (.ref f_ini_IdInUse) = some (.type "function"))
  (ga_IdInUse : PySem.W.findIn K (.ref C_IdInUse) "__getattribute__" = some (some (.builtin "BaseException.__getattribute__")))
  (gg_IdInUse : PySem.W.findIn K (.ref C_IdInUse) "__getattr__" = some none)
  (hd_IdInUse : PySem.W.hasDictIn K C_IdInUse = true)
  (no_IdInUse_path : PySem.W.findIn K (.ref C_IdInUse) "path" = some none)
  (s_IdInUse : PySem.W.subIn K (.ref C_IdInUse) (.ref C_IdInUse) = some true)
  (ca_IdInUse : PySem.W.findIn K (.ref C_IdInUse) "__class__" = some (some (.builtin "object.__class__")))
  (cg_IdInUse : PySem.W.specialIn K (.builtin "object.__class__") "__get__" = some (some (.builtin "getset_descriptor.__get__")))
  (ct_IdInUse : PySem.W.takesIn K (.builtin "object.__class__") = some true)
  (cm_IdInUse : PySem.W.mroIn K C_IdInUse (.type "object") = some true)
  (g_InUse : PySem.W.nsIn K mainGlobals "InUse" = some (some (.ref C_InUse)))
  (xL_InUse : K.lookup C_InUse = some (excClassObj nm_InUse q_InUse C_InUse N_InUse bs_InUse [.ref C_VariantError, .type "ValueError", .type "Exception", .type "BaseException", .type "object"] true sn_InUse sub_InUse ab_InUse col_InUse dd_InUse m0_InUse m1_InUse m2_InUse m3_InUse m5_InUse "ValueError.__new__"))
  (sa_InUse : PySem.W.findIn K (.ref C_InUse) "__setattr__" = some (some (.builtin "object.__setattr__")))
  (b_InUse : PySem.W.subIn K (.ref C_InUse) (.type "BaseException") = some true)
  (t_InUse : PySem.W.typeIn K (.ref C_InUse) = some (.type "type"))
  (k_InUse : PySem.W.keepIn K (.ref C_InUse) = true)
  (iC_InUse : PySem.W.findIn K (.ref C_InUse) "__init__" = some (some (.ref f_ini_InUse)))
  (tI_InUse : PySem.W.typeIn K (.ref f_ini_InUse) = some (.type "function"))
  (ga_InUse : PySem.W.findIn K (.ref C_InUse) "__getattribute__" = some (some (.builtin "BaseException.__getattribute__")))
  (gg_InUse : PySem.W.findIn K (.ref C_InUse) "__getattr__" = some none)
  (hd_InUse : PySem.W.hasDictIn K C_InUse = true)
  (no_InUse_user : PySem.W.findIn K (.ref C_InUse) "user" = some none)
  (s_InUse : PySem.W.subIn K (.ref C_InUse) (.ref C_InUse) = some true)
  (ca_InUse : PySem.W.findIn K (.ref C_InUse) "__class__" = some (some (.builtin "object.__class__")))
  (cg_InUse : PySem.W.specialIn K (.builtin "object.__class__") "__get__" = some (some (.builtin "getset_descriptor.__get__")))
  (ct_InUse : PySem.W.takesIn K (.builtin "object.__class__") = some true)
  (cm_InUse : PySem.W.mroIn K C_InUse (.type "object") = some true)
  (g_NameInUse : PySem.W.nsIn K mainGlobals "NameInUse" = some (some (.ref C_NameInUse)))
  (xL_NameInUse : K.lookup C_NameInUse = some (excClassObj nm_NameInUse q_NameInUse C_NameInUse N_NameInUse bs_NameInUse [.ref C_VariantError, .type "ValueError", .type "Exception", .type "BaseException", .type "object"] true sn_NameInUse sub_NameInUse ab_NameInUse col_NameInUse dd_NameInUse m0_NameInUse m1_NameInUse m2_NameInUse m3_NameInUse m5_NameInUse "ValueError.__new__"))
  (sa_NameInUse : PySem.W.findIn K (.ref C_NameInUse) "__setattr__" = some (some (.builtin "object.__setattr__")))
  (b_NameInUse : PySem.W.subIn K (.ref C_NameInUse) (.type "BaseException") = some true)
  (t_NameInUse : PySem.W.typeIn K (.ref C_NameInUse) = some (.type "type"))
  (k_NameInUse : PySem.W.keepIn K (.ref C_NameInUse) = true)
  (iC_NameInUse : PySem.W.findIn K (.ref C_NameInUse) "__init__" = some (some (.ref f_ini_NameInUse)))
  (tI_NameInUse : PySem.W.typeIn K (.ref f_ini_NameInUse) = some (.type "function"))
  (ga_NameInUse : PySem.W.findIn K (.ref C_NameInUse) "__getattribute__" = some (some (.builtin "BaseException.__getattribute__")))
  (gg_NameInUse : PySem.W.findIn K (.ref C_NameInUse) "__getattr__" = some none)
  (hd_NameInUse : PySem.W.hasDictIn K C_NameInUse = true)
  (no_NameInUse_name : PySem.W.findIn K (.ref C_NameInUse) "name" = some none)
  (s_NameInUse : PySem.W.subIn K (.ref C_NameInUse) (.ref C_NameInUse) = some true)
  (ca_NameInUse : PySem.W.findIn K (.ref C_NameInUse) "__class__" = some (some (.builtin "object.__class__")))
  (cg_NameInUse : PySem.W.specialIn K (.builtin "object.__class__") "__get__" = some (some (.builtin "getset_descriptor.__get__")))
  (ct_NameInUse : PySem.W.takesIn K (.builtin "object.__class__") = some true)
  (cm_NameInUse : PySem.W.mroIn K C_NameInUse (.type "object") = some true)
  (g_NoKey : PySem.W.nsIn K mainGlobals "NoKey" = some (some (.ref C_NoKey)))
  (xL_NoKey : K.lookup C_NoKey = some (excClassObj nm_NoKey q_NoKey C_NoKey N_NoKey bs_NoKey [.ref C_VariantError, .type "ValueError", .type "Exception", .type "BaseException", .type "object"] true sn_NoKey sub_NoKey ab_NoKey col_NoKey dd_NoKey m0_NoKey m1_NoKey m2_NoKey m3_NoKey m5_NoKey "ValueError.__new__"))
  (sa_NoKey : PySem.W.findIn K (.ref C_NoKey) "__setattr__" = some (some (.builtin "object.__setattr__")))
  (b_NoKey : PySem.W.subIn K (.ref C_NoKey) (.type "BaseException") = some true)
  (t_NoKey : PySem.W.typeIn K (.ref C_NoKey) = some (.type "type"))
  (k_NoKey : PySem.W.keepIn K (.ref C_NoKey) = true)
  (iC_NoKey : PySem.W.findIn K (.ref C_NoKey) "__init__" = some (some (.ref f_ini_NoKey)))
  (tI_NoKey : PySem.W.typeIn K (.ref f_ini_NoKey) = some (.type "function"))
  (ga_NoKey : PySem.W.findIn K (.ref C_NoKey) "__getattribute__" = some (some (.builtin "BaseException.__getattribute__")))
  (gg_NoKey : PySem.W.findIn K (.ref C_NoKey) "__getattr__" = some none)
  (hd_NoKey : PySem.W.hasDictIn K C_NoKey = true)
  (no_NoKey_key : PySem.W.findIn K (.ref C_NoKey) "key" = some none)
  (s_NoKey : PySem.W.subIn K (.ref C_NoKey) (.ref C_NoKey) = some true)
  (ca_NoKey : PySem.W.findIn K (.ref C_NoKey) "__class__" = some (some (.builtin "object.__class__")))
  (cg_NoKey : PySem.W.specialIn K (.builtin "object.__class__") "__get__" = some (some (.builtin "getset_descriptor.__get__")))
  (ct_NoKey : PySem.W.takesIn K (.builtin "object.__class__") = some true)
  (cm_NoKey : PySem.W.mroIn K C_NoKey (.type "object") = some true)
  (g_NoNode : PySem.W.nsIn K mainGlobals "NoNode" = some (some (.ref C_NoNode)))
  (xL_NoNode : K.lookup C_NoNode = some (excClassObj nm_NoNode q_NoNode C_NoNode N_NoNode bs_NoNode [.ref C_VariantError, .type "ValueError", .type "Exception", .type "BaseException", .type "object"] true sn_NoNode sub_NoNode ab_NoNode col_NoNode dd_NoNode m0_NoNode m1_NoNode m2_NoNode m3_NoNode m5_NoNode "ValueError.__new__"))
  (sa_NoNode : PySem.W.findIn K (.ref C_NoNode) "__setattr__" = some (some (.builtin "object.__setattr__")))
  (b_NoNode : PySem.W.subIn K (.ref C_NoNode) (.type "BaseException") = some true)
  (t_NoNode : PySem.W.typeIn K (.ref C_NoNode) = some (.type "type"))
  (k_NoNode : PySem.W.keepIn K (.ref C_NoNode) = true)
  (iC_NoNode : PySem.W.findIn K (.ref C_NoNode) "__init__" = some (some (.ref f_ini_NoNode)))
  (tI_NoNode : PySem.W.typeIn K (.ref f_ini_NoNode) = some (.type "function"))
  (ga_NoNode : PySem.W.findIn K (.ref C_NoNode) "__getattribute__" = some (some (.builtin "BaseException.__getattribute__")))
  (gg_NoNode : PySem.W.findIn K (.ref C_NoNode) "__getattr__" = some none)
  (hd_NoNode : PySem.W.hasDictIn K C_NoNode = true)
  (no_NoNode_path : PySem.W.findIn K (.ref C_NoNode) "path" = some none)
  (s_NoNode : PySem.W.subIn K (.ref C_NoNode) (.ref C_NoNode) = some true)
  (ca_NoNode : PySem.W.findIn K (.ref C_NoNode) "__class__" = some (some (.builtin "object.__class__")))
  (cg_NoNode : PySem.W.specialIn K (.builtin "object.__class__") "__get__" = some (some (.builtin "getset_descriptor.__get__")))
  (ct_NoNode : PySem.W.takesIn K (.builtin "object.__class__") = some true)
  (cm_NoNode : PySem.W.mroIn K C_NoNode (.type "object") = some true)
  (g_NoProp : PySem.W.nsIn K mainGlobals "NoProp" = some (some (.ref C_NoProp)))
  (xL_NoProp : K.lookup C_NoProp = some (excClassObj nm_NoProp q_NoProp C_NoProp N_NoProp bs_NoProp [.ref C_VariantError, .type "ValueError", .type "Exception", .type "BaseException", .type "object"] true sn_NoProp sub_NoProp ab_NoProp col_NoProp dd_NoProp m0_NoProp m1_NoProp m2_NoProp m3_NoProp m5_NoProp "ValueError.__new__"))
  (sa_NoProp : PySem.W.findIn K (.ref C_NoProp) "__setattr__" = some (some (.builtin "object.__setattr__")))
  (b_NoProp : PySem.W.subIn K (.ref C_NoProp) (.type "BaseException") = some true)
  (t_NoProp : PySem.W.typeIn K (.ref C_NoProp) = some (.type "type"))
  (k_NoProp : PySem.W.keepIn K (.ref C_NoProp) = true)
  (iC_NoProp : PySem.W.findIn K (.ref C_NoProp) "__init__" = some (some (.ref f_ini_NoProp)))
  (tI_NoProp : PySem.W.typeIn K (.ref f_ini_NoProp) = some (.type "function"))
  (ga_NoProp : PySem.W.findIn K (.ref C_NoProp) "__getattribute__" = some (some (.builtin "BaseException.__getattribute__")))
  (gg_NoProp : PySem.W.findIn K (.ref C_NoProp) "__getattr__" = some none)
  (hd_NoProp : PySem.W.hasDictIn K C_NoProp = true)
  (no_NoProp_prop : PySem.W.findIn K (.ref C_NoProp) "prop" = some none)
  (s_NoProp : PySem.W.subIn K (.ref C_NoProp) (.ref C_NoProp) = some true)
  (ca_NoProp : PySem.W.findIn K (.ref C_NoProp) "__class__" = some (some (.builtin "object.__class__")))
  (cg_NoProp : PySem.W.specialIn K (.builtin "object.__class__") "__get__" = some (some (.builtin "getset_descriptor.__get__")))
  (ct_NoProp : PySem.W.takesIn K (.builtin "object.__class__") = some true)
  (cm_NoProp : PySem.W.mroIn K C_NoProp (.type "object") = some true)
  (g_NoStep : PySem.W.nsIn K mainGlobals "NoStep" = some (some (.ref C_NoStep)))
  (xL_NoStep : K.lookup C_NoStep = some (excClassObj nm_NoStep q_NoStep C_NoStep N_NoStep bs_NoStep [.ref C_VariantError, .type "ValueError", .type "Exception", .type "BaseException", .type "object"] true sn_NoStep sub_NoStep ab_NoStep col_NoStep dd_NoStep m0_NoStep m1_NoStep m2_NoStep m3_NoStep m5_NoStep "ValueError.__new__"))
  (sa_NoStep : PySem.W.findIn K (.ref C_NoStep) "__setattr__" = some (some (.builtin "object.__setattr__")))
  (b_NoStep : PySem.W.subIn K (.ref C_NoStep) (.type "BaseException") = some true)
  (t_NoStep : PySem.W.typeIn K (.ref C_NoStep) = some (.type "type"))
  (k_NoStep : PySem.W.keepIn K (.ref C_NoStep) = true)
  (iC_NoStep : PySem.W.findIn K (.ref C_NoStep) "__init__" = some (some (.ref f_ini_NoStep)))
  (tI_NoStep : PySem.W.typeIn K (.ref f_ini_NoStep) = some (.type "function"))
  (ga_NoStep : PySem.W.findIn K (.ref C_NoStep) "__getattribute__" = some (some (.builtin "BaseException.__getattribute__")))
  (gg_NoStep : PySem.W.findIn K (.ref C_NoStep) "__getattr__" = some none)
  (hd_NoStep : PySem.W.hasDictIn K C_NoStep = true)
  (no_NoStep_index : PySem.W.findIn K (.ref C_NoStep) "index" = some none)
  (s_NoStep : PySem.W.subIn K (.ref C_NoStep) (.ref C_NoStep) = some true)
  (ca_NoStep : PySem.W.findIn K (.ref C_NoStep) "__class__" = some (some (.builtin "object.__class__")))
  (cg_NoStep : PySem.W.specialIn K (.builtin "object.__class__") "__get__" = some (some (.builtin "getset_descriptor.__get__")))
  (ct_NoStep : PySem.W.takesIn K (.builtin "object.__class__") = some true)
  (cm_NoStep : PySem.W.mroIn K C_NoStep (.type "object") = some true)
  (g_NoUse : PySem.W.nsIn K mainGlobals "NoUse" = some (some (.ref C_NoUse)))
  (xL_NoUse : K.lookup C_NoUse = some (excClassObj nm_NoUse q_NoUse C_NoUse N_NoUse bs_NoUse [.ref C_VariantError, .type "ValueError", .type "Exception", .type "BaseException", .type "object"] true sn_NoUse sub_NoUse ab_NoUse col_NoUse dd_NoUse m0_NoUse m1_NoUse m2_NoUse m3_NoUse m5_NoUse "ValueError.__new__"))
  (sa_NoUse : PySem.W.findIn K (.ref C_NoUse) "__setattr__" = some (some (.builtin "object.__setattr__")))
  (b_NoUse : PySem.W.subIn K (.ref C_NoUse) (.type "BaseException") = some true)
  (t_NoUse : PySem.W.typeIn K (.ref C_NoUse) = some (.type "type"))
  (k_NoUse : PySem.W.keepIn K (.ref C_NoUse) = true)
  (iC_NoUse : PySem.W.findIn K (.ref C_NoUse) "__init__" = some (some (.ref f_ini_NoUse)))
  (tI_NoUse : PySem.W.typeIn K (.ref f_ini_NoUse) = some (.type "function"))
  (ga_NoUse : PySem.W.findIn K (.ref C_NoUse) "__getattribute__" = some (some (.builtin "BaseException.__getattribute__")))
  (gg_NoUse : PySem.W.findIn K (.ref C_NoUse) "__getattr__" = some none)
  (hd_NoUse : PySem.W.hasDictIn K C_NoUse = true)
  (no_NoUse_place : PySem.W.findIn K (.ref C_NoUse) "place" = some none)
  (s_NoUse : PySem.W.subIn K (.ref C_NoUse) (.ref C_NoUse) = some true)
  (ca_NoUse : PySem.W.findIn K (.ref C_NoUse) "__class__" = some (some (.builtin "object.__class__")))
  (cg_NoUse : PySem.W.specialIn K (.builtin "object.__class__") "__get__" = some (some (.builtin "getset_descriptor.__get__")))
  (ct_NoUse : PySem.W.takesIn K (.builtin "object.__class__") = some true)
  (cm_NoUse : PySem.W.mroIn K C_NoUse (.type "object") = some true)
  (g_NotPlain : PySem.W.nsIn K mainGlobals "NotPlain" = some (some (.ref C_NotPlain)))
  (xL_NotPlain : K.lookup C_NotPlain = some (excClassObj nm_NotPlain q_NotPlain C_NotPlain N_NotPlain bs_NotPlain [.ref C_VariantError, .type "ValueError", .type "Exception", .type "BaseException", .type "object"] true sn_NotPlain sub_NotPlain ab_NotPlain col_NotPlain dd_NotPlain m0_NotPlain m1_NotPlain m2_NotPlain m3_NotPlain m5_NotPlain "ValueError.__new__"))
  (sa_NotPlain : PySem.W.findIn K (.ref C_NotPlain) "__setattr__" = some (some (.builtin "object.__setattr__")))
  (b_NotPlain : PySem.W.subIn K (.ref C_NotPlain) (.type "BaseException") = some true)
  (t_NotPlain : PySem.W.typeIn K (.ref C_NotPlain) = some (.type "type"))
  (k_NotPlain : PySem.W.keepIn K (.ref C_NotPlain) = true)
  (iC_NotPlain : PySem.W.findIn K (.ref C_NotPlain) "__init__" = some (some (.ref f_ini_NotPlain)))
  (tI_NotPlain : PySem.W.typeIn K (.ref f_ini_NotPlain) = some (.type "function"))
  (ga_NotPlain : PySem.W.findIn K (.ref C_NotPlain) "__getattribute__" = some (some (.builtin "BaseException.__getattribute__")))
  (gg_NotPlain : PySem.W.findIn K (.ref C_NotPlain) "__getattr__" = some none)
  (hd_NotPlain : PySem.W.hasDictIn K C_NotPlain = true)
  (no_NotPlain_name : PySem.W.findIn K (.ref C_NotPlain) "name" = some none)
  (s_NotPlain : PySem.W.subIn K (.ref C_NotPlain) (.ref C_NotPlain) = some true)
  (ca_NotPlain : PySem.W.findIn K (.ref C_NotPlain) "__class__" = some (some (.builtin "object.__class__")))
  (cg_NotPlain : PySem.W.specialIn K (.builtin "object.__class__") "__get__" = some (some (.builtin "getset_descriptor.__get__")))
  (ct_NotPlain : PySem.W.takesIn K (.builtin "object.__class__") = some true)
  (cm_NotPlain : PySem.W.mroIn K C_NotPlain (.type "object") = some true)
  (g_NothingToRedo : PySem.W.nsIn K mainGlobals "NothingToRedo" = some (some (.ref C_NothingToRedo)))
  (x_NothingToRedo : PySem.W.excIn K C_NothingToRedo [.type "ValueError", .type "Exception", .type "BaseException", .type "object"] "ValueError.__new__" = true)
  (k_NothingToRedo : PySem.W.keepIn K (.ref C_NothingToRedo) = true)
  (b_NothingToRedo : PySem.W.subIn K (.ref C_NothingToRedo) (.type "BaseException") = some true)
  (t_NothingToRedo : PySem.W.typeIn K (.ref C_NothingToRedo) = some (.type "type"))
  (hd_NothingToRedo : PySem.W.hasDictIn K C_NothingToRedo = true)
  (s_NothingToRedo : PySem.W.subIn K (.ref C_NothingToRedo) (.ref C_NothingToRedo) = some true)
  (ga_NothingToRedo : PySem.W.findIn K (.ref C_NothingToRedo) "__getattribute__" = some (some (.builtin "BaseException.__getattribute__")))
  (gg_NothingToRedo : PySem.W.findIn K (.ref C_NothingToRedo) "__getattr__" = some none)
  (ca_NothingToRedo : PySem.W.findIn K (.ref C_NothingToRedo) "__class__" = some (some (.builtin "object.__class__")))
  (cg_NothingToRedo : PySem.W.specialIn K (.builtin "object.__class__") "__get__" = some (some (.builtin "getset_descriptor.__get__")))
  (ct_NothingToRedo : PySem.W.takesIn K (.builtin "object.__class__") = some true)
  (cm_NothingToRedo : PySem.W.mroIn K C_NothingToRedo (.type "object") = some true)
  (g_NothingToUndo : PySem.W.nsIn K mainGlobals "NothingToUndo" = some (some (.ref C_NothingToUndo)))
  (x_NothingToUndo : PySem.W.excIn K C_NothingToUndo [.type "ValueError", .type "Exception", .type "BaseException", .type "object"] "ValueError.__new__" = true)
  (k_NothingToUndo : PySem.W.keepIn K (.ref C_NothingToUndo) = true)
  (b_NothingToUndo : PySem.W.subIn K (.ref C_NothingToUndo) (.type "BaseException") = some true)
  (t_NothingToUndo : PySem.W.typeIn K (.ref C_NothingToUndo) = some (.type "type"))
  (hd_NothingToUndo : PySem.W.hasDictIn K C_NothingToUndo = true)
  (s_NothingToUndo : PySem.W.subIn K (.ref C_NothingToUndo) (.ref C_NothingToUndo) = some true)
  (ga_NothingToUndo : PySem.W.findIn K (.ref C_NothingToUndo) "__getattribute__" = some (some (.builtin "BaseException.__getattribute__")))
  (gg_NothingToUndo : PySem.W.findIn K (.ref C_NothingToUndo) "__getattr__" = some none)
  (ca_NothingToUndo : PySem.W.findIn K (.ref C_NothingToUndo) "__class__" = some (some (.builtin "object.__class__")))
  (cg_NothingToUndo : PySem.W.specialIn K (.builtin "object.__class__") "__get__" = some (some (.builtin "getset_descriptor.__get__")))
  (ct_NothingToUndo : PySem.W.takesIn K (.builtin "object.__class__") = some true)
  (cm_NothingToUndo : PySem.W.mroIn K C_NothingToUndo (.type "object") = some true)
  (g_Older : PySem.W.nsIn K mainGlobals "Older" = some (some (.ref C_Older)))
  (xL_Older : K.lookup C_Older = some (excClassObj nm_Older q_Older C_Older N_Older bs_Older [.ref C_VariantError, .type "ValueError", .type "Exception", .type "BaseException", .type "object"] true sn_Older sub_Older ab_Older col_Older dd_Older m0_Older m1_Older m2_Older m3_Older m5_Older "ValueError.__new__"))
  (sa_Older : PySem.W.findIn K (.ref C_Older) "__setattr__" = some (some (.builtin "object.__setattr__")))
  (b_Older : PySem.W.subIn K (.ref C_Older) (.type "BaseException") = some true)
  (t_Older : PySem.W.typeIn K (.ref C_Older) = some (.type "type"))
  (k_Older : PySem.W.keepIn K (.ref C_Older) = true)
  (iC_Older : PySem.W.findIn K (.ref C_Older) "__init__" = some (some (.ref f_ini_Older)))
  (tI_Older : PySem.W.typeIn K (.ref f_ini_Older) = some (.type "function"))
  (ga_Older : PySem.W.findIn K (.ref C_Older) "__getattribute__" = some (some (.builtin "BaseException.__getattribute__")))
  (gg_Older : PySem.W.findIn K (.ref C_Older) "__getattr__" = some none)
  (hd_Older : PySem.W.hasDictIn K C_Older = true)
  (no_Older_number : PySem.W.findIn K (.ref C_Older) "number" = some none)
  (s_Older : PySem.W.subIn K (.ref C_Older) (.ref C_Older) = some true)
  (ca_Older : PySem.W.findIn K (.ref C_Older) "__class__" = some (some (.builtin "object.__class__")))
  (cg_Older : PySem.W.specialIn K (.builtin "object.__class__") "__get__" = some (some (.builtin "getset_descriptor.__get__")))
  (ct_Older : PySem.W.takesIn K (.builtin "object.__class__") = some true)
  (cm_Older : PySem.W.mroIn K C_Older (.type "object") = some true)
  (g_Outside : PySem.W.nsIn K mainGlobals "Outside" = some (some (.ref C_Outside)))
  (xL_Outside : K.lookup C_Outside = some (excClassObj nm_Outside q_Outside C_Outside N_Outside bs_Outside [.ref C_VariantError, .type "ValueError", .type "Exception", .type "BaseException", .type "object"] true sn_Outside sub_Outside ab_Outside col_Outside dd_Outside m0_Outside m1_Outside m2_Outside m3_Outside m5_Outside "ValueError.__new__"))
  (sa_Outside : PySem.W.findIn K (.ref C_Outside) "__setattr__" = some (some (.builtin "object.__setattr__")))
  (b_Outside : PySem.W.subIn K (.ref C_Outside) (.type "BaseException") = some true)
  (t_Outside : PySem.W.typeIn K (.ref C_Outside) = some (.type "type"))
  (k_Outside : PySem.W.keepIn K (.ref C_Outside) = true)
  (iC_Outside : PySem.W.findIn K (.ref C_Outside) "__init__" = some (some (.ref f_ini_Outside)))
  (tI_Outside : PySem.W.typeIn K (.ref f_ini_Outside) = some (.type "function"))
  (ga_Outside : PySem.W.findIn K (.ref C_Outside) "__getattribute__" = some (some (.builtin "BaseException.__getattribute__")))
  (gg_Outside : PySem.W.findIn K (.ref C_Outside) "__getattr__" = some none)
  (hd_Outside : PySem.W.hasDictIn K C_Outside = true)
  (no_Outside_path : PySem.W.findIn K (.ref C_Outside) "path" = some none)
  (s_Outside : PySem.W.subIn K (.ref C_Outside) (.ref C_Outside) = some true)
  (ca_Outside : PySem.W.findIn K (.ref C_Outside) "__class__" = some (some (.builtin "object.__class__")))
  (cg_Outside : PySem.W.specialIn K (.builtin "object.__class__") "__get__" = some (some (.builtin "getset_descriptor.__get__")))
  (ct_Outside : PySem.W.takesIn K (.builtin "object.__class__") = some true)
  (cm_Outside : PySem.W.mroIn K C_Outside (.type "object") = some true)
  (g_PropInUse : PySem.W.nsIn K mainGlobals "PropInUse" = some (some (.ref C_PropInUse)))
  (xL_PropInUse : K.lookup C_PropInUse = some (excClassObj nm_PropInUse q_PropInUse C_PropInUse N_PropInUse bs_PropInUse [.ref C_VariantError, .type "ValueError", .type "Exception", .type "BaseException", .type "object"] true sn_PropInUse sub_PropInUse ab_PropInUse col_PropInUse dd_PropInUse m0_PropInUse m1_PropInUse m2_PropInUse m3_PropInUse m5_PropInUse "ValueError.__new__"))
  (sa_PropInUse : PySem.W.findIn K (.ref C_PropInUse) "__setattr__" = some (some (.builtin "object.__setattr__")))
  (b_PropInUse : PySem.W.subIn K (.ref C_PropInUse) (.type "BaseException") = some true)
  (t_PropInUse : PySem.W.typeIn K (.ref C_PropInUse) = some (.type "type"))
  (k_PropInUse : PySem.W.keepIn K (.ref C_PropInUse) = true)
  (iC_PropInUse : PySem.W.findIn K (.ref C_PropInUse) "__init__" = some (some (.ref f_ini_PropInUse)))
  (tI_PropInUse : PySem.W.typeIn K (.ref f_ini_PropInUse) = some (.type "function"))
  (ga_PropInUse : PySem.W.findIn K (.ref C_PropInUse) "__getattribute__" = some (some (.builtin "BaseException.__getattribute__")))
  (gg_PropInUse : PySem.W.findIn K (.ref C_PropInUse) "__getattr__" = some none)
  (hd_PropInUse : PySem.W.hasDictIn K C_PropInUse = true)
  (no_PropInUse_prop : PySem.W.findIn K (.ref C_PropInUse) "prop" = some none)
  (s_PropInUse : PySem.W.subIn K (.ref C_PropInUse) (.ref C_PropInUse) = some true)
  (ca_PropInUse : PySem.W.findIn K (.ref C_PropInUse) "__class__" = some (some (.builtin "object.__class__")))
  (cg_PropInUse : PySem.W.specialIn K (.builtin "object.__class__") "__get__" = some (some (.builtin "getset_descriptor.__get__")))
  (ct_PropInUse : PySem.W.takesIn K (.builtin "object.__class__") = some true)
  (cm_PropInUse : PySem.W.mroIn K C_PropInUse (.type "object") = some true)
  (g_Rests : PySem.W.nsIn K mainGlobals "Rests" = some (some (.ref C_Rests)))
  (xL_Rests : K.lookup C_Rests = some (excClassObj nm_Rests q_Rests C_Rests N_Rests bs_Rests [.ref C_VariantError, .type "ValueError", .type "Exception", .type "BaseException", .type "object"] true sn_Rests sub_Rests ab_Rests col_Rests dd_Rests m0_Rests m1_Rests m2_Rests m3_Rests m5_Rests "ValueError.__new__"))
  (sa_Rests : PySem.W.findIn K (.ref C_Rests) "__setattr__" = some (some (.builtin "object.__setattr__")))
  (b_Rests : PySem.W.subIn K (.ref C_Rests) (.type "BaseException") = some true)
  (t_Rests : PySem.W.typeIn K (.ref C_Rests) = some (.type "type"))
  (k_Rests : PySem.W.keepIn K (.ref C_Rests) = true)
  (iC_Rests : PySem.W.findIn K (.ref C_Rests) "__init__" = some (some (.ref f_ini_Rests)))
  (tI_Rests : PySem.W.typeIn K (.ref f_ini_Rests) = some (.type "function"))
  (ga_Rests : PySem.W.findIn K (.ref C_Rests) "__getattribute__" = some (some (.builtin "BaseException.__getattribute__")))
  (gg_Rests : PySem.W.findIn K (.ref C_Rests) "__getattr__" = some none)
  (hd_Rests : PySem.W.hasDictIn K C_Rests = true)
  (no_Rests_key : PySem.W.findIn K (.ref C_Rests) "key" = some none)
  (s_Rests : PySem.W.subIn K (.ref C_Rests) (.ref C_Rests) = some true)
  (ca_Rests : PySem.W.findIn K (.ref C_Rests) "__class__" = some (some (.builtin "object.__class__")))
  (cg_Rests : PySem.W.specialIn K (.builtin "object.__class__") "__get__" = some (some (.builtin "getset_descriptor.__get__")))
  (ct_Rests : PySem.W.takesIn K (.builtin "object.__class__") = some true)
  (cm_Rests : PySem.W.mroIn K C_Rests (.type "object") = some true)
  (g_Ring : PySem.W.nsIn K mainGlobals "Ring" = some (some (.ref C_Ring)))
  (xL_Ring : K.lookup C_Ring = some (excClassObj nm_Ring q_Ring C_Ring N_Ring bs_Ring [.ref C_VariantError, .type "ValueError", .type "Exception", .type "BaseException", .type "object"] true sn_Ring sub_Ring ab_Ring col_Ring dd_Ring m0_Ring m1_Ring m2_Ring m3_Ring m5_Ring "ValueError.__new__"))
  (sa_Ring : PySem.W.findIn K (.ref C_Ring) "__setattr__" = some (some (.builtin "object.__setattr__")))
  (b_Ring : PySem.W.subIn K (.ref C_Ring) (.type "BaseException") = some true)
  (t_Ring : PySem.W.typeIn K (.ref C_Ring) = some (.type "type"))
  (k_Ring : PySem.W.keepIn K (.ref C_Ring) = true)
  (iC_Ring : PySem.W.findIn K (.ref C_Ring) "__init__" = some (some (.ref f_ini_Ring)))
  (tI_Ring : PySem.W.typeIn K (.ref f_ini_Ring) = some (.type "function"))
  (ga_Ring : PySem.W.findIn K (.ref C_Ring) "__getattribute__" = some (some (.builtin "BaseException.__getattribute__")))
  (gg_Ring : PySem.W.findIn K (.ref C_Ring) "__getattr__" = some none)
  (hd_Ring : PySem.W.hasDictIn K C_Ring = true)
  (no_Ring_circle : PySem.W.findIn K (.ref C_Ring) "circle" = some none)
  (s_Ring : PySem.W.subIn K (.ref C_Ring) (.ref C_Ring) = some true)
  (ca_Ring : PySem.W.findIn K (.ref C_Ring) "__class__" = some (some (.builtin "object.__class__")))
  (cg_Ring : PySem.W.specialIn K (.builtin "object.__class__") "__get__" = some (some (.builtin "getset_descriptor.__get__")))
  (ct_Ring : PySem.W.takesIn K (.builtin "object.__class__") = some true)
  (cm_Ring : PySem.W.mroIn K C_Ring (.type "object") = some true)
  (g_TooLarge : PySem.W.nsIn K mainGlobals "TooLarge" = some (some (.ref C_TooLarge)))
  (xL_TooLarge : K.lookup C_TooLarge = some (excClassObj nm_TooLarge q_TooLarge C_TooLarge N_TooLarge bs_TooLarge [.ref C_VariantError, .type "ValueError", .type "Exception", .type "BaseException", .type "object"] true sn_TooLarge sub_TooLarge ab_TooLarge col_TooLarge dd_TooLarge m0_TooLarge m1_TooLarge m2_TooLarge m3_TooLarge m5_TooLarge "ValueError.__new__"))
  (sa_TooLarge : PySem.W.findIn K (.ref C_TooLarge) "__setattr__" = some (some (.builtin "object.__setattr__")))
  (b_TooLarge : PySem.W.subIn K (.ref C_TooLarge) (.type "BaseException") = some true)
  (t_TooLarge : PySem.W.typeIn K (.ref C_TooLarge) = some (.type "type"))
  (k_TooLarge : PySem.W.keepIn K (.ref C_TooLarge) = true)
  (iC_TooLarge : PySem.W.findIn K (.ref C_TooLarge) "__init__" = some (some (.ref f_ini_TooLarge)))
  (tI_TooLarge : PySem.W.typeIn K (.ref f_ini_TooLarge) = some (.type "function"))
  (ga_TooLarge : PySem.W.findIn K (.ref C_TooLarge) "__getattribute__" = some (some (.builtin "BaseException.__getattribute__")))
  (gg_TooLarge : PySem.W.findIn K (.ref C_TooLarge) "__getattr__" = some none)
  (hd_TooLarge : PySem.W.hasDictIn K C_TooLarge = true)
  (no_TooLarge_name : PySem.W.findIn K (.ref C_TooLarge) "name" = some none)
  (s_TooLarge : PySem.W.subIn K (.ref C_TooLarge) (.ref C_TooLarge) = some true)
  (ca_TooLarge : PySem.W.findIn K (.ref C_TooLarge) "__class__" = some (some (.builtin "object.__class__")))
  (cg_TooLarge : PySem.W.specialIn K (.builtin "object.__class__") "__get__" = some (some (.builtin "getset_descriptor.__get__")))
  (ct_TooLarge : PySem.W.takesIn K (.builtin "object.__class__") = some true)
  (cm_TooLarge : PySem.W.mroIn K C_TooLarge (.type "object") = some true)
  (g_TwoEntries : PySem.W.nsIn K mainGlobals "TwoEntries" = some (some (.ref C_TwoEntries)))
  (xL_TwoEntries : K.lookup C_TwoEntries = some (excClassObj nm_TwoEntries q_TwoEntries C_TwoEntries N_TwoEntries bs_TwoEntries [.ref C_VariantError, .type "ValueError", .type "Exception", .type "BaseException", .type "object"] true sn_TwoEntries sub_TwoEntries ab_TwoEntries col_TwoEntries dd_TwoEntries m0_TwoEntries m1_TwoEntries m2_TwoEntries m3_TwoEntries m5_TwoEntries "ValueError.__new__"))
  (sa_TwoEntries : PySem.W.findIn K (.ref C_TwoEntries) "__setattr__" = some (some (.builtin "object.__setattr__")))
  (b_TwoEntries : PySem.W.subIn K (.ref C_TwoEntries) (.type "BaseException") = some true)
  (t_TwoEntries : PySem.W.typeIn K (.ref C_TwoEntries) = some (.type "type"))
  (k_TwoEntries : PySem.W.keepIn K (.ref C_TwoEntries) = true)
  (iC_TwoEntries : PySem.W.findIn K (.ref C_TwoEntries) "__init__" = some (some (.ref f_ini_TwoEntries)))
  (tI_TwoEntries : PySem.W.typeIn K (.ref f_ini_TwoEntries) = some (.type "function"))
  (ga_TwoEntries : PySem.W.findIn K (.ref C_TwoEntries) "__getattribute__" = some (some (.builtin "BaseException.__getattribute__")))
  (gg_TwoEntries : PySem.W.findIn K (.ref C_TwoEntries) "__getattr__" = some none)
  (hd_TwoEntries : PySem.W.hasDictIn K C_TwoEntries = true)
  (no_TwoEntries_key : PySem.W.findIn K (.ref C_TwoEntries) "key" = some none)
  (s_TwoEntries : PySem.W.subIn K (.ref C_TwoEntries) (.ref C_TwoEntries) = some true)
  (ca_TwoEntries : PySem.W.findIn K (.ref C_TwoEntries) "__class__" = some (some (.builtin "object.__class__")))
  (cg_TwoEntries : PySem.W.specialIn K (.builtin "object.__class__") "__get__" = some (some (.builtin "getset_descriptor.__get__")))
  (ct_TwoEntries : PySem.W.takesIn K (.builtin "object.__class__") = some true)
  (cm_TwoEntries : PySem.W.mroIn K C_TwoEntries (.type "object") = some true)
  (g_UnknownRelease : PySem.W.nsIn K mainGlobals "UnknownRelease" = some (some (.ref C_UnknownRelease)))
  (xL_UnknownRelease : K.lookup C_UnknownRelease = some (excClassObj nm_UnknownRelease q_UnknownRelease C_UnknownRelease N_UnknownRelease bs_UnknownRelease [.ref C_VariantError, .type "ValueError", .type "Exception", .type "BaseException", .type "object"] true sn_UnknownRelease sub_UnknownRelease ab_UnknownRelease col_UnknownRelease dd_UnknownRelease m0_UnknownRelease m1_UnknownRelease m2_UnknownRelease m3_UnknownRelease m5_UnknownRelease "ValueError.__new__"))
  (sa_UnknownRelease : PySem.W.findIn K (.ref C_UnknownRelease) "__setattr__" = some (some (.builtin "object.__setattr__")))
  (b_UnknownRelease : PySem.W.subIn K (.ref C_UnknownRelease) (.type "BaseException") = some true)
  (t_UnknownRelease : PySem.W.typeIn K (.ref C_UnknownRelease) = some (.type "type"))
  (k_UnknownRelease : PySem.W.keepIn K (.ref C_UnknownRelease) = true)
  (iC_UnknownRelease : PySem.W.findIn K (.ref C_UnknownRelease) "__init__" = some (some (.ref f_ini_UnknownRelease)))
  (tI_UnknownRelease : PySem.W.typeIn K (.ref f_ini_UnknownRelease) = some (.type "function"))
  (ga_UnknownRelease : PySem.W.findIn K (.ref C_UnknownRelease) "__getattribute__" = some (some (.builtin "BaseException.__getattribute__")))
  (gg_UnknownRelease : PySem.W.findIn K (.ref C_UnknownRelease) "__getattr__" = some none)
  (hd_UnknownRelease : PySem.W.hasDictIn K C_UnknownRelease = true)
  (no_UnknownRelease_name : PySem.W.findIn K (.ref C_UnknownRelease) "name" = some none)
  (no_UnknownRelease_number : PySem.W.findIn K (.ref C_UnknownRelease) "number" = some none)
  (s_UnknownRelease : PySem.W.subIn K (.ref C_UnknownRelease) (.ref C_UnknownRelease) = some true)
  (ca_UnknownRelease : PySem.W.findIn K (.ref C_UnknownRelease) "__class__" = some (some (.builtin "object.__class__")))
  (cg_UnknownRelease : PySem.W.specialIn K (.builtin "object.__class__") "__get__" = some (some (.builtin "getset_descriptor.__get__")))
  (ct_UnknownRelease : PySem.W.takesIn K (.builtin "object.__class__") = some true)
  (cm_UnknownRelease : PySem.W.mroIn K C_UnknownRelease (.type "object") = some true)
  (g_UnknownTemplate : PySem.W.nsIn K mainGlobals "UnknownTemplate" = some (some (.ref C_UnknownTemplate)))
  (xL_UnknownTemplate : K.lookup C_UnknownTemplate = some (excClassObj nm_UnknownTemplate q_UnknownTemplate C_UnknownTemplate N_UnknownTemplate bs_UnknownTemplate [.ref C_VariantError, .type "ValueError", .type "Exception", .type "BaseException", .type "object"] true sn_UnknownTemplate sub_UnknownTemplate ab_UnknownTemplate col_UnknownTemplate dd_UnknownTemplate m0_UnknownTemplate m1_UnknownTemplate m2_UnknownTemplate m3_UnknownTemplate m5_UnknownTemplate "ValueError.__new__"))
  (sa_UnknownTemplate : PySem.W.findIn K (.ref C_UnknownTemplate) "__setattr__" = some (some (.builtin "object.__setattr__")))
  (b_UnknownTemplate : PySem.W.subIn K (.ref C_UnknownTemplate) (.type "BaseException") = some true)
  (t_UnknownTemplate : PySem.W.typeIn K (.ref C_UnknownTemplate) = some (.type "type"))
  (k_UnknownTemplate : PySem.W.keepIn K (.ref C_UnknownTemplate) = true)
  (iC_UnknownTemplate : PySem.W.findIn K (.ref C_UnknownTemplate) "__init__" = some (some (.ref f_ini_UnknownTemplate)))
  (tI_UnknownTemplate : PySem.W.typeIn K (.ref f_ini_UnknownTemplate) = some (.type "function"))
  (ga_UnknownTemplate : PySem.W.findIn K (.ref C_UnknownTemplate) "__getattribute__" = some (some (.builtin "BaseException.__getattribute__")))
  (gg_UnknownTemplate : PySem.W.findIn K (.ref C_UnknownTemplate) "__getattr__" = some none)
  (hd_UnknownTemplate : PySem.W.hasDictIn K C_UnknownTemplate = true)
  (no_UnknownTemplate_name : PySem.W.findIn K (.ref C_UnknownTemplate) "name" = some none)
  (s_UnknownTemplate : PySem.W.subIn K (.ref C_UnknownTemplate) (.ref C_UnknownTemplate) = some true)
  (ca_UnknownTemplate : PySem.W.findIn K (.ref C_UnknownTemplate) "__class__" = some (some (.builtin "object.__class__")))
  (cg_UnknownTemplate : PySem.W.specialIn K (.builtin "object.__class__") "__get__" = some (some (.builtin "getset_descriptor.__get__")))
  (ct_UnknownTemplate : PySem.W.takesIn K (.builtin "object.__class__") = some true)
  (cm_UnknownTemplate : PySem.W.mroIn K C_UnknownTemplate (.type "object") = some true)
  (kt_BadTree_all : PySem.W.kitAny K (.ref C_BadTree) [.ref C_BadPiece, .ref C_NothingToUndo, .ref C_NothingToRedo, .ref C_NoNode, .ref C_BadEntry, .ref C_TwoEntries, .ref C_NoKey, .ref C_UnknownTemplate, .ref C_Ring, .ref C_TooLarge, .ref C_BadName, .ref C_NameInUse, .ref C_InUse, .ref C_IdInUse, .ref C_NoUse, .ref C_Rests, .ref C_Outside, .ref C_NotPlain, .ref C_NoProp, .ref C_PropInUse, .ref C_Older, .ref C_BadStep, .ref C_NoStep, .ref C_Broken, .ref C_BadText, .ref C_BadLine, .ref C_UnknownRelease, .ref C_Frozen, .ref C_Clash] = some false)
  (kt_BadTree_ValueError : PySem.W.kitOne K (.ref C_BadTree) (.type "ValueError") = some true)
  (kt_BadTree_VariantError : PySem.W.kitOne K (.ref C_BadTree) (.ref C_VariantError) = some true)
  (kt_BadPiece_all : PySem.W.kitAny K (.ref C_BadPiece) [.ref C_BadTree, .ref C_NothingToUndo, .ref C_NothingToRedo, .ref C_NoNode, .ref C_BadEntry, .ref C_TwoEntries, .ref C_NoKey, .ref C_UnknownTemplate, .ref C_Ring, .ref C_TooLarge, .ref C_BadName, .ref C_NameInUse, .ref C_InUse, .ref C_IdInUse, .ref C_NoUse, .ref C_Rests, .ref C_Outside, .ref C_NotPlain, .ref C_NoProp, .ref C_PropInUse, .ref C_Older, .ref C_BadStep, .ref C_NoStep, .ref C_Broken, .ref C_BadText, .ref C_BadLine, .ref C_UnknownRelease, .ref C_Frozen, .ref C_Clash] = some false)
  (kt_BadPiece_ValueError : PySem.W.kitOne K (.ref C_BadPiece) (.type "ValueError") = some true)
  (kt_BadPiece_VariantError : PySem.W.kitOne K (.ref C_BadPiece) (.ref C_VariantError) = some true)
  (kt_NothingToUndo_all : PySem.W.kitAny K (.ref C_NothingToUndo) [.ref C_BadTree, .ref C_BadPiece, .ref C_NothingToRedo, .ref C_NoNode, .ref C_BadEntry, .ref C_TwoEntries, .ref C_NoKey, .ref C_UnknownTemplate, .ref C_Ring, .ref C_TooLarge, .ref C_BadName, .ref C_NameInUse, .ref C_InUse, .ref C_IdInUse, .ref C_NoUse, .ref C_Rests, .ref C_Outside, .ref C_NotPlain, .ref C_NoProp, .ref C_PropInUse, .ref C_Older, .ref C_BadStep, .ref C_NoStep, .ref C_Broken, .ref C_BadText, .ref C_BadLine, .ref C_UnknownRelease, .ref C_Frozen, .ref C_Clash] = some false)
  (kt_NothingToUndo_ValueError : PySem.W.kitOne K (.ref C_NothingToUndo) (.type "ValueError") = some true)
  (kt_NothingToUndo_VariantError : PySem.W.kitOne K (.ref C_NothingToUndo) (.ref C_VariantError) = some true)
  (kt_NothingToRedo_all : PySem.W.kitAny K (.ref C_NothingToRedo) [.ref C_BadTree, .ref C_BadPiece, .ref C_NothingToUndo, .ref C_NoNode, .ref C_BadEntry, .ref C_TwoEntries, .ref C_NoKey, .ref C_UnknownTemplate, .ref C_Ring, .ref C_TooLarge, .ref C_BadName, .ref C_NameInUse, .ref C_InUse, .ref C_IdInUse, .ref C_NoUse, .ref C_Rests, .ref C_Outside, .ref C_NotPlain, .ref C_NoProp, .ref C_PropInUse, .ref C_Older, .ref C_BadStep, .ref C_NoStep, .ref C_Broken, .ref C_BadText, .ref C_BadLine, .ref C_UnknownRelease, .ref C_Frozen, .ref C_Clash] = some false)
  (kt_NothingToRedo_ValueError : PySem.W.kitOne K (.ref C_NothingToRedo) (.type "ValueError") = some true)
  (kt_NothingToRedo_VariantError : PySem.W.kitOne K (.ref C_NothingToRedo) (.ref C_VariantError) = some true)
  (kt_NoNode_all : PySem.W.kitAny K (.ref C_NoNode) [.ref C_BadTree, .ref C_BadPiece, .ref C_NothingToUndo, .ref C_NothingToRedo, .ref C_BadEntry, .ref C_TwoEntries, .ref C_NoKey, .ref C_UnknownTemplate, .ref C_Ring, .ref C_TooLarge, .ref C_BadName, .ref C_NameInUse, .ref C_InUse, .ref C_IdInUse, .ref C_NoUse, .ref C_Rests, .ref C_Outside, .ref C_NotPlain, .ref C_NoProp, .ref C_PropInUse, .ref C_Older, .ref C_BadStep, .ref C_NoStep, .ref C_Broken, .ref C_BadText, .ref C_BadLine, .ref C_UnknownRelease, .ref C_Frozen, .ref C_Clash] = some false)
  (kt_NoNode_ValueError : PySem.W.kitOne K (.ref C_NoNode) (.type "ValueError") = some true)
  (kt_NoNode_VariantError : PySem.W.kitOne K (.ref C_NoNode) (.ref C_VariantError) = some true)
  (kt_BadEntry_all : PySem.W.kitAny K (.ref C_BadEntry) [.ref C_BadTree, .ref C_BadPiece, .ref C_NothingToUndo, .ref C_NothingToRedo, .ref C_NoNode, .ref C_TwoEntries, .ref C_NoKey, .ref C_UnknownTemplate, .ref C_Ring, .ref C_TooLarge, .ref C_BadName, .ref C_NameInUse, .ref C_InUse, .ref C_IdInUse, .ref C_NoUse, .ref C_Rests, .ref C_Outside, .ref C_NotPlain, .ref C_NoProp, .ref C_PropInUse, .ref C_Older, .ref C_BadStep, .ref C_NoStep, .ref C_Broken, .ref C_BadText, .ref C_BadLine, .ref C_UnknownRelease, .ref C_Frozen, .ref C_Clash] = some false)
  (kt_BadEntry_ValueError : PySem.W.kitOne K (.ref C_BadEntry) (.type "ValueError") = some true)
  (kt_BadEntry_VariantError : PySem.W.kitOne K (.ref C_BadEntry) (.ref C_VariantError) = some true)
  (kt_TwoEntries_all : PySem.W.kitAny K (.ref C_TwoEntries) [.ref C_BadTree, .ref C_BadPiece, .ref C_NothingToUndo, .ref C_NothingToRedo, .ref C_NoNode, .ref C_BadEntry, .ref C_NoKey, .ref C_UnknownTemplate, .ref C_Ring, .ref C_TooLarge, .ref C_BadName, .ref C_NameInUse, .ref C_InUse, .ref C_IdInUse, .ref C_NoUse, .ref C_Rests, .ref C_Outside, .ref C_NotPlain, .ref C_NoProp, .ref C_PropInUse, .ref C_Older, .ref C_BadStep, .ref C_NoStep, .ref C_Broken, .ref C_BadText, .ref C_BadLine, .ref C_UnknownRelease, .ref C_Frozen, .ref C_Clash] = some false)
  (kt_TwoEntries_ValueError : PySem.W.kitOne K (.ref C_TwoEntries) (.type "ValueError") = some true)
  (kt_TwoEntries_VariantError : PySem.W.kitOne K (.ref C_TwoEntries) (.ref C_VariantError) = some true)
  (kt_NoKey_all : PySem.W.kitAny K (.ref C_NoKey) [.ref C_BadTree, .ref C_BadPiece, .ref C_NothingToUndo, .ref C_NothingToRedo, .ref C_NoNode, .ref C_BadEntry, .ref C_TwoEntries, .ref C_UnknownTemplate, .ref C_Ring, .ref C_TooLarge, .ref C_BadName, .ref C_NameInUse, .ref C_InUse, .ref C_IdInUse, .ref C_NoUse, .ref C_Rests, .ref C_Outside, .ref C_NotPlain, .ref C_NoProp, .ref C_PropInUse, .ref C_Older, .ref C_BadStep, .ref C_NoStep, .ref C_Broken, .ref C_BadText, .ref C_BadLine, .ref C_UnknownRelease, .ref C_Frozen, .ref C_Clash] = some false)
  (kt_NoKey_ValueError : PySem.W.kitOne K (.ref C_NoKey) (.type "ValueError") = some true)
  (kt_NoKey_VariantError : PySem.W.kitOne K (.ref C_NoKey) (.ref C_VariantError) = some true)
  (kt_UnknownTemplate_all : PySem.W.kitAny K (.ref C_UnknownTemplate) [.ref C_BadTree, .ref C_BadPiece, .ref C_NothingToUndo, .ref C_NothingToRedo, .ref C_NoNode, .ref C_BadEntry, .ref C_TwoEntries, .ref C_NoKey, .ref C_Ring, .ref C_TooLarge, .ref C_BadName, .ref C_NameInUse, .ref C_InUse, .ref C_IdInUse, .ref C_NoUse, .ref C_Rests, .ref C_Outside, .ref C_NotPlain, .ref C_NoProp, .ref C_PropInUse, .ref C_Older, .ref C_BadStep, .ref C_NoStep, .ref C_Broken, .ref C_BadText, .ref C_BadLine, .ref C_UnknownRelease, .ref C_Frozen, .ref C_Clash] = some false)
  (kt_UnknownTemplate_ValueError : PySem.W.kitOne K (.ref C_UnknownTemplate) (.type "ValueError") = some true)
  (kt_UnknownTemplate_VariantError : PySem.W.kitOne K (.ref C_UnknownTemplate) (.ref C_VariantError) = some true)
  (kt_Ring_all : PySem.W.kitAny K (.ref C_Ring) [.ref C_BadTree, .ref C_BadPiece, .ref C_NothingToUndo, .ref C_NothingToRedo, .ref C_NoNode, .ref C_BadEntry, .ref C_TwoEntries, .ref C_NoKey, .ref C_UnknownTemplate, .ref C_TooLarge, .ref C_BadName, .ref C_NameInUse, .ref C_InUse, .ref C_IdInUse, .ref C_NoUse, .ref C_Rests, .ref C_Outside, .ref C_NotPlain, .ref C_NoProp, .ref C_PropInUse, .ref C_Older, .ref C_BadStep, .ref C_NoStep, .ref C_Broken, .ref C_BadText, .ref C_BadLine, .ref C_UnknownRelease, .ref C_Frozen, .ref C_Clash] = some false)
  (kt_Ring_ValueError : PySem.W.kitOne K (.ref C_Ring) (.type "ValueError") = some true)
  (kt_Ring_VariantError : PySem.W.kitOne K (.ref C_Ring) (.ref C_VariantError) = some true)
  (kt_TooLarge_all : PySem.W.kitAny K (.ref C_TooLarge) [.ref C_BadTree, .ref C_BadPiece, .ref C_NothingToUndo, .ref C_NothingToRedo, .ref C_NoNode, .ref C_BadEntry, .ref C_TwoEntries, .ref C_NoKey, .ref C_UnknownTemplate, .ref C_Ring, .ref C_BadName, .ref C_NameInUse, .ref C_InUse, .ref C_IdInUse, .ref C_NoUse, .ref C_Rests, .ref C_Outside, .ref C_NotPlain, .ref C_NoProp, .ref C_PropInUse, .ref C_Older, .ref C_BadStep, .ref C_NoStep, .ref C_Broken, .ref C_BadText, .ref C_BadLine, .ref C_UnknownRelease, .ref C_Frozen, .ref C_Clash] = some false)
  (kt_TooLarge_ValueError : PySem.W.kitOne K (.ref C_TooLarge) (.type "ValueError") = some true)
  (kt_TooLarge_VariantError : PySem.W.kitOne K (.ref C_TooLarge) (.ref C_VariantError) = some true)
  (kt_BadName_all : PySem.W.kitAny K (.ref C_BadName) [.ref C_BadTree, .ref C_BadPiece, .ref C_NothingToUndo, .ref C_NothingToRedo, .ref C_NoNode, .ref C_BadEntry, .ref C_TwoEntries, .ref C_NoKey, .ref C_UnknownTemplate, .ref C_Ring, .ref C_TooLarge, .ref C_NameInUse, .ref C_InUse, .ref C_IdInUse, .ref C_NoUse, .ref C_Rests, .ref C_Outside, .ref C_NotPlain, .ref C_NoProp, .ref C_PropInUse, .ref C_Older, .ref C_BadStep, .ref C_NoStep, .ref C_Broken, .ref C_BadText, .ref C_BadLine, .ref C_UnknownRelease, .ref C_Frozen, .ref C_Clash] = some false)
  (kt_BadName_ValueError : PySem.W.kitOne K (.ref C_BadName) (.type "ValueError") = some true)
  (kt_BadName_VariantError : PySem.W.kitOne K (.ref C_BadName) (.ref C_VariantError) = some true)
  (kt_NameInUse_all : PySem.W.kitAny K (.ref C_NameInUse) [.ref C_BadTree, .ref C_BadPiece, .ref C_NothingToUndo, .ref C_NothingToRedo, .ref C_NoNode, .ref C_BadEntry, .ref C_TwoEntries, .ref C_NoKey, .ref C_UnknownTemplate, .ref C_Ring, .ref C_TooLarge, .ref C_BadName, .ref C_InUse, .ref C_IdInUse, .ref C_NoUse, .ref C_Rests, .ref C_Outside, .ref C_NotPlain, .ref C_NoProp, .ref C_PropInUse, .ref C_Older, .ref C_BadStep, .ref C_NoStep, .ref C_Broken, .ref C_BadText, .ref C_BadLine, .ref C_UnknownRelease, .ref C_Frozen, .ref C_Clash] = some false)
  (kt_NameInUse_ValueError : PySem.W.kitOne K (.ref C_NameInUse) (.type "ValueError") = some true)
  (kt_NameInUse_VariantError : PySem.W.kitOne K (.ref C_NameInUse) (.ref C_VariantError) = some true)
  (kt_InUse_all : PySem.W.kitAny K (.ref C_InUse) [.ref C_BadTree, .ref C_BadPiece, .ref C_NothingToUndo, .ref C_NothingToRedo, .ref C_NoNode, .ref C_BadEntry, .ref C_TwoEntries, .ref C_NoKey, .ref C_UnknownTemplate, .ref C_Ring, .ref C_TooLarge, .ref C_BadName, .ref C_NameInUse, .ref C_IdInUse, .ref C_NoUse, .ref C_Rests, .ref C_Outside, .ref C_NotPlain, .ref C_NoProp, .ref C_PropInUse, .ref C_Older, .ref C_BadStep, .ref C_NoStep, .ref C_Broken, .ref C_BadText, .ref C_BadLine, .ref C_UnknownRelease, .ref C_Frozen, .ref C_Clash] = some false)
  (kt_InUse_ValueError : PySem.W.kitOne K (.ref C_InUse) (.type "ValueError") = some true)
  (kt_InUse_VariantError : PySem.W.kitOne K (.ref C_InUse) (.ref C_VariantError) = some true)
  (kt_IdInUse_all : PySem.W.kitAny K (.ref C_IdInUse) [.ref C_BadTree, .ref C_BadPiece, .ref C_NothingToUndo, .ref C_NothingToRedo, .ref C_NoNode, .ref C_BadEntry, .ref C_TwoEntries, .ref C_NoKey, .ref C_UnknownTemplate, .ref C_Ring, .ref C_TooLarge, .ref C_BadName, .ref C_NameInUse, .ref C_InUse, .ref C_NoUse, .ref C_Rests, .ref C_Outside, .ref C_NotPlain, .ref C_NoProp, .ref C_PropInUse, .ref C_Older, .ref C_BadStep, .ref C_NoStep, .ref C_Broken, .ref C_BadText, .ref C_BadLine, .ref C_UnknownRelease, .ref C_Frozen, .ref C_Clash] = some false)
  (kt_IdInUse_ValueError : PySem.W.kitOne K (.ref C_IdInUse) (.type "ValueError") = some true)
  (kt_IdInUse_VariantError : PySem.W.kitOne K (.ref C_IdInUse) (.ref C_VariantError) = some true)
  (kt_NoUse_all : PySem.W.kitAny K (.ref C_NoUse) [.ref C_BadTree, .ref C_BadPiece, .ref C_NothingToUndo, .ref C_NothingToRedo, .ref C_NoNode, .ref C_BadEntry, .ref C_TwoEntries, .ref C_NoKey, .ref C_UnknownTemplate, .ref C_Ring, .ref C_TooLarge, .ref C_BadName, .ref C_NameInUse, .ref C_InUse, .ref C_IdInUse, .ref C_Rests, .ref C_Outside, .ref C_NotPlain, .ref C_NoProp, .ref C_PropInUse, .ref C_Older, .ref C_BadStep, .ref C_NoStep, .ref C_Broken, .ref C_BadText, .ref C_BadLine, .ref C_UnknownRelease, .ref C_Frozen, .ref C_Clash] = some false)
  (kt_NoUse_ValueError : PySem.W.kitOne K (.ref C_NoUse) (.type "ValueError") = some true)
  (kt_NoUse_VariantError : PySem.W.kitOne K (.ref C_NoUse) (.ref C_VariantError) = some true)
  (kt_Rests_all : PySem.W.kitAny K (.ref C_Rests) [.ref C_BadTree, .ref C_BadPiece, .ref C_NothingToUndo, .ref C_NothingToRedo, .ref C_NoNode, .ref C_BadEntry, .ref C_TwoEntries, .ref C_NoKey, .ref C_UnknownTemplate, .ref C_Ring, .ref C_TooLarge, .ref C_BadName, .ref C_NameInUse, .ref C_InUse, .ref C_IdInUse, .ref C_NoUse, .ref C_Outside, .ref C_NotPlain, .ref C_NoProp, .ref C_PropInUse, .ref C_Older, .ref C_BadStep, .ref C_NoStep, .ref C_Broken, .ref C_BadText, .ref C_BadLine, .ref C_UnknownRelease, .ref C_Frozen, .ref C_Clash] = some false)
  (kt_Rests_ValueError : PySem.W.kitOne K (.ref C_Rests) (.type "ValueError") = some true)
  (kt_Rests_VariantError : PySem.W.kitOne K (.ref C_Rests) (.ref C_VariantError) = some true)
  (kt_Outside_all : PySem.W.kitAny K (.ref C_Outside) [.ref C_BadTree, .ref C_BadPiece, .ref C_NothingToUndo, .ref C_NothingToRedo, .ref C_NoNode, .ref C_BadEntry, .ref C_TwoEntries, .ref C_NoKey, .ref C_UnknownTemplate, .ref C_Ring, .ref C_TooLarge, .ref C_BadName, .ref C_NameInUse, .ref C_InUse, .ref C_IdInUse, .ref C_NoUse, .ref C_Rests, .ref C_NotPlain, .ref C_NoProp, .ref C_PropInUse, .ref C_Older, .ref C_BadStep, .ref C_NoStep, .ref C_Broken, .ref C_BadText, .ref C_BadLine, .ref C_UnknownRelease, .ref C_Frozen, .ref C_Clash] = some false)
  (kt_Outside_ValueError : PySem.W.kitOne K (.ref C_Outside) (.type "ValueError") = some true)
  (kt_Outside_VariantError : PySem.W.kitOne K (.ref C_Outside) (.ref C_VariantError) = some true)
  (kt_NotPlain_all : PySem.W.kitAny K (.ref C_NotPlain) [.ref C_BadTree, .ref C_BadPiece, .ref C_NothingToUndo, .ref C_NothingToRedo, .ref C_NoNode, .ref C_BadEntry, .ref C_TwoEntries, .ref C_NoKey, .ref C_UnknownTemplate, .ref C_Ring, .ref C_TooLarge, .ref C_BadName, .ref C_NameInUse, .ref C_InUse, .ref C_IdInUse, .ref C_NoUse, .ref C_Rests, .ref C_Outside, .ref C_NoProp, .ref C_PropInUse, .ref C_Older, .ref C_BadStep, .ref C_NoStep, .ref C_Broken, .ref C_BadText, .ref C_BadLine, .ref C_UnknownRelease, .ref C_Frozen, .ref C_Clash] = some false)
  (kt_NotPlain_ValueError : PySem.W.kitOne K (.ref C_NotPlain) (.type "ValueError") = some true)
  (kt_NotPlain_VariantError : PySem.W.kitOne K (.ref C_NotPlain) (.ref C_VariantError) = some true)
  (kt_NoProp_all : PySem.W.kitAny K (.ref C_NoProp) [.ref C_BadTree, .ref C_BadPiece, .ref C_NothingToUndo, .ref C_NothingToRedo, .ref C_NoNode, .ref C_BadEntry, .ref C_TwoEntries, .ref C_NoKey, .ref C_UnknownTemplate, .ref C_Ring, .ref C_TooLarge, .ref C_BadName, .ref C_NameInUse, .ref C_InUse, .ref C_IdInUse, .ref C_NoUse, .ref C_Rests, .ref C_Outside, .ref C_NotPlain, .ref C_PropInUse, .ref C_Older, .ref C_BadStep, .ref C_NoStep, .ref C_Broken, .ref C_BadText, .ref C_BadLine, .ref C_UnknownRelease, .ref C_Frozen, .ref C_Clash] = some false)
  (kt_NoProp_ValueError : PySem.W.kitOne K (.ref C_NoProp) (.type "ValueError") = some true)
  (kt_NoProp_VariantError : PySem.W.kitOne K (.ref C_NoProp) (.ref C_VariantError) = some true)
  (kt_PropInUse_all : PySem.W.kitAny K (.ref C_PropInUse) [.ref C_BadTree, .ref C_BadPiece, .ref C_NothingToUndo, .ref C_NothingToRedo, .ref C_NoNode, .ref C_BadEntry, .ref C_TwoEntries, .ref C_NoKey, .ref C_UnknownTemplate, .ref C_Ring, .ref C_TooLarge, .ref C_BadName, .ref C_NameInUse, .ref C_InUse, .ref C_IdInUse, .ref C_NoUse, .ref C_Rests, .ref C_Outside, .ref C_NotPlain, .ref C_NoProp, .ref C_Older, .ref C_BadStep, .ref C_NoStep, .ref C_Broken, .ref C_BadText, .ref C_BadLine, .ref C_UnknownRelease, .ref C_Frozen, .ref C_Clash] = some false)
  (kt_PropInUse_ValueError : PySem.W.kitOne K (.ref C_PropInUse) (.type "ValueError") = some true)
  (kt_PropInUse_VariantError : PySem.W.kitOne K (.ref C_PropInUse) (.ref C_VariantError) = some true)
  (kt_Older_all : PySem.W.kitAny K (.ref C_Older) [.ref C_BadTree, .ref C_BadPiece, .ref C_NothingToUndo, .ref C_NothingToRedo, .ref C_NoNode, .ref C_BadEntry, .ref C_TwoEntries, .ref C_NoKey, .ref C_UnknownTemplate, .ref C_Ring, .ref C_TooLarge, .ref C_BadName, .ref C_NameInUse, .ref C_InUse, .ref C_IdInUse, .ref C_NoUse, .ref C_Rests, .ref C_Outside, .ref C_NotPlain, .ref C_NoProp, .ref C_PropInUse, .ref C_BadStep, .ref C_NoStep, .ref C_Broken, .ref C_BadText, .ref C_BadLine, .ref C_UnknownRelease, .ref C_Frozen, .ref C_Clash] = some false)
  (kt_Older_ValueError : PySem.W.kitOne K (.ref C_Older) (.type "ValueError") = some true)
  (kt_Older_VariantError : PySem.W.kitOne K (.ref C_Older) (.ref C_VariantError) = some true)
  (kt_BadStep_all : PySem.W.kitAny K (.ref C_BadStep) [.ref C_BadTree, .ref C_BadPiece, .ref C_NothingToUndo, .ref C_NothingToRedo, .ref C_NoNode, .ref C_BadEntry, .ref C_TwoEntries, .ref C_NoKey, .ref C_UnknownTemplate, .ref C_Ring, .ref C_TooLarge, .ref C_BadName, .ref C_NameInUse, .ref C_InUse, .ref C_IdInUse, .ref C_NoUse, .ref C_Rests, .ref C_Outside, .ref C_NotPlain, .ref C_NoProp, .ref C_PropInUse, .ref C_Older, .ref C_NoStep, .ref C_Broken, .ref C_BadText, .ref C_BadLine, .ref C_UnknownRelease, .ref C_Frozen, .ref C_Clash] = some false)
  (kt_BadStep_ValueError : PySem.W.kitOne K (.ref C_BadStep) (.type "ValueError") = some true)
  (kt_BadStep_VariantError : PySem.W.kitOne K (.ref C_BadStep) (.ref C_VariantError) = some true)
  (kt_NoStep_all : PySem.W.kitAny K (.ref C_NoStep) [.ref C_BadTree, .ref C_BadPiece, .ref C_NothingToUndo, .ref C_NothingToRedo, .ref C_NoNode, .ref C_BadEntry, .ref C_TwoEntries, .ref C_NoKey, .ref C_UnknownTemplate, .ref C_Ring, .ref C_TooLarge, .ref C_BadName, .ref C_NameInUse, .ref C_InUse, .ref C_IdInUse, .ref C_NoUse, .ref C_Rests, .ref C_Outside, .ref C_NotPlain, .ref C_NoProp, .ref C_PropInUse, .ref C_Older, .ref C_BadStep, .ref C_Broken, .ref C_BadText, .ref C_BadLine, .ref C_UnknownRelease, .ref C_Frozen, .ref C_Clash] = some false)
  (kt_NoStep_ValueError : PySem.W.kitOne K (.ref C_NoStep) (.type "ValueError") = some true)
  (kt_NoStep_VariantError : PySem.W.kitOne K (.ref C_NoStep) (.ref C_VariantError) = some true)
  (kt_Broken_all : PySem.W.kitAny K (.ref C_Broken) [.ref C_BadTree, .ref C_BadPiece, .ref C_NothingToUndo, .ref C_NothingToRedo, .ref C_NoNode, .ref C_BadEntry, .ref C_TwoEntries, .ref C_NoKey, .ref C_UnknownTemplate, .ref C_Ring, .ref C_TooLarge, .ref C_BadName, .ref C_NameInUse, .ref C_InUse, .ref C_IdInUse, .ref C_NoUse, .ref C_Rests, .ref C_Outside, .ref C_NotPlain, .ref C_NoProp, .ref C_PropInUse, .ref C_Older, .ref C_BadStep, .ref C_NoStep, .ref C_BadText, .ref C_BadLine, .ref C_UnknownRelease, .ref C_Frozen, .ref C_Clash] = some false)
  (kt_Broken_ValueError : PySem.W.kitOne K (.ref C_Broken) (.type "ValueError") = some true)
  (kt_Broken_VariantError : PySem.W.kitOne K (.ref C_Broken) (.ref C_VariantError) = some true)
  (kt_BadText_all : PySem.W.kitAny K (.ref C_BadText) [.ref C_BadTree, .ref C_BadPiece, .ref C_NothingToUndo, .ref C_NothingToRedo, .ref C_NoNode, .ref C_BadEntry, .ref C_TwoEntries, .ref C_NoKey, .ref C_UnknownTemplate, .ref C_Ring, .ref C_TooLarge, .ref C_BadName, .ref C_NameInUse, .ref C_InUse, .ref C_IdInUse, .ref C_NoUse, .ref C_Rests, .ref C_Outside, .ref C_NotPlain, .ref C_NoProp, .ref C_PropInUse, .ref C_Older, .ref C_BadStep, .ref C_NoStep, .ref C_Broken, .ref C_BadLine, .ref C_UnknownRelease, .ref C_Frozen, .ref C_Clash] = some false)
  (kt_BadText_ValueError : PySem.W.kitOne K (.ref C_BadText) (.type "ValueError") = some true)
  (kt_BadText_VariantError : PySem.W.kitOne K (.ref C_BadText) (.ref C_VariantError) = some true)
  (kt_BadLine_all : PySem.W.kitAny K (.ref C_BadLine) [.ref C_BadTree, .ref C_BadPiece, .ref C_NothingToUndo, .ref C_NothingToRedo, .ref C_NoNode, .ref C_BadEntry, .ref C_TwoEntries, .ref C_NoKey, .ref C_UnknownTemplate, .ref C_Ring, .ref C_TooLarge, .ref C_BadName, .ref C_NameInUse, .ref C_InUse, .ref C_IdInUse, .ref C_NoUse, .ref C_Rests, .ref C_Outside, .ref C_NotPlain, .ref C_NoProp, .ref C_PropInUse, .ref C_Older, .ref C_BadStep, .ref C_NoStep, .ref C_Broken, .ref C_BadText, .ref C_UnknownRelease, .ref C_Frozen, .ref C_Clash] = some false)
  (kt_BadLine_ValueError : PySem.W.kitOne K (.ref C_BadLine) (.type "ValueError") = some true)
  (kt_BadLine_VariantError : PySem.W.kitOne K (.ref C_BadLine) (.ref C_VariantError) = some true)
  (kt_UnknownRelease_all : PySem.W.kitAny K (.ref C_UnknownRelease) [.ref C_BadTree, .ref C_BadPiece, .ref C_NothingToUndo, .ref C_NothingToRedo, .ref C_NoNode, .ref C_BadEntry, .ref C_TwoEntries, .ref C_NoKey, .ref C_UnknownTemplate, .ref C_Ring, .ref C_TooLarge, .ref C_BadName, .ref C_NameInUse, .ref C_InUse, .ref C_IdInUse, .ref C_NoUse, .ref C_Rests, .ref C_Outside, .ref C_NotPlain, .ref C_NoProp, .ref C_PropInUse, .ref C_Older, .ref C_BadStep, .ref C_NoStep, .ref C_Broken, .ref C_BadText, .ref C_BadLine, .ref C_Frozen, .ref C_Clash] = some false)
  (kt_UnknownRelease_ValueError : PySem.W.kitOne K (.ref C_UnknownRelease) (.type "ValueError") = some true)
  (kt_UnknownRelease_VariantError : PySem.W.kitOne K (.ref C_UnknownRelease) (.ref C_VariantError) = some true)
  (kt_Frozen_all : PySem.W.kitAny K (.ref C_Frozen) [.ref C_BadTree, .ref C_BadPiece, .ref C_NothingToUndo, .ref C_NothingToRedo, .ref C_NoNode, .ref C_BadEntry, .ref C_TwoEntries, .ref C_NoKey, .ref C_UnknownTemplate, .ref C_Ring, .ref C_TooLarge, .ref C_BadName, .ref C_NameInUse, .ref C_InUse, .ref C_IdInUse, .ref C_NoUse, .ref C_Rests, .ref C_Outside, .ref C_NotPlain, .ref C_NoProp, .ref C_PropInUse, .ref C_Older, .ref C_BadStep, .ref C_NoStep, .ref C_Broken, .ref C_BadText, .ref C_BadLine, .ref C_UnknownRelease, .ref C_Clash] = some false)
  (kt_Frozen_ValueError : PySem.W.kitOne K (.ref C_Frozen) (.type "ValueError") = some true)
  (kt_Frozen_VariantError : PySem.W.kitOne K (.ref C_Frozen) (.ref C_VariantError) = some true)
  (kt_Clash_all : PySem.W.kitAny K (.ref C_Clash) [.ref C_BadTree, .ref C_BadPiece, .ref C_NothingToUndo, .ref C_NothingToRedo, .ref C_NoNode, .ref C_BadEntry, .ref C_TwoEntries, .ref C_NoKey, .ref C_UnknownTemplate, .ref C_Ring, .ref C_TooLarge, .ref C_BadName, .ref C_NameInUse, .ref C_InUse, .ref C_IdInUse, .ref C_NoUse, .ref C_Rests, .ref C_Outside, .ref C_NotPlain, .ref C_NoProp, .ref C_PropInUse, .ref C_Older, .ref C_BadStep, .ref C_NoStep, .ref C_Broken, .ref C_BadText, .ref C_BadLine, .ref C_UnknownRelease, .ref C_Frozen] = some false)
  (kt_Clash_ValueError : PySem.W.kitOne K (.ref C_Clash) (.type "ValueError") = some true)
  (kt_Clash_VariantError : PySem.W.kitOne K (.ref C_Clash) (.ref C_VariantError) = some true)
  (kt_VariantError_all : PySem.W.kitAny K (.ref C_VariantError) [.ref C_BadTree, .ref C_BadPiece, .ref C_NothingToUndo, .ref C_NothingToRedo, .ref C_NoNode, .ref C_BadEntry, .ref C_TwoEntries, .ref C_NoKey, .ref C_UnknownTemplate, .ref C_Ring, .ref C_TooLarge, .ref C_BadName, .ref C_NameInUse, .ref C_InUse, .ref C_IdInUse, .ref C_NoUse, .ref C_Rests, .ref C_Outside, .ref C_NotPlain, .ref C_NoProp, .ref C_PropInUse, .ref C_Older, .ref C_BadStep, .ref C_NoStep, .ref C_Broken, .ref C_BadText, .ref C_BadLine, .ref C_UnknownRelease, .ref C_Frozen, .ref C_Clash] = some false)
  (kt_VariantError_ValueError : PySem.W.kitOne K (.ref C_VariantError) (.type "ValueError") = some true)
  (a0 : PySem.W.nsIn K mainGlobals "as_tuples" = some (some (.ref f0)))
  (l0 : K.lookup f0 = some ⟨oc0, od0, .func (PySem.W.fnOf "as_tuples" "as_tuples" (defArgs s_as_tuples) (defBody s_as_tuples) (defScope s_as_tuples) .none kV0 dc0 pm0 an0 cd0 ct0), sl0⟩) (c0 : PySem.W.codeIn K cd0 "as_tuples" = true) (k0 : PySem.W.keepIn K (.ref f0) = true)
  (a1 : PySem.W.nsIn K mainGlobals "_law_draw" = some (some (.ref f1)))
  (l1 : K.lookup f1 = some ⟨oc1, od1, .func (PySem.W.fnOf "_law_draw" "_law_draw" (defArgs s__law_draw) (defBody s__law_draw) (defScope s__law_draw) .none kV1 dc1 pm1 an1 cd1 ct1), sl1⟩) (c1 : PySem.W.codeIn K cd1 "_law_draw" = true) (k1 : PySem.W.keepIn K (.ref f1) = true)
  (a2 : PySem.W.nsIn K mainGlobals "_law_same" = some (some (.ref f2)))
  (l2 : K.lookup f2 = some ⟨oc2, od2, .func (PySem.W.fnOf "_law_same" "_law_same" (defArgs s__law_same) (defBody s__law_same) (defScope s__law_same) .none kV2 dc2 pm2 an2 cd2 ct2), sl2⟩) (c2 : PySem.W.codeIn K cd2 "_law_same" = true) (k2 : PySem.W.keepIn K (.ref f2) = true)
  (a3 : PySem.W.nsIn K mainGlobals "_law_thing" = some (some (.ref f3)))
  (l3 : K.lookup f3 = some ⟨oc3, od3, .func (PySem.W.fnOf "_law_thing" "_law_thing" (defArgs s__law_thing) (defBody s__law_thing) (defScope s__law_thing) .none kV3 dc3 pm3 an3 cd3 ct3), sl3⟩) (c3 : PySem.W.codeIn K cd3 "_law_thing" = true) (k3 : PySem.W.keepIn K (.ref f3) = true)
  (a4 : PySem.W.nsIn K mainGlobals "_law_fixed" = some (some (.ref f4)))
  (l4 : K.lookup f4 = some ⟨oc4, od4, .func (PySem.W.fnOf "_law_fixed" "_law_fixed" (defArgs s__law_fixed) (defBody s__law_fixed) (defScope s__law_fixed) .none kV4 dc4 pm4 an4 cd4 ct4), sl4⟩) (c4 : PySem.W.codeIn K cd4 "_law_fixed" = true) (k4 : PySem.W.keepIn K (.ref f4) = true)
  (l5 : K.lookup f_ini_BadEntry = some ⟨oc5, od5, .func (PySem.W.fnOf "__init__" "BadEntry.__init__" (defArgs s_ini_BadEntry) (defBody s_ini_BadEntry) (defScope s_ini_BadEntry) .none kV5 dc5 pm5 an5 cd5 ct5), sl5⟩) (c5 : PySem.W.codeIn K cd5 "BadEntry.__init__" = true) (k5 : PySem.W.keepIn K (.ref f_ini_BadEntry) = true)
  (l6 : K.lookup f_ini_BadLine = some ⟨oc6, od6, .func (PySem.W.fnOf "__init__" "BadLine.__init__" (defArgs s_ini_BadLine) (defBody s_ini_BadLine) (defScope s_ini_BadLine) .none kV6 dc6 pm6 an6 cd6 ct6), sl6⟩) (c6 : PySem.W.codeIn K cd6 "BadLine.__init__" = true) (k6 : PySem.W.keepIn K (.ref f_ini_BadLine) = true)
  (l7 : K.lookup f_ini_BadName = some ⟨oc7, od7, .func (PySem.W.fnOf "__init__" "BadName.__init__" (defArgs s_ini_BadName) (defBody s_ini_BadName) (defScope s_ini_BadName) .none kV7 dc7 pm7 an7 cd7 ct7), sl7⟩) (c7 : PySem.W.codeIn K cd7 "BadName.__init__" = true) (k7 : PySem.W.keepIn K (.ref f_ini_BadName) = true)
  (l8 : K.lookup f_ini_BadStep = some ⟨oc8, od8, .func (PySem.W.fnOf "__init__" "BadStep.__init__" (defArgs s_ini_BadStep) (defBody s_ini_BadStep) (defScope s_ini_BadStep) .none kV8 dc8 pm8 an8 cd8 ct8), sl8⟩) (c8 : PySem.W.codeIn K cd8 "BadStep.__init__" = true) (k8 : PySem.W.keepIn K (.ref f_ini_BadStep) = true)
  (l9 : K.lookup f_ini_BadText = some ⟨oc9, od9, .func (PySem.W.fnOf "__init__" "BadText.__init__" (defArgs s_ini_BadText) (defBody s_ini_BadText) (defScope s_ini_BadText) .none kV9 dc9 pm9 an9 cd9 ct9), sl9⟩) (c9 : PySem.W.codeIn K cd9 "BadText.__init__" = true) (k9 : PySem.W.keepIn K (.ref f_ini_BadText) = true)
  (l10 : K.lookup f_ini_Broken = some ⟨oc10, od10, .func (PySem.W.fnOf "__init__" "Broken.__init__" (defArgs s_ini_Broken) (defBody s_ini_Broken) (defScope s_ini_Broken) .none kV10 dc10 pm10 an10 cd10 ct10), sl10⟩) (c10 : PySem.W.codeIn K cd10 "Broken.__init__" = true) (k10 : PySem.W.keepIn K (.ref f_ini_Broken) = true)
  (l11 : K.lookup f_ini_Clash = some ⟨oc11, od11, .func (PySem.W.fnOf "__init__" "Clash.__init__" (defArgs s_ini_Clash) (defBody s_ini_Clash) (defScope s_ini_Clash) .none kV11 dc11 pm11 an11 cd11 ct11), sl11⟩) (c11 : PySem.W.codeIn K cd11 "Clash.__init__" = true) (k11 : PySem.W.keepIn K (.ref f_ini_Clash) = true)
  (l12 : K.lookup f_ini_Frozen = some ⟨oc12, od12, .func (PySem.W.fnOf "__init__" "Frozen.__init__" (defArgs s_ini_Frozen) (defBody s_ini_Frozen) (defScope s_ini_Frozen) .none kV12 dc12 pm12 an12 cd12 ct12), sl12⟩) (c12 : PySem.W.codeIn K cd12 "Frozen.__init__" = true) (k12 : PySem.W.keepIn K (.ref f_ini_Frozen) = true)
  (l13 : K.lookup f_ini_IdInUse = some ⟨oc13, od13, .func (PySem.W.fnOf "__init__" "IdInUse.__init__" (defArgs s_ini_IdInUse) (defBody s_ini_IdInUse) (defScope s_ini_IdInUse) .none kV13 dc13 pm13 an13 cd13 ct13), sl13⟩) (c13 : PySem.W.codeIn K cd13 "IdInUse.__init__" = true) (k13 : PySem.W.keepIn K (.ref f_ini_IdInUse) = true)
  (l14 : K.lookup f_ini_InUse = some ⟨oc14, od14, .func (PySem.W.fnOf "__init__" "InUse.__init__" (defArgs s_ini_InUse) (defBody s_ini_InUse) (defScope s_ini_InUse) .none kV14 dc14 pm14 an14 cd14 ct14), sl14⟩) (c14 : PySem.W.codeIn K cd14 "InUse.__init__" = true) (k14 : PySem.W.keepIn K (.ref f_ini_InUse) = true)
  (l15 : K.lookup f_ini_NameInUse = some ⟨oc15, od15, .func (PySem.W.fnOf "__init__" "NameInUse.__init__" (defArgs s_ini_NameInUse) (defBody s_ini_NameInUse) (defScope s_ini_NameInUse) .none kV15 dc15 pm15 an15 cd15 ct15), sl15⟩) (c15 : PySem.W.codeIn K cd15 "NameInUse.__init__" = true) (k15 : PySem.W.keepIn K (.ref f_ini_NameInUse) = true)
  (l16 : K.lookup f_ini_NoKey = some ⟨oc16, od16, .func (PySem.W.fnOf "__init__" "NoKey.__init__" (defArgs s_ini_NoKey) (defBody s_ini_NoKey) (defScope s_ini_NoKey) .none kV16 dc16 pm16 an16 cd16 ct16), sl16⟩) (c16 : PySem.W.codeIn K cd16 "NoKey.__init__" = true) (k16 : PySem.W.keepIn K (.ref f_ini_NoKey) = true)
  (l17 : K.lookup f_ini_NoNode = some ⟨oc17, od17, .func (PySem.W.fnOf "__init__" "NoNode.__init__" (defArgs s_ini_NoNode) (defBody s_ini_NoNode) (defScope s_ini_NoNode) .none kV17 dc17 pm17 an17 cd17 ct17), sl17⟩) (c17 : PySem.W.codeIn K cd17 "NoNode.__init__" = true) (k17 : PySem.W.keepIn K (.ref f_ini_NoNode) = true)
  (l18 : K.lookup f_ini_NoProp = some ⟨oc18, od18, .func (PySem.W.fnOf "__init__" "NoProp.__init__" (defArgs s_ini_NoProp) (defBody s_ini_NoProp) (defScope s_ini_NoProp) .none kV18 dc18 pm18 an18 cd18 ct18), sl18⟩) (c18 : PySem.W.codeIn K cd18 "NoProp.__init__" = true) (k18 : PySem.W.keepIn K (.ref f_ini_NoProp) = true)
  (l19 : K.lookup f_ini_NoStep = some ⟨oc19, od19, .func (PySem.W.fnOf "__init__" "NoStep.__init__" (defArgs s_ini_NoStep) (defBody s_ini_NoStep) (defScope s_ini_NoStep) .none kV19 dc19 pm19 an19 cd19 ct19), sl19⟩) (c19 : PySem.W.codeIn K cd19 "NoStep.__init__" = true) (k19 : PySem.W.keepIn K (.ref f_ini_NoStep) = true)
  (l20 : K.lookup f_ini_NoUse = some ⟨oc20, od20, .func (PySem.W.fnOf "__init__" "NoUse.__init__" (defArgs s_ini_NoUse) (defBody s_ini_NoUse) (defScope s_ini_NoUse) .none kV20 dc20 pm20 an20 cd20 ct20), sl20⟩) (c20 : PySem.W.codeIn K cd20 "NoUse.__init__" = true) (k20 : PySem.W.keepIn K (.ref f_ini_NoUse) = true)
  (l21 : K.lookup f_ini_NotPlain = some ⟨oc21, od21, .func (PySem.W.fnOf "__init__" "NotPlain.__init__" (defArgs s_ini_NotPlain) (defBody s_ini_NotPlain) (defScope s_ini_NotPlain) .none kV21 dc21 pm21 an21 cd21 ct21), sl21⟩) (c21 : PySem.W.codeIn K cd21 "NotPlain.__init__" = true) (k21 : PySem.W.keepIn K (.ref f_ini_NotPlain) = true)
  (l22 : K.lookup f_ini_Older = some ⟨oc22, od22, .func (PySem.W.fnOf "__init__" "Older.__init__" (defArgs s_ini_Older) (defBody s_ini_Older) (defScope s_ini_Older) .none kV22 dc22 pm22 an22 cd22 ct22), sl22⟩) (c22 : PySem.W.codeIn K cd22 "Older.__init__" = true) (k22 : PySem.W.keepIn K (.ref f_ini_Older) = true)
  (l23 : K.lookup f_ini_Outside = some ⟨oc23, od23, .func (PySem.W.fnOf "__init__" "Outside.__init__" (defArgs s_ini_Outside) (defBody s_ini_Outside) (defScope s_ini_Outside) .none kV23 dc23 pm23 an23 cd23 ct23), sl23⟩) (c23 : PySem.W.codeIn K cd23 "Outside.__init__" = true) (k23 : PySem.W.keepIn K (.ref f_ini_Outside) = true)
  (l24 : K.lookup f_ini_PropInUse = some ⟨oc24, od24, .func (PySem.W.fnOf "__init__" "PropInUse.__init__" (defArgs s_ini_PropInUse) (defBody s_ini_PropInUse) (defScope s_ini_PropInUse) .none kV24 dc24 pm24 an24 cd24 ct24), sl24⟩) (c24 : PySem.W.codeIn K cd24 "PropInUse.__init__" = true) (k24 : PySem.W.keepIn K (.ref f_ini_PropInUse) = true)
  (l25 : K.lookup f_ini_Rests = some ⟨oc25, od25, .func (PySem.W.fnOf "__init__" "Rests.__init__" (defArgs s_ini_Rests) (defBody s_ini_Rests) (defScope s_ini_Rests) .none kV25 dc25 pm25 an25 cd25 ct25), sl25⟩) (c25 : PySem.W.codeIn K cd25 "Rests.__init__" = true) (k25 : PySem.W.keepIn K (.ref f_ini_Rests) = true)
  (l26 : K.lookup f_ini_Ring = some ⟨oc26, od26, .func (PySem.W.fnOf "__init__" "Ring.__init__" (defArgs s_ini_Ring) (defBody s_ini_Ring) (defScope s_ini_Ring) .none kV26 dc26 pm26 an26 cd26 ct26), sl26⟩) (c26 : PySem.W.codeIn K cd26 "Ring.__init__" = true) (k26 : PySem.W.keepIn K (.ref f_ini_Ring) = true)
  (l27 : K.lookup f_ini_TooLarge = some ⟨oc27, od27, .func (PySem.W.fnOf "__init__" "TooLarge.__init__" (defArgs s_ini_TooLarge) (defBody s_ini_TooLarge) (defScope s_ini_TooLarge) .none kV27 dc27 pm27 an27 cd27 ct27), sl27⟩) (c27 : PySem.W.codeIn K cd27 "TooLarge.__init__" = true) (k27 : PySem.W.keepIn K (.ref f_ini_TooLarge) = true)
  (l28 : K.lookup f_ini_TwoEntries = some ⟨oc28, od28, .func (PySem.W.fnOf "__init__" "TwoEntries.__init__" (defArgs s_ini_TwoEntries) (defBody s_ini_TwoEntries) (defScope s_ini_TwoEntries) .none kV28 dc28 pm28 an28 cd28 ct28), sl28⟩) (c28 : PySem.W.codeIn K cd28 "TwoEntries.__init__" = true) (k28 : PySem.W.keepIn K (.ref f_ini_TwoEntries) = true)
  (l29 : K.lookup f_ini_UnknownRelease = some ⟨oc29, od29, .func (PySem.W.fnOf "__init__" "UnknownRelease.__init__" (defArgs s_ini_UnknownRelease) (defBody s_ini_UnknownRelease) (defScope s_ini_UnknownRelease) .none kV29 dc29 pm29 an29 cd29 ct29), sl29⟩) (c29 : PySem.W.codeIn K cd29 "UnknownRelease.__init__" = true) (k29 : PySem.W.keepIn K (.ref f_ini_UnknownRelease) = true)
  (l30 : K.lookup f_ini_UnknownTemplate = some ⟨oc30, od30, .func (PySem.W.fnOf "__init__" "UnknownTemplate.__init__" (defArgs s_ini_UnknownTemplate) (defBody s_ini_UnknownTemplate) (defScope s_ini_UnknownTemplate) .none kV30 dc30 pm30 an30 cd30 ct30), sl30⟩) (c30 : PySem.W.codeIn K cd30 "UnknownTemplate.__init__" = true) (k30 : PySem.W.keepIn K (.ref f_ini_UnknownTemplate) = true)
  (a31 : PySem.W.nsIn K mainGlobals "_law_made" = some (some (.ref f31)))
  (l31 : K.lookup f31 = some ⟨oc31, od31, .func (PySem.W.fnOf "_law_made" "_law_made" (defArgs s__law_made) (defBody s__law_made) (defScope s__law_made) .none kV31 dc31 pm31 an31 cd31 ct31), sl31⟩) (c31 : PySem.W.codeIn K cd31 "_law_made" = true) (k31 : PySem.W.keepIn K (.ref f31) = true)
  (a32 : PySem.W.nsIn K mainGlobals "_law_named" = some (some (.ref f32)))
  (l32 : K.lookup f32 = some ⟨oc32, od32, .func (PySem.W.fnOf "_law_named" "_law_named" (defArgs s__law_named) (defBody s__law_named) (defScope s__law_named) .none kV32 dc32 pm32 an32 cd32 ct32), sl32⟩) (c32 : PySem.W.codeIn K cd32 "_law_named" = true) (k32 : PySem.W.keepIn K (.ref f32) = true)
  (a33 : PySem.W.nsIn K mainGlobals "_law_fields" = some (some (.ref f33)))
  (l33 : K.lookup f33 = some ⟨oc33, od33, .func (PySem.W.fnOf "_law_fields" "_law_fields" (defArgs s__law_fields) (defBody s__law_fields) (defScope s__law_fields) .none kV33 dc33 pm33 an33 cd33 ct33), sl33⟩) (c33 : PySem.W.codeIn K cd33 "_law_fields" = true) (k33 : PySem.W.keepIn K (.ref f33) = true)
  (a34 : PySem.W.nsIn K mainGlobals "_law_kinds" = some (some (.ref f34)))
  (l34 : K.lookup f34 = some ⟨oc34, od34, .func (PySem.W.fnOf "_law_kinds" "_law_kinds" (defArgs s__law_kinds) (defBody s__law_kinds) (defScope s__law_kinds) .none kV34 dc34 pm34 an34 cd34 ct34), sl34⟩) (c34 : PySem.W.codeIn K cd34 "_law_kinds" = true) (k34 : PySem.W.keepIn K (.ref f34) = true)
  (a35 : PySem.W.nsIn K mainGlobals "law" = some (some (.ref f35)))
  (l35 : K.lookup f35 = some ⟨oc35, od35, .func (PySem.W.fnOf "law" "law" (defArgs s_law) (defBody s_law) (defScope s_law) .none kV35 dc35 pm35 an35 cd35 ct35), sl35⟩) (c35 : PySem.W.codeIn K cd35 "law" = true) (k35 : PySem.W.keepIn K (.ref f35) = true)
  (n_ValueError : PySem.W.nsIn K mainGlobals "ValueError" = some none)
  (n_all : PySem.W.nsIn K mainGlobals "all" = some none)
  (n_int : PySem.W.nsIn K mainGlobals "int" = some none)
  (n_isinstance : PySem.W.nsIn K mainGlobals "isinstance" = some none)
  (n_list : PySem.W.nsIn K mainGlobals "list" = some none)
  (n_range : PySem.W.nsIn K mainGlobals "range" = some none)
  (n_repr : PySem.W.nsIn K mainGlobals "repr" = some none)
  (n_tuple : PySem.W.nsIn K mainGlobals "tuple" = some none)
  : ∃ fd : FuncData, (∀ (s : Shared) (v : Value), BindsTo s fd ⟨[v], []⟩ [("_law_script", v)]) ∧ ∀ base : Heap, K.In base → base.Ns mainGlobals mg → UFn l.prog w K mg base CX0 66 fa fd ["_law_script"] sp_law := by
  have e := hfa.symm.trans (PySem.W.mg_of X G a35)
  cases e
  have F0 := fun_mk (st := s_as_tuples) l0 c0 k0
  have D0 : Df K mg "as_tuples" s_as_tuples _ _ ["thing"] := ⟨F0, PySem.W.mg_of X G a0, F0.binds (ps := ["thing"]) fun _ _ _ _ _ _ us hl => match us, hl with | [_], _ => rfl⟩
  have F1 := fun_mk (st := s__law_draw) l1 c1 k1
  have D1 : Df K mg "_law_draw" s__law_draw _ _ ["_law_stream", "_law_many"] := ⟨F1, PySem.W.mg_of X G a1, F1.binds (ps := ["_law_stream", "_law_many"]) fun _ _ _ _ _ _ us hl => match us, hl with | [_, _], _ => rfl⟩
  have F2 := fun_mk (st := s__law_same) l2 c2 k2
  have D2 : Df K mg "_law_same" s__law_same _ _ ["_law_found", "_law_due"] := ⟨F2, PySem.W.mg_of X G a2, F2.binds (ps := ["_law_found", "_law_due"]) fun _ _ _ _ _ _ us hl => match us, hl with | [_, _], _ => rfl⟩
  have F3 := fun_mk (st := s__law_thing) l3 c3 k3
  have D3 : Df K mg "_law_thing" s__law_thing _ _ ["_law_stream", "_law_deep"] := ⟨F3, PySem.W.mg_of X G a3, F3.binds (ps := ["_law_stream", "_law_deep"]) fun _ _ _ _ _ _ us hl => match us, hl with | [_, _], _ => rfl⟩
  have F4 := fun_mk (st := s__law_fixed) l4 c4 k4
  have D4 : Df K mg "_law_fixed" s__law_fixed _ _ ["_law_thing_here"] := ⟨F4, PySem.W.mg_of X G a4, F4.binds (ps := ["_law_thing_here"]) fun _ _ _ _ _ _ us hl => match us, hl with | [_], _ => rfl⟩
  have F5 := fun_mk (st := s_ini_BadEntry) l5 c5 k5
  have D5 : Di K "BadEntry.__init__" s_ini_BadEntry _ _ ["self", "index"] := ⟨F5, F5.binds (ps := ["self", "index"]) fun _ _ _ _ _ _ us hl => match us, hl with | [_, _], _ => rfl⟩
  have F6 := fun_mk (st := s_ini_BadLine) l6 c6 k6
  have D6 : Di K "BadLine.__init__" s_ini_BadLine _ _ ["self", "index"] := ⟨F6, F6.binds (ps := ["self", "index"]) fun _ _ _ _ _ _ us hl => match us, hl with | [_, _], _ => rfl⟩
  have F7 := fun_mk (st := s_ini_BadName) l7 c7 k7
  have D7 : Di K "BadName.__init__" s_ini_BadName _ _ ["self", "name"] := ⟨F7, F7.binds (ps := ["self", "name"]) fun _ _ _ _ _ _ us hl => match us, hl with | [_, _], _ => rfl⟩
  have F8 := fun_mk (st := s_ini_BadStep) l8 c8 k8
  have D8 : Di K "BadStep.__init__" s_ini_BadStep _ _ ["self", "index"] := ⟨F8, F8.binds (ps := ["self", "index"]) fun _ _ _ _ _ _ us hl => match us, hl with | [_, _], _ => rfl⟩
  have F9 := fun_mk (st := s_ini_BadText) l9 c9 k9
  have D9 : Di K "BadText.__init__" s_ini_BadText _ _ ["self", "at"] := ⟨F9, F9.binds (ps := ["self", "at"]) fun _ _ _ _ _ _ us hl => match us, hl with | [_, _], _ => rfl⟩
  have F10 := fun_mk (st := s_ini_Broken) l10 c10 k10
  have D10 : Di K "Broken.__init__" s_ini_Broken _ _ ["self", "index"] := ⟨F10, F10.binds (ps := ["self", "index"]) fun _ _ _ _ _ _ us hl => match us, hl with | [_, _], _ => rfl⟩
  have F11 := fun_mk (st := s_ini_Clash) l11 c11 k11
  have D11 : Di K "Clash.__init__" s_ini_Clash _ _ ["self", "name", "key"] := ⟨F11, F11.binds (ps := ["self", "name", "key"]) fun _ _ _ _ _ _ us hl => match us, hl with | [_, _, _], _ => rfl⟩
  have F12 := fun_mk (st := s_ini_Frozen) l12 c12 k12
  have D12 : Di K "Frozen.__init__" s_ini_Frozen _ _ ["self", "name", "number"] := ⟨F12, F12.binds (ps := ["self", "name", "number"]) fun _ _ _ _ _ _ us hl => match us, hl with | [_, _, _], _ => rfl⟩
  have F13 := fun_mk (st := s_ini_IdInUse) l13 c13 k13
  have D13 : Di K "IdInUse.__init__" s_ini_IdInUse _ _ ["self", "path"] := ⟨F13, F13.binds (ps := ["self", "path"]) fun _ _ _ _ _ _ us hl => match us, hl with | [_, _], _ => rfl⟩
  have F14 := fun_mk (st := s_ini_InUse) l14 c14 k14
  have D14 : Di K "InUse.__init__" s_ini_InUse _ _ ["self", "user"] := ⟨F14, F14.binds (ps := ["self", "user"]) fun _ _ _ _ _ _ us hl => match us, hl with | [_, _], _ => rfl⟩
  have F15 := fun_mk (st := s_ini_NameInUse) l15 c15 k15
  have D15 : Di K "NameInUse.__init__" s_ini_NameInUse _ _ ["self", "name"] := ⟨F15, F15.binds (ps := ["self", "name"]) fun _ _ _ _ _ _ us hl => match us, hl with | [_, _], _ => rfl⟩
  have F16 := fun_mk (st := s_ini_NoKey) l16 c16 k16
  have D16 : Di K "NoKey.__init__" s_ini_NoKey _ _ ["self", "key"] := ⟨F16, F16.binds (ps := ["self", "key"]) fun _ _ _ _ _ _ us hl => match us, hl with | [_, _], _ => rfl⟩
  have F17 := fun_mk (st := s_ini_NoNode) l17 c17 k17
  have D17 : Di K "NoNode.__init__" s_ini_NoNode _ _ ["self", "path"] := ⟨F17, F17.binds (ps := ["self", "path"]) fun _ _ _ _ _ _ us hl => match us, hl with | [_, _], _ => rfl⟩
  have F18 := fun_mk (st := s_ini_NoProp) l18 c18 k18
  have D18 : Di K "NoProp.__init__" s_ini_NoProp _ _ ["self", "prop"] := ⟨F18, F18.binds (ps := ["self", "prop"]) fun _ _ _ _ _ _ us hl => match us, hl with | [_, _], _ => rfl⟩
  have F19 := fun_mk (st := s_ini_NoStep) l19 c19 k19
  have D19 : Di K "NoStep.__init__" s_ini_NoStep _ _ ["self", "index"] := ⟨F19, F19.binds (ps := ["self", "index"]) fun _ _ _ _ _ _ us hl => match us, hl with | [_, _], _ => rfl⟩
  have F20 := fun_mk (st := s_ini_NoUse) l20 c20 k20
  have D20 : Di K "NoUse.__init__" s_ini_NoUse _ _ ["self", "place"] := ⟨F20, F20.binds (ps := ["self", "place"]) fun _ _ _ _ _ _ us hl => match us, hl with | [_, _], _ => rfl⟩
  have F21 := fun_mk (st := s_ini_NotPlain) l21 c21 k21
  have D21 : Di K "NotPlain.__init__" s_ini_NotPlain _ _ ["self", "name"] := ⟨F21, F21.binds (ps := ["self", "name"]) fun _ _ _ _ _ _ us hl => match us, hl with | [_, _], _ => rfl⟩
  have F22 := fun_mk (st := s_ini_Older) l22 c22 k22
  have D22 : Di K "Older.__init__" s_ini_Older _ _ ["self", "number"] := ⟨F22, F22.binds (ps := ["self", "number"]) fun _ _ _ _ _ _ us hl => match us, hl with | [_, _], _ => rfl⟩
  have F23 := fun_mk (st := s_ini_Outside) l23 c23 k23
  have D23 : Di K "Outside.__init__" s_ini_Outside _ _ ["self", "path"] := ⟨F23, F23.binds (ps := ["self", "path"]) fun _ _ _ _ _ _ us hl => match us, hl with | [_, _], _ => rfl⟩
  have F24 := fun_mk (st := s_ini_PropInUse) l24 c24 k24
  have D24 : Di K "PropInUse.__init__" s_ini_PropInUse _ _ ["self", "prop"] := ⟨F24, F24.binds (ps := ["self", "prop"]) fun _ _ _ _ _ _ us hl => match us, hl with | [_, _], _ => rfl⟩
  have F25 := fun_mk (st := s_ini_Rests) l25 c25 k25
  have D25 : Di K "Rests.__init__" s_ini_Rests _ _ ["self", "key"] := ⟨F25, F25.binds (ps := ["self", "key"]) fun _ _ _ _ _ _ us hl => match us, hl with | [_, _], _ => rfl⟩
  have F26 := fun_mk (st := s_ini_Ring) l26 c26 k26
  have D26 : Di K "Ring.__init__" s_ini_Ring _ _ ["self", "circle"] := ⟨F26, F26.binds (ps := ["self", "circle"]) fun _ _ _ _ _ _ us hl => match us, hl with | [_, _], _ => rfl⟩
  have F27 := fun_mk (st := s_ini_TooLarge) l27 c27 k27
  have D27 : Di K "TooLarge.__init__" s_ini_TooLarge _ _ ["self", "name"] := ⟨F27, F27.binds (ps := ["self", "name"]) fun _ _ _ _ _ _ us hl => match us, hl with | [_, _], _ => rfl⟩
  have F28 := fun_mk (st := s_ini_TwoEntries) l28 c28 k28
  have D28 : Di K "TwoEntries.__init__" s_ini_TwoEntries _ _ ["self", "key"] := ⟨F28, F28.binds (ps := ["self", "key"]) fun _ _ _ _ _ _ us hl => match us, hl with | [_, _], _ => rfl⟩
  have F29 := fun_mk (st := s_ini_UnknownRelease) l29 c29 k29
  have D29 : Di K "UnknownRelease.__init__" s_ini_UnknownRelease _ _ ["self", "name", "number"] := ⟨F29, F29.binds (ps := ["self", "name", "number"]) fun _ _ _ _ _ _ us hl => match us, hl with | [_, _, _], _ => rfl⟩
  have F30 := fun_mk (st := s_ini_UnknownTemplate) l30 c30 k30
  have D30 : Di K "UnknownTemplate.__init__" s_ini_UnknownTemplate _ _ ["self", "name"] := ⟨F30, F30.binds (ps := ["self", "name"]) fun _ _ _ _ _ _ us hl => match us, hl with | [_, _], _ => rfl⟩
  have F31 := fun_mk (st := s__law_made) l31 c31 k31
  have D31 : Df K mg "_law_made" s__law_made _ _ ["_law_one", "_law_two"] := ⟨F31, PySem.W.mg_of X G a31, F31.binds (ps := ["_law_one", "_law_two"]) fun _ _ _ _ _ _ us hl => match us, hl with | [_, _], _ => rfl⟩
  have F32 := fun_mk (st := s__law_named) l32 c32 k32
  have D32 : Df K mg "_law_named" s__law_named _ _ ["_law_one", "_law_two"] := ⟨F32, PySem.W.mg_of X G a32, F32.binds (ps := ["_law_one", "_law_two"]) fun _ _ _ _ _ _ us hl => match us, hl with | [_, _], _ => rfl⟩
  have F33 := fun_mk (st := s__law_fields) l33 c33 k33
  have D33 : Df K mg "_law_fields" s__law_fields _ _ ["_law_k", "_law_e"] := ⟨F33, PySem.W.mg_of X G a33, F33.binds (ps := ["_law_k", "_law_e"]) fun _ _ _ _ _ _ us hl => match us, hl with | [_, _], _ => rfl⟩
  have F34 := fun_mk (st := s__law_kinds) l34 c34 k34
  have D34 : Df K mg "_law_kinds" s__law_kinds _ _ ["_law_e"] := ⟨F34, PySem.W.mg_of X G a34, F34.binds (ps := ["_law_e"]) fun _ _ _ _ _ _ us hl => match us, hl with | [_], _ => rfl⟩
  have F35 := fun_mk (st := s_law) l35 c35 k35
  have D35 : Df K mg "law" s_law _ _ ["_law_script"] := ⟨F35, PySem.W.mg_of X G a35, F35.binds (ps := ["_law_script"]) fun _ _ _ _ _ _ us hl => match us, hl with | [_], _ => rfl⟩
  exact ⟨PySem.W.fnOf "law" "law" (defArgs s_law) (defBody s_law) (defScope s_law) .none kV35 dc35 pm35 an35 cd35 ct35, fun s v => .of_eq rfl, fun base _ _ => ok_law ⟨_, _, D0, _, _, D1, _, _, D2, _, _, D3, _, _, D4, _, _, D5, _, _, D6, _, _, D7, _, _, D8, _, _, D9, _, _, D10, _, _, D11, _, _, D12, _, _, D13, _, _, D14, _, _, D15, _, _, D16, _, _, D17, _, _, D18, _, _, D19, _, _, D20, _, _, D21, _, _, D22, _, _, D23, _, _, D24, _, _, D25, _, _, D26, _, _, D27, _, _, D28, _, _, D29, _, _, D30, _, _, D31, _, _, D32, _, _, D33, _, _, D34, _, _, D35, PySem.W.mg_none_of X G n_ValueError, PySem.W.mg_none_of X G n_all, PySem.W.mg_none_of X G n_int, PySem.W.mg_none_of X G n_isinstance, PySem.W.mg_none_of X G n_list, PySem.W.mg_none_of X G n_range, PySem.W.mg_none_of X G n_repr, PySem.W.mg_none_of X G n_tuple, _, _, _, _, _, _, _, _, _, _, _, _, _, _, _, _, _, _, _, _, _, _, _, _, _, _, _, _, _, _, _, PySem.W.mg_of X G g_VariantError, x_VariantError, k_VariantError, b_VariantError, hd_VariantError, ⟨rd_VariantError, vg_VariantError, va_VariantError⟩, ⟨ga_VariantError, gg_VariantError, b_VariantError, hd_VariantError, ca_VariantError, cg_VariantError, ct_VariantError, cm_VariantError⟩, PySem.W.mg_of X G g_BadEntry, ⟨⟨_, _, _, _, _, _, _, _, _, _, _, _, _, _, _, xL_BadEntry, (show PySem.HandSPX.refsVE [.type "ValueError", .type "Exception", .type "BaseException", .type "object"] = true from by decide +kernel)⟩, sa_BadEntry, b_BadEntry, t_BadEntry, k_BadEntry⟩, iC_BadEntry, tI_BadEntry, ⟨ga_BadEntry, gg_BadEntry, b_BadEntry, hd_BadEntry⟩, no_BadEntry_index, PySem.W.exm_ref b_BadEntry hd_BadEntry t_BadEntry s_BadEntry, ⟨ga_BadEntry, gg_BadEntry, b_BadEntry, hd_BadEntry, ca_BadEntry, cg_BadEntry, ct_BadEntry, cm_BadEntry⟩, PySem.W.mg_of X G g_BadLine, ⟨⟨_, _, _, _, _, _, _, _, _, _, _, _, _, _, _, xL_BadLine, (show PySem.HandSPX.refsVE [.type "ValueError", .type "Exception", .type "BaseException", .type "object"] = true from by decide +kernel)⟩, sa_BadLine, b_BadLine, t_BadLine, k_BadLine⟩, iC_BadLine, tI_BadLine, ⟨ga_BadLine, gg_BadLine, b_BadLine, hd_BadLine⟩, no_BadLine_index, PySem.W.exm_ref b_BadLine hd_BadLine t_BadLine s_BadLine, ⟨ga_BadLine, gg_BadLine, b_BadLine, hd_BadLine, ca_BadLine, cg_BadLine, ct_BadLine, cm_BadLine⟩, PySem.W.mg_of X G g_BadName, ⟨⟨_, _, _, _, _, _, _, _, _, _, _, _, _, _, _, xL_BadName, (show PySem.HandSPX.refsVE [.type "ValueError", .type "Exception", .type "BaseException", .type "object"] = true from by decide +kernel)⟩, sa_BadName, b_BadName, t_BadName, k_BadName⟩, iC_BadName, tI_BadName, ⟨ga_BadName, gg_BadName, b_BadName, hd_BadName⟩, no_BadName_name, PySem.W.exm_ref b_BadName hd_BadName t_BadName s_BadName, ⟨ga_BadName, gg_BadName, b_BadName, hd_BadName, ca_BadName, cg_BadName, ct_BadName, cm_BadName⟩, PySem.W.mg_of X G g_BadPiece, x_BadPiece, k_BadPiece, b_BadPiece, t_BadPiece, PySem.W.exm_ref b_BadPiece hd_BadPiece t_BadPiece s_BadPiece, ⟨ga_BadPiece, gg_BadPiece, b_BadPiece, hd_BadPiece, ca_BadPiece, cg_BadPiece, ct_BadPiece, cm_BadPiece⟩, PySem.W.mg_of X G g_BadStep, ⟨⟨_, _, _, _, _, _, _, _, _, _, _, _, _, _, _, xL_BadStep, (show PySem.HandSPX.refsVE [.type "ValueError", .type "Exception", .type "BaseException", .type "object"] = true from by decide +kernel)⟩, sa_BadStep, b_BadStep, t_BadStep, k_BadStep⟩, iC_BadStep, tI_BadStep, ⟨ga_BadStep, gg_BadStep, b_BadStep, hd_BadStep⟩, no_BadStep_index, PySem.W.exm_ref b_BadStep hd_BadStep t_BadStep s_BadStep, ⟨ga_BadStep, gg_BadStep, b_BadStep, hd_BadStep, ca_BadStep, cg_BadStep, ct_BadStep, cm_BadStep⟩, PySem.W.mg_of X G g_BadText, ⟨⟨_, _, _, _, _, _, _, _, _, _, _, _, _, _, _, xL_BadText, (show PySem.HandSPX.refsVE [.type "ValueError", .type "Exception", .type "BaseException", .type "object"] = true from by decide +kernel)⟩, sa_BadText, b_BadText, t_BadText, k_BadText⟩, iC_BadText, tI_BadText, ⟨ga_BadText, gg_BadText, b_BadText, hd_BadText⟩, no_BadText_at, PySem.W.exm_ref b_BadText hd_BadText t_BadText s_BadText, ⟨ga_BadText, gg_BadText, b_BadText, hd_BadText, ca_BadText, cg_BadText, ct_BadText, cm_BadText⟩, PySem.W.mg_of X G g_BadTree, x_BadTree, k_BadTree, b_BadTree, t_BadTree, PySem.W.exm_ref b_BadTree hd_BadTree t_BadTree s_BadTree, ⟨ga_BadTree, gg_BadTree, b_BadTree, hd_BadTree, ca_BadTree, cg_BadTree, ct_BadTree, cm_BadTree⟩, PySem.W.mg_of X G g_Broken, ⟨⟨_, _, _, _, _, _, _, _, _, _, _, _, _, _, _, xL_Broken, (show PySem.HandSPX.refsVE [.type "ValueError", .type "Exception", .type "BaseException", .type "object"] = true from by decide +kernel)⟩, sa_Broken, b_Broken, t_Broken, k_Broken⟩, iC_Broken, tI_Broken, ⟨ga_Broken, gg_Broken, b_Broken, hd_Broken⟩, no_Broken_index, PySem.W.exm_ref b_Broken hd_Broken t_Broken s_Broken, ⟨ga_Broken, gg_Broken, b_Broken, hd_Broken, ca_Broken, cg_Broken, ct_Broken, cm_Broken⟩, PySem.W.mg_of X G g_Clash, ⟨⟨_, _, _, _, _, _, _, _, _, _, _, _, _, _, _, xL_Clash, (show PySem.HandSPX.refsVE [.type "ValueError", .type "Exception", .type "BaseException", .type "object"] = true from by decide +kernel)⟩, sa_Clash, b_Clash, t_Clash, k_Clash⟩, iC_Clash, tI_Clash, ⟨ga_Clash, gg_Clash, b_Clash, hd_Clash⟩, no_Clash_name, no_Clash_key, PySem.W.exm_ref b_Clash hd_Clash t_Clash s_Clash, ⟨ga_Clash, gg_Clash, b_Clash, hd_Clash, ca_Clash, cg_Clash, ct_Clash, cm_Clash⟩, PySem.W.mg_of X G g_Frozen, ⟨⟨_, _, _, _, _, _, _, _, _, _, _, _, _, _, _, xL_Frozen, (show PySem.HandSPX.refsVE [.type "ValueError", .type "Exception", .type "BaseException", .type "object"] = true from by decide +kernel)⟩, sa_Frozen, b_Frozen, t_Frozen, k_Frozen⟩, iC_Frozen, tI_Frozen, ⟨ga_Frozen, gg_Frozen, b_Frozen, hd_Frozen⟩, no_Frozen_name, no_Frozen_number, PySem.W.exm_ref b_Frozen hd_Frozen t_Frozen s_Frozen, ⟨ga_Frozen, gg_Frozen, b_Frozen, hd_Frozen, ca_Frozen, cg_Frozen, ct_Frozen, cm_Frozen⟩, PySem.W.mg_of X G g_IdInUse, ⟨⟨_, _, _, _, _, _, _, _, _, _, _, _, _, _, _, xL_IdInUse, (show PySem.HandSPX.refsVE [.type "ValueError", .type "Exception", .type "BaseException", .type "object"] = true from by decide +kernel)⟩, sa_IdInUse, b_IdInUse, t_IdInUse, k_IdInUse⟩, iC_IdInUse, tI_IdInUse, ⟨ga_IdInUse, gg_IdInUse, b_IdInUse, hd_IdInUse⟩, no_IdInUse_path, PySem.W.exm_ref b_IdInUse hd_IdInUse t_IdInUse s_IdInUse, ⟨ga_IdInUse, gg_IdInUse, b_IdInUse, hd_IdInUse, ca_IdInUse, cg_IdInUse, ct_IdInUse, cm_IdInUse⟩, PySem.W.mg_of X G g_InUse, ⟨⟨_, _, _, _, _, _, _, _, _, _, _, _, _, _, _, xL_InUse, (show PySem.HandSPX.refsVE [.type "ValueError", .type "Exception", .type "BaseException", .type "object"] = true from by decide +kernel)⟩, sa_InUse, b_InUse, t_InUse, k_InUse⟩, iC_InUse, tI_InUse, ⟨ga_InUse, gg_InUse, b_InUse, hd_InUse⟩, no_InUse_user, PySem.W.exm_ref b_InUse hd_InUse t_InUse s_InUse, ⟨ga_InUse, gg_InUse, b_InUse, hd_InUse, ca_InUse, cg_InUse, ct_InUse, cm_InUse⟩, PySem.W.mg_of X G g_NameInUse, ⟨⟨_, _, _, _, _, _, _, _, _, _, _, _, _, _, _, xL_NameInUse, (show PySem.HandSPX.refsVE [.type "ValueError", .type "Exception", .type "BaseException", .type "object"] = true from by decide +kernel)⟩, sa_NameInUse, b_NameInUse, t_NameInUse, k_NameInUse⟩, iC_NameInUse, tI_NameInUse, ⟨ga_NameInUse, gg_NameInUse, b_NameInUse, hd_NameInUse⟩, no_NameInUse_name, PySem.W.exm_ref b_NameInUse hd_NameInUse t_NameInUse s_NameInUse, ⟨ga_NameInUse, gg_NameInUse, b_NameInUse, hd_NameInUse, ca_NameInUse, cg_NameInUse, ct_NameInUse, cm_NameInUse⟩, PySem.W.mg_of X G g_NoKey, ⟨⟨_, _, _, _, _, _, _, _, _, _, _, _, _, _, _, xL_NoKey, (show PySem.HandSPX.refsVE [.type "ValueError", .type "Exception", .type "BaseException", .type "object"] = true from by decide +kernel)⟩, sa_NoKey, b_NoKey, t_NoKey, k_NoKey⟩, iC_NoKey, tI_NoKey, ⟨ga_NoKey, gg_NoKey, b_NoKey, hd_NoKey⟩, no_NoKey_key, PySem.W.exm_ref b_NoKey hd_NoKey t_NoKey s_NoKey, ⟨ga_NoKey, gg_NoKey, b_NoKey, hd_NoKey, ca_NoKey, cg_NoKey, ct_NoKey, cm_NoKey⟩, PySem.W.mg_of X G g_NoNode, ⟨⟨_, _, _, _, _, _, _, _, _, _, _, _, _, _, _, xL_NoNode, (show PySem.HandSPX.refsVE [.type "ValueError", .type "Exception", .type "BaseException", .type "object"] = true from by decide +kernel)⟩, sa_NoNode, b_NoNode, t_NoNode, k_NoNode⟩, iC_NoNode, tI_NoNode, ⟨ga_NoNode, gg_NoNode, b_NoNode, hd_NoNode⟩, no_NoNode_path, PySem.W.exm_ref b_NoNode hd_NoNode t_NoNode s_NoNode, ⟨ga_NoNode, gg_NoNode, b_NoNode, hd_NoNode, ca_NoNode, cg_NoNode, ct_NoNode, cm_NoNode⟩, PySem.W.mg_of X G g_NoProp, ⟨⟨_, _, _, _, _, _, _, _, _, _, _, _, _, _, _, xL_NoProp, (show PySem.HandSPX.refsVE [.type "ValueError", .type "Exception", .type "BaseException", .type "object"] = true from by decide +kernel)⟩, sa_NoProp, b_NoProp, t_NoProp, k_NoProp⟩, iC_NoProp, tI_NoProp, ⟨ga_NoProp, gg_NoProp, b_NoProp, hd_NoProp⟩, no_NoProp_prop, PySem.W.exm_ref b_NoProp hd_NoProp t_NoProp s_NoProp, ⟨ga_NoProp, gg_NoProp, b_NoProp, hd_NoProp, ca_NoProp, cg_NoProp, ct_NoProp, cm_NoProp⟩, PySem.W.mg_of X G g_NoStep, ⟨⟨_, _, _, _, _, _, _, _, _, _, _, _, _, _, _, xL_NoStep, (show PySem.HandSPX.refsVE [.type "ValueError", .type "Exception", .type "BaseException", .type "object"] = true from by decide +kernel)⟩, sa_NoStep, b_NoStep, t_NoStep, k_NoStep⟩, iC_NoStep, tI_NoStep, ⟨ga_NoStep, gg_NoStep, b_NoStep, hd_NoStep⟩, no_NoStep_index, PySem.W.exm_ref b_NoStep hd_NoStep t_NoStep s_NoStep, ⟨ga_NoStep, gg_NoStep, b_NoStep, hd_NoStep, ca_NoStep, cg_NoStep, ct_NoStep, cm_NoStep⟩, PySem.W.mg_of X G g_NoUse, ⟨⟨_, _, _, _, _, _, _, _, _, _, _, _, _, _, _, xL_NoUse, (show PySem.HandSPX.refsVE [.type "ValueError", .type "Exception", .type "BaseException", .type "object"] = true from by decide +kernel)⟩, sa_NoUse, b_NoUse, t_NoUse, k_NoUse⟩, iC_NoUse, tI_NoUse, ⟨ga_NoUse, gg_NoUse, b_NoUse, hd_NoUse⟩, no_NoUse_place, PySem.W.exm_ref b_NoUse hd_NoUse t_NoUse s_NoUse, ⟨ga_NoUse, gg_NoUse, b_NoUse, hd_NoUse, ca_NoUse, cg_NoUse, ct_NoUse, cm_NoUse⟩, PySem.W.mg_of X G g_NotPlain, ⟨⟨_, _, _, _, _, _, _, _, _, _, _, _, _, _, _, xL_NotPlain, (show PySem.HandSPX.refsVE [.type "ValueError", .type "Exception", .type "BaseException", .type "object"] = true from by decide +kernel)⟩, sa_NotPlain, b_NotPlain, t_NotPlain, k_NotPlain⟩, iC_NotPlain, tI_NotPlain, ⟨ga_NotPlain, gg_NotPlain, b_NotPlain, hd_NotPlain⟩, no_NotPlain_name, PySem.W.exm_ref b_NotPlain hd_NotPlain t_NotPlain s_NotPlain, ⟨ga_NotPlain, gg_NotPlain, b_NotPlain, hd_NotPlain, ca_NotPlain, cg_NotPlain, ct_NotPlain, cm_NotPlain⟩, PySem.W.mg_of X G g_NothingToRedo, x_NothingToRedo, k_NothingToRedo, b_NothingToRedo, t_NothingToRedo, PySem.W.exm_ref b_NothingToRedo hd_NothingToRedo t_NothingToRedo s_NothingToRedo, ⟨ga_NothingToRedo, gg_NothingToRedo, b_NothingToRedo, hd_NothingToRedo, ca_NothingToRedo, cg_NothingToRedo, ct_NothingToRedo, cm_NothingToRedo⟩, PySem.W.mg_of X G g_NothingToUndo, x_NothingToUndo, k_NothingToUndo, b_NothingToUndo, t_NothingToUndo, PySem.W.exm_ref b_NothingToUndo hd_NothingToUndo t_NothingToUndo s_NothingToUndo, ⟨ga_NothingToUndo, gg_NothingToUndo, b_NothingToUndo, hd_NothingToUndo, ca_NothingToUndo, cg_NothingToUndo, ct_NothingToUndo, cm_NothingToUndo⟩, PySem.W.mg_of X G g_Older, ⟨⟨_, _, _, _, _, _, _, _, _, _, _, _, _, _, _, xL_Older, (show PySem.HandSPX.refsVE [.type "ValueError", .type "Exception", .type "BaseException", .type "object"] = true from by decide +kernel)⟩, sa_Older, b_Older, t_Older, k_Older⟩, iC_Older, tI_Older, ⟨ga_Older, gg_Older, b_Older, hd_Older⟩, no_Older_number, PySem.W.exm_ref b_Older hd_Older t_Older s_Older, ⟨ga_Older, gg_Older, b_Older, hd_Older, ca_Older, cg_Older, ct_Older, cm_Older⟩, PySem.W.mg_of X G g_Outside, ⟨⟨_, _, _, _, _, _, _, _, _, _, _, _, _, _, _, xL_Outside, (show PySem.HandSPX.refsVE [.type "ValueError", .type "Exception", .type "BaseException", .type "object"] = true from by decide +kernel)⟩, sa_Outside, b_Outside, t_Outside, k_Outside⟩, iC_Outside, tI_Outside, ⟨ga_Outside, gg_Outside, b_Outside, hd_Outside⟩, no_Outside_path, PySem.W.exm_ref b_Outside hd_Outside t_Outside s_Outside, ⟨ga_Outside, gg_Outside, b_Outside, hd_Outside, ca_Outside, cg_Outside, ct_Outside, cm_Outside⟩, PySem.W.mg_of X G g_PropInUse, ⟨⟨_, _, _, _, _, _, _, _, _, _, _, _, _, _, _, xL_PropInUse, (show PySem.HandSPX.refsVE [.type "ValueError", .type "Exception", .type "BaseException", .type "object"] = true from by decide +kernel)⟩, sa_PropInUse, b_PropInUse, t_PropInUse, k_PropInUse⟩, iC_PropInUse, tI_PropInUse, ⟨ga_PropInUse, gg_PropInUse, b_PropInUse, hd_PropInUse⟩, no_PropInUse_prop, PySem.W.exm_ref b_PropInUse hd_PropInUse t_PropInUse s_PropInUse, ⟨ga_PropInUse, gg_PropInUse, b_PropInUse, hd_PropInUse, ca_PropInUse, cg_PropInUse, ct_PropInUse, cm_PropInUse⟩, PySem.W.mg_of X G g_Rests, ⟨⟨_, _, _, _, _, _, _, _, _, _, _, _, _, _, _, xL_Rests, (show PySem.HandSPX.refsVE [.type "ValueError", .type "Exception", .type "BaseException", .type "object"] = true from by decide +kernel)⟩, sa_Rests, b_Rests, t_Rests, k_Rests⟩, iC_Rests, tI_Rests, ⟨ga_Rests, gg_Rests, b_Rests, hd_Rests⟩, no_Rests_key, PySem.W.exm_ref b_Rests hd_Rests t_Rests s_Rests, ⟨ga_Rests, gg_Rests, b_Rests, hd_Rests, ca_Rests, cg_Rests, ct_Rests, cm_Rests⟩, PySem.W.mg_of X G g_Ring, ⟨⟨_, _, _, _, _, _, _, _, _, _, _, _, _, _, _, xL_Ring, (show PySem.HandSPX.refsVE [.type "ValueError", .type "Exception", .type "BaseException", .type "object"] = true from by decide +kernel)⟩, sa_Ring, b_Ring, t_Ring, k_Ring⟩, iC_Ring, tI_Ring, ⟨ga_Ring, gg_Ring, b_Ring, hd_Ring⟩, no_Ring_circle, PySem.W.exm_ref b_Ring hd_Ring t_Ring s_Ring, ⟨ga_Ring, gg_Ring, b_Ring, hd_Ring, ca_Ring, cg_Ring, ct_Ring, cm_Ring⟩, PySem.W.mg_of X G g_TooLarge, ⟨⟨_, _, _, _, _, _, _, _, _, _, _, _, _, _, _, xL_TooLarge, (show PySem.HandSPX.refsVE [.type "ValueError", .type "Exception", .type "BaseException", .type "object"] = true from by decide +kernel)⟩, sa_TooLarge, b_TooLarge, t_TooLarge, k_TooLarge⟩, iC_TooLarge, tI_TooLarge, ⟨ga_TooLarge, gg_TooLarge, b_TooLarge, hd_TooLarge⟩, no_TooLarge_name, PySem.W.exm_ref b_TooLarge hd_TooLarge t_TooLarge s_TooLarge, ⟨ga_TooLarge, gg_TooLarge, b_TooLarge, hd_TooLarge, ca_TooLarge, cg_TooLarge, ct_TooLarge, cm_TooLarge⟩, PySem.W.mg_of X G g_TwoEntries, ⟨⟨_, _, _, _, _, _, _, _, _, _, _, _, _, _, _, xL_TwoEntries, (show PySem.HandSPX.refsVE [.type "ValueError", .type "Exception", .type "BaseException", .type "object"] = true from by decide +kernel)⟩, sa_TwoEntries, b_TwoEntries, t_TwoEntries, k_TwoEntries⟩, iC_TwoEntries, tI_TwoEntries, ⟨ga_TwoEntries, gg_TwoEntries, b_TwoEntries, hd_TwoEntries⟩, no_TwoEntries_key, PySem.W.exm_ref b_TwoEntries hd_TwoEntries t_TwoEntries s_TwoEntries, ⟨ga_TwoEntries, gg_TwoEntries, b_TwoEntries, hd_TwoEntries, ca_TwoEntries, cg_TwoEntries, ct_TwoEntries, cm_TwoEntries⟩, PySem.W.mg_of X G g_UnknownRelease, ⟨⟨_, _, _, _, _, _, _, _, _, _, _, _, _, _, _, xL_UnknownRelease, (show PySem.HandSPX.refsVE [.type "ValueError", .type "Exception", .type "BaseException", .type "object"] = true from by decide +kernel)⟩, sa_UnknownRelease, b_UnknownRelease, t_UnknownRelease, k_UnknownRelease⟩, iC_UnknownRelease, tI_UnknownRelease, ⟨ga_UnknownRelease, gg_UnknownRelease, b_UnknownRelease, hd_UnknownRelease⟩, no_UnknownRelease_name, no_UnknownRelease_number, PySem.W.exm_ref b_UnknownRelease hd_UnknownRelease t_UnknownRelease s_UnknownRelease, ⟨ga_UnknownRelease, gg_UnknownRelease, b_UnknownRelease, hd_UnknownRelease, ca_UnknownRelease, cg_UnknownRelease, ct_UnknownRelease, cm_UnknownRelease⟩, PySem.W.mg_of X G g_UnknownTemplate, ⟨⟨_, _, _, _, _, _, _, _, _, _, _, _, _, _, _, xL_UnknownTemplate, (show PySem.HandSPX.refsVE [.type "ValueError", .type "Exception", .type "BaseException", .type "object"] = true from by decide +kernel)⟩, sa_UnknownTemplate, b_UnknownTemplate, t_UnknownTemplate, k_UnknownTemplate⟩, iC_UnknownTemplate, tI_UnknownTemplate, ⟨ga_UnknownTemplate, gg_UnknownTemplate, b_UnknownTemplate, hd_UnknownTemplate⟩, no_UnknownTemplate_name, PySem.W.exm_ref b_UnknownTemplate hd_UnknownTemplate t_UnknownTemplate s_UnknownTemplate, ⟨ga_UnknownTemplate, gg_UnknownTemplate, b_UnknownTemplate, hd_UnknownTemplate, ca_UnknownTemplate, cg_UnknownTemplate, ct_UnknownTemplate, cm_UnknownTemplate⟩, kt_BadTree_all, kt_BadTree_ValueError, kt_BadTree_VariantError, kt_BadPiece_all, kt_BadPiece_ValueError, kt_BadPiece_VariantError, kt_NothingToUndo_all, kt_NothingToUndo_ValueError, kt_NothingToUndo_VariantError, kt_NothingToRedo_all, kt_NothingToRedo_ValueError, kt_NothingToRedo_VariantError, kt_NoNode_all, kt_NoNode_ValueError, kt_NoNode_VariantError, kt_BadEntry_all, kt_BadEntry_ValueError, kt_BadEntry_VariantError, kt_TwoEntries_all, kt_TwoEntries_ValueError, kt_TwoEntries_VariantError, kt_NoKey_all, kt_NoKey_ValueError, kt_NoKey_VariantError, kt_UnknownTemplate_all, kt_UnknownTemplate_ValueError, kt_UnknownTemplate_VariantError, kt_Ring_all, kt_Ring_ValueError, kt_Ring_VariantError, kt_TooLarge_all, kt_TooLarge_ValueError, kt_TooLarge_VariantError, kt_BadName_all, kt_BadName_ValueError, kt_BadName_VariantError, kt_NameInUse_all, kt_NameInUse_ValueError, kt_NameInUse_VariantError, kt_InUse_all, kt_InUse_ValueError, kt_InUse_VariantError, kt_IdInUse_all, kt_IdInUse_ValueError, kt_IdInUse_VariantError, kt_NoUse_all, kt_NoUse_ValueError, kt_NoUse_VariantError, kt_Rests_all, kt_Rests_ValueError, kt_Rests_VariantError, kt_Outside_all, kt_Outside_ValueError, kt_Outside_VariantError, kt_NotPlain_all, kt_NotPlain_ValueError, kt_NotPlain_VariantError, kt_NoProp_all, kt_NoProp_ValueError, kt_NoProp_VariantError, kt_PropInUse_all, kt_PropInUse_ValueError, kt_PropInUse_VariantError, kt_Older_all, kt_Older_ValueError, kt_Older_VariantError, kt_BadStep_all, kt_BadStep_ValueError, kt_BadStep_VariantError, kt_NoStep_all, kt_NoStep_ValueError, kt_NoStep_VariantError, kt_Broken_all, kt_Broken_ValueError, kt_Broken_VariantError, kt_BadText_all, kt_BadText_ValueError, kt_BadText_VariantError, kt_BadLine_all, kt_BadLine_ValueError, kt_BadLine_VariantError, kt_UnknownRelease_all, kt_UnknownRelease_ValueError, kt_UnknownRelease_VariantError, kt_Frozen_all, kt_Frozen_ValueError, kt_Frozen_VariantError, kt_Clash_all, kt_Clash_ValueError, kt_Clash_VariantError, kt_VariantError_all, kt_VariantError_ValueError⟩⟩
end PU
open PySem PySem.W PyProof.Rows
set_option maxRecDepth 100000 in
set_option maxHeartbeats 0 in
theorem PySem.Challenge.cw_variantnest_k01_errors_made_holds : PySem.Challenge.rw_variantnest_k01_errors_made.Holds := by
  w_on; o_law; k_head; (case hw => w_witness2)
  k_fill
  refine PU.law_walk (l := PySem.Challenge.rw_variantnest_k01_errors_made) (n := 63) (k := 66) (x := "_law_script") (sp := PU.sp_law) rfl (by decide) rfl ⟨rfl, by decide, by decide⟩ rfl (fun w h Y => PySem.W.kIn_of Y) (fun ns hl Q q => ⟨ns, rfl, hl, q⟩) ?F
  case F =>
    intro w mg fa h KX G hmg
    refine' PU.all_mk KX G hmg ?g_VariantError ?x_VariantError ?k_VariantError ?b_VariantError ?hd_VariantError ?rd_VariantError ?vg_VariantError ?va_VariantError ?ga_VariantError ?gg_VariantError ?ca_VariantError ?cg_VariantError ?ct_VariantError ?cm_VariantError ?g_BadEntry ?xL_BadEntry ?sa_BadEntry ?b_BadEntry ?t_BadEntry ?k_BadEntry ?iC_BadEntry ?tI_BadEntry ?ga_BadEntry ?gg_BadEntry ?hd_BadEntry ?no_BadEntry_index ?s_BadEntry ?ca_BadEntry ?cg_BadEntry ?ct_BadEntry ?cm_BadEntry ?g_BadLine ?xL_BadLine ?sa_BadLine ?b_BadLine ?t_BadLine ?k_BadLine ?iC_BadLine ?tI_BadLine ?ga_BadLine ?gg_BadLine ?hd_BadLine ?no_BadLine_index ?s_BadLine ?ca_BadLine ?cg_BadLine ?ct_BadLine ?cm_BadLine ?g_BadName ?xL_BadName ?sa_BadName ?b_BadName ?t_BadName ?k_BadName ?iC_BadName ?tI_BadName ?ga_BadName ?gg_BadName ?hd_BadName ?no_BadName_name ?s_BadName ?ca_BadName ?cg_BadName ?ct_BadName ?cm_BadName ?g_BadPiece ?x_BadPiece ?k_BadPiece ?b_BadPiece ?t_BadPiece ?hd_BadPiece ?s_BadPiece ?ga_BadPiece ?gg_BadPiece ?ca_BadPiece ?cg_BadPiece ?ct_BadPiece ?cm_BadPiece ?g_BadStep ?xL_BadStep ?sa_BadStep ?b_BadStep ?t_BadStep ?k_BadStep ?iC_BadStep ?tI_BadStep ?ga_BadStep ?gg_BadStep ?hd_BadStep ?no_BadStep_index ?s_BadStep ?ca_BadStep ?cg_BadStep ?ct_BadStep ?cm_BadStep ?g_BadText ?xL_BadText ?sa_BadText ?b_BadText ?t_BadText ?k_BadText ?iC_BadText ?tI_BadText ?ga_BadText ?gg_BadText ?hd_BadText ?no_BadText_at ?s_BadText ?ca_BadText ?cg_BadText ?ct_BadText ?cm_BadText ?g_BadTree ?x_BadTree ?k_BadTree ?b_BadTree ?t_BadTree ?hd_BadTree ?s_BadTree ?ga_BadTree ?gg_BadTree ?ca_BadTree ?cg_BadTree ?ct_BadTree ?cm_BadTree ?g_Broken ?xL_Broken ?sa_Broken ?b_Broken ?t_Broken ?k_Broken ?iC_Broken ?tI_Broken ?ga_Broken ?gg_Broken ?hd_Broken ?no_Broken_index ?s_Broken ?ca_Broken ?cg_Broken ?ct_Broken ?cm_Broken ?g_Clash ?xL_Clash ?sa_Clash ?b_Clash ?t_Clash ?k_Clash ?iC_Clash ?tI_Clash ?ga_Clash ?gg_Clash ?hd_Clash ?no_Clash_name ?no_Clash_key ?s_Clash ?ca_Clash ?cg_Clash ?ct_Clash ?cm_Clash ?g_Frozen ?xL_Frozen ?sa_Frozen ?b_Frozen ?t_Frozen ?k_Frozen ?iC_Frozen ?tI_Frozen ?ga_Frozen ?gg_Frozen ?hd_Frozen ?no_Frozen_name ?no_Frozen_number ?s_Frozen ?ca_Frozen ?cg_Frozen ?ct_Frozen ?cm_Frozen ?g_IdInUse ?xL_IdInUse ?sa_IdInUse ?b_IdInUse ?t_IdInUse ?k_IdInUse ?iC_IdInUse ?tI_IdInUse ?ga_IdInUse ?gg_IdInUse ?hd_IdInUse ?no_IdInUse_path ?s_IdInUse ?ca_IdInUse ?cg_IdInUse ?ct_IdInUse ?cm_IdInUse ?g_InUse ?xL_InUse ?sa_InUse ?b_InUse ?t_InUse ?k_InUse ?iC_InUse ?tI_InUse ?ga_InUse ?gg_InUse ?hd_InUse ?no_InUse_user ?s_InUse ?ca_InUse ?cg_InUse ?ct_InUse ?cm_InUse ?g_NameInUse ?xL_NameInUse ?sa_NameInUse ?b_NameInUse ?t_NameInUse ?k_NameInUse ?iC_NameInUse ?tI_NameInUse ?ga_NameInUse ?gg_NameInUse ?hd_NameInUse ?no_NameInUse_name ?s_NameInUse ?ca_NameInUse ?cg_NameInUse ?ct_NameInUse ?cm_NameInUse ?g_NoKey ?xL_NoKey ?sa_NoKey ?b_NoKey ?t_NoKey ?k_NoKey ?iC_NoKey ?tI_NoKey ?ga_NoKey ?gg_NoKey ?hd_NoKey ?no_NoKey_key ?s_NoKey ?ca_NoKey ?cg_NoKey ?ct_NoKey ?cm_NoKey ?g_NoNode ?xL_NoNode ?sa_NoNode ?b_NoNode ?t_NoNode ?k_NoNode ?iC_NoNode ?tI_NoNode ?ga_NoNode ?gg_NoNode ?hd_NoNode ?no_NoNode_path ?s_NoNode ?ca_NoNode ?cg_NoNode ?ct_NoNode ?cm_NoNode ?g_NoProp ?xL_NoProp ?sa_NoProp ?b_NoProp ?t_NoProp ?k_NoProp ?iC_NoProp ?tI_NoProp ?ga_NoProp ?gg_NoProp ?hd_NoProp ?no_NoProp_prop ?s_NoProp ?ca_NoProp ?cg_NoProp ?ct_NoProp ?cm_NoProp ?g_NoStep ?xL_NoStep ?sa_NoStep ?b_NoStep ?t_NoStep ?k_NoStep ?iC_NoStep ?tI_NoStep ?ga_NoStep ?gg_NoStep ?hd_NoStep ?no_NoStep_index ?s_NoStep ?ca_NoStep ?cg_NoStep ?ct_NoStep ?cm_NoStep ?g_NoUse ?xL_NoUse ?sa_NoUse ?b_NoUse ?t_NoUse ?k_NoUse ?iC_NoUse ?tI_NoUse ?ga_NoUse ?gg_NoUse ?hd_NoUse ?no_NoUse_place ?s_NoUse ?ca_NoUse ?cg_NoUse ?ct_NoUse ?cm_NoUse ?g_NotPlain ?xL_NotPlain ?sa_NotPlain ?b_NotPlain ?t_NotPlain ?k_NotPlain ?iC_NotPlain ?tI_NotPlain ?ga_NotPlain ?gg_NotPlain ?hd_NotPlain ?no_NotPlain_name ?s_NotPlain ?ca_NotPlain ?cg_NotPlain ?ct_NotPlain ?cm_NotPlain ?g_NothingToRedo ?x_NothingToRedo ?k_NothingToRedo ?b_NothingToRedo ?t_NothingToRedo ?hd_NothingToRedo ?s_NothingToRedo ?ga_NothingToRedo ?gg_NothingToRedo ?ca_NothingToRedo ?cg_NothingToRedo ?ct_NothingToRedo ?cm_NothingToRedo ?g_NothingToUndo ?x_NothingToUndo ?k_NothingToUndo ?b_NothingToUndo ?t_NothingToUndo ?hd_NothingToUndo ?s_NothingToUndo ?ga_NothingToUndo ?gg_NothingToUndo ?ca_NothingToUndo ?cg_NothingToUndo ?ct_NothingToUndo ?cm_NothingToUndo ?g_Older ?xL_Older ?sa_Older ?b_Older ?t_Older ?k_Older ?iC_Older ?tI_Older ?ga_Older ?gg_Older ?hd_Older ?no_Older_number ?s_Older ?ca_Older ?cg_Older ?ct_Older ?cm_Older ?g_Outside ?xL_Outside ?sa_Outside ?b_Outside ?t_Outside ?k_Outside ?iC_Outside ?tI_Outside ?ga_Outside ?gg_Outside ?hd_Outside ?no_Outside_path ?s_Outside ?ca_Outside ?cg_Outside ?ct_Outside ?cm_Outside ?g_PropInUse ?xL_PropInUse ?sa_PropInUse ?b_PropInUse ?t_PropInUse ?k_PropInUse ?iC_PropInUse ?tI_PropInUse ?ga_PropInUse ?gg_PropInUse ?hd_PropInUse ?no_PropInUse_prop ?s_PropInUse ?ca_PropInUse ?cg_PropInUse ?ct_PropInUse ?cm_PropInUse ?g_Rests ?xL_Rests ?sa_Rests ?b_Rests ?t_Rests ?k_Rests ?iC_Rests ?tI_Rests ?ga_Rests ?gg_Rests ?hd_Rests ?no_Rests_key ?s_Rests ?ca_Rests ?cg_Rests ?ct_Rests ?cm_Rests ?g_Ring ?xL_Ring ?sa_Ring ?b_Ring ?t_Ring ?k_Ring ?iC_Ring ?tI_Ring ?ga_Ring ?gg_Ring ?hd_Ring ?no_Ring_circle ?s_Ring ?ca_Ring ?cg_Ring ?ct_Ring ?cm_Ring ?g_TooLarge ?xL_TooLarge ?sa_TooLarge ?b_TooLarge ?t_TooLarge ?k_TooLarge ?iC_TooLarge ?tI_TooLarge ?ga_TooLarge ?gg_TooLarge ?hd_TooLarge ?no_TooLarge_name ?s_TooLarge ?ca_TooLarge ?cg_TooLarge ?ct_TooLarge ?cm_TooLarge ?g_TwoEntries ?xL_TwoEntries ?sa_TwoEntries ?b_TwoEntries ?t_TwoEntries ?k_TwoEntries ?iC_TwoEntries ?tI_TwoEntries ?ga_TwoEntries ?gg_TwoEntries ?hd_TwoEntries ?no_TwoEntries_key ?s_TwoEntries ?ca_TwoEntries ?cg_TwoEntries ?ct_TwoEntries ?cm_TwoEntries ?g_UnknownRelease ?xL_UnknownRelease ?sa_UnknownRelease ?b_UnknownRelease ?t_UnknownRelease ?k_UnknownRelease ?iC_UnknownRelease ?tI_UnknownRelease ?ga_UnknownRelease ?gg_UnknownRelease ?hd_UnknownRelease ?no_UnknownRelease_name ?no_UnknownRelease_number ?s_UnknownRelease ?ca_UnknownRelease ?cg_UnknownRelease ?ct_UnknownRelease ?cm_UnknownRelease ?g_UnknownTemplate ?xL_UnknownTemplate ?sa_UnknownTemplate ?b_UnknownTemplate ?t_UnknownTemplate ?k_UnknownTemplate ?iC_UnknownTemplate ?tI_UnknownTemplate ?ga_UnknownTemplate ?gg_UnknownTemplate ?hd_UnknownTemplate ?no_UnknownTemplate_name ?s_UnknownTemplate ?ca_UnknownTemplate ?cg_UnknownTemplate ?ct_UnknownTemplate ?cm_UnknownTemplate ?kt_BadTree_all ?kt_BadTree_ValueError ?kt_BadTree_VariantError ?kt_BadPiece_all ?kt_BadPiece_ValueError ?kt_BadPiece_VariantError ?kt_NothingToUndo_all ?kt_NothingToUndo_ValueError ?kt_NothingToUndo_VariantError ?kt_NothingToRedo_all ?kt_NothingToRedo_ValueError ?kt_NothingToRedo_VariantError ?kt_NoNode_all ?kt_NoNode_ValueError ?kt_NoNode_VariantError ?kt_BadEntry_all ?kt_BadEntry_ValueError ?kt_BadEntry_VariantError ?kt_TwoEntries_all ?kt_TwoEntries_ValueError ?kt_TwoEntries_VariantError ?kt_NoKey_all ?kt_NoKey_ValueError ?kt_NoKey_VariantError ?kt_UnknownTemplate_all ?kt_UnknownTemplate_ValueError ?kt_UnknownTemplate_VariantError ?kt_Ring_all ?kt_Ring_ValueError ?kt_Ring_VariantError ?kt_TooLarge_all ?kt_TooLarge_ValueError ?kt_TooLarge_VariantError ?kt_BadName_all ?kt_BadName_ValueError ?kt_BadName_VariantError ?kt_NameInUse_all ?kt_NameInUse_ValueError ?kt_NameInUse_VariantError ?kt_InUse_all ?kt_InUse_ValueError ?kt_InUse_VariantError ?kt_IdInUse_all ?kt_IdInUse_ValueError ?kt_IdInUse_VariantError ?kt_NoUse_all ?kt_NoUse_ValueError ?kt_NoUse_VariantError ?kt_Rests_all ?kt_Rests_ValueError ?kt_Rests_VariantError ?kt_Outside_all ?kt_Outside_ValueError ?kt_Outside_VariantError ?kt_NotPlain_all ?kt_NotPlain_ValueError ?kt_NotPlain_VariantError ?kt_NoProp_all ?kt_NoProp_ValueError ?kt_NoProp_VariantError ?kt_PropInUse_all ?kt_PropInUse_ValueError ?kt_PropInUse_VariantError ?kt_Older_all ?kt_Older_ValueError ?kt_Older_VariantError ?kt_BadStep_all ?kt_BadStep_ValueError ?kt_BadStep_VariantError ?kt_NoStep_all ?kt_NoStep_ValueError ?kt_NoStep_VariantError ?kt_Broken_all ?kt_Broken_ValueError ?kt_Broken_VariantError ?kt_BadText_all ?kt_BadText_ValueError ?kt_BadText_VariantError ?kt_BadLine_all ?kt_BadLine_ValueError ?kt_BadLine_VariantError ?kt_UnknownRelease_all ?kt_UnknownRelease_ValueError ?kt_UnknownRelease_VariantError ?kt_Frozen_all ?kt_Frozen_ValueError ?kt_Frozen_VariantError ?kt_Clash_all ?kt_Clash_ValueError ?kt_Clash_VariantError ?kt_VariantError_all ?kt_VariantError_ValueError ?a0 ?l0 ?c0 ?k0 ?a1 ?l1 ?c1 ?k1 ?a2 ?l2 ?c2 ?k2 ?a3 ?l3 ?c3 ?k3 ?a4 ?l4 ?c4 ?k4 ?l5 ?c5 ?k5 ?l6 ?c6 ?k6 ?l7 ?c7 ?k7 ?l8 ?c8 ?k8 ?l9 ?c9 ?k9 ?l10 ?c10 ?k10 ?l11 ?c11 ?k11 ?l12 ?c12 ?k12 ?l13 ?c13 ?k13 ?l14 ?c14 ?k14 ?l15 ?c15 ?k15 ?l16 ?c16 ?k16 ?l17 ?c17 ?k17 ?l18 ?c18 ?k18 ?l19 ?c19 ?k19 ?l20 ?c20 ?k20 ?l21 ?c21 ?k21 ?l22 ?c22 ?k22 ?l23 ?c23 ?k23 ?l24 ?c24 ?k24 ?l25 ?c25 ?k25 ?l26 ?c26 ?k26 ?l27 ?c27 ?k27 ?l28 ?c28 ?k28 ?l29 ?c29 ?k29 ?l30 ?c30 ?k30 ?a31 ?l31 ?c31 ?k31 ?a32 ?l32 ?c32 ?k32 ?a33 ?l33 ?c33 ?k33 ?a34 ?l34 ?c34 ?k34 ?a35 ?l35 ?c35 ?k35 ?n_ValueError ?n_all ?n_int ?n_isinstance ?n_list ?n_range ?n_repr ?n_tuple
    (case g_VariantError => k_is)
    (case x_VariantError => k_exc)
    (case k_VariantError => k_is)
    (case b_VariantError => k_is)
    (case hd_VariantError => k_is)
    (case rd_VariantError => k_is)
    (case vg_VariantError => k_is)
    (case va_VariantError => k_is)
    (case ga_VariantError => k_is)
    (case gg_VariantError => k_is)
    (case ca_VariantError => k_is)
    (case cg_VariantError => k_is)
    (case ct_VariantError => k_is)
    (case cm_VariantError => k_is)
    (case g_BadEntry => k_is)
    (case xL_BadEntry => k_is)
    (case sa_BadEntry => k_is)
    (case b_BadEntry => k_is)
    (case t_BadEntry => k_is)
    (case k_BadEntry => k_is)
    (case iC_BadEntry => k_is)
    (case tI_BadEntry => k_is)
    (case ga_BadEntry => k_is)
    (case gg_BadEntry => k_is)
    (case hd_BadEntry => k_is)
    (case no_BadEntry_index => k_is)
    (case s_BadEntry => k_is)
    (case ca_BadEntry => k_is)
    (case cg_BadEntry => k_is)
    (case ct_BadEntry => k_is)
    (case cm_BadEntry => k_is)
    (case g_BadLine => k_is)
    (case xL_BadLine => k_is)
    (case sa_BadLine => k_is)
    (case b_BadLine => k_is)
    (case t_BadLine => k_is)
    (case k_BadLine => k_is)
    (case iC_BadLine => k_is)
    (case tI_BadLine => k_is)
    (case ga_BadLine => k_is)
    (case gg_BadLine => k_is)
    (case hd_BadLine => k_is)
    (case no_BadLine_index => k_is)
    (case s_BadLine => k_is)
    (case ca_BadLine => k_is)
    (case cg_BadLine => k_is)
    (case ct_BadLine => k_is)
    (case cm_BadLine => k_is)
    (case g_BadName => k_is)
    (case xL_BadName => k_is)
    (case sa_BadName => k_is)
    (case b_BadName => k_is)
    (case t_BadName => k_is)
    (case k_BadName => k_is)
    (case iC_BadName => k_is)
    (case tI_BadName => k_is)
    (case ga_BadName => k_is)
    (case gg_BadName => k_is)
    (case hd_BadName => k_is)
    (case no_BadName_name => k_is)
    (case s_BadName => k_is)
    (case ca_BadName => k_is)
    (case cg_BadName => k_is)
    (case ct_BadName => k_is)
    (case cm_BadName => k_is)
    (case g_BadPiece => k_is)
    (case x_BadPiece => k_exc)
    (case k_BadPiece => k_is)
    (case b_BadPiece => k_is)
    (case t_BadPiece => k_is)
    (case hd_BadPiece => k_is)
    (case s_BadPiece => k_is)
    (case ga_BadPiece => k_is)
    (case gg_BadPiece => k_is)
    (case ca_BadPiece => k_is)
    (case cg_BadPiece => k_is)
    (case ct_BadPiece => k_is)
    (case cm_BadPiece => k_is)
    (case g_BadStep => k_is)
    (case xL_BadStep => k_is)
    (case sa_BadStep => k_is)
    (case b_BadStep => k_is)
    (case t_BadStep => k_is)
    (case k_BadStep => k_is)
    (case iC_BadStep => k_is)
    (case tI_BadStep => k_is)
    (case ga_BadStep => k_is)
    (case gg_BadStep => k_is)
    (case hd_BadStep => k_is)
    (case no_BadStep_index => k_is)
    (case s_BadStep => k_is)
    (case ca_BadStep => k_is)
    (case cg_BadStep => k_is)
    (case ct_BadStep => k_is)
    (case cm_BadStep => k_is)
    (case g_BadText => k_is)
    (case xL_BadText => k_is)
    (case sa_BadText => k_is)
    (case b_BadText => k_is)
    (case t_BadText => k_is)
    (case k_BadText => k_is)
    (case iC_BadText => k_is)
    (case tI_BadText => k_is)
    (case ga_BadText => k_is)
    (case gg_BadText => k_is)
    (case hd_BadText => k_is)
    (case no_BadText_at => k_is)
    (case s_BadText => k_is)
    (case ca_BadText => k_is)
    (case cg_BadText => k_is)
    (case ct_BadText => k_is)
    (case cm_BadText => k_is)
    (case g_BadTree => k_is)
    (case x_BadTree => k_exc)
    (case k_BadTree => k_is)
    (case b_BadTree => k_is)
    (case t_BadTree => k_is)
    (case hd_BadTree => k_is)
    (case s_BadTree => k_is)
    (case ga_BadTree => k_is)
    (case gg_BadTree => k_is)
    (case ca_BadTree => k_is)
    (case cg_BadTree => k_is)
    (case ct_BadTree => k_is)
    (case cm_BadTree => k_is)
    (case g_Broken => k_is)
    (case xL_Broken => k_is)
    (case sa_Broken => k_is)
    (case b_Broken => k_is)
    (case t_Broken => k_is)
    (case k_Broken => k_is)
    (case iC_Broken => k_is)
    (case tI_Broken => k_is)
    (case ga_Broken => k_is)
    (case gg_Broken => k_is)
    (case hd_Broken => k_is)
    (case no_Broken_index => k_is)
    (case s_Broken => k_is)
    (case ca_Broken => k_is)
    (case cg_Broken => k_is)
    (case ct_Broken => k_is)
    (case cm_Broken => k_is)
    (case g_Clash => k_is)
    (case xL_Clash => k_is)
    (case sa_Clash => k_is)
    (case b_Clash => k_is)
    (case t_Clash => k_is)
    (case k_Clash => k_is)
    (case iC_Clash => k_is)
    (case tI_Clash => k_is)
    (case ga_Clash => k_is)
    (case gg_Clash => k_is)
    (case hd_Clash => k_is)
    (case no_Clash_name => k_is)
    (case no_Clash_key => k_is)
    (case s_Clash => k_is)
    (case ca_Clash => k_is)
    (case cg_Clash => k_is)
    (case ct_Clash => k_is)
    (case cm_Clash => k_is)
    (case g_Frozen => k_is)
    (case xL_Frozen => k_is)
    (case sa_Frozen => k_is)
    (case b_Frozen => k_is)
    (case t_Frozen => k_is)
    (case k_Frozen => k_is)
    (case iC_Frozen => k_is)
    (case tI_Frozen => k_is)
    (case ga_Frozen => k_is)
    (case gg_Frozen => k_is)
    (case hd_Frozen => k_is)
    (case no_Frozen_name => k_is)
    (case no_Frozen_number => k_is)
    (case s_Frozen => k_is)
    (case ca_Frozen => k_is)
    (case cg_Frozen => k_is)
    (case ct_Frozen => k_is)
    (case cm_Frozen => k_is)
    (case g_IdInUse => k_is)
    (case xL_IdInUse => k_is)
    (case sa_IdInUse => k_is)
    (case b_IdInUse => k_is)
    (case t_IdInUse => k_is)
    (case k_IdInUse => k_is)
    (case iC_IdInUse => k_is)
    (case tI_IdInUse => k_is)
    (case ga_IdInUse => k_is)
    (case gg_IdInUse => k_is)
    (case hd_IdInUse => k_is)
    (case no_IdInUse_path => k_is)
    (case s_IdInUse => k_is)
    (case ca_IdInUse => k_is)
    (case cg_IdInUse => k_is)
    (case ct_IdInUse => k_is)
    (case cm_IdInUse => k_is)
    (case g_InUse => k_is)
    (case xL_InUse => k_is)
    (case sa_InUse => k_is)
    (case b_InUse => k_is)
    (case t_InUse => k_is)
    (case k_InUse => k_is)
    (case iC_InUse => k_is)
    (case tI_InUse => k_is)
    (case ga_InUse => k_is)
    (case gg_InUse => k_is)
    (case hd_InUse => k_is)
    (case no_InUse_user => k_is)
    (case s_InUse => k_is)
    (case ca_InUse => k_is)
    (case cg_InUse => k_is)
    (case ct_InUse => k_is)
    (case cm_InUse => k_is)
    (case g_NameInUse => k_is)
    (case xL_NameInUse => k_is)
    (case sa_NameInUse => k_is)
    (case b_NameInUse => k_is)
    (case t_NameInUse => k_is)
    (case k_NameInUse => k_is)
    (case iC_NameInUse => k_is)
    (case tI_NameInUse => k_is)
    (case ga_NameInUse => k_is)
    (case gg_NameInUse => k_is)
    (case hd_NameInUse => k_is)
    (case no_NameInUse_name => k_is)
    (case s_NameInUse => k_is)
    (case ca_NameInUse => k_is)
    (case cg_NameInUse => k_is)
    (case ct_NameInUse => k_is)
    (case cm_NameInUse => k_is)
    (case g_NoKey => k_is)
    (case xL_NoKey => k_is)
    (case sa_NoKey => k_is)
    (case b_NoKey => k_is)
    (case t_NoKey => k_is)
    (case k_NoKey => k_is)
    (case iC_NoKey => k_is)
    (case tI_NoKey => k_is)
    (case ga_NoKey => k_is)
    (case gg_NoKey => k_is)
    (case hd_NoKey => k_is)
    (case no_NoKey_key => k_is)
    (case s_NoKey => k_is)
    (case ca_NoKey => k_is)
    (case cg_NoKey => k_is)
    (case ct_NoKey => k_is)
    (case cm_NoKey => k_is)
    (case g_NoNode => k_is)
    (case xL_NoNode => k_is)
    (case sa_NoNode => k_is)
    (case b_NoNode => k_is)
    (case t_NoNode => k_is)
    (case k_NoNode => k_is)
    (case iC_NoNode => k_is)
    (case tI_NoNode => k_is)
    (case ga_NoNode => k_is)
    (case gg_NoNode => k_is)
    (case hd_NoNode => k_is)
    (case no_NoNode_path => k_is)
    (case s_NoNode => k_is)
    (case ca_NoNode => k_is)
    (case cg_NoNode => k_is)
    (case ct_NoNode => k_is)
    (case cm_NoNode => k_is)
    (case g_NoProp => k_is)
    (case xL_NoProp => k_is)
    (case sa_NoProp => k_is)
    (case b_NoProp => k_is)
    (case t_NoProp => k_is)
    (case k_NoProp => k_is)
    (case iC_NoProp => k_is)
    (case tI_NoProp => k_is)
    (case ga_NoProp => k_is)
    (case gg_NoProp => k_is)
    (case hd_NoProp => k_is)
    (case no_NoProp_prop => k_is)
    (case s_NoProp => k_is)
    (case ca_NoProp => k_is)
    (case cg_NoProp => k_is)
    (case ct_NoProp => k_is)
    (case cm_NoProp => k_is)
    (case g_NoStep => k_is)
    (case xL_NoStep => k_is)
    (case sa_NoStep => k_is)
    (case b_NoStep => k_is)
    (case t_NoStep => k_is)
    (case k_NoStep => k_is)
    (case iC_NoStep => k_is)
    (case tI_NoStep => k_is)
    (case ga_NoStep => k_is)
    (case gg_NoStep => k_is)
    (case hd_NoStep => k_is)
    (case no_NoStep_index => k_is)
    (case s_NoStep => k_is)
    (case ca_NoStep => k_is)
    (case cg_NoStep => k_is)
    (case ct_NoStep => k_is)
    (case cm_NoStep => k_is)
    (case g_NoUse => k_is)
    (case xL_NoUse => k_is)
    (case sa_NoUse => k_is)
    (case b_NoUse => k_is)
    (case t_NoUse => k_is)
    (case k_NoUse => k_is)
    (case iC_NoUse => k_is)
    (case tI_NoUse => k_is)
    (case ga_NoUse => k_is)
    (case gg_NoUse => k_is)
    (case hd_NoUse => k_is)
    (case no_NoUse_place => k_is)
    (case s_NoUse => k_is)
    (case ca_NoUse => k_is)
    (case cg_NoUse => k_is)
    (case ct_NoUse => k_is)
    (case cm_NoUse => k_is)
    (case g_NotPlain => k_is)
    (case xL_NotPlain => k_is)
    (case sa_NotPlain => k_is)
    (case b_NotPlain => k_is)
    (case t_NotPlain => k_is)
    (case k_NotPlain => k_is)
    (case iC_NotPlain => k_is)
    (case tI_NotPlain => k_is)
    (case ga_NotPlain => k_is)
    (case gg_NotPlain => k_is)
    (case hd_NotPlain => k_is)
    (case no_NotPlain_name => k_is)
    (case s_NotPlain => k_is)
    (case ca_NotPlain => k_is)
    (case cg_NotPlain => k_is)
    (case ct_NotPlain => k_is)
    (case cm_NotPlain => k_is)
    (case g_NothingToRedo => k_is)
    (case x_NothingToRedo => k_exc)
    (case k_NothingToRedo => k_is)
    (case b_NothingToRedo => k_is)
    (case t_NothingToRedo => k_is)
    (case hd_NothingToRedo => k_is)
    (case s_NothingToRedo => k_is)
    (case ga_NothingToRedo => k_is)
    (case gg_NothingToRedo => k_is)
    (case ca_NothingToRedo => k_is)
    (case cg_NothingToRedo => k_is)
    (case ct_NothingToRedo => k_is)
    (case cm_NothingToRedo => k_is)
    (case g_NothingToUndo => k_is)
    (case x_NothingToUndo => k_exc)
    (case k_NothingToUndo => k_is)
    (case b_NothingToUndo => k_is)
    (case t_NothingToUndo => k_is)
    (case hd_NothingToUndo => k_is)
    (case s_NothingToUndo => k_is)
    (case ga_NothingToUndo => k_is)
    (case gg_NothingToUndo => k_is)
    (case ca_NothingToUndo => k_is)
    (case cg_NothingToUndo => k_is)
    (case ct_NothingToUndo => k_is)
    (case cm_NothingToUndo => k_is)
    (case g_Older => k_is)
    (case xL_Older => k_is)
    (case sa_Older => k_is)
    (case b_Older => k_is)
    (case t_Older => k_is)
    (case k_Older => k_is)
    (case iC_Older => k_is)
    (case tI_Older => k_is)
    (case ga_Older => k_is)
    (case gg_Older => k_is)
    (case hd_Older => k_is)
    (case no_Older_number => k_is)
    (case s_Older => k_is)
    (case ca_Older => k_is)
    (case cg_Older => k_is)
    (case ct_Older => k_is)
    (case cm_Older => k_is)
    (case g_Outside => k_is)
    (case xL_Outside => k_is)
    (case sa_Outside => k_is)
    (case b_Outside => k_is)
    (case t_Outside => k_is)
    (case k_Outside => k_is)
    (case iC_Outside => k_is)
    (case tI_Outside => k_is)
    (case ga_Outside => k_is)
    (case gg_Outside => k_is)
    (case hd_Outside => k_is)
    (case no_Outside_path => k_is)
    (case s_Outside => k_is)
    (case ca_Outside => k_is)
    (case cg_Outside => k_is)
    (case ct_Outside => k_is)
    (case cm_Outside => k_is)
    (case g_PropInUse => k_is)
    (case xL_PropInUse => k_is)
    (case sa_PropInUse => k_is)
    (case b_PropInUse => k_is)
    (case t_PropInUse => k_is)
    (case k_PropInUse => k_is)
    (case iC_PropInUse => k_is)
    (case tI_PropInUse => k_is)
    (case ga_PropInUse => k_is)
    (case gg_PropInUse => k_is)
    (case hd_PropInUse => k_is)
    (case no_PropInUse_prop => k_is)
    (case s_PropInUse => k_is)
    (case ca_PropInUse => k_is)
    (case cg_PropInUse => k_is)
    (case ct_PropInUse => k_is)
    (case cm_PropInUse => k_is)
    (case g_Rests => k_is)
    (case xL_Rests => k_is)
    (case sa_Rests => k_is)
    (case b_Rests => k_is)
    (case t_Rests => k_is)
    (case k_Rests => k_is)
    (case iC_Rests => k_is)
    (case tI_Rests => k_is)
    (case ga_Rests => k_is)
    (case gg_Rests => k_is)
    (case hd_Rests => k_is)
    (case no_Rests_key => k_is)
    (case s_Rests => k_is)
    (case ca_Rests => k_is)
    (case cg_Rests => k_is)
    (case ct_Rests => k_is)
    (case cm_Rests => k_is)
    (case g_Ring => k_is)
    (case xL_Ring => k_is)
    (case sa_Ring => k_is)
    (case b_Ring => k_is)
    (case t_Ring => k_is)
    (case k_Ring => k_is)
    (case iC_Ring => k_is)
    (case tI_Ring => k_is)
    (case ga_Ring => k_is)
    (case gg_Ring => k_is)
    (case hd_Ring => k_is)
    (case no_Ring_circle => k_is)
    (case s_Ring => k_is)
    (case ca_Ring => k_is)
    (case cg_Ring => k_is)
    (case ct_Ring => k_is)
    (case cm_Ring => k_is)
    (case g_TooLarge => k_is)
    (case xL_TooLarge => k_is)
    (case sa_TooLarge => k_is)
    (case b_TooLarge => k_is)
    (case t_TooLarge => k_is)
    (case k_TooLarge => k_is)
    (case iC_TooLarge => k_is)
    (case tI_TooLarge => k_is)
    (case ga_TooLarge => k_is)
    (case gg_TooLarge => k_is)
    (case hd_TooLarge => k_is)
    (case no_TooLarge_name => k_is)
    (case s_TooLarge => k_is)
    (case ca_TooLarge => k_is)
    (case cg_TooLarge => k_is)
    (case ct_TooLarge => k_is)
    (case cm_TooLarge => k_is)
    (case g_TwoEntries => k_is)
    (case xL_TwoEntries => k_is)
    (case sa_TwoEntries => k_is)
    (case b_TwoEntries => k_is)
    (case t_TwoEntries => k_is)
    (case k_TwoEntries => k_is)
    (case iC_TwoEntries => k_is)
    (case tI_TwoEntries => k_is)
    (case ga_TwoEntries => k_is)
    (case gg_TwoEntries => k_is)
    (case hd_TwoEntries => k_is)
    (case no_TwoEntries_key => k_is)
    (case s_TwoEntries => k_is)
    (case ca_TwoEntries => k_is)
    (case cg_TwoEntries => k_is)
    (case ct_TwoEntries => k_is)
    (case cm_TwoEntries => k_is)
    (case g_UnknownRelease => k_is)
    (case xL_UnknownRelease => k_is)
    (case sa_UnknownRelease => k_is)
    (case b_UnknownRelease => k_is)
    (case t_UnknownRelease => k_is)
    (case k_UnknownRelease => k_is)
    (case iC_UnknownRelease => k_is)
    (case tI_UnknownRelease => k_is)
    (case ga_UnknownRelease => k_is)
    (case gg_UnknownRelease => k_is)
    (case hd_UnknownRelease => k_is)
    (case no_UnknownRelease_name => k_is)
    (case no_UnknownRelease_number => k_is)
    (case s_UnknownRelease => k_is)
    (case ca_UnknownRelease => k_is)
    (case cg_UnknownRelease => k_is)
    (case ct_UnknownRelease => k_is)
    (case cm_UnknownRelease => k_is)
    (case g_UnknownTemplate => k_is)
    (case xL_UnknownTemplate => k_is)
    (case sa_UnknownTemplate => k_is)
    (case b_UnknownTemplate => k_is)
    (case t_UnknownTemplate => k_is)
    (case k_UnknownTemplate => k_is)
    (case iC_UnknownTemplate => k_is)
    (case tI_UnknownTemplate => k_is)
    (case ga_UnknownTemplate => k_is)
    (case gg_UnknownTemplate => k_is)
    (case hd_UnknownTemplate => k_is)
    (case no_UnknownTemplate_name => k_is)
    (case s_UnknownTemplate => k_is)
    (case ca_UnknownTemplate => k_is)
    (case cg_UnknownTemplate => k_is)
    (case ct_UnknownTemplate => k_is)
    (case cm_UnknownTemplate => k_is)
    (case kt_BadTree_all => kit_is)
    (case kt_BadTree_ValueError => kit_is)
    (case kt_BadTree_VariantError => kit_is)
    (case kt_BadPiece_all => kit_is)
    (case kt_BadPiece_ValueError => kit_is)
    (case kt_BadPiece_VariantError => kit_is)
    (case kt_NothingToUndo_all => kit_is)
    (case kt_NothingToUndo_ValueError => kit_is)
    (case kt_NothingToUndo_VariantError => kit_is)
    (case kt_NothingToRedo_all => kit_is)
    (case kt_NothingToRedo_ValueError => kit_is)
    (case kt_NothingToRedo_VariantError => kit_is)
    (case kt_NoNode_all => kit_is)
    (case kt_NoNode_ValueError => kit_is)
    (case kt_NoNode_VariantError => kit_is)
    (case kt_BadEntry_all => kit_is)
    (case kt_BadEntry_ValueError => kit_is)
    (case kt_BadEntry_VariantError => kit_is)
    (case kt_TwoEntries_all => kit_is)
    (case kt_TwoEntries_ValueError => kit_is)
    (case kt_TwoEntries_VariantError => kit_is)
    (case kt_NoKey_all => kit_is)
    (case kt_NoKey_ValueError => kit_is)
    (case kt_NoKey_VariantError => kit_is)
    (case kt_UnknownTemplate_all => kit_is)
    (case kt_UnknownTemplate_ValueError => kit_is)
    (case kt_UnknownTemplate_VariantError => kit_is)
    (case kt_Ring_all => kit_is)
    (case kt_Ring_ValueError => kit_is)
    (case kt_Ring_VariantError => kit_is)
    (case kt_TooLarge_all => kit_is)
    (case kt_TooLarge_ValueError => kit_is)
    (case kt_TooLarge_VariantError => kit_is)
    (case kt_BadName_all => kit_is)
    (case kt_BadName_ValueError => kit_is)
    (case kt_BadName_VariantError => kit_is)
    (case kt_NameInUse_all => kit_is)
    (case kt_NameInUse_ValueError => kit_is)
    (case kt_NameInUse_VariantError => kit_is)
    (case kt_InUse_all => kit_is)
    (case kt_InUse_ValueError => kit_is)
    (case kt_InUse_VariantError => kit_is)
    (case kt_IdInUse_all => kit_is)
    (case kt_IdInUse_ValueError => kit_is)
    (case kt_IdInUse_VariantError => kit_is)
    (case kt_NoUse_all => kit_is)
    (case kt_NoUse_ValueError => kit_is)
    (case kt_NoUse_VariantError => kit_is)
    (case kt_Rests_all => kit_is)
    (case kt_Rests_ValueError => kit_is)
    (case kt_Rests_VariantError => kit_is)
    (case kt_Outside_all => kit_is)
    (case kt_Outside_ValueError => kit_is)
    (case kt_Outside_VariantError => kit_is)
    (case kt_NotPlain_all => kit_is)
    (case kt_NotPlain_ValueError => kit_is)
    (case kt_NotPlain_VariantError => kit_is)
    (case kt_NoProp_all => kit_is)
    (case kt_NoProp_ValueError => kit_is)
    (case kt_NoProp_VariantError => kit_is)
    (case kt_PropInUse_all => kit_is)
    (case kt_PropInUse_ValueError => kit_is)
    (case kt_PropInUse_VariantError => kit_is)
    (case kt_Older_all => kit_is)
    (case kt_Older_ValueError => kit_is)
    (case kt_Older_VariantError => kit_is)
    (case kt_BadStep_all => kit_is)
    (case kt_BadStep_ValueError => kit_is)
    (case kt_BadStep_VariantError => kit_is)
    (case kt_NoStep_all => kit_is)
    (case kt_NoStep_ValueError => kit_is)
    (case kt_NoStep_VariantError => kit_is)
    (case kt_Broken_all => kit_is)
    (case kt_Broken_ValueError => kit_is)
    (case kt_Broken_VariantError => kit_is)
    (case kt_BadText_all => kit_is)
    (case kt_BadText_ValueError => kit_is)
    (case kt_BadText_VariantError => kit_is)
    (case kt_BadLine_all => kit_is)
    (case kt_BadLine_ValueError => kit_is)
    (case kt_BadLine_VariantError => kit_is)
    (case kt_UnknownRelease_all => kit_is)
    (case kt_UnknownRelease_ValueError => kit_is)
    (case kt_UnknownRelease_VariantError => kit_is)
    (case kt_Frozen_all => kit_is)
    (case kt_Frozen_ValueError => kit_is)
    (case kt_Frozen_VariantError => kit_is)
    (case kt_Clash_all => kit_is)
    (case kt_Clash_ValueError => kit_is)
    (case kt_Clash_VariantError => kit_is)
    (case kt_VariantError_all => kit_is)
    (case kt_VariantError_ValueError => kit_is)
    (case a0 => k_is)
    (case l0 => k_is)
    (case c0 => k_is)
    (case k0 => k_is)
    (case a1 => k_is)
    (case l1 => k_is)
    (case c1 => k_is)
    (case k1 => k_is)
    (case a2 => k_is)
    (case l2 => k_is)
    (case c2 => k_is)
    (case k2 => k_is)
    (case a3 => k_is)
    (case l3 => k_is)
    (case c3 => k_is)
    (case k3 => k_is)
    (case a4 => k_is)
    (case l4 => k_is)
    (case c4 => k_is)
    (case k4 => k_is)
    (case l5 => k_is)
    (case c5 => k_is)
    (case k5 => k_is)
    (case l6 => k_is)
    (case c6 => k_is)
    (case k6 => k_is)
    (case l7 => k_is)
    (case c7 => k_is)
    (case k7 => k_is)
    (case l8 => k_is)
    (case c8 => k_is)
    (case k8 => k_is)
    (case l9 => k_is)
    (case c9 => k_is)
    (case k9 => k_is)
    (case l10 => k_is)
    (case c10 => k_is)
    (case k10 => k_is)
    (case l11 => k_is)
    (case c11 => k_is)
    (case k11 => k_is)
    (case l12 => k_is)
    (case c12 => k_is)
    (case k12 => k_is)
    (case l13 => k_is)
    (case c13 => k_is)
    (case k13 => k_is)
    (case l14 => k_is)
    (case c14 => k_is)
    (case k14 => k_is)
    (case l15 => k_is)
    (case c15 => k_is)
    (case k15 => k_is)
    (case l16 => k_is)
    (case c16 => k_is)
    (case k16 => k_is)
    (case l17 => k_is)
    (case c17 => k_is)
    (case k17 => k_is)
    (case l18 => k_is)
    (case c18 => k_is)
    (case k18 => k_is)
    (case l19 => k_is)
    (case c19 => k_is)
    (case k19 => k_is)
    (case l20 => k_is)
    (case c20 => k_is)
    (case k20 => k_is)
    (case l21 => k_is)
    (case c21 => k_is)
    (case k21 => k_is)
    (case l22 => k_is)
    (case c22 => k_is)
    (case k22 => k_is)
    (case l23 => k_is)
    (case c23 => k_is)
    (case k23 => k_is)
    (case l24 => k_is)
    (case c24 => k_is)
    (case k24 => k_is)
    (case l25 => k_is)
    (case c25 => k_is)
    (case k25 => k_is)
    (case l26 => k_is)
    (case c26 => k_is)
    (case k26 => k_is)
    (case l27 => k_is)
    (case c27 => k_is)
    (case k27 => k_is)
    (case l28 => k_is)
    (case c28 => k_is)
    (case k28 => k_is)
    (case l29 => k_is)
    (case c29 => k_is)
    (case k29 => k_is)
    (case l30 => k_is)
    (case c30 => k_is)
    (case k30 => k_is)
    (case a31 => k_is)
    (case l31 => k_is)
    (case c31 => k_is)
    (case k31 => k_is)
    (case a32 => k_is)
    (case l32 => k_is)
    (case c32 => k_is)
    (case k32 => k_is)
    (case a33 => k_is)
    (case l33 => k_is)
    (case c33 => k_is)
    (case k33 => k_is)
    (case a34 => k_is)
    (case l34 => k_is)
    (case c34 => k_is)
    (case k34 => k_is)
    (case a35 => k_is)
    (case l35 => k_is)
    (case c35 => k_is)
    (case k35 => k_is)
    (case n_ValueError => k_is)
    (case n_all => k_is)
    (case n_int => k_is)
    (case n_isinstance => k_is)
    (case n_list => k_is)
    (case n_range => k_is)
    (case n_repr => k_is)
    (case n_tuple => k_is)


