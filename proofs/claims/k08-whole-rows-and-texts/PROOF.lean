import PyProof.Rows.All
import Wide.All
import OpenK.AllK
import Wide.FinOn
import HandS.ForMost
import HandS.Exc
import HandS.WordsExc
import HandS.Wide
import HandS.WideBits
import HandS.Gcd
import HandS.Zip
import KE.GoesZip
import KE.GoesEnum
import KE.GoesMore
import HandS.CallSlots
import HandS.TupAny
import HandS.TupMul
import HandS.Style
import HandS.IsInst
import HandS.FStr
import HandS.Small
import HandS.Deep
import HandS.Defaults
import HandS.HeadHook4
import HandS.Head3
import HandS.HeadEnd
import HandS.EndBits
import HandS.SortOrd
import HandS.DictComp
import HandS.Conv
import PySem.Challenge.RW_ledlevels_k08_whole_rows_and_texts
set_option Elab.async false
set_option linter.all false
set_option maxRecDepth 100000
/-! Y1: data by value, the map of what may change, how both lie in the abstract heap. -/
namespace Y
open PySem PySem.Spec PyProof.Rows L2
inductive D where
  | non | bl (b : Bool) | int (i : Int) | str (x : Str) | ty (n : String) | adr (a : Addr)
  | tup (xs : List D) | lst (xs : List D)
  | kl (xs : List D)
  deriving Inhabited
/-- what may change -/
inductive MO where
  | lst (xs : List D)
  | dK (kvs : List (Key × D))
  | dT (kvs : List (List Key × D))
  | raw (o : HO)
  | ins (C : Addr) (fs : List (Str × D))
abbrev MM := Addr → Option MO
def mset (m : MM) (a : Addr) (o : MO) : MM := fun b => if b = a then some o else m b
def mdel (m : MM) (a : Addr) : MM := fun b => if b = a then none else m b
theorem mset_same {m : MM} {a : Addr} {o : MO} : mset m a o a = some o := by unfold mset; rw [if_pos rfl]
theorem mset_ne {m : MM} {a b : Addr} {o : MO} (h : b ≠ a) : mset m a o b = m b := by unfold mset; rw [if_neg h]
theorem mset_mset {m : MM} {a : Addr} {o u : MO} : mset (mset m a o) a u = mset m a u := by
  funext b; unfold mset; split <;> rfl
theorem mdel_same {m : MM} {a : Addr} : mdel m a a = none := by unfold mdel; rw [if_pos rfl]
theorem mdel_ne {m : MM} {a b : Addr} (h : b ≠ a) : mdel m a b = m b := by unfold mdel; rw [if_neg h]
theorem mdel_mset {m : MM} {a : Addr} {o : MO} (h : m a = none) : mdel (mset m a o) a = m := by
  funext b; unfold mdel mset; by_cases e : b = a
  · rw [if_pos e, e, h]
  · rw [if_neg e, if_neg e]
/-- fewer things are known -/
def Less (m' m : MM) : Prop := ∀ a o, m' a = some o → m a = some o
theorem Less.refl (m : MM) : Less m m := fun _ _ h => h
theorem Less.del (m : MM) (a : Addr) : Less (mdel m a) m := fun b o h => by
  by_cases e : b = a
  · subst e; rw [mdel_same] at h; cases h
  · rw [mdel_ne e] at h; exact h
/-- a list that is read alone -/
def SqM (H : Hp) (m : MM) (a : Addr) (xs : List V) : Prop := H a = some (.lst xs) ∧ m a = none
/-- a list that is read alone, or stands from the start -/
def SqF (K : PySem.W.Frag) (H : Hp) (m : MM) (a : Addr) (xs : List V) : Prop :=
  (Rd H a (.lst xs) ∧ m a = none) ∨
    ∃ (o : Obj) (its : Array Value) (n : Nat), K.lookup a = some o ∧ o.cls = .type "list" ∧ o.dict = none ∧ o.data = .seq its n ∧ its.size ≤ sizeLine ∧ Vals xs its.toList
theorem SqF.sq {K : PySem.W.Frag} {H : Hp} {m : MM} {a : Addr} {xs : List V} (h : SqF K H m a xs) : SqL K H a xs := h.elim (fun h => .inl h.1) .inr
theorem SqM.sq {K : PySem.W.Frag} {H : Hp} {m : MM} {a : Addr} {xs : List V} (h : SqM H m a xs) : SqL K H a xs := .inl (.inl h.1)
theorem SqF.of {K : PySem.W.Frag} {H : Hp} {m : MM} {a : Addr} {xs : List V} (h : H a = some (.lst xs)) (n : m a = none) : SqF K H m a xs := .inl ⟨.inl h, n⟩
mutual
def Rep (K : PySem.W.Frag) (H : Hp) (m : MM) : D → V → Prop
  | .non, v => v = .non
  | .bl b, v => v = .bl b
  | .int i, v => v = .int i
  | .str x, v => v = .str x
  | .ty n, v => v = .ty n
  | .adr a, v => v = .ref a
  | .tup ds, v => ∃ a vs, v = .ref a ∧ SqT K H a vs ∧ Reps K H m ds vs
  | .lst ds, v => ∃ a vs, v = .ref a ∧ SqM H m a vs ∧ Reps K H m ds vs
  | .kl ds, v => ∃ a vs, v = .ref a ∧ SqF K H m a vs ∧ Reps K H m ds vs
def Reps (K : PySem.W.Frag) (H : Hp) (m : MM) : List D → List V → Prop
  | [], vs => vs = []
  | d :: ds, vs => ∃ v r, vs = v :: r ∧ Rep K H m d v ∧ Reps K H m ds r
end
def RepKV {κ : Type} (K : PySem.W.Frag) (H : Hp) (m : MM) : List (κ × D) → List (κ × V) → Prop
  | [], us => us = []
  | (k, d) :: r, us => ∃ v s, us = (k, v) :: s ∧ Rep K H m d v ∧ RepKV K H m r s
def RepO (K : PySem.W.Frag) (H : Hp) (m : MM) (a : Addr) : MO → Prop
  | .lst ds => ∃ vs, H a = some (.lst vs) ∧ Reps K H m ds vs
  | .dK kvs => ∃ us, H a = some (.dK us) ∧ RepKV K H m kvs us
  | .dT kvs => ∃ us, H a = some (.dT us) ∧ RepKV K H m kvs us
  | .raw o => H a = some o ∧ (∀ xs, o ≠ .tup xs) ∧ (∀ ob w, o ≠ .frz ob w) ∧ ∀ b, o ≠ .own b
  | .ins C fs => ∃ dx us, H a = some (.ins C dx us) ∧ H dx = some (.own a) ∧ RepKV K H m fs us
/-- what is known stands so -/
def Rel (K : PySem.W.Frag) (H : Hp) (m : MM) : Prop := ∀ a o, m a = some o → RepO K H m a o
/-- what may not change has not changed -/
def Ext (H : Hp) (m : MM) (H' : Hp) (m' : MM) : Prop := ∀ a o, H a = some o → m a = none → H' a = some o ∧ m' a = none
theorem Ext.refl (H : Hp) (m : MM) : Ext H m H m := fun _ _ h n => ⟨h, n⟩
theorem Ext.trans {H H1 H2 : Hp} {m m1 m2 : MM} (e : Ext H m H1 m1) (f : Ext H1 m1 H2 m2) : Ext H m H2 m2 := fun a o h n =>
  f a o (e a o h n).1 (e a o h n).2
section
variable {K : PySem.W.Frag} {H H' : Hp} {m m' : MM}
theorem RepO.there {a : Addr} {o : MO} (h : RepO K H m a o) : ∃ u, H a = some u ∧ (∀ xs, u ≠ .tup xs) ∧ (∀ ob w, u ≠ .frz ob w) := by
  cases o with
  | lst ds => obtain ⟨vs, e, _⟩ := h; exact ⟨_, e, (fun _ z => nomatch z), (fun _ _ z => nomatch z)⟩
  | dK kvs => obtain ⟨vs, e, _⟩ := h; exact ⟨_, e, (fun _ z => nomatch z), (fun _ _ z => nomatch z)⟩
  | dT kvs => obtain ⟨vs, e, _⟩ := h; exact ⟨_, e, (fun _ z => nomatch z), (fun _ _ z => nomatch z)⟩
  | raw o => exact ⟨_, h.1, h.2.1, h.2.2.1⟩
  | ins C fs => obtain ⟨dx, vs, e, _⟩ := h; exact ⟨_, e, (fun _ z => nomatch z), (fun _ _ z => nomatch z)⟩
theorem Rel.tup_none (r : Rel K H m) {a : Addr} {xs : List V} (h : H a = some (.tup xs)) : m a = none := by
  cases e : m a with
  | none => rfl
  | some o =>
    obtain ⟨u, e1, e2, _⟩ := (r a o e).there
    rw [h] at e1
    exact absurd (Option.some.inj e1).symm (e2 xs)
theorem Rel.frz_none (r : Rel K H m) {a : Addr} {ob : Obj} {w : HO} (h : H a = some (.frz ob w)) : m a = none := by
  cases e : m a with
  | none => rfl
  | some o =>
    obtain ⟨u, e1, _, e2⟩ := (r a o e).there
    rw [h] at e1
    exact absurd (Option.some.inj e1).symm (e2 ob w)
theorem Rel.free (r : Rel K H m) {a : Addr} (h : H a = none) : m a = none := by
  cases e : m a with
  | none => rfl
  | some o =>
    obtain ⟨u, e1, _⟩ := (r a o e).there
    rw [h] at e1; cases e1
theorem Ext.sqM (e : Ext H m H' m') {a : Addr} {xs : List V} (h : SqM H m a xs) : SqM H' m' a xs := e a _ h.1 h.2
theorem Ext.sqF (e : Ext H m H' m') {a : Addr} {xs : List V} (h : SqF K H m a xs) : SqF K H' m' a xs := by
  rcases h with ⟨h | ⟨o, h⟩, n⟩ | h
  · exact .inl ⟨.inl (e a _ h n).1, (e a _ h n).2⟩
  · exact .inl ⟨.inr ⟨o, (e a _ h n).1⟩, (e a _ h n).2⟩
  · exact .inr h
theorem Ext.sqT (r : Rel K H m) (e : Ext H m H' m') {a : Addr} {xs : List V} (h : SqT K H a xs) : SqT K H' a xs := by
  rcases h with (h | ⟨o, h⟩) | h
  · exact .inl (.inl (e a _ h (r.tup_none h)).1)
  · exact .inl (.inr ⟨o, (e a _ h (r.frz_none h)).1⟩)
  · exact .inr h
mutual
theorem Rep.ext (r : Rel K H m) (e : Ext H m H' m') : ∀ (d : D) (v : V), Rep K H m d v → Rep K H' m' d v
  | .non, v, h => by unfold Rep at h ⊢; exact h
  | .bl b, v, h => by unfold Rep at h ⊢; exact h
  | .int i, v, h => by unfold Rep at h ⊢; exact h
  | .str x, v, h => by unfold Rep at h ⊢; exact h
  | .ty n, v, h => by unfold Rep at h ⊢; exact h
  | .adr a, v, h => by unfold Rep at h ⊢; exact h
  | .tup ds, v, h => by
    unfold Rep at h ⊢
    obtain ⟨a, vs, h1, h2, h3⟩ := h
    exact ⟨a, vs, h1, e.sqT r h2, Reps.ext r e ds vs h3⟩
  | .lst ds, v, h => by
    unfold Rep at h ⊢
    obtain ⟨a, vs, h1, h2, h4⟩ := h
    exact ⟨a, vs, h1, e.sqM h2, Reps.ext r e ds vs h4⟩
  | .kl ds, v, h => by
    unfold Rep at h ⊢
    obtain ⟨a, vs, h1, h2, h4⟩ := h
    exact ⟨a, vs, h1, e.sqF h2, Reps.ext r e ds vs h4⟩
theorem Reps.ext (r : Rel K H m) (e : Ext H m H' m') : ∀ (ds : List D) (vs : List V), Reps K H m ds vs → Reps K H' m' ds vs
  | [], vs, h => by unfold Reps at h ⊢; exact h
  | d :: ds, vs, h => by
    unfold Reps at h ⊢
    obtain ⟨v, s, h1, h2, h3⟩ := h
    exact ⟨v, s, h1, Rep.ext r e d v h2, Reps.ext r e ds s h3⟩
end
theorem RepKV.ext {κ : Type} (r : Rel K H m) (e : Ext H m H' m') : ∀ (ds : List (κ × D)) (vs : List (κ × V)), RepKV K H m ds vs → RepKV K H' m' ds vs
  | [], vs, h => by unfold RepKV at h ⊢; exact h
  | (k, d) :: ds, vs, h => by
    unfold RepKV at h ⊢
    obtain ⟨v, s, h1, h2, h3⟩ := h
    exact ⟨v, s, h1, Rep.ext r e d v h2, RepKV.ext r e ds s h3⟩
theorem Reps.length : ∀ (ds : List D) (vs : List V), Reps K H m ds vs → vs.length = ds.length
  | [], vs, h => by unfold Reps at h; rw [h]; rfl
  | d :: ds, vs, h => by
    unfold Reps at h
    obtain ⟨v, s, h1, h2, h3⟩ := h
    rw [h1]; simp [Reps.length ds s h3]
theorem Reps.get : ∀ (ds : List D) (vs : List V) (i : Nat) (d : D), Reps K H m ds vs → ds[i]? = some d → ∃ v, vs[i]? = some v ∧ Rep K H m d v
  | [], vs, i, d, h, e => by simp at e
  | d0 :: ds, vs, i, d, h, e => by
    unfold Reps at h
    obtain ⟨v, s, rfl, h2, h3⟩ := h
    cases i with
    | zero => simp at e; subst e; exact ⟨v, rfl, h2⟩
    | succ i => simpa using Reps.get ds s i d h3 (by simpa using e)
theorem Reps.append : ∀ (ds es : List D) (vs us : List V), Reps K H m ds vs → Reps K H m es us → Reps K H m (ds ++ es) (vs ++ us)
  | [], es, vs, us, h, k => by unfold Reps at h; subst h; exact k
  | d :: ds, es, vs, us, h, k => by
    unfold Reps at h
    obtain ⟨v, s, rfl, h2, h3⟩ := h
    show Reps K H m (d :: (ds ++ es)) (v :: (s ++ us))
    unfold Reps
    exact ⟨v, _, rfl, h2, Reps.append ds es s us h3 k⟩
theorem Reps.nil : Reps K H m [] [] := by unfold Reps; rfl
theorem Reps.cons {d : D} {ds : List D} {v : V} {vs : List V} (h : Rep K H m d v) (k : Reps K H m ds vs) : Reps K H m (d :: ds) (v :: vs) := by
  unfold Reps; exact ⟨v, vs, rfl, h, k⟩
theorem Reps.get' : ∀ (ds : List D) (vs : List V) (i : Nat) (v : V), Reps K H m ds vs → vs[i]? = some v → ∃ d, ds[i]? = some d ∧ Rep K H m d v
  | [], vs, i, v, h, e => by unfold Reps at h; subst h; simp at e
  | d0 :: ds, vs, i, v, h, e => by
    unfold Reps at h
    obtain ⟨v0, s, rfl, h2, h3⟩ := h
    cases i with
    | zero => simp at e; subst e; exact ⟨d0, rfl, h2⟩
    | succ i => simpa using Reps.get' ds s i v h3 (by simpa using e)
theorem RepO.ext (r : Rel K H m) (e : Ext H m H' m') {a : Addr} {o : MO} (h : RepO K H m a o) (ha : H' a = H a) (hd : ∀ dx, H dx = some (.own a) → H' dx = some (.own a)) : RepO K H' m' a o := by
  cases o with
  | lst ds => obtain ⟨vs, e1, e2⟩ := h; exact ⟨vs, ha.trans e1, Reps.ext r e _ _ e2⟩
  | dK kvs => obtain ⟨vs, e1, e2⟩ := h; exact ⟨vs, ha.trans e1, RepKV.ext r e _ _ e2⟩
  | dT kvs => obtain ⟨vs, e1, e2⟩ := h; exact ⟨vs, ha.trans e1, RepKV.ext r e _ _ e2⟩
  | raw o => exact ⟨ha.trans h.1, h.2⟩
  | ins C fs => obtain ⟨dx, vs, e1, e2, e3⟩ := h; exact ⟨dx, vs, ha.trans e1, hd _ e2, RepKV.ext r e _ _ e3⟩
theorem Rel.own_none (r : Rel K H m) {a x : Addr} (h : H a = some (.own x)) : m a = none := by
  cases e : m a with
  | none => rfl
  | some o =>
    have q := r a o e
    cases o with
    | lst ds => obtain ⟨vs, e1, _⟩ := q; rw [h] at e1; cases e1
    | dK kvs => obtain ⟨vs, e1, _⟩ := q; rw [h] at e1; cases e1
    | dT kvs => obtain ⟨vs, e1, _⟩ := q; rw [h] at e1; cases e1
    | raw o => exact absurd (Option.some.inj (q.1.symm.trans h)) (q.2.2.2 x)
    | ins C fs => obtain ⟨dx, vs, e1, _⟩ := q; rw [h] at e1; cases e1
/-- a new object is laid, not to be changed -/
theorem Ext.laid (p : Addr) (o : HO) (hp : H p = none) : Ext H m (upd H p o) m := fun a u h n => by
  have ne : a ≠ p := fun q => by rw [q, hp] at h; cases h
  exact ⟨by rw [upd_ne ne]; exact h, n⟩
theorem Rel.laid (r : Rel K H m) (p : Addr) (o : HO) (hp : H p = none) : Rel K (upd H p o) m := fun a u e => by
  have hm := r.free hp
  have ne : a ≠ p := fun q => by rw [q, hm] at e; cases e
  refine (r a u e).ext r (Ext.laid p o hp) (upd_ne ne) fun dx h => ?_
  have nd : dx ≠ p := fun q => by rw [q, hp] at h; cases h
  rw [upd_ne nd]; exact h
/-- a known object is written -/
theorem Ext.write {a : Addr} {o o' : MO} {u : HO} (h : m a = some o) : Ext H m (upd H a u) (mset m a o') := fun b x e n => by
  have ne : b ≠ a := fun q => by rw [q, h] at n; cases n
  exact ⟨by rw [upd_ne ne]; exact e, by rw [mset_ne ne]; exact n⟩
theorem Rel.write (r : Rel K H m) {a : Addr} {o o' : MO} {u : HO} (h : m a = some o) (hn : RepO K (upd H a u) (mset m a o') a o') : Rel K (upd H a u) (mset m a o') := fun b x e => by
  by_cases hb : b = a
  · subst hb; rw [mset_same] at e; cases e; exact hn
  · rw [mset_ne hb] at e
    refine (r b x e).ext r (Ext.write h) (upd_ne hb) fun dx hd => ?_
    have nd : dx ≠ a := fun q => by
      have := r.own_none hd
      rw [q, h] at this; cases this
    rw [upd_ne nd]; exact hd
/-- a new object is laid, to be changed -/
theorem Ext.made {a : Addr} {o' : MO} {u : HO} (h : H a = none) : Ext H m (upd H a u) (mset m a o') := fun b x e n => by
  have ne : b ≠ a := fun q => by rw [q, h] at e; cases e
  exact ⟨by rw [upd_ne ne]; exact e, by rw [mset_ne ne]; exact n⟩
theorem Rel.made (r : Rel K H m) {a : Addr} {o' : MO} {u : HO} (h : H a = none) (hn : RepO K (upd H a u) (mset m a o') a o') : Rel K (upd H a u) (mset m a o') := fun b x e => by
  by_cases hb : b = a
  · subst hb; rw [mset_same] at e; cases e; exact hn
  · rw [mset_ne hb] at e
    refine (r b x e).ext r (Ext.made h) (upd_ne hb) fun dx hd => ?_
    have nd : dx ≠ a := fun q => by rw [q, h] at hd; cases hd
    rw [upd_ne nd]; exact hd
/-- forgetting -/
theorem Ext.less (l : Less m' m) : Ext H m H m' := fun a o h n => ⟨h, by
  cases e : m' a with
  | none => rfl
  | some x => rw [l a x e] at n; cases n⟩
theorem Rel.less (r : Rel K H m) (l : Less m' m) : Rel K H m' := fun a o e =>
  (r a o (l a o e)).ext r (Ext.less l) rfl fun _ h => h
/-- a list that is known is from now on read alone -/
theorem Rep.freeze (r : Rel K H m) {a : Addr} {ds : List D} (h : m a = some (.lst ds)) : Rep K H (mdel m a) (.lst ds) (.ref a) := by
  obtain ⟨vs, e1, e2⟩ := r a _ h
  unfold Rep
  exact ⟨a, vs, rfl, ⟨e1, mdel_same⟩, Reps.ext r (Ext.less (Less.del m a)) _ _ e2⟩
end
/-! ### slots -/
abbrev Env := List (Option D)
def EnvR (K : PySem.W.Frag) (H : Hp) (m : MM) (ρ : Env) (σ : L2.St) : Prop := ρ.length = σ.length ∧ ∀ (i : Nat) (d : D), ρ[i]? = some (some d) → ∃ v, σ[i]? = some (some v) ∧ Rep K H m d v
section
variable {K : PySem.W.Frag} {H H' : Hp} {m m' : MM} {ρ : Env} {σ : L2.St}
theorem EnvR.ext (r : Rel K H m) (e : Ext H m H' m') (h : EnvR K H m ρ σ) : EnvR K H' m' ρ σ :=
  ⟨h.1, fun i d q => let ⟨v, a, b⟩ := h.2 i d q; ⟨v, a, b.ext r e d v⟩⟩
theorem EnvR.set (h : EnvR K H m ρ σ) {d : D} {v : V} (i : Nat) (hd : Rep K H m d v) : EnvR K H m (ρ.set i (some d)) (σ.set i (some v)) := by
  refine ⟨by simp [h.1], fun j e q => ?_⟩
  by_cases hj : i = j
  · subst hj
    by_cases hl : i < ρ.length
    · rw [List.getElem?_set_self hl] at q
      cases q
      exact ⟨v, by rw [List.getElem?_set_self (by rw [← h.1]; exact hl)], hd⟩
    · rw [List.getElem?_eq_none (by simpa using hl)] at q; cases q
  · rw [List.getElem?_set_ne hj] at q
    obtain ⟨u, a, b⟩ := h.2 j e q
    exact ⟨u, by rw [List.getElem?_set_ne hj]; exact a, b⟩
end
end Y
/-! Y2: readings over data, lifted; the plain rules. -/
namespace Y
open PySem PySem.Spec PyProof.Rows L2
abbrev XC := Addr → List (Str × D) → MM → Prop
abbrev DE := Env → MM → (D → MM → Prop) → XC → Prop
abbrev DT := Env → MM → (Bool → MM → Prop) → XC → Prop
abbrev DA := Env → MM → (List D → MM → Prop) → XC → Prop
structure DEnds where
  nx : Env → MM → Prop
  rt : D → MM → Prop
  bk : Env → MM → Prop := fun _ _ => False
  ct : Env → MM → Prop := fun _ _ => False
  ex : Addr → List (Str × D) → Env → MM → Prop := fun _ _ _ _ => False
abbrev DSt := DEnds → Env → MM → Prop
/-- what an exception bears -/
def RepX (K : PySem.W.Frag) (H : Hp) (m : MM) (d : Option Addr) (fs : List (Str × D)) : Prop := fs = [] ∨ ∃ dx us, d = some dx ∧ H dx = some (.xd us) ∧ m dx = none ∧ RepKV K H m fs us
/-- what follows an exception -/
abbrev AftX (K : PySem.W.Frag) (W : WX) (σ : L2.St) (H : Hp) (m : MM) (Px : XC) : Prop :=
  ∀ C fs m' d H', Px C fs m' → Ext H m H' m' → Rel K H' m' → RepX K H' m' d fs → W (.ref C) d σ H'
def liftE (K : PySem.W.Frag) (W : WX) (t : DE) : TE := fun σ H Q => ∃ ρ m P Px, EnvR K H m ρ σ ∧ Rel K H m ∧ t ρ m P Px ∧
  (∀ d m' v H', P d m' → Ext H m H' m' → Rel K H' m' → Rep K H' m' d v → Q v H') ∧ AftX K W σ H m Px
def liftT (K : PySem.W.Frag) (W : WX) (t : DT) : TT := fun σ H Q => ∃ ρ m P Px, EnvR K H m ρ σ ∧ Rel K H m ∧ t ρ m P Px ∧
  (∀ b m' H', P b m' → Ext H m H' m' → Rel K H' m' → Q b H') ∧ AftX K W σ H m Px
def liftA (K : PySem.W.Frag) (W : WX) (t : DA) : TA := fun σ H Q => ∃ ρ m P Px, EnvR K H m ρ σ ∧ Rel K H m ∧ t ρ m P Px ∧
  (∀ ds m' vs H', P ds m' → Ext H m H' m' → Rel K H' m' → Reps K H' m' ds vs → Q vs H') ∧ AftX K W σ H m Px
def liftS (K : PySem.W.Frag) (W : WX) (t : DSt) : TS := fun D σ H => ∃ ρ m P, EnvR K H m ρ σ ∧ Rel K H m ∧ t P ρ m ∧
  (∀ ρ' m' σ' H', P.nx ρ' m' → Ext H m H' m' → Rel K H' m' → EnvR K H' m' ρ' σ' → D.nx σ' H') ∧
  (∀ d m' v H', P.rt d m' → Ext H m H' m' → Rel K H' m' → Rep K H' m' d v → D.rt v H') ∧
  (∀ ρ' m' σ' H', P.bk ρ' m' → Ext H m H' m' → Rel K H' m' → EnvR K H' m' ρ' σ' → D.bk σ' H') ∧
  (∀ ρ' m' σ' H', P.ct ρ' m' → Ext H m H' m' → Rel K H' m' → EnvR K H' m' ρ' σ' → D.ct σ' H') ∧
  (∀ C fs ρ' m' d σ' H', P.ex C fs ρ' m' → Ext H m H' m' → Rel K H' m' → EnvR K H' m' ρ' σ' → RepX K H' m' d fs → W (.ref C) d σ' H')
abbrev PEd (X : Cx) (W : WX) (e : Expr) (t : DE) : Prop := PE X e (liftE X.K W t)
abbrev PTd (X : Cx) (W : WX) (e : Expr) (t : DT) : Prop := PT X e (liftT X.K W t)
abbrev PWd (X : Cx) (W : WX) (e : Expr) (t : DT) : Prop := PW X e (liftT X.K W t)
abbrev PAd (X : Cx) (W : WX) (es : List Expr) (t : DA) : Prop := PA X es (liftA X.K W t)
abbrev PSd (X : Cx) (W : WX) (s : Stmt) (t : DSt) : Prop := PS X s (liftS X.K W t)
abbrev PSsd (X : Cx) (W : WX) (s : List Stmt) (t : DSt) : Prop := PSs X s (liftS X.K W t)
theorem _root_.L2.PE.to {X : Cx} {e : Expr} {t u : TE} (h : PE X e t) (i : ∀ σ H Q, u σ H Q → t σ H Q) : PE X e u := ⟨fun pins s σ H Q I q => h.run pins s σ H Q I (i σ H Q q)⟩
theorem _root_.L2.PT.to {X : Cx} {e : Expr} {t u : TT} (h : PT X e t) (i : ∀ σ H Q, u σ H Q → t σ H Q) : PT X e u := ⟨fun pins s σ H Q I q => h.run pins s σ H Q I (i σ H Q q)⟩
theorem _root_.L2.PW.to {X : Cx} {e : Expr} {t u : TT} (h : PW X e t) (i : ∀ σ H Q, u σ H Q → t σ H Q) : PW X e u := ⟨fun w pins s σ H Q I q => h.run w pins s σ H Q I (i σ H Q q)⟩
theorem _root_.L2.PA.to {X : Cx} {e : List Expr} {t u : TA} (h : PA X e t) (i : ∀ σ H Q, u σ H Q → t σ H Q) : PA X e u := ⟨fun p pins s σ H Q I q => h.run p pins s σ H Q I (i σ H Q q)⟩
theorem _root_.L2.PS.to {X : Cx} {e : Stmt} {t u : TS} (h : PS X e t) (i : ∀ D σ H, u D σ H → t D σ H) : PS X e u := ⟨fun pins s σ H D I q => h.run pins s σ H D I (i D σ H q)⟩
theorem _root_.L2.PSs.to {X : Cx} {e : List Stmt} {t u : TS} (h : PSs X e t) (i : ∀ D σ H, u D σ H → t D σ H) : PSs X e u := ⟨fun pins s σ H D I q => h.run pins s σ H D I (i D σ H q)⟩
section
variable {X : Cx} {W : WX} {a b c : Expr} {ta tb tc : DE} {pos : Pos}
/-! ### names, constants -/
def dVar (i : Nat) : DE := fun ρ m Q _ => match ρ[i]? with
  | some (some d) => Q d m
  | _ => False
theorem de_var (i : Nat) {x : Str} (hN : X.N[i]? = some x := by rfl) (hv : Vis X.env.scope x := by first | exact Or.inl rfl | exact Or.inr (Or.inl rfl) | exact Or.inr (Or.inr rfl)) (hd : (x == ("__debug__" : Str)) = false := by decide)
    (hcd : (x == ("__classdict__" : Str)) = false := by decide) : PEd X W (.Name x pos) (dVar i) := by
  refine (pe_var hN hv hd hcd).to fun σ H Q ⟨ρ, m, P, Px, he, hr, ht, hP, hX⟩ => ?_
  unfold dVar at ht
  split at ht
  · rename_i d q
    obtain ⟨v, h1, h2⟩ := he.2 i d q
    exact ⟨v, h1, hP d m v H ht (Ext.refl _ _) hr h2⟩
  · exact ht.elim
def dC (d : D) : DE := fun _ m Q _ => Q d m
theorem de_const {e : Expr} {v : V} {d : D} (h : PE X e (tC v)) (hd : ∀ H m, Rep X.K H m d v) : PEd X W e (dC d) :=
  h.to fun σ H Q ⟨ρ, m, P, Px, he, hr, ht, hP, hX⟩ => hP d m v H ht (Ext.refl _ _) hr (hd H m)
theorem de_int {i j} : PEd X W (.Constant (.int i) j pos) (dC (.int i)) := de_const pe_int fun _ _ => by unfold Rep; rfl
theorem de_bl {b j} : PEd X W (.Constant (.bool b) j pos) (dC (.bl b)) := de_const pe_bl fun _ _ => by unfold Rep; rfl
theorem de_non {j} : PEd X W (.Constant .none j pos) (dC .non) := de_const pe_non fun _ _ => by unfold Rep; rfl
theorem de_str {x j} : PEd X W (.Constant (.str x) j pos) (dC (.str x)) := de_const pe_str fun _ _ => by unfold Rep; rfl
/-- a module's name -/
theorem de_glob {x : Str} {u : Value} {v : V} {d : D} (hg : Gl X x) (hm : X.mg x = some u) (r : RelV v u) (hd : ∀ H m, Rep X.K H m d v) (hdb : (x == ("__debug__" : Str)) = false := by decide) : PEd X W (.Name x pos) (dC d) :=
  de_const (pe_glob hg hm r hdb) hd
/-- a built-in's name as a value -/
theorem de_blt {x : Str} {u : Value} {v : V} {d : D} (hg : Gl X x) (hm : X.mg x = none) (hv : bootBuiltins x = some u) (r : RelV v u) (hd : ∀ H m, Rep X.K H m d v) (hn : x ≠ "__name__" := by decide) (hdb : (x == ("__debug__" : Str)) = false := by decide) : PEd X W (.Name x pos) (dC d) :=
  de_const (pe_bltn hg hm hv r hn hdb) hd
/-! ### two values -/
abbrev DR2 := D → D → MM → (D → MM → Prop) → Prop
abbrev DR1 := D → MM → (D → MM → Prop) → Prop
def liftR2 (K : PySem.W.Frag) (g : DR2) : R2 := fun x y H Q => ∃ dx dy m P, Rep K H m dx x ∧ Rep K H m dy y ∧ Rel K H m ∧ g dx dy m P ∧
  ∀ d m' v H', P d m' → Ext H m H' m' → Rel K H' m' → Rep K H' m' d v → Q v H'
def liftR1 (K : PySem.W.Frag) (g : DR1) : V → Hp → VK → Prop := fun x H Q => ∃ dx m P, Rep K H m dx x ∧ Rel K H m ∧ g dx m P ∧
  ∀ d m' v H', P d m' → Ext H m H' m' → Rel K H' m' → Rep K H' m' d v → Q v H'
def dOp (g : DR2) (ta tb : DE) : DE := fun ρ m Q X => ta ρ m (fun x m1 => tb ρ m1 (fun y m2 => g x y m2 Q) X) X
def dUn (g : DR1) (ta : DE) : DE := fun ρ m Q X => ta ρ m (fun x m1 => g x m1 Q) X
abbrev OpRd (X : Cx) (f : Value → Value → Sem Value) (g : DR2) : Prop := OpR X f (liftR2 X.K g)
abbrev UnRd (X : Cx) (f : Value → Sem Value) (g : DR1) : Prop := UnR X f (liftR1 X.K g)
theorem _root_.L2.OpR.to {f : Value → Value → Sem Value} {r r' : R2} (h : OpR X f r) (i : ∀ x y H Q, r' x y H Q → r x y H Q) : OpR X f r' :=
  fun pins s σ H x y v u Q I rx ry q => h pins s σ H x y v u Q I rx ry (i x y H Q q)
theorem _root_.L2.UnR.to {f : Value → Sem Value} {r r' : V → Hp → VK → Prop} (h : UnR X f r) (i : ∀ x H Q, r' x H Q → r x H Q) : UnR X f r' :=
  fun pins s σ H x v Q I rx q => h pins s σ H x v Q I rx (i x H Q q)
theorem lift_op {g : DR2} {σ : L2.St} {H : Hp} {Q : VK} (h : liftE X.K W (dOp g ta tb) σ H Q) : tOp (liftR2 X.K g) (liftE X.K W ta) (liftE X.K W tb) σ H Q := by
  obtain ⟨ρ, m, P, Px, he, hr, ht, hP, hX⟩ := h
  exact ⟨ρ, m, _, Px, he, hr, ht, fun dx m1 x H1 q e1 r1 x1 => ⟨ρ, m1, _, Px, he.ext hr e1, r1, q, fun dy m2 y H2 q2 e2 r2 y2 =>
    ⟨dx, dy, m2, P, x1.ext r1 e2 _ _, y2, r2, q2, fun d m' v H' p e r w => hP d m' v H' p ((e1.trans e2).trans e) r w⟩,
    fun C fs m' d H' p e r w => hX C fs m' d H' p (e1.trans e) r w⟩, hX⟩
theorem lift_un {g : DR1} {σ : L2.St} {H : Hp} {Q : VK} (h : liftE X.K W (dUn g ta) σ H Q) : tUn (liftR1 X.K g) (liftE X.K W ta) σ H Q := by
  obtain ⟨ρ, m, P, Px, he, hr, ht, hP, hX⟩ := h
  exact ⟨ρ, m, _, Px, he, hr, ht, fun dx m1 x H1 q e1 r1 x1 => ⟨dx, m1, P, x1, r1, q, fun d m' v H' p e r w => hP d m' v H' p (e1.trans e) r w⟩, hX⟩
theorem de_op {op : Operator} {g : DR2} (ho : OpRd X (binaryOp op) g) (ha : PEd X W a ta) (hb : PEd X W b tb) : PEd X W (.BinOp a op b pos) (dOp g ta tb) :=
  (pe_op ho ha hb).to fun _ _ _ => lift_op
theorem de_un {op : UnaryOp} {g : DR1} (ho : UnRd X (unaryOp op) g) (ha : PEd X W a ta) : PEd X W (.UnaryOp op a pos) (dUn g ta) :=
  (pe_un ho ha).to fun _ _ _ => lift_un
theorem de_cmp {op : CmpOp} {g : DR2} (ho : OpRd X (compareOp op) g) (ha : PEd X W a ta) (hb : PEd X W b tb) (hm : behindInMarks op b = false := by first | exact nobehind _ (by decide) (by decide) | rfl) : PEd X W (.Compare a [op] [b] pos) (dOp g ta tb) :=
  (pe_cmpR ho ha hb hm).to fun _ _ _ => lift_op
/-! ### tests -/
def dB (t : DE) : DT := fun ρ m Q X => t ρ m (fun d m1 => match d with
  | .bl b => Q b m1
  | _ => False) X
theorem dt_val {e : Expr} {t : DE} (h : PEd X W e t) (he : ∀ whole, isTrue e X.env whole = (do let v ← whole; standAt e.pos; holding [v] (truthy v)) := by intro _; rfl) : PTd X W e (dB t) :=
  (pt_val h he).to fun σ H Q ⟨ρ, m, P, Px, hv, hr, ht, hP, hX⟩ => ⟨ρ, m, _, Px, hv, hr, ht, fun d m1 v H1 q e1 r1 x1 => by
    cases d with
    | bl b => unfold Rep at x1; exact ⟨b, x1, hP b m1 H1 q e1 r1⟩
    | _ => exact q.elim, hX⟩
theorem dt_cmp {op : CmpOp} {g : DR2} (ho : OpRd X (compareOp op) g) (ha : PEd X W a ta) (hb : PEd X W b tb) (hm : behindInMarks op b = false := by first | exact nobehind _ (by decide) (by decide) | rfl) : PTd X W (.Compare a [op] [b] pos) (dB (dOp g ta tb)) :=
  (pt_cmpR ho ha hb hm).to fun σ H Q ⟨ρ, m, P, Px, hv, hr, ht, hP, hX⟩ => lift_op (Q := fun x H1 => ∃ k, x = .bl k ∧ Q k H1) ⟨ρ, m, _, Px, hv, hr, ht, fun d m1 v H1 q e1 r1 x1 => by
    cases d with
    | bl b => unfold Rep at x1; exact ⟨b, x1, hP b m1 H1 q e1 r1⟩
    | _ => exact q.elim, hX⟩
def dNotT (t : DT) : DT := fun ρ m Q X => t ρ m (fun b m1 => Q (!b) m1) X
theorem dt_not {e : Expr} {t : DT} (h : PTd X W e t) : PTd X W (.UnaryOp .Not e pos) (dNotT t) :=
  (pt_not h).to fun σ H Q ⟨ρ, m, P, Px, hv, hr, ht, hP, hX⟩ => ⟨ρ, m, _, Px, hv, hr, ht, fun b m1 H1 q e1 r1 => hP (!b) m1 H1 q e1 r1, hX⟩
def dAndT (t u : DT) : DT := fun ρ m Q X => t ρ m (fun b m1 => if b = true then u ρ m1 Q X else Q false m1) X
def dOrT (t u : DT) : DT := fun ρ m Q X => t ρ m (fun b m1 => if b = true then Q true m1 else u ρ m1 Q X) X
theorem dw_and1 {e : Expr} {t : DT} (h : PTd X W e t) : PWd X W (.BoolOp .And [e] pos) t := pw_and1 h
theorem dw_or1 {e : Expr} {t : DT} (h : PTd X W e t) : PWd X W (.BoolOp .Or [e] pos) t := pw_or1 h
theorem lift_and {t u : DT} {σ : L2.St} {H : Hp} {Q : Bool → Hp → Prop} (h : liftT X.K W (dAndT t u) σ H Q) : tAnd (liftT X.K W t) (liftT X.K W u) σ H Q := by
  obtain ⟨ρ, m, P, Px, he, hr, ht, hP, hX⟩ := h
  refine ⟨ρ, m, _, Px, he, hr, ht, fun b m1 H1 q e1 r1 => ?_, hX⟩
  cases b with
  | true => rw [if_pos rfl] at q ⊢; exact ⟨ρ, m1, P, Px, he.ext hr e1, r1, q, fun b m' H' p e r => hP b m' H' p (e1.trans e) r, fun C fs m' d H' p e r w => hX C fs m' d H' p (e1.trans e) r w⟩
  | false => rw [if_neg Bool.false_ne_true] at q ⊢; exact hP false m1 H1 q e1 r1
theorem lift_or {t u : DT} {σ : L2.St} {H : Hp} {Q : Bool → Hp → Prop} (h : liftT X.K W (dOrT t u) σ H Q) : tOr (liftT X.K W t) (liftT X.K W u) σ H Q := by
  obtain ⟨ρ, m, P, Px, he, hr, ht, hP, hX⟩ := h
  refine ⟨ρ, m, _, Px, he, hr, ht, fun b m1 H1 q e1 r1 => ?_, hX⟩
  cases b with
  | false => rw [if_neg Bool.false_ne_true] at q ⊢; exact ⟨ρ, m1, P, Px, he.ext hr e1, r1, q, fun b m' H' p e r => hP b m' H' p (e1.trans e) r, fun C fs m' d H' p e r w => hX C fs m' d H' p (e1.trans e) r w⟩
  | true => rw [if_pos rfl] at q ⊢; exact hP true m1 H1 q e1 r1
theorem dw_and {e f : Expr} {r : List Expr} {t u : DT} (h : PTd X W e t) (k : PWd X W (.BoolOp .And (f :: r) pos) u) : PWd X W (.BoolOp .And (e :: f :: r) pos) (dAndT t u) := (pw_and h k).to fun _ _ _ => lift_and
theorem dw_or {e f : Expr} {r : List Expr} {t u : DT} (h : PTd X W e t) (k : PWd X W (.BoolOp .Or (f :: r) pos) u) : PWd X W (.BoolOp .Or (e :: f :: r) pos) (dOrT t u) := (pw_or h k).to fun _ _ _ => lift_or
theorem dt_w {e : Expr} {t : DT} (h : PWd X W e t) : PTd X W e t := h.pt
/-- and, or, not as values: all but the last give a bool -/
def dAndV (t u : DE) : DE := fun ρ m Q X => t ρ m (fun d m1 => match d with
  | .bl true => u ρ m1 Q X
  | .bl false => Q (.bl false) m1
  | _ => False) X
def dOrV (t u : DE) : DE := fun ρ m Q X => t ρ m (fun d m1 => match d with
  | .bl true => Q (.bl true) m1
  | .bl false => u ρ m1 Q X
  | _ => False) X
def dNotV (t : DE) : DE := fun ρ m Q X => t ρ m (fun d m1 => match d with
  | .bl b => Q (.bl (!b)) m1
  | _ => False) X
theorem de_one {op} {e : Expr} {t : DE} (h : PEd X W e t) : PEd X W (.BoolOp op [e] pos) t := pe_one h
theorem de_and {e f : Expr} {r : List Expr} {t u : DE} (h : PEd X W e t) (k : PEd X W (.BoolOp .And (f :: r) pos) u) : PEd X W (.BoolOp .And (e :: f :: r) pos) (dAndV t u) :=
  (pe_and h k).to fun σ H Q ⟨ρ, m, P, Px, he, hr, ht, hP, hX⟩ => ⟨ρ, m, _, Px, he, hr, ht, fun d m1 v H1 q e1 r1 x1 => by
    cases d with
    | bl b =>
      unfold Rep at x1
      refine ⟨b, x1, ?_⟩
      cases b with
      | true => rw [if_pos rfl]; exact ⟨ρ, m1, P, Px, he.ext hr e1, r1, q, fun d m' v H' p e r w => hP d m' v H' p (e1.trans e) r w, fun C fs m' d H' p e r w => hX C fs m' d H' p (e1.trans e) r w⟩
      | false => rw [if_neg Bool.false_ne_true]; exact hP (.bl false) m1 _ H1 q e1 r1 (by unfold Rep; rfl)
    | _ => exact q.elim, hX⟩
theorem de_or {e f : Expr} {r : List Expr} {t u : DE} (h : PEd X W e t) (k : PEd X W (.BoolOp .Or (f :: r) pos) u) : PEd X W (.BoolOp .Or (e :: f :: r) pos) (dOrV t u) :=
  (pe_or h k).to fun σ H Q ⟨ρ, m, P, Px, he, hr, ht, hP, hX⟩ => ⟨ρ, m, _, Px, he, hr, ht, fun d m1 v H1 q e1 r1 x1 => by
    cases d with
    | bl b =>
      unfold Rep at x1
      refine ⟨b, x1, ?_⟩
      cases b with
      | false => rw [if_neg Bool.false_ne_true]; exact ⟨ρ, m1, P, Px, he.ext hr e1, r1, q, fun d m' v H' p e r w => hP d m' v H' p (e1.trans e) r w, fun C fs m' d H' p e r w => hX C fs m' d H' p (e1.trans e) r w⟩
      | true => rw [if_pos rfl]; exact hP (.bl true) m1 _ H1 q e1 r1 (by unfold Rep; rfl)
    | _ => exact q.elim, hX⟩
theorem de_not {e : Expr} {t : DE} (h : PEd X W e t) : PEd X W (.UnaryOp .Not e pos) (dNotV t) :=
  (pe_not h).to fun σ H Q ⟨ρ, m, P, Px, he, hr, ht, hP, hX⟩ => ⟨ρ, m, _, Px, he, hr, ht, fun d m1 v H1 q e1 r1 x1 => by
    cases d with
    | bl b => unfold Rep at x1; exact ⟨b, x1, hP (.bl (!b)) m1 _ H1 q e1 r1 (by unfold Rep; rfl)⟩
    | _ => exact q.elim, hX⟩
/-- a if t else b -/
def dIfE (t : DT) (ta tb : DE) : DE := fun ρ m Q X => t ρ m (fun b m1 => if b = true then ta ρ m1 Q X else tb ρ m1 Q X) X
theorem de_if {t : DT} (hc : PTd X W c t) (ha : PEd X W a ta) (hb : PEd X W b tb) : PEd X W (.IfExp c a b pos) (dIfE t ta tb) :=
  (pe_ifExp hc ha hb).to fun σ H Q ⟨ρ, m, P, Px, he, hr, ht, hP, hX⟩ => ⟨ρ, m, _, Px, he, hr, ht, fun b m1 H1 q e1 r1 => by
    cases b with
    | true => rw [if_pos rfl] at q ⊢; exact ⟨ρ, m1, P, Px, he.ext hr e1, r1, q, fun d m' v H' p e r w => hP d m' v H' p (e1.trans e) r w, fun C fs m' d H' p e r w => hX C fs m' d H' p (e1.trans e) r w⟩
    | false => rw [if_neg Bool.false_ne_true] at q ⊢; exact ⟨ρ, m1, P, Px, he.ext hr e1, r1, q, fun d m' v H' p e r w => hP d m' v H' p (e1.trans e) r w, fun C fs m' d H' p e r w => hX C fs m' d H' p (e1.trans e) r w⟩, hX⟩
/-! ### argument lists, displays -/
def dNil : DA := fun _ m Q _ => Q [] m
def dCons (t : DE) (u : DA) : DA := fun ρ m Q X => t ρ m (fun d m1 => u ρ m1 (fun ds m2 => Q (d :: ds) m2) X) X
theorem da_nil : PAd X W [] dNil := pa_nil.to fun σ H Q ⟨ρ, m, P, Px, he, hr, ht, hP, hX⟩ => hP [] m [] H ht (Ext.refl _ _) hr Reps.nil
theorem da_cons {e : Expr} {es : List Expr} {t : DE} {u : DA} (ha : PEd X W e t) (hr : PAd X W es u) (hs : starEach (e :: es) X.env = (false, eval e X.env) :: starEach es X.env := by rfl) : PAd X W (e :: es) (dCons t u) :=
  (pa_cons ha hr hs).to fun σ H Q ⟨ρ, m, P, Px, he, hr, ht, hP, hX⟩ => ⟨ρ, m, _, Px, he, hr, ht, fun d m1 v H1 q e1 r1 x1 =>
    ⟨ρ, m1, _, Px, he.ext hr e1, r1, q, fun ds m2 vs H2 q2 e2 r2 x2 => hP (d :: ds) m2 (v :: vs) H2 q2 (e1.trans e2) r2 (.cons (x1.ext r1 e2 _ _) x2),
      fun C fs m' d H' p e r w => hX C fs m' d H' p (e1.trans e) r w⟩, hX⟩
/-- a new tuple; a new list that is read alone; a new list that may change -/
def dTup (t : DA) : DE := fun ρ m Q X => t ρ m (fun ds m1 => ds.length ≤ sizeLine ∧ Q (.tup ds) m1) X
def dLst (t : DA) : DE := fun ρ m Q X => t ρ m (fun ds m1 => ds.length ≤ sizeLine ∧ Q (.lst ds) m1) X
def dLstM (t : DA) : DE := fun ρ m Q X => t ρ m (fun ds m1 => ds.length ≤ sizeLine ∧ ∀ p, m1 p = none → Q (.adr p) (mset m1 p (.lst ds))) X
theorem new_tup {K : PySem.W.Frag} {H : Hp} {m : MM} {ds : List D} {vs : List V} (r : Rel K H m) (h : Reps K H m ds vs) {p : Addr} (hp : H p = none) : Rep K (upd H p (.tup vs)) m (.tup ds) (.ref p) := by
  unfold Rep
  exact ⟨p, vs, rfl, SqT.of upd_same, Reps.ext r (Ext.laid p _ hp) _ _ h⟩
theorem new_lst {K : PySem.W.Frag} {H : Hp} {m : MM} {ds : List D} {vs : List V} (r : Rel K H m) (h : Reps K H m ds vs) {p : Addr} (hp : H p = none) : Rep K (upd H p (.lst vs)) m (.lst ds) (.ref p) := by
  unfold Rep
  exact ⟨p, vs, rfl, ⟨upd_same, r.free hp⟩, Reps.ext r (Ext.laid p _ hp) _ _ h⟩
theorem new_lstM {K : PySem.W.Frag} {H : Hp} {m : MM} {ds : List D} {vs : List V} (r : Rel K H m) (h : Reps K H m ds vs) {p : Addr} (hp : H p = none) : Rel K (upd H p (.lst vs)) (mset m p (.lst ds)) :=
  r.made hp ⟨vs, upd_same, Reps.ext r (Ext.made hp) _ _ h⟩
theorem de_tup {es : List Expr} {t : DA} {x1} (h : PAd X W es t) : PEd X W (.Tuple es x1 pos) (dTup t) :=
  (pe_tup h).to fun σ H Q ⟨ρ, m, P, Px, he, hr, ht, hP, hX⟩ => ⟨ρ, m, _, Px, he, hr, ht, fun ds m1 vs H1 q e1 r1 x1 =>
    ⟨by rw [Reps.length _ _ x1]; exact q.1, fun p hp => hP (.tup ds) m1 _ _ q.2 (e1.trans (Ext.laid p _ hp)) (r1.laid p _ hp) (new_tup r1 x1 hp)⟩, hX⟩
theorem de_lst {es : List Expr} {t : DA} (h : PAd X W es t) : PEd X W (.List es pos) (dLst t) :=
  (pe_lst h).to fun σ H Q ⟨ρ, m, P, Px, he, hr, ht, hP, hX⟩ => ⟨ρ, m, _, Px, he, hr, ht, fun ds m1 vs H1 q e1 r1 x1 =>
    ⟨by rw [Reps.length _ _ x1]; exact q.1, fun p hp => hP (.lst ds) m1 _ _ q.2 (e1.trans (Ext.laid p _ hp)) (r1.laid p _ hp) (new_lst r1 x1 hp)⟩, hX⟩
theorem de_lstM {es : List Expr} {t : DA} (h : PAd X W es t) : PEd X W (.List es pos) (dLstM t) :=
  (pe_lst h).to fun σ H Q ⟨ρ, m, P, Px, he, hr, ht, hP, hX⟩ => ⟨ρ, m, _, Px, he, hr, ht, fun ds m1 vs H1 q e1 r1 x1 =>
    ⟨by rw [Reps.length _ _ x1]; exact q.1, fun p hp => hP (.adr p) _ _ _ (q.2 p (r1.free hp)) (e1.trans (Ext.made hp)) (new_lstM r1 x1 hp) (by unfold Rep; rfl)⟩, hX⟩
/-! ### calls of built-ins -/
abbrev DRC := List D → MM → (D → MM → Prop) → Prop
def liftRC (K : PySem.W.Frag) (g : DRC) : List V → Hp → VK → Prop := fun xs H Q => ∃ ds m P, Reps K H m ds xs ∧ Rel K H m ∧ g ds m P ∧
  ∀ d m' v H', P d m' → Ext H m H' m' → Rel K H' m' → Rep K H' m' d v → Q v H'
abbrev CallRd (X : Cx) (f : Value) (g : DRC) : Prop := CallR X f (liftRC X.K g)
theorem _root_.L2.CallR.to {f : Value} {r r' : List V → Hp → VK → Prop} (h : CallR X f r) (i : ∀ x H Q, r' x H Q → r x H Q) : CallR X f r' :=
  fun pins s σ H xs us Q I rx q => h pins s σ H xs us Q I rx (i xs H Q q)
def dCB (g : DRC) (t : DA) : DE := fun ρ m Q X => t ρ m (fun ds m1 => g ds m1 Q) X
theorem lift_cb {g : DRC} {t : DA} {σ : L2.St} {H : Hp} {Q : VK} (h : liftE X.K W (dCB g t) σ H Q) : tCB (liftRC X.K g) (liftA X.K W t) σ H Q := by
  obtain ⟨ρ, m, P, Px, he, hr, ht, hP, hX⟩ := h
  exact ⟨ρ, m, _, Px, he, hr, ht, fun ds m1 vs H1 q e1 r1 x1 => ⟨ds, m1, P, x1, r1, q, fun d m' v H' p e r w => hP d m' v H' p (e1.trans e) r w⟩, hX⟩
section
variable {x : Str} {p : Pos} {e : Expr} {es : List Expr} {t : DA} {g : DRC}
theorem de_callB {id : String} (hc : CallRd X (.builtin id) g) (hg : Gl X x) (hm : X.mg x = none) (hv : bootBuiltins x = some (.builtin id)) (ha : PAd X W (e :: es) t) (hn : x ≠ "__name__" := by decide) (hdb : (x == ("__debug__" : Str)) = false := by decide)
    (he : starEach (e :: es) X.env = (false, eval e X.env) :: starEach es X.env := by rfl) (hpl : (backTo pos (starEach es X.env)).any (·.1) = false := by rfl) : PEd X W (.Call (.Name x p) (e :: es) [] pos) (dCB g t) :=
  (pe_callB hc hg hm hv ha hn hdb he hpl).to fun _ _ _ => lift_cb
theorem de_callTy {T : String} (hc : CallRd X (.type T) g) (hg : Gl X x) (hm : X.mg x = none) (hv : bootBuiltins x = some (.type T)) (ha : PAd X W (e :: es) t) (hn : x ≠ "__name__" := by decide) (hdb : (x == ("__debug__" : Str)) = false := by decide)
    (he : starEach (e :: es) X.env = (false, eval e X.env) :: starEach es X.env := by rfl) (hpl : (backTo pos (starEach es X.env)).any (·.1) = false := by rfl) : PEd X W (.Call (.Name x p) (e :: es) [] pos) (dCB g t) :=
  (pe_callTy hc hg hm hv ha hn hdb he hpl).to fun _ _ _ => lift_cb
theorem de_callBf {id : String} (hc : CallRd X (.builtin id) g) (hg : Gl X x) (hm : X.mg x = some (.builtin id)) (ha : PAd X W (e :: es) t) (hdb : (x == ("__debug__" : Str)) = false := by decide)
    (he : starEach (e :: es) X.env = (false, eval e X.env) :: starEach es X.env := by rfl) (hpl : (backTo pos (starEach es X.env)).any (·.1) = false := by rfl) : PEd X W (.Call (.Name x p) (e :: es) [] pos) (dCB g t) :=
  (pe_callBfun hc hg hm ha hdb he hpl).to fun _ _ _ => lift_cb
end
end
end Y
/-! Y3: statements, loops, comprehensions over data. -/
namespace Y
open PySem PySem.Spec PyProof.Rows L2
section
variable {X : Cx} {W : WX} {pos : Pos}
/-! ### blocks, small statements -/
theorem AftX.ext {K : PySem.W.Frag} {σ : L2.St} {H H1 : Hp} {m m1 : MM} {Px : XC} (h : AftX K W σ H m Px) (e : Ext H m H1 m1) : AftX K W σ H1 m1 Px :=
  fun C fs m' d H' p f r w => h C fs m' d H' p (e.trans f) r w
def dSeq (t u : DSt) : DSt := fun E ρ m => t { E with nx := u E } ρ m
def dNext : DSt := fun E ρ m => E.nx ρ m
theorem ds_nil : PSsd X W [] dNext := pss_nil.to fun D σ H ⟨ρ, m, P, he, hr, ht, h1, h2, h3, h4, h5⟩ => h1 ρ m σ H ht (Ext.refl _ _) hr he
theorem ds_cons {s : Stmt} {r : List Stmt} {t u : DSt} (hs : PSd X W s t) (hr : PSsd X W r u) : PSsd X W (s :: r) (dSeq t u) :=
  (pss_cons hs hr).to fun D σ H ⟨ρ, m, P, he, hr, ht, h1, h2, h3, h4, h5⟩ => by
    refine ⟨ρ, m, { P with nx := u P }, he, hr, ht, fun ρ' m' σ' H' q e r v => ?_, h2, h3, h4, h5⟩
    exact ⟨ρ', m', P, v, r, q, fun ρ2 m2 σ2 H2 q2 e2 r2 v2 => h1 ρ2 m2 σ2 H2 q2 (e.trans e2) r2 v2, fun d m2 v2 H2 q2 e2 r2 x2 => h2 d m2 v2 H2 q2 (e.trans e2) r2 x2,
      fun ρ2 m2 σ2 H2 q2 e2 r2 v2 => h3 ρ2 m2 σ2 H2 q2 (e.trans e2) r2 v2, fun ρ2 m2 σ2 H2 q2 e2 r2 v2 => h4 ρ2 m2 σ2 H2 q2 (e.trans e2) r2 v2,
      fun C fs ρ2 m2 d σ2 H2 q2 e2 r2 v2 w => h5 C fs ρ2 m2 d σ2 H2 q2 (e.trans e2) r2 v2 w⟩
theorem ds_one {s : Stmt} {t : DSt} (hs : PSd X W s t) : PSsd X W [s] t := pss_one hs
theorem dst_pass : PSd X W (.Pass pos) dNext := ps_pass.to fun D σ H ⟨ρ, m, P, he, hr, ht, h1, h2, h3, h4, h5⟩ => h1 ρ m σ H ht (Ext.refl _ _) hr he
def dBreak : DSt := fun E ρ m => E.bk ρ m
def dCont : DSt := fun E ρ m => E.ct ρ m
theorem dst_break : PSd X W (.Break pos) dBreak := ps_break.to fun D σ H ⟨ρ, m, P, he, hr, ht, h1, h2, h3, h4, h5⟩ => h3 ρ m σ H ht (Ext.refl _ _) hr he
theorem dst_continue : PSd X W (.Continue pos) dCont := ps_continue.to fun D σ H ⟨ρ, m, P, he, hr, ht, h1, h2, h3, h4, h5⟩ => h4 ρ m σ H ht (Ext.refl _ _) hr he
theorem dst_doc {x j pos'} : PSd X W (.Expr (.Constant (.str x) j pos) pos') dNext := ps_doc.to fun D σ H ⟨ρ, m, P, he, hr, ht, h1, h2, h3, h4, h5⟩ => h1 ρ m σ H ht (Ext.refl _ _) hr he
/-- the exceptions of an expression within a statement -/
def exOf (E : DEnds) (ρ : Env) : XC := fun C fs m => E.ex C fs ρ m
theorem aft {K : PySem.W.Frag} {σ : L2.St} {H : Hp} {m : MM} {P : DEnds} {ρ : Env} (he : EnvR K H m ρ σ) (hr : Rel K H m)
    (h5 : ∀ C fs ρ' m' d σ' H', P.ex C fs ρ' m' → Ext H m H' m' → Rel K H' m' → EnvR K H' m' ρ' σ' → RepX K H' m' d fs → W (.ref C) d σ' H') : AftX K W σ H m (exOf P ρ) :=
  fun C fs m' d H' p e r w => h5 C fs ρ m' d σ H' p e r (he.ext hr e) w
def dDrop (t : DE) : DSt := fun E ρ m => t ρ m (fun _ m1 => E.nx ρ m1) (exOf E ρ)
theorem dst_expr {e : Expr} {t : DE} (h : PEd X W e t) (hs : swapsWith e none pos.line X.env = pure false := by rfl) : PSd X W (.Expr e pos) (dDrop t) :=
  (ps_expr h hs).to fun D σ H ⟨ρ, m, P, he, hr, ht, h1, h2, h3, h4, h5⟩ => ⟨ρ, m, _, _, he, hr, ht, fun d m1 v H1 q e1 r1 x1 => h1 ρ m1 σ H1 q e1 r1 (he.ext hr e1), aft he hr h5⟩
def dRet (t : DE) : DSt := fun E ρ m => t ρ m E.rt (exOf E ρ)
theorem dst_ret {e : Expr} {t : DE} (h : PEd X W e t) : PSd X W (.Return (some e) pos) (dRet t) :=
  (ps_ret h).to fun D σ H ⟨ρ, m, P, he, hr, ht, h1, h2, h3, h4, h5⟩ => ⟨ρ, m, _, _, he, hr, ht, fun d m1 v H1 q e1 r1 x1 => h2 d m1 v H1 q e1 r1 x1, aft he hr h5⟩
def dRetN : DSt := fun E ρ m => E.rt .non m
theorem dst_retN : PSd X W (.Return none pos) dRetN :=
  ps_retN.to fun D σ H ⟨ρ, m, P, he, hr, ht, h1, h2, h3, h4, h5⟩ => h2 .non m .non H ht (Ext.refl _ _) hr (by unfold Rep; rfl)
def dIfS (c : DT) (t u : DSt) : DSt := fun E ρ m => c ρ m (fun b m1 => if b = true then t E ρ m1 else u E ρ m1) (exOf E ρ)
theorem ends_ext {K : PySem.W.Frag} {D : Ends} {H H1 : Hp} {m m1 : MM} {P : DEnds} (e : Ext H m H1 m1)
    (h : (∀ ρ' m' σ' H', P.nx ρ' m' → Ext H m H' m' → Rel K H' m' → EnvR K H' m' ρ' σ' → D.nx σ' H') ∧
      (∀ d m' v H', P.rt d m' → Ext H m H' m' → Rel K H' m' → Rep K H' m' d v → D.rt v H') ∧
      (∀ ρ' m' σ' H', P.bk ρ' m' → Ext H m H' m' → Rel K H' m' → EnvR K H' m' ρ' σ' → D.bk σ' H') ∧
      (∀ ρ' m' σ' H', P.ct ρ' m' → Ext H m H' m' → Rel K H' m' → EnvR K H' m' ρ' σ' → D.ct σ' H') ∧
      (∀ C fs ρ' m' d σ' H', P.ex C fs ρ' m' → Ext H m H' m' → Rel K H' m' → EnvR K H' m' ρ' σ' → RepX K H' m' d fs → W (.ref C) d σ' H')) :
    (∀ ρ' m' σ' H', P.nx ρ' m' → Ext H1 m1 H' m' → Rel K H' m' → EnvR K H' m' ρ' σ' → D.nx σ' H') ∧
      (∀ d m' v H', P.rt d m' → Ext H1 m1 H' m' → Rel K H' m' → Rep K H' m' d v → D.rt v H') ∧
      (∀ ρ' m' σ' H', P.bk ρ' m' → Ext H1 m1 H' m' → Rel K H' m' → EnvR K H' m' ρ' σ' → D.bk σ' H') ∧
      (∀ ρ' m' σ' H', P.ct ρ' m' → Ext H1 m1 H' m' → Rel K H' m' → EnvR K H' m' ρ' σ' → D.ct σ' H') ∧
      (∀ C fs ρ' m' d σ' H', P.ex C fs ρ' m' → Ext H1 m1 H' m' → Rel K H' m' → EnvR K H' m' ρ' σ' → RepX K H' m' d fs → W (.ref C) d σ' H') := by
  obtain ⟨h1, h2, h3, h4, h5⟩ := h
  exact ⟨fun ρ2 m2 σ2 H2 q2 e2 r2 v2 => h1 ρ2 m2 σ2 H2 q2 (e.trans e2) r2 v2, fun d m2 v2 H2 q2 e2 r2 x2 => h2 d m2 v2 H2 q2 (e.trans e2) r2 x2,
    fun ρ2 m2 σ2 H2 q2 e2 r2 v2 => h3 ρ2 m2 σ2 H2 q2 (e.trans e2) r2 v2, fun ρ2 m2 σ2 H2 q2 e2 r2 v2 => h4 ρ2 m2 σ2 H2 q2 (e.trans e2) r2 v2,
    fun C fs ρ2 m2 d σ2 H2 q2 e2 r2 v2 w => h5 C fs ρ2 m2 d σ2 H2 q2 (e.trans e2) r2 v2 w⟩
theorem dst_if {c : Expr} {a b : List Stmt} {tc : DT} {t u : DSt} (hc : PTd X W c tc) (ha : PSsd X W a t) (hb : PSsd X W b u) : PSd X W (.If c a b pos) (dIfS tc t u) :=
  (ps_if hc ha hb).to fun D σ H ⟨ρ, m, P, he, hr, ht, hh⟩ => by
    refine ⟨ρ, m, _, _, he, hr, ht, fun b m1 H1 q e1 r1 => ?_, aft he hr hh.2.2.2.2⟩
    cases b with
    | true => rw [if_pos rfl] at q ⊢; exact ⟨ρ, m1, P, he.ext hr e1, r1, q, ends_ext e1 hh⟩
    | false => rw [if_neg Bool.false_ne_true] at q ⊢; exact ⟨ρ, m1, P, he.ext hr e1, r1, q, ends_ext e1 hh⟩
/-- what is never come to -/
def dNever : DSt := fun _ _ _ => False
theorem dst_never {s : Stmt} : PSd X W s dNever := ps_never.to fun D σ H ⟨ρ, m, P, he, hr, ht, hh⟩ => ht
theorem ds_never {s : List Stmt} : PSsd X W s dNever := pss_never.to fun D σ H ⟨ρ, m, P, he, hr, ht, hh⟩ => ht
/-- a ghost: a known object is forgotten, a slot takes what it was -/
def dLess (f : Env → MM → Env × MM) (t : DSt) : DSt := fun E ρ m => t E (f ρ m).1 (f ρ m).2
/-! ### targets -/
abbrev DG := D → Env → MM → (Env → MM → Prop) → Prop
abbrev DGs := List D → Env → MM → (Env → MM → Prop) → Prop
def liftG (K : PySem.W.Frag) (g : DG) : TG := fun v σ H Q => ∃ d ρ m P, EnvR K H m ρ σ ∧ Rel K H m ∧ Rep K H m d v ∧ g d ρ m P ∧ ∀ ρ' m' σ' H', P ρ' m' → Ext H m H' m' → Rel K H' m' → EnvR K H' m' ρ' σ' → Q σ' H'
def liftGs (K : PySem.W.Frag) (g : DGs) : TGs := fun vs σ H Q => ∃ ds ρ m P, EnvR K H m ρ σ ∧ Rel K H m ∧ Reps K H m ds vs ∧ g ds ρ m P ∧ ∀ ρ' m' σ' H', P ρ' m' → Ext H m H' m' → Rel K H' m' → EnvR K H' m' ρ' σ' → Q σ' H'
abbrev PGd (X : Cx) (e : Expr) (g : DG) : Prop := PG X e (liftG X.K g)
abbrev PGsd (X : Cx) (es : List Expr) (g : DGs) : Prop := PGs X es (liftGs X.K g)
theorem _root_.L2.PG.to {e : Expr} {t u : TG} (h : PG X e t) (i : ∀ v σ H Q, u v σ H Q → t v σ H Q) : PG X e u := ⟨fun pins s σ H v w Q I r q => h.run pins s σ H v w Q I r (i v σ H Q q)⟩
theorem _root_.L2.PGs.to {e : List Expr} {t u : TGs} (h : PGs X e t) (i : ∀ v σ H Q, u v σ H Q → t v σ H Q) : PGs X e u := ⟨fun pins s σ H v w Q I r q => h.run pins s σ H v w Q I r (i v σ H Q q)⟩
def dName (i : Nat) : DG := fun d ρ m Q => Q (ρ.set i (some d)) m
theorem dg_name {i : Nat} {x : Str} (hN : X.N.Nodup) (hi : X.N[i]? = some x) (hx : Loc X.env.scope x) (hf : X.fn x = true ∨ X.env.scope.names.lookup x = some .local := by first | exact .inl rfl | exact .inr rfl | assumption) : PGd X (.Name x pos) (dName i) :=
  (pg_name hN hi hx hf).to fun v σ H Q ⟨d, ρ, m, P, he, hr, hd, hg, hP⟩ => hP _ m _ H hg (Ext.refl _ _) hr (he.set i hd)
def dgNil : DGs := fun ds ρ m Q => ds = [] ∧ Q ρ m
def dgCons (g : DG) (u : DGs) : DGs := fun ds ρ m Q => match ds with
  | d :: r => g d ρ m fun ρ1 m1 => u r ρ1 m1 Q
  | [] => False
theorem dgs_nil : PGsd X [] dgNil := pgs_nil.to fun v σ H Q ⟨d, ρ, m, P, he, hr, hd, hg, hP⟩ => by
  obtain ⟨rfl, q⟩ := hg
  unfold Reps at hd
  exact ⟨hd, hP ρ m σ H q (Ext.refl _ _) hr he⟩
theorem dgs_cons {e : Expr} {es : List Expr} {g : DG} {u : DGs} (h1 : PGd X e g) (h2 : PGsd X es u) (hs : (assignEach (e :: es) X.env).map (·.2) = assign e X.env :: (assignEach es X.env).map (·.2) := by rfl) : PGsd X (e :: es) (dgCons g u) :=
  (pgs_cons h1 h2 hs).to fun vs σ H Q ⟨ds, ρ, m, P, he, hr, hd, hg, hP⟩ => by
    cases ds with
    | nil => exact hg.elim
    | cons d r =>
      unfold Reps at hd
      obtain ⟨v, s, e1, e2, e3⟩ := hd
      exact ⟨v, s, e1, d, ρ, m, _, he, hr, e2, hg, fun ρ1 m1 σ1 H1 q e r1 v1 => ⟨r, ρ1, m1, P, v1, r1, Reps.ext hr e _ _ e3, q, fun ρ2 m2 σ2 H2 q2 f r2 v2 => hP ρ2 m2 σ2 H2 q2 (e.trans f) r2 v2⟩⟩
def dgTup (n : Nat) (u : DGs) : DG := fun d ρ m Q => match d with
  | .tup ds => ds.length = n ∧ u ds ρ m Q
  | _ => False
theorem dg_tup {es : List Expr} {k n : Nat} {u : DGs} (hc : X.calm = true) (h : PGsd X es u) (hn : (assignEach es X.env).length = n := by rfl) (hst : (assignEach es X.env).findIdx? (·.1) = none := by rfl) : PGd X (.Tuple es k pos) (dgTup n u) :=
  (pg_tup hc h hn hst).to fun v σ H Q ⟨d, ρ, m, P, he, hr, hd, hg, hP⟩ => by
    cases d with
    | tup ds =>
      unfold Rep at hd
      obtain ⟨a, vs, e1, e2, e3⟩ := hd
      exact ⟨a, vs, e1, e2, (Reps.length _ _ e3).trans hg.1, ds, ρ, m, P, he, hr, e3, hg.2, hP⟩
    | _ => exact hg.elim
def dAsg (t : DE) (g : DG) : DSt := fun E ρ m => t ρ m (fun d m1 => g d ρ m1 E.nx) (exOf E ρ)
theorem dst_asg {tg e : Expr} {t : DE} {g : DG} (he : PEd X W e t) (hg : PGd X tg g) (hs : swapsWithSole [tg] e pos.line X.env = pure false := by rfl) (hw : swappedStores [tg] e X.env = pure none := by rfl)
    (h1 : (assignEach [tg] X.env).map (·.2) = [assign tg X.env] := by rfl) : PSd X W (.Assign [tg] e pos) (dAsg t g) :=
  (ps_asg he hg hs hw h1).to fun D σ H ⟨ρ, m, P, he, hr, ht, hh⟩ => ⟨ρ, m, _, _, he, hr, ht, fun d m1 v H1 q e1 r1 x1 => ⟨d, ρ, m1, _, he.ext hr e1, r1, x1, q, fun ρ' m' σ' H' q e r v => hh.1 ρ' m' σ' H' q (e1.trans e) r v⟩, aft he hr hh.2.2.2.2⟩
def dSet (i : Nat) (t : DE) : DSt := fun E ρ m => t ρ m (fun d m1 => E.nx (ρ.set i (some d)) m1) (exOf E ρ)
theorem dst_set {i : Nat} {x : Str} {e : Expr} {t : DE} {pos' : Pos} (hN : X.N.Nodup) (hi : X.N[i]? = some x) (hx : Loc X.env.scope x) (he : PEd X W e t) (hs : swapsWith e (some (.Name x pos')) pos.line X.env = pure false := by rfl) (hf : X.fn x = true ∨ X.env.scope.names.lookup x = some .local := by first | exact .inl rfl | exact .inr rfl | assumption) :
    PSd X W (.Assign [.Name x pos'] e pos) (dSet i t) :=
  (ps_set hN hi hx he hs hf).to fun D σ H ⟨ρ, m, P, he, hr, ht, hh⟩ => ⟨ρ, m, _, _, he, hr, ht, fun d m1 v H1 q e1 r1 x1 => hh.1 _ m1 _ H1 q e1 r1 ((he.ext hr e1).set i x1), aft he hr hh.2.2.2.2⟩
def dPar (i j : Nat) (t : DA) : DSt := fun E ρ m => t ρ m (fun ds m1 => match ds with
  | [a, b] => E.nx ((ρ.set i (some a)).set j (some b)) m1
  | _ => False) (exOf E ρ)
theorem dst_par {i j : Nat} {x y : Str} {a b : Expr} {t : DA} {px py pt : Pos} {kt k2 pt2} (hc : X.calm = true) (hN : X.N.Nodup) (hi : X.N[i]? = some x) (hj : X.N[j]? = some y) (hij : i ≠ j)
    (hx : X.env.scope.names.lookup x = some .local) (hy : X.env.scope.names.lookup y = some .local) (ha : PAd X W [a, b] t)
    (hw : swappedStores [.Tuple [.Name x px, .Name y py] kt pt] (.Tuple [a, b] k2 pt2) X.env = pure (some [x, y]))
    (hs : swapsWithSole [.Tuple [.Name x px, .Name y py] kt pt] (.Tuple [a, b] k2 pt2) pos.line X.env = pure false := by rfl) :
    PSd X W (.Assign [.Tuple [.Name x px, .Name y py] kt pt] (.Tuple [a, b] k2 pt2) pos) (dPar i j t) :=
  (ps_par hc hN hi hj hij hx hy ha hw hs).to fun D σ H ⟨ρ, m, P, he, hr, ht, hh⟩ => ⟨ρ, m, _, _, he, hr, ht, fun ds m1 vs H1 q e1 r1 x1 => by
    match ds, q, x1 with
    | [d1, d2], q, x1 =>
      unfold Reps at x1
      obtain ⟨v1, s1, rfl, y1, z1⟩ := x1
      unfold Reps at z1
      obtain ⟨v2, s2, rfl, y2, z2⟩ := z1
      unfold Reps at z2
      subst z2
      exact ⟨v1, v2, rfl, hh.1 _ m1 _ H1 q e1 r1 (((he.ext hr e1).set i y1).set j y2)⟩, aft he hr hh.2.2.2.2⟩
/-! ### what is walked -/
/-- the items, and what has to stay true of the map while they are walked -/
abbrev DI := Env → MM → (List D → (MM → Prop) → MM → Prop) → XC → Prop
structure Yields (K : PySem.W.Frag) (H0 : Hp) (m0 : MM) (items : List D) (side : MM → Prop) (J : It) : Prop where
  go : ∀ (i : Nat) (d : D) H m, Ext H0 m0 H m → Rel K H m → side m → items[i]? = some d → J.go i H
  yld : ∀ (i : Nat) (d : D) H m x H', Ext H0 m0 H m → Rel K H m → side m → items[i]? = some d → J.yld i H x H' → Ext H m H' m ∧ Rel K H' m ∧ Rep K H' m d x
  stop : ∀ H m, Ext H0 m0 H m → Rel K H m → side m → J.stop items.length H
def liftI (K : PySem.W.Frag) (W : WX) (t : DI) : TI := fun σ H R => ∃ ρ m P Px, EnvR K H m ρ σ ∧ Rel K H m ∧ t ρ m P Px ∧
  (∀ items side m' J H', P items side m' → Ext H m H' m' → Rel K H' m' → Yields K H' m' items side J → R J H') ∧ AftX K W σ H m Px
abbrev PId (X : Cx) (W : WX) (tg iter : Expr) (t : DI) : Prop := PI X tg iter (liftI X.K W t)
theorem _root_.L2.PI.to {tg e : Expr} {t u : TI} (h : PI X tg e t) (i : ∀ σ H R, u σ H R → t σ H R) : PI X tg e u := ⟨fun pins s σ H R I q => h.run pins s σ H R I (i σ H R q)⟩
def forRec (g : DG) (tb : DSt) (side : MM → Prop) (E : DEnds) : List D → Env → MM → Prop
  | [], ρ, m => side m ∧ E.nx ρ m
  | d :: r, ρ, m => side m ∧ g d ρ m fun ρ1 m1 => tb { E with nx := forRec g tb side E r, ct := forRec g tb side E r, bk := E.nx } ρ1 m1
def dFor (ti : DI) (g : DG) (tb : DSt) : DSt := fun E ρ m => ti ρ m (fun items side m1 => forRec g tb side E items ρ m1) (exOf E ρ)
theorem dst_for {tg iter : Expr} {body : List Stmt} {ti : DI} {g : DG} {tb : DSt} (hp : PassesOwn (model X.prog X.w) X.A X.env X.xe) (hc : X.calm = true) (hi : PId X W tg iter ti) (hg : PGd X tg g) (hb : PSsd X W body tb)
    (hs : ∀ x, foldedSetIterable iter X.env x = pure x := by intro _; rfl) : PSd X W (.For tg iter body [] pos) (dFor ti g tb) :=
  (ps_for hp hc hi hg hb hs).to fun D σ H ⟨ρ, m, P, he, hr, ht, hh⟩ => by
    refine ⟨ρ, m, _, _, he, hr, ht, fun items side m1 J H1 q e1 r1 y => ?_, aft he hr hh.2.2.2.2⟩
    refine ⟨fun i n σ2 H2 => n = items.length - i ∧ i ≤ items.length ∧ ∃ ρ2 m2, Ext H1 m1 H2 m2 ∧ Rel X.K H2 m2 ∧ EnvR X.K H2 m2 ρ2 σ2 ∧ forRec g tb side P (items.drop i) ρ2 m2, ⟨_, rfl, Nat.zero_le _, ρ, m1, Ext.refl _ _, r1, he.ext hr e1, q⟩, ?_⟩
    rintro i n σ2 H2 ⟨rfl, hle, ρ2, m2, e2, r2, v2, q2⟩
    cases hd : items[i]? with
    | none =>
      have hl : items.length ≤ i := List.getElem?_eq_none_iff.mp hd
      rw [List.drop_eq_nil_of_le hl] at q2
      obtain ⟨s2, q2⟩ := q2
      exact .inl ⟨by rw [Nat.le_antisymm hle hl]; exact y.stop H2 m2 e2 r2 s2, hh.1 ρ2 m2 σ2 H2 q2 (e1.trans e2) r2 v2⟩
    | some d =>
      obtain ⟨hl, hd'⟩ := List.getElem?_eq_some_iff.mp hd
      rw [List.drop_eq_getElem_cons hl, hd'] at q2
      obtain ⟨s2, q2⟩ := q2
      refine .inr ⟨y.go i d H2 m2 e2 r2 s2 hd, fun σ3 H3 => ∃ ρ3 m3, Ext H1 m1 H3 m3 ∧ Rel X.K H3 m3 ∧ EnvR X.K H3 m3 ρ3 σ3 ∧ forRec g tb side P (items.drop (i + 1)) ρ3 m3, fun σ3 H3 ⟨ρ3, m3, e3, r3, v3, q3⟩ => ⟨_, by omega, rfl, hl, ρ3, m3, e3, r3, v3, q3⟩, fun x H3 hy => ?_⟩
      obtain ⟨e3, r3, x3⟩ := y.yld i d H2 m2 x H3 e2 r2 s2 hd hy
      refine ⟨d, ρ2, m2, _, v2.ext r2 e3, r3, x3, q2, fun ρ4 m4 σ4 H4 q4 e4 r4 v4 => ?_⟩
      have e14 : Ext H m H4 m4 := ((e1.trans e2).trans e3).trans e4
      have e24 : Ext H1 m1 H4 m4 := (e2.trans e3).trans e4
      refine ⟨ρ4, m4, _, v4, r4, q4, fun ρ5 m5 σ5 H5 q5 e5 r5 v5 => ⟨ρ5, m5, e24.trans e5, r5, v5, q5⟩, fun d m5 v H5 q5 e5 r5 x5 => hh.2.1 d m5 v H5 q5 (e14.trans e5) r5 x5,
        fun ρ5 m5 σ5 H5 q5 e5 r5 v5 => hh.1 ρ5 m5 σ5 H5 q5 (e14.trans e5) r5 v5, fun ρ5 m5 σ5 H5 q5 e5 r5 v5 => ⟨ρ5, m5, e24.trans e5, r5, v5, q5⟩, fun C fs ρ5 m5 d σ5 H5 q5 e5 r5 v5 w => hh.2.2.2.2 C fs ρ5 m5 d σ5 H5 q5 (e14.trans e5) r5 v5 w⟩
def dWhile (tc : DT) (tb : DSt) : DSt := fun E ρ m => ∃ I : Nat → Env → MM → Prop, (∃ n, I n ρ m) ∧ ∀ n ρ m, I n ρ m →
  tc ρ m (fun b m1 => if b = true then tb { E with nx := fun ρ' m' => ∃ n', n' < n ∧ I n' ρ' m', ct := fun ρ' m' => ∃ n', n' < n ∧ I n' ρ' m', bk := E.nx } ρ m1 else E.nx ρ m1) (exOf E ρ)
theorem dst_while {c : Expr} {body : List Stmt} {tc : DT} {tb : DSt} (hp : PassesOwn (model X.prog X.w) X.A X.env X.xe) (hc : PTd X W c tc) (hb : PSsd X W body tb) : PSd X W (.While c body [] pos) (dWhile tc tb) :=
  (ps_while hp hc hb).to fun D σ H ⟨ρ, m, P, he, hr, ⟨I, ⟨n0, i0⟩, turn⟩, hh⟩ => by
    refine ⟨fun n σ2 H2 => ∃ ρ2 m2, Ext H m H2 m2 ∧ Rel X.K H2 m2 ∧ EnvR X.K H2 m2 ρ2 σ2 ∧ I n ρ2 m2, ⟨n0, ρ, m, Ext.refl _ _, hr, he, i0⟩, ?_⟩
    rintro n σ2 H2 ⟨ρ2, m2, e2, r2, v2, i2⟩
    refine ⟨ρ2, m2, _, _, v2, r2, turn n ρ2 m2 i2, fun b m3 H3 q3 e3 r3 => ?_, fun C fs m' d H' p e r w => hh.2.2.2.2 C fs ρ2 m' d σ2 H' p (e2.trans e) r (v2.ext r2 e) w⟩
    cases b with
    | false => rw [if_neg Bool.false_ne_true] at q3 ⊢; exact hh.1 ρ2 m3 σ2 H3 q3 (e2.trans e3) r3 (v2.ext r2 e3)
    | true =>
      rw [if_pos rfl] at q3 ⊢
      have e13 := e2.trans e3
      refine ⟨fun σ4 H4 => ∃ ρ4 m4, Ext H m H4 m4 ∧ Rel X.K H4 m4 ∧ EnvR X.K H4 m4 ρ4 σ4 ∧ ∃ n', n' < n ∧ I n' ρ4 m4, fun σ4 H4 ⟨ρ4, m4, e4, r4, v4, n', l4, i4⟩ => ⟨n', l4, ρ4, m4, e4, r4, v4, i4⟩, ?_⟩
      exact ⟨ρ2, m3, _, v2.ext r2 e3, r3, q3, fun ρ5 m5 σ5 H5 q5 e5 r5 v5 => ⟨ρ5, m5, e13.trans e5, r5, v5, q5⟩, fun d m5 v H5 q5 e5 r5 x5 => hh.2.1 d m5 v H5 q5 (e13.trans e5) r5 x5,
        fun ρ5 m5 σ5 H5 q5 e5 r5 v5 => hh.1 ρ5 m5 σ5 H5 q5 (e13.trans e5) r5 v5, fun ρ5 m5 σ5 H5 q5 e5 r5 v5 => ⟨ρ5, m5, e13.trans e5, r5, v5, q5⟩, fun C fs ρ5 m5 d σ5 H5 q5 e5 r5 v5 w => hh.2.2.2.2 C fs ρ5 m5 d σ5 H5 q5 (e13.trans e5) r5 v5 w⟩
end
end Y
/-! Y4: what is walked: lists, tuples, ranges, enumerate, zip of two and three, of any mix of lists and tuples. -/
namespace Y
open PySem PySem.Spec PyProof.Rows L2
inductive Sk where | l | t
def SqS (K : PySem.W.Frag) (H : Hp) (k : Sk) (a : Addr) (xs : List V) : Prop := match k with
  | .l => SqL K H a xs
  | .t => SqT K H a xs
def IterS (k : Sk) (h : Heap) (it a : Addr) (i : Nat) : Prop := match k with
  | .l => h.IsListIter it a i
  | .t => h.IsTupleIter it a i
def SrcS (k : Sk) (h : Heap) (a : Addr) (its : Array Value) : Prop := match k with
  | .l => h.IsList a its
  | .t => h.IsTuple a its
def itObj (k : Sk) (a : Addr) : Obj := match k with
  | .l => { cls := .type "list_iterator", data := .fields #[.ref a, .int 0 0] }
  | .t => { cls := .type "tuple_iterator", data := .fields #[.ref a, .int 0 0] }
theorem inv_src {X : Cx} {pins : List (Addr × Obj)} {σ : L2.St} {H : Hp} {s : Shared} {k : Sk} {a : Addr} {xs : List V} (I : Inv X pins σ H s) (h : SqS X.K H k a xs) :
    ∃ its : List Value, Vals xs its ∧ SrcS k s.heap a its.toArray ∧ xs.length ≤ sizeLine := by
  cases k with
  | l => obtain ⟨its, r, p, z⟩ := I.list h; exact ⟨its, r, p.isList, z⟩
  | t => obtain ⟨its, r, p, z⟩ := I.tuple h; exact ⟨its, r, p, z⟩
theorem draws_src {P : Program} {w : World} {A : Around} (k : Sk) (hh : A.handled = none) (it a : Addr) (hne : a ≠ it) (items : Array Value) :
    Draws P w A it [it, a] items.size (fun i v => items[i]? = some v) (fun i h => IterS k h it a i ∧ SrcS k h a items) := by
  cases k with
  | l => exact Draws.list hh it a hne items
  | t => exact Draws.tuple hh it a hne items
theorem begins_src (k : Sk) (a : Addr) (items : Array Value) : Begins (.ref a) (itObj k a) (fun h => SrcS k h a items) := by
  cases k with
  | l => exact begins_list a items
  | t => exact begins_tuple a items
theorem iter_new {k : Sk} {h : Heap} {it a : Addr} (e : h.get? it = some (itObj k a)) : IterS k h it a 0 := by
  cases k with
  | l => exact ⟨_, e, rfl, rfl⟩
  | t => exact ⟨_, e, rfl, rfl⟩
theorem iter_at {k : Sk} {h h' : Heap} {it a : Addr} {i : Nat} (x : IterS k h it a i) (e : ∀ o, h.get? it = some o → h'.get? it = some o) : IterS k h' it a i := by
  cases k with
  | l => exact Heap.IsListIter.at x e
  | t => exact Heap.IsTupleIter.at x e
theorem iter_obj {k : Sk} {h : Heap} {it a : Addr} {i : Nat} (x : IterS k h it a i) : ∃ o, h.get? it = some o ∧ ∀ v, o.data ≠ .cell v := by
  cases k with
  | l => obtain ⟨o, e, _, d⟩ := x; exact ⟨o, e, fun v q => by rw [d] at q; cases q⟩
  | t => obtain ⟨o, e, _, d⟩ := x; exact ⟨o, e, fun v q => by rw [d] at q; cases q⟩
theorem SqS.there {X : Cx} {pins : List (Addr × Obj)} {σ : L2.St} {H : Hp} {s : Shared} {k : Sk} {a : Addr} {xs : List V} (I : Inv X pins σ H s) (h : SqS X.K H k a xs) : a < s.heap.objs.size := by
  obtain ⟨its, r, p, z⟩ := inv_src I h
  cases k with
  | l => obtain ⟨o, e, _⟩ := p; exact Heap.lt_size e
  | t => obtain ⟨o, e, _⟩ := p; exact Heap.lt_size e
/-- in the ground that is told, or tracked: no iterator of ours -/
theorem SqS.ne {X : Cx} {H : Hp} {k : Sk} {a b : Addr} {xs : List V} (h : SqS X.K H k a xs) (hb : H b = none) (hk : X.K.lookup b = none) : a ≠ b := fun e => by
  subst e
  cases k with
  | l =>
    rcases h with (h | ⟨o, h⟩) | ⟨o, its, n, h, _⟩
    · rw [hb] at h; cases h
    · rw [hb] at h; cases h
    · rw [hk] at h; cases h
  | t =>
    rcases h with (h | ⟨o, h⟩) | ⟨o, its, n, h, _⟩
    · rw [hb] at h; cases h
    · rw [hb] at h; cases h
    · rw [hk] at h; cases h
/-- a walk of tuples (WalksT) as a Turn: S is what must stand in the abstract heap -/
def ItT (n : Nat) (S : Hp → Prop) (val : Nat → List V → Prop) : It :=
  ⟨fun i H => i < n ∧ S H, fun i H x H' => ∃ T vs, x = .ref T ∧ H T = none ∧ H' = upd H T (.tup vs) ∧ val i vs, fun i H => i = n ∧ S H⟩
theorem turn_walksT {P : Program} {w : World} {K : PySem.W.Frag} {elts : List Expr} {kk : Nat} {tpos : Pos} {I : Addr} {own : List Addr} {n : Nat} (tn : Nat → Heap → Prop) (S : Hp → Prop) (val : Nat → List V → Prop)
    (hI : I ∈ own) (obj : ∀ i h, tn i h → ∀ b ∈ own, ∃ o, h.get? b = some o ∧ ∀ v, o.data ≠ .cell v)
    (keep : ∀ i h h', tn i h → (∀ b ∈ own, ∀ o, h.get? b = some o → h'.get? b = some o) → tn i h')
    (self : ∀ (A : Around) (i : Nat) (s : Shared) (Q : Value → Shared → Prop) (E : Value → Shared → Prop), tn i s.heap → Q (.ref I) s → wpAny (model P w) A (pyIter (.ref I)) Q E s)
    (W : ∀ (X : Cx) (pins : List (Addr × Obj)) (σ : L2.St) (H : Hp) (s : Shared) (i : Nat), X.prog = P → X.w = w → X.K = K → X.A.handled = none → Inv X pins σ H s → S H → (∀ b ∈ own, FpOk X pins H b) → tn i s.heap →
      ∃ fp wr Pt St Mid, WalksT P w X.A I fp wr n Pt St Mid ∧ (∀ b ∈ wr, b ∈ own) ∧ St i s.heap ∧ (∀ j h, St j h → tn j h) ∧ (∀ j vals, Pt j vals → ∃ vs, val j vs ∧ Vals vs vals.toList ∧ vs.length ≤ sizeLine)) :
    Turn P w K (.Tuple elts kk tpos) (ItT n S val) own I tn where
  mem := hI
  obj := obj
  keep := keep
  item := by
    intro X hP hw hK hc i pins s σ H E Iv hf st hg
    obtain ⟨hi, hS⟩ := hg
    obtain ⟨fp, wr, Pt, St, Mid, Wk, sub, hst, down, hval⟩ := W X pins σ H s i hP hw hK (Iv.ok.hd hc) Iv hS hf st
    refine Wk.item i s _ _ hi hst fun T vals h' tk hPt hT hTup hMid hk => ?_
    refine ⟨_, rfl, Wk.go elts kk tpos i T { s with heap := h', toks := tk } _ _ hMid fun h'' hst' hk' => ?_⟩
    obtain ⟨vs, hv, rv, hz⟩ := hval i vals hPt
    have hTn : T ∉ wr := Wk.apart i T h' hMid
    have hTup' : h''.IsTuple T vals := by
      obtain ⟨o, e, q⟩ := hTup
      exact ⟨o, hk' T o hTn e, q⟩
    have new : ObjOk X.prog X.w (upd H T (.tup vs)) h'' T (.tup vs) := by
      refine ⟨hz, vals.toList, rv, ?_⟩
      rw [Array.toArray_toList]
      exact hTup'
    have hfw : ∀ b ∈ wr, FpOk X pins H b := fun b hb => hf b (sub b hb)
    have I1 : Inv X pins σ (upd H T (.tup vs)) { s with heap := h'', toks := tk } := Iv.turnedNew (ch := wr) (fun b o hb q => hk' b o hb (hk b o hb q)) hfw hT new
    refine ⟨.ref T, _, I1, rfl, ⟨T, vs, rfl, Iv.hok.fresh hT, rfl, hv⟩, down _ _ hst', fun b hb => ?_⟩
    obtain ⟨o, e, _⟩ := obj i _ st b hb
    rw [upd_ne (Nat.ne_of_lt (Nat.lt_of_lt_of_le (Heap.lt_size e) hT))]
    exact (hf b hb).1
  done := by
    intro X hP hw hK hc i pins s σ H E Iv hf st hg
    obtain ⟨rfl, hS⟩ := hg
    obtain ⟨fp, wr, Pt, St, Mid, Wk, sub, hst, down, hval⟩ := W X pins σ H s i hP hw hK (Iv.ok.hd hc) Iv hS hf st
    refine Wk.done s _ _ hst fun h' tk hk => ⟨rfl, ?_⟩
    exact Iv.turnedL (t' := tk) (ch := wr) (fun b o hb q => hk b o hb q) fun b hb => hf b (sub b hb)
  self := self
theorem src_ne {X : Cx} {pins : List (Addr × Obj)} {σ : L2.St} {H : Hp} {s : Shared} {k : Sk} {a b : Addr} {xs : List V} (I : Inv X pins σ H s) (h : SqS X.K H k a xs) (hb : FpOk X pins H b) : a ≠ b := by
  refine h.ne hb.1 ?_
  cases q : X.K.lookup b with
  | none => rfl
  | some o =>
    have e := I.ok.mod.kin b o q
    rcases hb.2.2.2.1 with z | z
    · exact absurd z (I.ok.noex b o e)
    · exact absurd (Nat.lt_of_lt_of_le (Heap.lt_size e) (Nat.le_trans I.ok.bsz z)) (Nat.lt_irrefl _)
theorem vals_at {xs : List V} {us : List Value} (r : Vals xs us) {i : Nat} {u : Value} (h : us[i]? = some u) : ∃ x, xs[i]? = some x ∧ RelV x u := by
  induction r generalizing i with
  | nil => simp at h
  | cons p t ih =>
    cases i with
    | zero => simp at h; subst h; exact ⟨_, rfl, p⟩
    | succ i => simpa using ih (by simpa using h)
/-! ### zip of two -/
def val2 (xs ys : List V) (i : Nat) (vs : List V) : Prop := ∃ x y, xs[i]? = some x ∧ ys[i]? = some y ∧ vs = [x, y]
structure Apart2 (z TI TO i1 i2 : Addr) : Prop where
  TIz : TI ≠ z
  TOz : TO ≠ z
  TITO : TI ≠ TO
  TIi1 : TI ≠ i1
  TIi2 : TI ≠ i2
  zi1 : z ≠ i1
  zi2 : z ≠ i2
  Ti1 : TO ≠ i1
  Ti2 : TO ≠ i2
  i12 : i1 ≠ i2
theorem turn_zip2 {P : Program} {w : World} {K : PySem.W.Frag} {elts : List Expr} {kk : Nat} {tpos : Pos} {z TI TO i1 i2 a b : Addr} (k1 k2 : Sk) {xs ys : List V} (A2 : Apart2 z TI TO i1 i2) :
    Turn P w K (.Tuple elts kk tpos) (ItT (min xs.length ys.length) (fun H => SqS K H k1 a xs ∧ SqS K H k2 b ys) (val2 xs ys)) [z, TI, TO, i1, i2] z
      (fun i h => IsZip h z TI TO .none ∧ IsTupOf2 h TI (.ref i1) (.ref i2) ∧ (∃ a1 a2, IsTupOf2 h TO a1 a2) ∧ IterS k1 h i1 a i ∧ IterS k2 h i2 b i) := by
  refine turn_walksT _ _ _ (by simp) (fun i h st c hc => ?_) (fun i h h' st k => ?_) (fun A i s Q E st h => wpAny_pyIter_zip st.1 h) fun X pins σ H s i hP hw hK hh Iv hS hf st => ?_
  · obtain ⟨hz, hTI, ⟨x, y, hTO⟩, h1, h2⟩ := st
    have e' : c = z ∨ c = TI ∨ c = TO ∨ c = i1 ∨ c = i2 := by simpa using hc
    rcases e' with q | q | q | q | q
    · rw [q]; exact ⟨_, hz, fun v q => nomatch q⟩
    · rw [q]; exact ⟨_, hTI, fun v q => nomatch q⟩
    · rw [q]; exact ⟨_, hTO, fun v q => nomatch q⟩
    · rw [q]; exact iter_obj h1
    · rw [q]; exact iter_obj h2
  · obtain ⟨hz, hTI, ⟨x, y, hTO⟩, h1, h2⟩ := st
    exact ⟨k z (by simp) _ hz, k TI (by simp) _ hTI, ⟨x, y, k TO (by simp) _ hTO⟩, iter_at h1 fun o q => k i1 (by simp) o q, iter_at h2 fun o q => k i2 (by simp) o q⟩
  · subst hP hw hK
    obtain ⟨s1, s2⟩ := hS
    obtain ⟨hz, hTI, hTO, h1, h2⟩ := st
    obtain ⟨its, r1, p1, z1⟩ := inv_src Iv s1
    obtain ⟨jts, r2, p2, z2⟩ := inv_src Iv s2
    have fz := hf z (by simp)
    have fT := hf TO (by simp)
    have f1 := hf i1 (by simp)
    have f2 := hf i2 (by simp)
    have D1 := draws_src (P := X.prog) (w := X.w) (A := X.A.in1) k1 hh i1 a (src_ne Iv s1 f1) its.toArray
    have D2 := draws_src (P := X.prog) (w := X.w) (A := X.A.in1) k2 hh i2 b (src_ne Iv s2 f2) jts.toArray
    have sep : ZipSep2 z TI TO i1 i2 [i1, a] [i2, b] :=
      { TIz := A2.TIz, TOz := A2.TOz, TITO := A2.TITO, TIi1 := A2.TIi1, TIi2 := A2.TIi2, mem1 := by simp, mem2 := by simp,
        zf1 := by simp only [List.mem_cons, List.not_mem_nil, or_false, not_or]; exact ⟨A2.zi1, (src_ne Iv s1 fz).symm⟩,
        zf2 := by simp only [List.mem_cons, List.not_mem_nil, or_false, not_or]; exact ⟨A2.zi2, (src_ne Iv s2 fz).symm⟩,
        Tf1 := by simp only [List.mem_cons, List.not_mem_nil, or_false, not_or]; exact ⟨A2.Ti1, (src_ne Iv s1 fT).symm⟩,
        Tf2 := by simp only [List.mem_cons, List.not_mem_nil, or_false, not_or]; exact ⟨A2.Ti2, (src_ne Iv s2 fT).symm⟩,
        sep1_2 := by simp only [List.mem_cons, List.not_mem_nil, or_false, not_or]; exact ⟨A2.i12, (src_ne Iv s2 f1).symm⟩,
        sep2_1 := by simp only [List.mem_cons, List.not_mem_nil, or_false, not_or]; exact ⟨A2.i12.symm, (src_ne Iv s1 f2).symm⟩ }
    have Wk := WalksT.zipD2 sep D1 D2
    have l1 := r1.length
    have l2 := r2.length
    have en : min its.toArray.size jts.toArray.size = min xs.length ys.length := by simp [l1, l2]
    rw [en] at Wk
    refine ⟨_, _, _, _, _, Wk, fun c hc => ?_, ⟨hz, hTI, hTO, ⟨h1, p1⟩, ⟨h2, p2⟩⟩, fun j h st => ⟨st.1, st.2.1, st.2.2.1, st.2.2.2.1.1, st.2.2.2.2.1⟩, fun j vals ⟨x1, x2, y1, y2, e⟩ => ?_⟩
    · have e' : c = z ∨ c = TO ∨ c = i1 ∨ c = i2 := by simpa using hc
      simp only [List.mem_cons, List.not_mem_nil, or_false]
      rcases e' with q | q | q | q <;> simp [q]
    · subst e
      obtain ⟨v1, g1, q1⟩ := vals_at r1 (u := x1) (i := j) (by simpa using y1)
      obtain ⟨v2, g2, q2⟩ := vals_at r2 (u := x2) (i := j) (by simpa using y2)
      exact ⟨[v1, v2], ⟨v1, v2, g1, g2, rfl⟩, .cons q1 (.cons q2 .nil), by show 2 ≤ sizeLine; decide⟩
/-! ### zip of three -/
def val3 (xs ys zs : List V) (i : Nat) (vs : List V) : Prop := ∃ x y z, xs[i]? = some x ∧ ys[i]? = some y ∧ zs[i]? = some z ∧ vs = [x, y, z]
theorem turn_zip3 {P : Program} {w : World} {K : PySem.W.Frag} {elts : List Expr} {kk : Nat} {tpos : Pos} {z TI TO i1 i2 i3 a b c : Addr} (k1 k2 k3 : Sk) {xs ys zs : List V} (A2 : Apart2 z TI TO i1 i2) (A3 : Apart2 z TI TO i1 i3) (i23 : i2 ≠ i3) :
    Turn P w K (.Tuple elts kk tpos) (ItT (min (min xs.length ys.length) zs.length) (fun H => SqS K H k1 a xs ∧ SqS K H k2 b ys ∧ SqS K H k3 c zs) (val3 xs ys zs)) [z, TI, TO, i1, i2, i3] z
      (fun i h => IsZip h z TI TO .none ∧ IsTupOf3 h TI (.ref i1) (.ref i2) (.ref i3) ∧ (∃ a1 a2 a3, IsTupOf3 h TO a1 a2 a3) ∧ IterS k1 h i1 a i ∧ IterS k2 h i2 b i ∧ IterS k3 h i3 c i) := by
  refine turn_walksT _ _ _ (by simp) (fun i h st c hc => ?_) (fun i h h' st k => ?_) (fun A i s Q E st h => wpAny_pyIter_zip st.1 h) fun X pins σ H s i hP hw hK hh Iv hS hf st => ?_
  · obtain ⟨hz, hTI, ⟨x, y, u, hTO⟩, h1, h2, h3⟩ := st
    have e' : c = z ∨ c = TI ∨ c = TO ∨ c = i1 ∨ c = i2 ∨ c = i3 := by simpa using hc
    rcases e' with q | q | q | q | q | q
    · rw [q]; exact ⟨_, hz, fun v q => nomatch q⟩
    · rw [q]; exact ⟨_, hTI, fun v q => nomatch q⟩
    · rw [q]; exact ⟨_, hTO, fun v q => nomatch q⟩
    · rw [q]; exact iter_obj h1
    · rw [q]; exact iter_obj h2
    · rw [q]; exact iter_obj h3
  · obtain ⟨hz, hTI, ⟨x, y, u, hTO⟩, h1, h2, h3⟩ := st
    exact ⟨k z (by simp) _ hz, k TI (by simp) _ hTI, ⟨x, y, u, k TO (by simp) _ hTO⟩, iter_at h1 fun o q => k i1 (by simp) o q, iter_at h2 fun o q => k i2 (by simp) o q, iter_at h3 fun o q => k i3 (by simp) o q⟩
  · subst hP hw hK
    obtain ⟨s1, s2, s3⟩ := hS
    obtain ⟨hz, hTI, hTO, h1, h2, h3⟩ := st
    obtain ⟨its, r1, p1, z1⟩ := inv_src Iv s1
    obtain ⟨jts, r2, p2, z2⟩ := inv_src Iv s2
    obtain ⟨kts, r3, p3, z3⟩ := inv_src Iv s3
    have fz := hf z (by simp)
    have fT := hf TO (by simp)
    have f1 := hf i1 (by simp)
    have f2 := hf i2 (by simp)
    have f3 := hf i3 (by simp)
    have D1 := draws_src (P := X.prog) (w := X.w) (A := X.A.in1) k1 hh i1 a (src_ne Iv s1 f1) its.toArray
    have D2 := draws_src (P := X.prog) (w := X.w) (A := X.A.in1) k2 hh i2 b (src_ne Iv s2 f2) jts.toArray
    have D3 := draws_src (P := X.prog) (w := X.w) (A := X.A.in1) k3 hh i3 c (src_ne Iv s3 f3) kts.toArray
    have n2 : ∀ {u v w : Addr}, u ≠ v → u ≠ w → u ∉ [v, w] := fun h1 h2 => by
      simp only [List.mem_cons, List.not_mem_nil, or_false, not_or]; exact ⟨h1, h2⟩
    have sep : ZipSep3 z TI TO i1 i2 i3 [i1, a] [i2, b] [i3, c] :=
      { TIz := A2.TIz, TOz := A2.TOz, TITO := A2.TITO, TIi1 := A2.TIi1, TIi2 := A2.TIi2, TIi3 := A3.TIi2, mem1 := by simp, mem2 := by simp, mem3 := by simp,
        zf1 := n2 A2.zi1 (src_ne Iv s1 fz).symm, zf2 := n2 A2.zi2 (src_ne Iv s2 fz).symm, zf3 := n2 A3.zi2 (src_ne Iv s3 fz).symm,
        Tf1 := n2 A2.Ti1 (src_ne Iv s1 fT).symm, Tf2 := n2 A2.Ti2 (src_ne Iv s2 fT).symm, Tf3 := n2 A3.Ti2 (src_ne Iv s3 fT).symm,
        sep1_2 := n2 A2.i12 (src_ne Iv s2 f1).symm, sep1_3 := n2 A3.i12 (src_ne Iv s3 f1).symm, sep2_1 := n2 A2.i12.symm (src_ne Iv s1 f2).symm,
        sep2_3 := n2 i23 (src_ne Iv s3 f2).symm, sep3_1 := n2 A3.i12.symm (src_ne Iv s1 f3).symm, sep3_2 := n2 i23.symm (src_ne Iv s2 f3).symm }
    have Wk := WalksT.zipD3 sep D1 D2 D3
    have l1 := r1.length
    have l2 := r2.length
    have l3 := r3.length
    have en : min (min its.toArray.size jts.toArray.size) kts.toArray.size = min (min xs.length ys.length) zs.length := by simp [l1, l2, l3]
    rw [en] at Wk
    refine ⟨_, _, _, _, _, Wk, fun c hc => ?_, ⟨hz, hTI, hTO, ⟨h1, p1⟩, ⟨h2, p2⟩, ⟨h3, p3⟩⟩, fun j h st => ⟨st.1, st.2.1, st.2.2.1, st.2.2.2.1.1, st.2.2.2.2.1.1, st.2.2.2.2.2.1⟩, fun j vals ⟨x1, x2, x3, y1, y2, y3, e⟩ => ?_⟩
    · have e' : c = z ∨ c = TO ∨ c = i1 ∨ c = i2 ∨ c = i3 := by simpa using hc
      simp only [List.mem_cons, List.not_mem_nil, or_false]
      rcases e' with q | q | q | q | q <;> simp [q]
    · subst e
      obtain ⟨v1, g1, q1⟩ := vals_at r1 (u := x1) (i := j) (by simpa using y1)
      obtain ⟨v2, g2, q2⟩ := vals_at r2 (u := x2) (i := j) (by simpa using y2)
      obtain ⟨v3, g3, q3⟩ := vals_at r3 (u := x3) (i := j) (by simpa using y3)
      exact ⟨[v1, v2, v3], ⟨v1, v2, v3, g1, g2, g3, rfl⟩, .cons q1 (.cons q2 (.cons q3 .nil)), by show 3 ≤ sizeLine; decide⟩
/-! ### enumerate -/
def valE (xs : List V) (i : Nat) (vs : List V) : Prop := ∃ x, xs[i]? = some x ∧ vs = [.int (i : Nat), x]
theorem turn_enumS {P : Program} {w : World} {K : PySem.W.Frag} {elts : List Expr} {kk : Nat} {tpos : Pos} {e it a : Addr} (k : Sk) {xs : List V} (hne : e ≠ it) :
    Turn P w K (.Tuple elts kk tpos) (ItT xs.length (fun H => SqS K H k a xs) (valE xs)) [e, it] e
      (fun i h => (∃ old, IsEnum h e it ((0 : Int) + ((i : Nat) : Int)) old) ∧ IterS k h it a i) := by
  refine turn_walksT _ _ _ (by simp) (fun i h st c hc => ?_) (fun i h h' st k => ?_) (fun A i s Q E st h => ?_) fun X pins σ H s i hP hw hK hh Iv hS hf st => ?_
  · obtain ⟨⟨old, he⟩, h1⟩ := st
    have e' : c = e ∨ c = it := by simpa using hc
    rcases e' with q | q
    · rw [q]; exact ⟨_, he, fun v q => nomatch q⟩
    · rw [q]; exact iter_obj h1
  · obtain ⟨⟨old, he⟩, h1⟩ := st
    exact ⟨⟨old, k e (by simp) _ he⟩, iter_at h1 fun o q => k it (by simp) o q⟩
  · obtain ⟨⟨old, he⟩, h1⟩ := st
    exact wpAny_pyIter_enum he h
  · subst hP hw hK
    obtain ⟨he, h1⟩ := st
    obtain ⟨its, r1, p1, z1⟩ := inv_src Iv hS
    have fe := hf e (by simp)
    have f1 := hf it (by simp)
    have D1 := draws_src (P := X.prog) (w := X.w) (A := X.A.in1) k hh it a (src_ne Iv hS f1) its.toArray
    have Wk := WalksT.enumFrom 0 D1 e hne (by simp only [List.mem_cons, List.not_mem_nil, or_false, not_or]; exact ⟨hne, (src_ne Iv hS fe).symm⟩) (by simp)
    have l1 := r1.length
    have en : its.toArray.size = xs.length := by simp [l1]
    rw [en] at Wk
    refine ⟨_, _, _, _, _, Wk, fun c hc => hc, ⟨he, ⟨h1, p1⟩⟩, fun j h st => ⟨st.1, st.2.1⟩, fun j vals ⟨t, x, y, q⟩ => ?_⟩
    subst q
    obtain ⟨v1, g1, q1⟩ := vals_at r1 (u := x) (i := j) (by simpa using y)
    exact ⟨[.int (j : Nat), v1], ⟨v1, g1, rfl⟩, .cons ⟨t, by rw [Int.zero_add]⟩ (.cons q1 .nil), by show 2 ≤ sizeLine; decide⟩
end Y
/-! Y5: the walked things as expressions, and over data. -/
namespace Y
open PySem PySem.Spec PyProof.Rows L2
section
variable {X : Cx} {W : WX} {pos p tpos : Pos} {tg : Expr} {elts : List Expr} {kk : Nat}
def iSeq (K : PySem.W.Frag) (tl : TE) : TI := fun σ H R => tl σ H fun x H1 => ∃ a, x = .ref a ∧ ((∃ xs, SqL K H1 a xs ∧ R (Itl K a) H1) ∨ ∃ xs, SqT K H1 a xs ∧ R (Itt K a) H1)
theorem pi_seq {l : Expr} {tl : TE} (hl : PE X l tl) : PI X tg l (iSeq X.K tl) := by
  refine ⟨fun pins s σ H R I h => ?_⟩
  refine thn (hl.run pins s σ H _ I h) fun v s1 ⟨x, H1, I1, r1, q1⟩ => ?_
  obtain ⟨a, e, q⟩ := q1
  subst e
  cases r1
  rcases q with ⟨xs, hq, q⟩ | ⟨xs, hq, q⟩
  · obtain ⟨its, rv, p, hz⟩ := I1.list hq
    refine wpAny_pyIter_list p.isList ?_
    refine ⟨s1.heap.objs.size, [s1.heap.objs.size], _, _, H1, rfl, I1.kept (t' := s1.toks) fun b o e => Heap.get?_push_of_some _ e, turn_list a _, ⟨_, Heap.get?_push_size _ rfl, rfl, rfl⟩, fun b hb => ?_, q⟩
    have e : b = s1.heap.objs.size := by simpa using hb
    subst e
    exact I1.fpOk (Nat.le_refl _) (I1.hok.fresh (Nat.le_refl _))
  · obtain ⟨its, rv, p, hz⟩ := I1.tuple hq
    refine wpAny_pyIter_tuple (show s1.heap.IsTuple a its.toArray from p) ?_
    refine ⟨s1.heap.objs.size, [s1.heap.objs.size], _, _, H1, rfl, I1.kept (t' := s1.toks) fun b o e => Heap.get?_push_of_some _ e, turn_tuple a _, ⟨_, Heap.get?_push_size _ rfl, rfl, rfl⟩, fun b hb => ?_, q⟩
    have e : b = s1.heap.objs.size := by simpa using hb
    subst e
    exact I1.fpOk (Nat.le_refl _) (I1.hok.fresh (Nat.le_refl _))
def iZip2 (K : PySem.W.Frag) (ta : TA) : TI := fun σ H R => ta σ H fun vs H1 => ∃ a b k1 k2 xs ys, vs = [.ref a, .ref b] ∧ SqS K H1 k1 a xs ∧ SqS K H1 k2 b ys ∧ R (ItT (min xs.length ys.length) (fun H => SqS K H k1 a xs ∧ SqS K H k2 b ys) (val2 xs ys)) H1
theorem pi_zip2 {e e2 : Expr} {ta : TA} (hg : Gl X "zip") (hm : X.mg "zip" = none) (ha : PA X [e, e2] ta)
    (hs : starEach [e, e2] X.env = (false, eval e X.env) :: starEach [e2] X.env := by rfl) (hpl : (backTo pos (starEach [e2] X.env)).any (·.1) = false := by rfl) :
    PI X (.Tuple elts kk tpos) (.Call (.Name "zip" p) [e, e2] [] pos) (iZip2 X.K ta) := by
  refine ⟨fun pins s σ H R I h => ?_⟩
  refine Call_ (ld_blt I hg hm PyProof.Rows.boot_zip (PyProof.Rows.callWith_type1 (thn (ha.run pos pins s σ H _ I h) fun us s1 ⟨vs, H1, I1, r1, q1⟩ => ?_) hs hpl))
  obtain ⟨a, b, k1, k2, xs, ys, ex, hx, hy, q⟩ := q1
  subst ex
  cases r1 with
  | cons r rr =>
    cases rr with
    | cons r' rr =>
      cases rr
      cases r
      cases r'
      obtain ⟨its, rv, p1, _⟩ := inv_src I1 hx
      obtain ⟨jts, rw', p2, _⟩ := inv_src I1 hy
      refine zip_begins2 (begins_src k1 a its.toArray) (begins_src k2 b jts.toArray) p1 p2 fun h' hz hTI hTO g1 g2 hsz hk => wpAny_pyIter_zip hz ?_
      have I2 : Inv X pins σ H1 { s1 with heap := h' } := I1.kept (t' := s1.toks) hk
      have A2 : Apart2 (s1.heap.objs.size + 4) (s1.heap.objs.size + 2) (s1.heap.objs.size + 3) s1.heap.objs.size (s1.heap.objs.size + 1) :=
        ⟨show (s1.heap.objs.size + 2 : Nat) ≠ s1.heap.objs.size + 4 by omega, show (s1.heap.objs.size + 3 : Nat) ≠ s1.heap.objs.size + 4 by omega, show (s1.heap.objs.size + 2 : Nat) ≠ s1.heap.objs.size + 3 by omega,
          show (s1.heap.objs.size + 2 : Nat) ≠ s1.heap.objs.size by omega, show (s1.heap.objs.size + 2 : Nat) ≠ s1.heap.objs.size + 1 by omega, show (s1.heap.objs.size + 4 : Nat) ≠ s1.heap.objs.size by omega,
          show (s1.heap.objs.size + 4 : Nat) ≠ s1.heap.objs.size + 1 by omega, show (s1.heap.objs.size + 3 : Nat) ≠ s1.heap.objs.size by omega, show (s1.heap.objs.size + 3 : Nat) ≠ s1.heap.objs.size + 1 by omega,
          show (s1.heap.objs.size : Nat) ≠ s1.heap.objs.size + 1 by omega⟩
      refine ⟨s1.heap.objs.size + 4, _, _, _, H1, rfl, I2, turn_zip2 k1 k2 A2, ⟨hz, hTI, ⟨_, _, hTO⟩, iter_new g1, iter_new g2⟩, fun c hc => ?_, q⟩
      have hle : s1.heap.objs.size ≤ c := by
        have e' : c = s1.heap.objs.size + 4 ∨ c = s1.heap.objs.size + 2 ∨ c = s1.heap.objs.size + 3 ∨ c = s1.heap.objs.size ∨ c = s1.heap.objs.size + 1 := by simpa using hc
        rcases e' with z | z | z | z | z
        · rw [z]; exact Nat.le_add_right _ _
        · rw [z]; exact Nat.le_add_right _ _
        · rw [z]; exact Nat.le_add_right _ _
        · rw [z]; exact Nat.le_refl _
        · rw [z]; exact Nat.le_add_right _ _
      exact I1.fpOk hle (I1.hok.fresh hle)
def iZip3 (K : PySem.W.Frag) (ta : TA) : TI := fun σ H R => ta σ H fun vs H1 => ∃ a b c k1 k2 k3 xs ys zs, vs = [.ref a, .ref b, .ref c] ∧ SqS K H1 k1 a xs ∧ SqS K H1 k2 b ys ∧ SqS K H1 k3 c zs ∧
  R (ItT (min (min xs.length ys.length) zs.length) (fun H => SqS K H k1 a xs ∧ SqS K H k2 b ys ∧ SqS K H k3 c zs) (val3 xs ys zs)) H1
theorem pi_zip3 {e e2 e3 : Expr} {ta : TA} (hg : Gl X "zip") (hm : X.mg "zip" = none) (ha : PA X [e, e2, e3] ta)
    (hs : starEach [e, e2, e3] X.env = (false, eval e X.env) :: starEach [e2, e3] X.env := by rfl) (hpl : (backTo pos (starEach [e2, e3] X.env)).any (·.1) = false := by rfl) :
    PI X (.Tuple elts kk tpos) (.Call (.Name "zip" p) [e, e2, e3] [] pos) (iZip3 X.K ta) := by
  refine ⟨fun pins s σ H R I h => ?_⟩
  refine Call_ (ld_blt I hg hm PyProof.Rows.boot_zip (PyProof.Rows.callWith_type1 (thn (ha.run pos pins s σ H _ I h) fun us s1 ⟨vs, H1, I1, r1, q1⟩ => ?_) hs hpl))
  obtain ⟨a, b, c, k1, k2, k3, xs, ys, zs, ex, hx, hy, hw, q⟩ := q1
  subst ex
  cases r1 with
  | cons r rr =>
    cases rr with
    | cons r' rr =>
      cases rr with
      | cons r'' rr =>
        cases rr
        cases r
        cases r'
        cases r''
        obtain ⟨its, rv, p1, _⟩ := inv_src I1 hx
        obtain ⟨jts, rw', p2, _⟩ := inv_src I1 hy
        obtain ⟨kts, rw'', p3, _⟩ := inv_src I1 hw
        refine zip_begins3 (begins_src k1 a its.toArray) (begins_src k2 b jts.toArray) (begins_src k3 c kts.toArray) p1 p2 p3 fun h' hz hTI hTO g1 g2 g3 hsz hk => wpAny_pyIter_zip hz ?_
        have I2 : Inv X pins σ H1 { s1 with heap := h' } := I1.kept (t' := s1.toks) hk
        generalize hN : (s1.heap.objs.size : Nat) = N at *
        have A2 : Apart2 (N + 5) (N + 3) (N + 4) N (N + 1) :=
          ⟨show (N + 3 : Nat) ≠ N + 5 by omega, show (N + 4 : Nat) ≠ N + 5 by omega, show (N + 3 : Nat) ≠ N + 4 by omega, show (N + 3 : Nat) ≠ N by omega, show (N + 3 : Nat) ≠ N + 1 by omega, show (N + 5 : Nat) ≠ N by omega,
            show (N + 5 : Nat) ≠ N + 1 by omega, show (N + 4 : Nat) ≠ N by omega, show (N + 4 : Nat) ≠ N + 1 by omega, show (N : Nat) ≠ N + 1 by omega⟩
        have A3 : Apart2 (N + 5) (N + 3) (N + 4) N (N + 2) :=
          ⟨show (N + 3 : Nat) ≠ N + 5 by omega, show (N + 4 : Nat) ≠ N + 5 by omega, show (N + 3 : Nat) ≠ N + 4 by omega, show (N + 3 : Nat) ≠ N by omega, show (N + 3 : Nat) ≠ N + 2 by omega, show (N + 5 : Nat) ≠ N by omega,
            show (N + 5 : Nat) ≠ N + 2 by omega, show (N + 4 : Nat) ≠ N by omega, show (N + 4 : Nat) ≠ N + 2 by omega, show (N : Nat) ≠ N + 2 by omega⟩
        refine ⟨N + 5, _, _, _, H1, rfl, I2, turn_zip3 k1 k2 k3 A2 A3 (show (N + 1 : Nat) ≠ N + 2 by omega), ⟨hz, hTI, ⟨_, _, _, hTO⟩, iter_new g1, iter_new g2, iter_new g3⟩, fun c hc => ?_, q⟩
        have hle : N ≤ c := by
          have e' : c = N + 5 ∨ c = N + 3 ∨ c = N + 4 ∨ c = N ∨ c = N + 1 ∨ c = N + 2 := by simpa using hc
          rcases e' with z | z | z | z | z | z
          · rw [z]; exact Nat.le_add_right _ _
          · rw [z]; exact Nat.le_add_right _ _
          · rw [z]; exact Nat.le_add_right _ _
          · rw [z]; exact Nat.le_refl _
          · rw [z]; exact Nat.le_add_right _ _
          · rw [z]; exact Nat.le_add_right _ _
        rw [← hN] at hle
        exact I1.fpOk hle (I1.hok.fresh hle)
/-! ### enumerate of a list or a tuple -/
set_option maxHeartbeats 1000000 in
theorem meets_enumerate_newS1 {v : Value} {o : Obj} {H : Heap → Prop} (B : Begins v o H) :
    Meets (Builtin.«enumerate.__new__» ⟨[.type "enumerate", v], []⟩) (fun _ R s => H s.heap ∧
      R (.ok (.ret (.ref (s.heap.push o).objs.size))) { s with heap := (s.heap.push o).push { cls := .type "enumerate", data := .fields #[.none, .bool false, .ref s.heap.objs.size, rawInt 0, .none, .none] } }) :=
  .of_wp fun prog w A R s h => by
    obtain ⟨hp, g, d, tk, os⟩ := s; obtain ⟨h1, h⟩ := h
    have hsub := sub_enumerate
    have q1 : ∀ {A' : Around} {E : Value → Shared → Prop} {Q : Value → Shared → Prop}, Q (.ref hp.objs.size) ⟨hp.push o, g, d, tk, os⟩ → wpAny (model prog w) A' (pyIter v) Q E ⟨hp, g, d, tk, os⟩ :=
      fun q => B.iter prog w _ _ ⟨hp, g, d, tk, os⟩ _ h1 q
    wp_walk using q1
    refine wpAny_stack_any fun st => wpAny_pure ?_
    split
    · rename_i c _ _ _ _ _
      cases (c == Value.type "enumerate")
      · wp_walk using q1
        exact ⟨_, rfl, h⟩
      · wp_walk using q1
        exact ⟨_, rfl, h⟩
    · wp_walk using q1
      exact ⟨_, rfl, h⟩
theorem enum_begins1 {prog : Program} {w : World} {A : Around} {E : Value → Shared → Prop} {s : Shared} {v : Value} {o : Obj} {H : Heap → Prop} {Q : Value → Shared → Prop} (B : Begins v o H) (h1 : H s.heap)
    (h : ∀ h', IsEnum h' (s.heap.objs.size + 1) s.heap.objs.size 0 .none → h'.get? s.heap.objs.size = some o → h'.objs.size = s.heap.objs.size + 2 →
      (∀ b o, s.heap.get? b = some o → h'.get? b = some o) → Q (.ref (s.heap.objs.size + 1)) { s with heap := h' }) :
    wpAny (model prog w) A (call (.type "enumerate") [v]) Q E s := by
  refine callType_new F.called_enumerate (by decide) (F.typeCall_enumerate_1 _) (F.newCall_enumerate_1 _) (fun obj => F.args_object_init_2 obj _) F.entry_enumerate_new
    (meets_enumerate_newS1 B) ⟨h1, ?_⟩
  have hz : (s.heap.push o).objs.size = s.heap.objs.size + 1 := Heap.size_push ..
  show _ ∧ _
  rw [hz]
  have he : IsEnum ((s.heap.push o).push { cls := .type "enumerate", data := .fields #[.none, .bool false, .ref s.heap.objs.size, rawInt 0, .none, .none] }) (s.heap.objs.size + 1) s.heap.objs.size 0 .none := by
    have := Heap.get?_push_size (s.heap.push o) (o := { cls := .type "enumerate", data := .fields #[.none, .bool false, .ref s.heap.objs.size, rawInt 0, .none, .none] }) rfl
    rw [hz] at this; exact this
  refine ⟨⟨_, he, rfl⟩, h _ he (Heap.get?_push_of_some _ (Heap.get?_push_size _ B.free)) (by rw [Heap.size_push, hz]) fun b o x => Heap.get?_push_of_some _ (Heap.get?_push_of_some _ x)⟩
def iEnumS (K : PySem.W.Frag) (ta : TA) : TI := fun σ H R => ta σ H fun vs H1 => ∃ a k xs, vs = [.ref a] ∧ SqS K H1 k a xs ∧ R (ItT xs.length (fun H => SqS K H k a xs) (valE xs)) H1
theorem pi_enumS {e : Expr} {ta : TA} (hg : Gl X "enumerate") (hm : X.mg "enumerate" = none) (ha : PA X [e] ta) (hs : starEach [e] X.env = [(false, eval e X.env)] := by rfl) :
    PI X (.Tuple elts kk tpos) (.Call (.Name "enumerate" p) [e] [] pos) (iEnumS X.K ta) := by
  refine ⟨fun pins s σ H R I h => ?_⟩
  refine Call_ (ld_blt I hg hm boot_enumerate (PyProof.Rows.callWith_type1 (thn (ha.run pos pins s σ H _ I h) fun us s1 ⟨vs, H1, I1, r1, q1⟩ => ?_) hs rfl))
  obtain ⟨a, k, xs, ex, hq, q⟩ := q1
  subst ex
  cases r1 with
  | cons r rr =>
    cases rr
    cases r
    obtain ⟨its, rv, p1, hz⟩ := inv_src I1 hq
    refine enum_begins1 (begins_src k a its.toArray) p1 fun h' he g1 hsz hk => wpAny_pyIter_enum he ?_
    have I2 : Inv X pins σ H1 { s1 with heap := h' } := I1.kept (t' := s1.toks) hk
    refine ⟨s1.heap.objs.size + 1, [s1.heap.objs.size + 1, s1.heap.objs.size], _, _, H1, rfl, I2, turn_enumS k (Nat.succ_ne_self _), ⟨⟨.none, he⟩, iter_new g1⟩, fun b hb => ?_, q⟩
    have e' : b = s1.heap.objs.size + 1 ∨ b = s1.heap.objs.size := by simpa using hb
    have hle : s1.heap.objs.size ≤ b := by
      rcases e' with z | z
      · rw [z]; exact Nat.le_add_right _ _
      · rw [z]; exact Nat.le_refl _
    exact I1.fpOk hle (I1.hok.fresh hle)
end
/-! ### over data -/
def seqF : D → Option (List D)
  | .lst xs => some xs
  | .kl xs => some xs
  | .tup xs => some xs
  | _ => none
def seqOf (m : MM) : D → Option (List D)
  | .lst xs => some xs
  | .kl xs => some xs
  | .tup xs => some xs
  | .adr a => match m a with
    | some (.lst xs) => some xs
    | _ => none
  | _ => none
def sideOf (m : MM) : D → MM → Prop
  | .adr a => fun m' => m' a = m a
  | _ => fun _ => True
section
variable {K : PySem.W.Frag} {H : Hp} {m : MM}
theorem seqF_rep {d : D} {xs : List D} {v : V} (h : Rep K H m d v) (e : seqF d = some xs) : ∃ k a vs, v = .ref a ∧ SqS K H k a vs ∧ Reps K H m xs vs ∧
    ∀ H' m', Ext H m H' m' → Rel K H m → SqS K H' k a vs ∧ Reps K H' m' xs vs := by
  cases d with
  | lst ds =>
    cases e
    unfold Rep at h
    obtain ⟨a, vs, h1, h2, h3⟩ := h
    exact ⟨.l, a, vs, h1, h2.sq, h3, fun H' m' e r => ⟨(e.sqM h2).sq, Reps.ext r e _ _ h3⟩⟩
  | kl ds =>
    cases e
    unfold Rep at h
    obtain ⟨a, vs, h1, h2, h3⟩ := h
    exact ⟨.l, a, vs, h1, h2.sq, h3, fun H' m' e r => ⟨(e.sqF h2).sq, Reps.ext r e _ _ h3⟩⟩
  | tup ds =>
    cases e
    unfold Rep at h
    obtain ⟨a, vs, h1, h2, h3⟩ := h
    exact ⟨.t, a, vs, h1, h2, h3, fun H' m' e r => ⟨e.sqT r h2, Reps.ext r e _ _ h3⟩⟩
  | _ => cases e
end
variable {X : Cx} {W : WX} {pos p tpos : Pos} {tg : Expr} {elts : List Expr} {kk : Nat}
def dSeqI (t : DE) : DI := fun ρ m Q X => t ρ m (fun d m1 => match seqOf m1 d with
  | some xs => Q xs (sideOf m1 d) m1
  | none => False) X
theorem di_seq {l : Expr} {t : DE} (hl : PEd X W l t) : PId X W tg l (dSeqI t) :=
  (pi_seq hl).to fun σ H R ⟨ρ, m, P, Px, he, hr, ht, hP, hX⟩ => by
    refine ⟨ρ, m, _, Px, he, hr, ht, fun d m1 v H1 q e1 r1 x1 => ?_, hX⟩
    cases d with
    | lst ds =>
      unfold Rep at x1
      obtain ⟨a, vs, h1, h2, h3⟩ := x1
      refine ⟨a, h1, .inl ⟨vs, h2.sq, hP ds _ m1 _ H1 q e1 r1 ⟨fun i d H m e r s hd => ?_, fun i d H2 m2 x H3 e r s hd hy => ?_, fun H m e r s => ?_⟩⟩⟩
      · obtain ⟨v, hv, _⟩ := Reps.get _ _ i d h3 hd
        exact ⟨vs, v, (e.sqM h2).sq, hv⟩
      · obtain ⟨rfl, hy⟩ := hy
        obtain ⟨v, hv, rv⟩ := Reps.get _ _ i d h3 hd
        have := hy vs (e.sqM h2).sq
        rw [hv] at this; cases this
        exact ⟨Ext.refl _ _, r, rv.ext r1 e _ _⟩
      · exact ⟨vs, (e.sqM h2).sq, Nat.le_of_eq (Reps.length _ _ h3)⟩
    | kl ds =>
      unfold Rep at x1
      obtain ⟨a, vs, h1, h2, h3⟩ := x1
      refine ⟨a, h1, .inl ⟨vs, h2.sq, hP ds _ m1 _ H1 q e1 r1 ⟨fun i d H m e r s hd => ?_, fun i d H2 m2 x H3 e r s hd hy => ?_, fun H m e r s => ?_⟩⟩⟩
      · obtain ⟨v, hv, _⟩ := Reps.get _ _ i d h3 hd
        exact ⟨vs, v, (e.sqF h2).sq, hv⟩
      · obtain ⟨rfl, hy⟩ := hy
        obtain ⟨v, hv, rv⟩ := Reps.get _ _ i d h3 hd
        have := hy vs (e.sqF h2).sq
        rw [hv] at this; cases this
        exact ⟨Ext.refl _ _, r, rv.ext r1 e _ _⟩
      · exact ⟨vs, (e.sqF h2).sq, Nat.le_of_eq (Reps.length _ _ h3)⟩
    | tup ds =>
      unfold Rep at x1
      obtain ⟨a, vs, h1, h2, h3⟩ := x1
      refine ⟨a, h1, .inr ⟨vs, h2, hP ds _ m1 _ H1 q e1 r1 ⟨fun i d H m e r s hd => ?_, fun i d H2 m2 x H3 e r s hd hy => ?_, fun H m e r s => ?_⟩⟩⟩
      · obtain ⟨v, hv, _⟩ := Reps.get _ _ i d h3 hd
        exact ⟨vs, v, e.sqT r1 h2, hv⟩
      · obtain ⟨rfl, hy⟩ := hy
        obtain ⟨v, hv, rv⟩ := Reps.get _ _ i d h3 hd
        have := hy vs (e.sqT r1 h2)
        rw [hv] at this; cases this
        exact ⟨Ext.refl _ _, r, rv.ext r1 e _ _⟩
      · exact ⟨vs, e.sqT r1 h2, Nat.le_of_eq (Reps.length _ _ h3)⟩
    | adr a =>
      unfold Rep at x1
      have q' : (match (match m1 a with | some (.lst xs) => some xs | _ => none : Option (List D)) with | some xs => P xs (fun m' => m' a = m1 a) m1 | none => False) := q
      cases hm : m1 a with
      | none => rw [hm] at q'; exact q'.elim
      | some o =>
        rw [hm] at q'
        cases o with
        | lst ds =>
          have q2 : P ds (fun m' => m' a = some (.lst ds)) m1 := q'
          obtain ⟨vs, h2, h3⟩ := r1 a _ hm
          refine ⟨a, x1, .inl ⟨vs, SqL.of h2, hP ds _ m1 _ H1 q2 e1 r1 ⟨fun i d H m e r s hd => ?_, fun i d H2 m2 x H3 e r s hd hy => ?_, fun H m e r s => ?_⟩⟩⟩
          · obtain ⟨us, g2, g3⟩ := r a _ s
            obtain ⟨v, hv, _⟩ := Reps.get _ _ i d g3 hd
            exact ⟨us, v, SqL.of g2, hv⟩
          · obtain ⟨rfl, hy⟩ := hy
            obtain ⟨us, g2, g3⟩ := r a _ s
            obtain ⟨v, hv, rv⟩ := Reps.get _ _ i d g3 hd
            have := hy us (SqL.of g2)
            rw [hv] at this; cases this
            exact ⟨Ext.refl _ _, r, rv⟩
          · obtain ⟨us, g2, g3⟩ := r a _ s
            exact ⟨us, SqL.of g2, Nat.le_of_eq (Reps.length _ _ g3)⟩
        | _ => exact q'.elim
    | _ => exact q.elim
/-- range(j) -/
def rngD (lo : Int) (n : Nat) : List D := (List.range n).map fun (i : Nat) => .int (lo + (i : Int))
theorem rng_yields {K : PySem.W.Frag} {H : Hp} {m : MM} (lo : Int) (n : Nat) : Yields K H m (rngD lo n) (fun _ => True) (Itr lo n) := by
  refine ⟨fun i d H m e r s hd => ?_, fun i d H2 m2 x H3 e r s hd hy => ?_, fun H m e r s => ?_⟩
  · have := (List.getElem?_eq_some_iff.mp hd).1
    exact (show i < n by unfold rngD at this; simpa using this)
  · obtain ⟨rfl, rfl⟩ := hy
    have hl := (List.getElem?_eq_some_iff.mp hd).1
    unfold rngD at hd hl
    rw [List.getElem?_map, List.getElem?_range (by simpa using hl)] at hd
    cases hd
    exact ⟨Ext.refl _ _, r, by unfold Rep; rfl⟩
  · show n ≤ (rngD lo n).length
    unfold rngD; simp
def dRng1 (t : DA) : DI := fun ρ m Q X => t ρ m (fun ds m1 => match ds with
  | [.int j] => (-(2 ^ 62) ≤ j ∧ j < 2 ^ 62) ∧ Q (rngD 0 j.toNat) (fun _ => True) m1
  | _ => False) X
def dRng2 (t : DA) : DI := fun ρ m Q X => t ρ m (fun ds m1 => match ds with
  | [.int i, .int j] => (-(2 ^ 62) ≤ i ∧ i < 2 ^ 62 ∧ -(2 ^ 62) ≤ j ∧ j < 2 ^ 62) ∧ Q (rngD i (j - i).toNat) (fun _ => True) m1
  | _ => False) X
theorem di_rng1 {a : Expr} {t : DA} (hg : Gl X "range") (hm : X.mg "range" = none) (ha : PAd X W [a] t) (hs : starEach [a] X.env = [(false, eval a X.env)] := by rfl) : PId X W tg (.Call (.Name "range" p) [a] [] pos) (dRng1 t) :=
  (pi_range1 hg hm ha hs).to fun σ H R ⟨ρ, m, P, Px, he, hr, ht, hP, hX⟩ => by
    refine ⟨ρ, m, _, Px, he, hr, ht, fun ds m1 vs H1 q e1 r1 x1 => ?_, hX⟩
    match ds, q, x1 with
    | [.int j], q, x1 =>
      unfold Reps at x1
      obtain ⟨v, s, rfl, y1, z1⟩ := x1
      unfold Reps at z1
      unfold Rep at y1
      subst z1 y1
      exact ⟨j, rfl, q.1.1, q.1.2, hP _ _ m1 _ H1 q.2 e1 r1 (rng_yields 0 j.toNat)⟩
theorem di_rng2 {a b : Expr} {t : DA} (hg : Gl X "range") (hm : X.mg "range" = none) (ha : PAd X W [a, b] t) (hs : starEach [a, b] X.env = [(false, eval a X.env), (false, eval b X.env)] := by rfl) (hs2 : starEach [b] X.env = [(false, eval b X.env)] := by rfl) : PId X W tg (.Call (.Name "range" p) [a, b] [] pos) (dRng2 t) :=
  (pi_range2 hg hm ha hs hs2).to fun σ H R ⟨ρ, m, P, Px, he, hr, ht, hP, hX⟩ => by
    refine ⟨ρ, m, _, Px, he, hr, ht, fun ds m1 vs H1 q e1 r1 x1 => ?_, hX⟩
    match ds, q, x1 with
    | [.int i, .int j], q, x1 =>
      unfold Reps at x1
      obtain ⟨v, s, rfl, y1, z1⟩ := x1
      unfold Reps at z1
      obtain ⟨v2, s2, rfl, y2, z2⟩ := z1
      unfold Reps at z2
      unfold Rep at y1 y2
      subst z2 y1 y2
      exact ⟨i, j, rfl, q.1, hP _ _ m1 _ H1 q.2 e1 r1 (rng_yields i (j - i).toNat)⟩
theorem itT_yields {K : PySem.W.Frag} {H : Hp} {m : MM} {n : Nat} {S : Hp → Prop} {val : Nat → List V → Prop} {items : List D} (hl : items.length = n) (hS : ∀ H' m', Ext H m H' m' → Rel K H' m' → S H')
    (hv : ∀ (i : Nat) d vs H' m', Ext H m H' m' → items[i]? = some d → val i vs → ∃ ds, d = .tup ds ∧ Reps K H' m' ds vs) : Yields K H m items (fun _ => True) (ItT n S val) := by
  refine ⟨fun i d H m e r s hd => ⟨?_, hS H m e r⟩, fun i d H2 m2 x H3 e r s hd hy => ?_, fun H m e r s => ⟨hl, hS H m e r⟩⟩
  · rw [← hl]; exact (List.getElem?_eq_some_iff.mp hd).1
  · obtain ⟨T, vs, rfl, hT, rfl, hv'⟩ := hy
    obtain ⟨ds, rfl, hd'⟩ := hv i d vs H2 m2 e hd hv'
    exact ⟨Ext.laid T _ hT, r.laid T _ hT, new_tup r hd' hT⟩
def zip2D (xs ys : List D) : List D := List.zipWith (fun x y => .tup [x, y]) xs ys
def dZip2 (t : DA) : DI := fun ρ m Q X => t ρ m (fun ds m1 => match ds with
  | [a, b] => (match seqF a, seqF b with
    | some xs, some ys => Q (zip2D xs ys) (fun _ => True) m1
    | _, _ => False)
  | _ => False) X
theorem zip_get {xs ys : List D} {i : Nat} {d : D} (h : (zip2D xs ys)[i]? = some d) : ∃ x y, xs[i]? = some x ∧ ys[i]? = some y ∧ d = .tup [x, y] := by
  unfold zip2D at h
  rw [List.getElem?_zipWith] at h
  cases hx : xs[i]? with
  | none => rw [hx] at h; cases h
  | some x =>
    cases hy : ys[i]? with
    | none => rw [hx, hy] at h; cases h
    | some y => rw [hx, hy] at h; exact ⟨x, y, rfl, rfl, (Option.some.inj h).symm⟩
theorem di_zip2 {a b : Expr} {t : DA} (hg : Gl X "zip") (hm : X.mg "zip" = none) (ha : PAd X W [a, b] t)
    (hs : starEach [a, b] X.env = (false, eval a X.env) :: starEach [b] X.env := by rfl) (hpl : (backTo pos (starEach [b] X.env)).any (·.1) = false := by rfl) : PId X W (.Tuple elts kk tpos) (.Call (.Name "zip" p) [a, b] [] pos) (dZip2 t) :=
  (pi_zip2 hg hm ha hs hpl).to fun σ H R ⟨ρ, m, P, Px, he, hr, ht, hP, hX⟩ => by
    refine ⟨ρ, m, _, Px, he, hr, ht, fun ds m1 vs H1 q e1 r1 x1 => ?_, hX⟩
    match ds, q, x1 with
    | [a, b], q, x1 =>
      unfold Reps at x1
      obtain ⟨v, s, rfl, y1, z1⟩ := x1
      unfold Reps at z1
      obtain ⟨v2, s2, rfl, y2, z2⟩ := z1
      unfold Reps at z2
      subst z2
      have q' : (match seqF a, seqF b with | some xs, some ys => P (zip2D xs ys) (fun _ => True) m1 | _, _ => False) := q
      cases ha : seqF a with
      | none => rw [ha] at q'; exact q'.elim
      | some xs =>
        cases hb : seqF b with
        | none => rw [ha, hb] at q'; exact q'.elim
        | some ys =>
          rw [ha, hb] at q'
          obtain ⟨k1, a1, vs1, rfl, g1, f1, n1⟩ := seqF_rep y1 ha
          obtain ⟨k2, a2, vs2, rfl, g2, f2, n2⟩ := seqF_rep y2 hb
          refine ⟨a1, a2, k1, k2, vs1, vs2, rfl, g1, g2, hP _ _ m1 _ H1 q' e1 r1 (itT_yields ?_ (fun H' m' e r => ⟨(n1 H' m' e r1).1, (n2 H' m' e r1).1⟩) fun i d vs H' m' e hd hv => ?_)⟩
          · unfold zip2D; rw [List.length_zipWith, Reps.length _ _ f1, Reps.length _ _ f2]
          · obtain ⟨x, y, hx, hy, rfl⟩ := zip_get hd
            obtain ⟨u1, u2, h1, h2, rfl⟩ := hv
            obtain ⟨w1, hw1, rw1⟩ := Reps.get _ _ i x (n1 H' m' e r1).2 hx
            obtain ⟨w2, hw2, rw2⟩ := Reps.get _ _ i y (n2 H' m' e r1).2 hy
            rw [h1] at hw1; cases hw1
            rw [h2] at hw2; cases hw2
            exact ⟨[x, y], rfl, .cons rw1 (.cons rw2 .nil)⟩
def zip3D (xs ys zs : List D) : List D := List.zipWith (fun x p => match p with
  | .tup [y, z] => .tup [x, y, z]
  | _ => .non) xs (zip2D ys zs)
def dZip3 (t : DA) : DI := fun ρ m Q X => t ρ m (fun ds m1 => match ds with
  | [a, b, c] => (match seqF a, seqF b, seqF c with
    | some xs, some ys, some zs => Q (zip3D xs ys zs) (fun _ => True) m1
    | _, _, _ => False)
  | _ => False) X
theorem zip3_get {xs ys zs : List D} {i : Nat} {d : D} (h : (zip3D xs ys zs)[i]? = some d) : ∃ x y z, xs[i]? = some x ∧ ys[i]? = some y ∧ zs[i]? = some z ∧ d = .tup [x, y, z] := by
  unfold zip3D at h
  rw [List.getElem?_zipWith] at h
  cases hx : xs[i]? with
  | none => rw [hx] at h; cases h
  | some x =>
    cases hy : (zip2D ys zs)[i]? with
    | none => rw [hx, hy] at h; cases h
    | some p =>
      rw [hx, hy] at h
      obtain ⟨y, z, h1, h2, rfl⟩ := zip_get hy
      exact ⟨x, y, z, rfl, h1, h2, (Option.some.inj h).symm⟩
theorem di_zip3 {a b c : Expr} {t : DA} (hg : Gl X "zip") (hm : X.mg "zip" = none) (ha : PAd X W [a, b, c] t)
    (hs : starEach [a, b, c] X.env = (false, eval a X.env) :: starEach [b, c] X.env := by rfl) (hpl : (backTo pos (starEach [b, c] X.env)).any (·.1) = false := by rfl) : PId X W (.Tuple elts kk tpos) (.Call (.Name "zip" p) [a, b, c] [] pos) (dZip3 t) :=
  (pi_zip3 hg hm ha hs hpl).to fun σ H R ⟨ρ, m, P, Px, he, hr, ht, hP, hX⟩ => by
    refine ⟨ρ, m, _, Px, he, hr, ht, fun ds m1 vs H1 q e1 r1 x1 => ?_, hX⟩
    match ds, q, x1 with
    | [a, b, c], q, x1 =>
      unfold Reps at x1
      obtain ⟨v, s, rfl, y1, z1⟩ := x1
      unfold Reps at z1
      obtain ⟨v2, s2, rfl, y2, z2⟩ := z1
      unfold Reps at z2
      obtain ⟨v3, s3, rfl, y3, z3⟩ := z2
      unfold Reps at z3
      subst z3
      have q' : (match seqF a, seqF b, seqF c with | some xs, some ys, some zs => P (zip3D xs ys zs) (fun _ => True) m1 | _, _, _ => False) := q
      cases ha : seqF a with
      | none => rw [ha] at q'; exact q'.elim
      | some xs =>
        cases hb : seqF b with
        | none => rw [ha, hb] at q'; exact q'.elim
        | some ys =>
          cases hc : seqF c with
          | none => rw [ha, hb, hc] at q'; exact q'.elim
          | some zs =>
            rw [ha, hb, hc] at q'
            obtain ⟨k1, a1, vs1, rfl, g1, f1, n1⟩ := seqF_rep y1 ha
            obtain ⟨k2, a2, vs2, rfl, g2, f2, n2⟩ := seqF_rep y2 hb
            obtain ⟨k3, a3, vs3, rfl, g3, f3, n3⟩ := seqF_rep y3 hc
            refine ⟨a1, a2, a3, k1, k2, k3, vs1, vs2, vs3, rfl, g1, g2, g3, hP _ _ m1 _ H1 q' e1 r1 (itT_yields ?_ (fun H' m' e r => ⟨(n1 H' m' e r1).1, (n2 H' m' e r1).1, (n3 H' m' e r1).1⟩) fun i d vs H' m' e hd hv => ?_)⟩
            · unfold zip3D zip2D; rw [List.length_zipWith, List.length_zipWith, Reps.length _ _ f1, Reps.length _ _ f2, Reps.length _ _ f3, Nat.min_assoc]
            · obtain ⟨x, y, z, hx, hy, hz, rfl⟩ := zip3_get hd
              obtain ⟨u1, u2, u3, h1, h2, h3, rfl⟩ := hv
              obtain ⟨w1, hw1, rw1⟩ := Reps.get _ _ i x (n1 H' m' e r1).2 hx
              obtain ⟨w2, hw2, rw2⟩ := Reps.get _ _ i y (n2 H' m' e r1).2 hy
              obtain ⟨w3, hw3, rw3⟩ := Reps.get _ _ i z (n3 H' m' e r1).2 hz
              rw [h1] at hw1; cases hw1
              rw [h2] at hw2; cases hw2
              rw [h3] at hw3; cases hw3
              exact ⟨[x, y, z], rfl, .cons rw1 (.cons rw2 (.cons rw3 .nil))⟩
def enumFrom (i : Nat) : List D → List D
  | [] => []
  | x :: xs => .tup [.int (i : Nat), x] :: enumFrom (i + 1) xs
theorem enum_get : ∀ {xs : List D} {k i : Nat} {d : D}, (enumFrom k xs)[i]? = some d → ∃ x, xs[i]? = some x ∧ d = .tup [.int ((k + i : Nat)), x]
  | [], k, i, d, h => by simp [enumFrom] at h
  | x :: xs, k, 0, d, h => by
    simp [enumFrom] at h; exact ⟨x, rfl, h.symm⟩
  | x :: xs, k, i + 1, d, h => by
    obtain ⟨y, h1, h2⟩ := enum_get (xs := xs) (k := k + 1) (i := i) (d := d) (by simpa [enumFrom] using h)
    exact ⟨y, by simpa using h1, by rw [h2, show k + 1 + i = k + (i + 1) by omega]⟩
theorem enum_len : ∀ (xs : List D) (k : Nat), (enumFrom k xs).length = xs.length
  | [], _ => rfl
  | x :: xs, k => by simp [enumFrom, enum_len xs (k + 1)]
def dEnum (t : DA) : DI := fun ρ m Q X => t ρ m (fun ds m1 => match ds with
  | [a] => (match seqF a with
    | some xs => Q (enumFrom 0 xs) (fun _ => True) m1
    | none => False)
  | _ => False) X
theorem di_enum {a : Expr} {t : DA} (hg : Gl X "enumerate") (hm : X.mg "enumerate" = none) (ha : PAd X W [a] t) (hs : starEach [a] X.env = [(false, eval a X.env)] := by rfl) : PId X W (.Tuple elts kk tpos) (.Call (.Name "enumerate" p) [a] [] pos) (dEnum t) :=
  (pi_enumS hg hm ha hs).to fun σ H R ⟨ρ, m, P, Px, he, hr, ht, hP, hX⟩ => by
    refine ⟨ρ, m, _, Px, he, hr, ht, fun ds m1 vs H1 q e1 r1 x1 => ?_, hX⟩
    match ds, q, x1 with
    | [a], q, x1 =>
      unfold Reps at x1
      obtain ⟨v, s, rfl, y1, z1⟩ := x1
      unfold Reps at z1
      subst z1
      have q' : (match seqF a with | some xs => P (enumFrom 0 xs) (fun _ => True) m1 | none => False) := q
      cases ha : seqF a with
      | none => rw [ha] at q'; exact q'.elim
      | some xs =>
        rw [ha] at q'
        obtain ⟨k1, a1, vs1, rfl, g1, f1, n1⟩ := seqF_rep y1 ha
        refine ⟨a1, k1, vs1, rfl, g1, hP _ _ m1 _ H1 q' e1 r1 (itT_yields ?_ (fun H' m' e r => (n1 H' m' e r1).1) fun i d vs H' m' e hd hv => ?_)⟩
        · rw [enum_len, Reps.length _ _ f1]
        · obtain ⟨x, hx, rfl⟩ := enum_get hd
          obtain ⟨u1, h1, rfl⟩ := hv
          obtain ⟨w1, hw1, rw1⟩ := Reps.get _ _ i x (n1 H' m' e r1).2 hx
          rw [h1] at hw1; cases hw1
          exact ⟨_, rfl, .cons (by unfold Rep; rw [Nat.zero_add]) (.cons rw1 .nil)⟩
end Y
/-! Y6: comprehensions over data. -/
namespace Y
open PySem PySem.Spec PyProof.Rows L2
/-! ### targets by shape -/
inductive Tg where
  | nm (i : Nat)
  | tp (l : List Tg)
mutual
def Tg.g (K : PySem.W.Frag) : Tg → TG
  | .nm i => gName i
  | .tp l => gTup K l.length (Tgs.g K l)
def Tgs.g (K : PySem.W.Frag) : List Tg → TGs
  | [] => gNil
  | t :: r => gCons (Tg.g K t) (Tgs.g K r)
end
mutual
def Tg.d : Tg → D → Env → Option Env
  | .nm i, d, ρ => some (ρ.set i (some d))
  | .tp l, .tup ds, ρ => Tgs.d l ds ρ
  | .tp _, _, _ => none
def Tgs.d : List Tg → List D → Env → Option Env
  | [], [], ρ => some ρ
  | t :: r, d :: ds, ρ => match Tg.d t d ρ with
    | some ρ1 => Tgs.d r ds ρ1
    | none => none
  | _, _, _ => none
end
mutual
def Tg.slots : Tg → List Nat
  | .nm i => [i]
  | .tp l => Tgs.slots l
def Tgs.slots : List Tg → List Nat
  | [] => []
  | t :: r => Tg.slots t ++ Tgs.slots r
end
theorem Tgs.d_len : ∀ {l : List Tg} {ds : List D} {ρ ρ' : Env}, Tgs.d l ds ρ = some ρ' → ds.length = l.length
  | [], [], _, _, _ => rfl
  | [], _ :: _, _, _, h => by simp [Tgs.d] at h
  | _ :: _, [], _, _, h => by simp [Tgs.d] at h
  | t :: r, d :: ds, ρ, ρ', h => by
    unfold Tgs.d at h
    cases e : Tg.d t d ρ with
    | none => rw [e] at h; cases h
    | some ρ1 => rw [e] at h; simp [Tgs.d_len h]
theorem wipe_set (σ : L2.St) (i : Nat) (x : Option V) : ∀ vs : List Nat, wipe (σ.set i x) vs = if i ∈ vs then wipe σ vs else (wipe σ vs).set i x
  | [] => by simp [wipe]
  | v :: vs => by
    unfold wipe
    rw [wipe_set σ i x vs]
    by_cases h : i ∈ vs
    · rw [if_pos h, if_pos (List.mem_cons_of_mem _ h)]
    · rw [if_neg h]
      by_cases e : i = v
      · subst e
        rw [if_pos List.mem_cons_self, List.set_set]
      · rw [if_neg (by simp only [List.mem_cons, not_or]; exact ⟨e, h⟩), List.set_comm _ _ e]
theorem wipe_same {σ : L2.St} {i : Nat} {x : Option V} {vs : List Nat} (h : i ∈ vs) : wipe (σ.set i x) vs = wipe σ vs := by rw [wipe_set, if_pos h]
def wipeD (ρ : Env) : List Nat → Env
  | [] => ρ
  | v :: vs => (wipeD ρ vs).set v none
theorem wipe_get {σ : L2.St} {i : Nat} : ∀ {vs : List Nat}, i ∉ vs → (wipe σ vs)[i]? = σ[i]?
  | [], _ => rfl
  | v :: vs, h => by
    simp only [List.mem_cons, not_or] at h
    unfold wipe
    rw [List.getElem?_set_ne (fun e => h.1 e.symm)]
    exact wipe_get h.2
theorem wipeD_some {ρ : Env} {i : Nat} {d : D} : ∀ {vs : List Nat}, (wipeD ρ vs)[i]? = some (some d) → ρ[i]? = some (some d) ∧ i ∉ vs
  | [], h => ⟨h, by simp⟩
  | v :: vs, h => by
    unfold wipeD at h
    by_cases hi : v = i
    · subst hi
      by_cases hv : v < (wipeD ρ vs).length
      · rw [List.getElem?_set_self hv] at h; cases h
      · rw [List.getElem?_eq_none (by simpa using hv)] at h; cases h
    · rw [List.getElem?_set_ne hi] at h
      obtain ⟨h1, h2⟩ := wipeD_some h
      exact ⟨h1, by simp only [List.mem_cons, not_or]; exact ⟨fun e => hi e.symm, h2⟩⟩
theorem wipeD_len (ρ : Env) : ∀ vs : List Nat, (wipeD ρ vs).length = ρ.length
  | [] => rfl
  | v :: vs => by unfold wipeD; rw [List.length_set, wipeD_len ρ vs]
theorem EnvR.wipe {K : PySem.W.Frag} {H : Hp} {m : MM} {ρ : Env} {σ : L2.St} (h : EnvR K H m ρ σ) (vs : List Nat) : EnvR K H m (wipeD ρ vs) (L2.wipe σ vs) := by
  refine ⟨by rw [wipeD_len, wipe_length, h.1], fun i d q => ?_⟩
  obtain ⟨h1, h2⟩ := wipeD_some q
  obtain ⟨v, a, b⟩ := h.2 i d h1
  exact ⟨v, by rw [wipe_get h2]; exact a, b⟩
section
variable {K : PySem.W.Frag} {H : Hp} {m : MM} {vs : List Nat}
mutual
theorem Tg.run : ∀ (t : Tg) (d : D) (v : V) (ρ ρ' : Env) (σ : L2.St) (Q : L2.St → Hp → Prop), EnvR K H m ρ σ → Rep K H m d v → Tg.d t d ρ = some ρ' → (∀ i ∈ t.slots, i ∈ vs) →
    (∀ σ', EnvR K H m ρ' σ' → wipe σ' vs = wipe σ vs → Q σ' H) → Tg.g K t v σ H Q
  | .nm i, d, v, ρ, ρ', σ, Q, he, hd, ht, hs, hQ => by
    unfold Tg.d at ht
    cases ht
    exact hQ _ (he.set i hd) (wipe_same (hs i (by simp [Tg.slots])))
  | .tp l, .tup ds, v, ρ, ρ', σ, Q, he, hd, ht, hs, hQ => by
    unfold Tg.d at ht
    unfold Rep at hd
    obtain ⟨a, us, h1, h2, h3⟩ := hd
    unfold Tg.g
    exact ⟨a, us, h1, h2, (Reps.length _ _ h3).trans (Tgs.d_len ht), Tgs.run l ds us ρ ρ' σ Q he h3 ht (fun i hi => hs i (by unfold Tg.slots; exact hi)) hQ⟩
  | .tp l, .non, v, ρ, ρ', σ, Q, he, hd, ht, hs, hQ => by simp [Tg.d] at ht
  | .tp l, .bl _, v, ρ, ρ', σ, Q, he, hd, ht, hs, hQ => by simp [Tg.d] at ht
  | .tp l, .int _, v, ρ, ρ', σ, Q, he, hd, ht, hs, hQ => by simp [Tg.d] at ht
  | .tp l, .str _, v, ρ, ρ', σ, Q, he, hd, ht, hs, hQ => by simp [Tg.d] at ht
  | .tp l, .ty _, v, ρ, ρ', σ, Q, he, hd, ht, hs, hQ => by simp [Tg.d] at ht
  | .tp l, .adr _, v, ρ, ρ', σ, Q, he, hd, ht, hs, hQ => by simp [Tg.d] at ht
  | .tp l, .lst _, v, ρ, ρ', σ, Q, he, hd, ht, hs, hQ => by simp [Tg.d] at ht
  | .tp l, .kl _, v, ρ, ρ', σ, Q, he, hd, ht, hs, hQ => by simp [Tg.d] at ht
theorem Tgs.run : ∀ (l : List Tg) (ds : List D) (us : List V) (ρ ρ' : Env) (σ : L2.St) (Q : L2.St → Hp → Prop), EnvR K H m ρ σ → Reps K H m ds us → Tgs.d l ds ρ = some ρ' → (∀ i ∈ Tgs.slots l, i ∈ vs) →
    (∀ σ', EnvR K H m ρ' σ' → wipe σ' vs = wipe σ vs → Q σ' H) → Tgs.g K l us σ H Q
  | [], [], us, ρ, ρ', σ, Q, he, hd, ht, hs, hQ => by
    unfold Tgs.d at ht
    cases ht
    unfold Reps at hd
    unfold Tgs.g
    exact ⟨hd, hQ σ he rfl⟩
  | [], _ :: _, us, ρ, ρ', σ, Q, he, hd, ht, hs, hQ => by simp [Tgs.d] at ht
  | _ :: _, [], us, ρ, ρ', σ, Q, he, hd, ht, hs, hQ => by simp [Tgs.d] at ht
  | t :: r, d :: ds, us, ρ, ρ', σ, Q, he, hd, ht, hs, hQ => by
    unfold Tgs.d at ht
    unfold Reps at hd
    obtain ⟨v, s, h1, h2, h3⟩ := hd
    unfold Tgs.g
    cases e : Tg.d t d ρ with
    | none => rw [e] at ht; cases ht
    | some ρ1 =>
      rw [e] at ht
      refine ⟨v, s, h1, Tg.run t d v ρ ρ1 σ _ he h2 e (fun i hi => hs i (by unfold Tgs.slots; exact List.mem_append_left _ hi)) fun σ1 he1 w1 => ?_⟩
      exact Tgs.run r ds s ρ1 ρ' σ1 Q he1 h3 ht (fun i hi => hs i (by unfold Tgs.slots; exact List.mem_append_right _ hi)) fun σ2 he2 w2 => hQ σ2 he2 (w2.trans w1)
end
end
section
variable {X : Cx} {W : WX} {pos : Pos}
theorem tg_name {i : Nat} {x : Str} (hN : X.N.Nodup) (hi : X.N[i]? = some x) (hx : Loc X.env.scope x) (hf : X.fn x = true ∨ X.env.scope.names.lookup x = some .local := by first | exact .inl rfl | exact .inr rfl | assumption) : PG X (.Name x pos) (Tg.g X.K (.nm i)) := by
  unfold Tg.g; exact pg_name hN hi hx hf
theorem tgs_nil : PGs X [] (Tgs.g X.K []) := by unfold Tgs.g; exact pgs_nil
theorem tgs_cons {e : Expr} {es : List Expr} {t : Tg} {l : List Tg} (h1 : PG X e (Tg.g X.K t)) (h2 : PGs X es (Tgs.g X.K l)) (hs : (assignEach (e :: es) X.env).map (·.2) = assign e X.env :: (assignEach es X.env).map (·.2) := by rfl) : PGs X (e :: es) (Tgs.g X.K (t :: l)) := by
  unfold Tgs.g; exact pgs_cons h1 h2 hs
theorem tg_tup {es : List Expr} {k : Nat} {l : List Tg} (hc : X.calm = true) (h : PGs X es (Tgs.g X.K l)) (hn : (assignEach es X.env).length = l.length := by rfl) (hst : (assignEach es X.env).findIdx? (·.1) = none := by rfl) : PG X (.Tuple es k pos) (Tg.g X.K (.tp l)) := by
  unfold Tg.g; exact pg_tup hc h hn hst
/-- a target by its shape, over data -/
def dT (t : Tg) : DG := fun d ρ m Q => match Tg.d t d ρ with
  | some ρ' => Q ρ' m
  | none => False
theorem dg_tg {e : Expr} {t : Tg} (h : PG X e (Tg.g X.K t)) : PGd X e (dT t) :=
  h.to fun v σ H Q ⟨d, ρ, m, P, he, hr, hd, hg, hP⟩ => by
    unfold dT at hg
    cases e : Tg.d t d ρ with
    | none => rw [e] at hg; exact hg.elim
    | some ρ' =>
      rw [e] at hg
      exact Tg.run (vs := t.slots) t d v ρ ρ' σ Q he hd e (fun _ h => h) fun σ' he' _ => hP ρ' m σ' H hg (Ext.refl _ _) hr he'
/-! ### list comprehensions -/
def xF : XC := fun _ _ _ => False
def W0 : WX := fun _ _ _ _ => False
theorem aft0 {K : PySem.W.Frag} {σ : L2.St} {H : Hp} {m : MM} : AftX K W0 σ H m xF := fun _ _ _ _ _ h => h.elim
abbrev PTsd (X : Cx) (W : WX) (ifs : List Expr) (t : DT) : Prop := PTs X ifs (liftT X.K W t)
def dYes : DT := fun _ m Q _ => Q true m
theorem dts_nil : PTsd X W [] dYes := ⟨fun pins s σ H Q I ⟨ρ, m, P, Px, he, hr, ht, hP, hX⟩ => pts_nil.run pins s σ H Q I (hP true m H ht (Ext.refl _ _) hr)⟩
theorem dts_one {c : Expr} {t : DT} (h : PTd X W c t) : PTsd X W [c] t := pts_one h
def lcRec (tg : Tg) (tt : DT) (te : DE) (ρ : Env) (p : Addr) (side : MM → Prop) (K : List D → MM → Prop) : List D → List D → MM → Prop
  | [], acc, m => side m ∧ m p = some (.lst acc) ∧ K acc m
  | d :: r, acc, m => side m ∧ m p = some (.lst acc) ∧ match Tg.d tg d ρ with
    | some ρ1 => tt ρ1 m (fun b m1 => if b = true then te ρ1 m1 (fun e m2 => m2 p = some (.lst acc) ∧ acc.length < sizeLine ∧ lcRec tg tt te ρ p side K r (acc ++ [e]) (mset m2 p (.lst (acc ++ [e])))) xF
        else lcRec tg tt te ρ p side K r acc m1) xF
    | none => False
def dLCr (ti : DI) (tg : Tg) (tt : DT) (te : DE) (vs : List Nat) (fin : Addr → List D → MM → (D → MM → Prop) → Prop) : DE := fun ρ m Q X => ti ρ m (fun items side m1 => ∀ p, m1 p = none →
  lcRec tg tt te (wipeD ρ vs) p side (fun acc m2 => fin p acc m2 Q) items [] (mset m1 p (.lst []))) X
/-- the list is read alone from now on -/
def finF (p : Addr) (acc : List D) (m : MM) (Q : D → MM → Prop) : Prop := Q (.lst acc) (mdel m p)
/-- the list may change -/
def finM (p : Addr) (_acc : List D) (m : MM) (Q : D → MM → Prop) : Prop := Q (.adr p) m
abbrev dLC (ti : DI) (tg : Tg) (tt : DT) (te : DE) (vs : List Nat) : DE := dLCr ti tg tt te vs finF
abbrev dLCM (ti : DI) (tg : Tg) (tt : DT) (te : DE) (vs : List Nat) : DE := dLCr ti tg tt te vs finM
theorem lift_lc {ti : DI} {tg : Tg} {tt : DT} {te : DE} {vs : List Nat} {fin : Addr → List D → MM → (D → MM → Prop) → Prop} (hs : ∀ i ∈ tg.slots, i ∈ vs)
    (hfin : ∀ (K : PySem.W.Frag) H p acc m Q, Rel K H m → m p = some (.lst acc) → fin p acc m Q → ∃ d m', Q d m' ∧ Ext H m H m' ∧ Rel K H m' ∧ Rep K H m' d (.ref p))
    {σ : L2.St} {H : Hp} {Q : VK} (h : liftE X.K W (dLCr ti tg tt te vs fin) σ H Q) : tLc (liftI X.K W ti) (Tg.g X.K tg) (liftT X.K W0 tt) (liftE X.K W0 te) vs σ H Q := by
  obtain ⟨ρ, m, P, Px, he, hr, ht, hP, hX⟩ := h
  refine ⟨ρ, m, _, Px, he, hr, ht, fun items side m1 J H1 q e1 r1 y => ?_, hX⟩
  intro p hp
  have q0 := q p (r1.free hp)
  refine ⟨fun i n H2 => n = items.length - i ∧ i ≤ items.length ∧ ∃ m2 acc, Ext H1 m1 H2 m2 ∧ Rel X.K H2 m2 ∧ m2 p = some (.lst acc) ∧ lcRec tg tt te (wipeD ρ vs) p side (fun acc m2 => fin p acc m2 P) (items.drop i) acc m2,
    ⟨_, rfl, Nat.zero_le _, _, [], Ext.made hp, new_lstM r1 Reps.nil hp, mset_same, q0⟩, ?_⟩
  rintro i n H2 ⟨rfl, hle, m2, acc, e2, r2, a2, q2⟩
  cases hd : items[i]? with
  | none =>
    have hl : items.length ≤ i := List.getElem?_eq_none_iff.mp hd
    rw [List.drop_eq_nil_of_le hl] at q2
    unfold lcRec at q2
    obtain ⟨s2, _, q2⟩ := q2
    refine .inl ⟨by rw [Nat.le_antisymm hle hl]; exact y.stop H2 m2 e2 r2 s2, ?_⟩
    obtain ⟨d, m', hq, e3, r3, x3⟩ := hfin X.K H2 p acc m2 P r2 a2 q2
    exact hP d m' _ H2 hq ((e1.trans e2).trans e3) r3 x3
  | some d =>
    obtain ⟨hl, hd'⟩ := List.getElem?_eq_some_iff.mp hd
    rw [List.drop_eq_getElem_cons hl, hd'] at q2
    unfold lcRec at q2
    obtain ⟨s2, _, q2⟩ := q2
    refine .inr ⟨y.go i d H2 m2 e2 r2 s2 hd, fun H3 => ∃ m3 acc, Ext H1 m1 H3 m3 ∧ Rel X.K H3 m3 ∧ m3 p = some (.lst acc) ∧ lcRec tg tt te (wipeD ρ vs) p side (fun acc m2 => fin p acc m2 P) (items.drop (i + 1)) acc m3,
      fun H3 ⟨m3, acc, e3, r3, a3, q3⟩ => ⟨_, by omega, rfl, hl, m3, acc, e3, r3, a3, q3⟩, fun x H3 hy => ?_⟩
    obtain ⟨e3, r3, x3⟩ := y.yld i d H2 m2 x H3 e2 r2 s2 hd hy
    cases ht2 : Tg.d tg d (wipeD ρ vs) with
    | none => rw [ht2] at q2; exact q2.elim
    | some ρ1 =>
      rw [ht2] at q2
      have v3 : EnvR X.K H3 m2 (wipeD ρ vs) (wipe σ vs) := ((((he.ext hr e1).ext r1 e2).ext r2 e3)).wipe vs
      refine Tg.run (vs := vs) tg d x (wipeD ρ vs) ρ1 (wipe σ vs) _ v3 x3 ht2 hs fun σ4 v4 w4 => ⟨?_, ?_⟩
      · rw [w4]
        have : ∀ us : List Nat, wipe (wipe σ us) us = wipe σ us := fun us => by
          have key : ∀ (l us : List Nat) (τ : L2.St), (∀ i ∈ l, i ∈ us) → wipe (wipe τ l) us = wipe τ us := by
            intro l
            induction l with
            | nil => intro us τ _; rfl
            | cons v l ih =>
              intro us τ h
              show wipe ((wipe τ l).set v none) us = _
              rw [wipe_same (h v List.mem_cons_self)]
              exact ih us τ fun i hi => h i (List.mem_cons_of_mem _ hi)
          exact key us us σ fun _ h => h
        exact this vs
      · refine ⟨ρ1, m2, _, xF, v4, r3, q2, fun b m5 H5 q5 e5 r5 => ?_, aft0⟩
        cases b with
        | false =>
          rw [if_neg Bool.false_ne_true] at q5 ⊢
          have a5 : m5 p = some (.lst acc) := by
            cases hr : items.drop (i + 1) with
            | nil => rw [hr] at q5; unfold lcRec at q5; exact q5.2.1
            | cons _ _ => rw [hr] at q5; unfold lcRec at q5; exact q5.2.1
          exact ⟨m5, acc, ((e2.trans e3).trans e5), r5, a5, q5⟩
        | true =>
          rw [if_pos rfl] at q5 ⊢
          refine ⟨ρ1, m5, _, xF, v4.ext r3 e5, r5, q5, fun e m6 v6 H6 q6 e6 r6 x6 => ?_, aft0⟩
          obtain ⟨a6, l6, q6⟩ := q6
          obtain ⟨us, g1, g2⟩ := r6 p _ a6
          have hlen := Reps.length _ _ g2
          refine ⟨us, g1, by rw [hlen]; exact l6, mset m6 p (.lst (acc ++ [e])), acc ++ [e], ?_, ?_, mset_same, q6⟩
          · exact (((e2.trans e3).trans e5).trans e6).trans (Ext.write a6)
          · exact r6.write a6 ⟨us ++ [v6], upd_same, Reps.ext r6 (Ext.write a6) _ _ (Reps.append _ _ _ _ g2 (.cons x6 .nil))⟩
theorem finF_ok (K : PySem.W.Frag) (H : Hp) (p : Addr) (acc : List D) (m : MM) (Q : D → MM → Prop) (r : Rel K H m) (h : m p = some (.lst acc)) (hf : finF p acc m Q) : ∃ d m', Q d m' ∧ Ext H m H m' ∧ Rel K H m' ∧ Rep K H m' d (.ref p) :=
  ⟨_, _, hf, Ext.less (Less.del m p), r.less (Less.del m p), Rep.freeze r h⟩
theorem finM_ok (K : PySem.W.Frag) (H : Hp) (p : Addr) (acc : List D) (m : MM) (Q : D → MM → Prop) (r : Rel K H m) (h : m p = some (.lst acc)) (hf : finM p acc m Q) : ∃ d m', Q d m' ∧ Ext H m H m' ∧ Rel K H m' ∧ Rep K H m' d (.ref p) :=
  ⟨_, _, hf, Ext.refl _ _, r, by unfold Rep; rfl⟩
section
variable {elt tg iter : Expr} {ifs : List Expr} {scope : Scope} {own : List (Str × Nat)} {ti : DI} {t : Tg} {tt : DT} {te : DE} {fin : Addr → List D → MM → (D → MM → Prop) → Prop}
theorem de_lcr (hfin : ∀ (K : PySem.W.Frag) H p acc m Q, Rel K H m → m p = some (.lst acc) → fin p acc m Q → ∃ d m', Q d m' ∧ Ext H m H m' ∧ Rel K H m' ∧ Rep K H m' d (.ref p))
    (hc : X.calm = true) (hN : X.N.Nodup) (hi : PId X W tg iter ti) (ok : BlkOk X.N X.env.scope scope own) (hs : ∀ i ∈ t.slots, i ∈ own.map (·.2))
    (hg : ∀ (s : Shared) (H : Hp) (C : Addr) (cl : List (Str × Addr)) (fp : List Addr), PG (X.blk s H scope (compEnvC scope cl C X.env) fp) tg (Tg.g X.K t)) (ht : ∀ (s : Shared) (H : Hp) (C : Addr) (cl : List (Str × Addr)) (fp : List Addr), PTsd (X.blk s H scope (compEnvC scope cl C X.env) fp) W0 ifs tt)
    (he : ∀ (s : Shared) (H : Hp) (C : Addr) (cl : List (Str × Addr)) (fp : List Addr), PEd (X.blk s H scope (compEnvC scope cl C X.env) fp) W0 elt te) (hf : ∀ x, foldedSetIterable iter X.env x = pure x := by intro _; rfl) :
    PEd X W (.ListComp elt [⟨tg, iter, ifs, 0⟩] scope pos) (dLCr ti t tt te (own.map (·.2)) fin) :=
  (pe_lc hc hN hi ok hg ht he hf).to fun σ H Q => lift_lc hs hfin
theorem de_lc (hc : X.calm = true) (hN : X.N.Nodup) (hi : PId X W tg iter ti) (ok : BlkOk X.N X.env.scope scope own) (hs : ∀ i ∈ t.slots, i ∈ own.map (·.2))
    (hg : ∀ (s : Shared) (H : Hp) (C : Addr) (cl : List (Str × Addr)) (fp : List Addr), PG (X.blk s H scope (compEnvC scope cl C X.env) fp) tg (Tg.g X.K t)) (ht : ∀ (s : Shared) (H : Hp) (C : Addr) (cl : List (Str × Addr)) (fp : List Addr), PTsd (X.blk s H scope (compEnvC scope cl C X.env) fp) W0 ifs tt)
    (he : ∀ (s : Shared) (H : Hp) (C : Addr) (cl : List (Str × Addr)) (fp : List Addr), PEd (X.blk s H scope (compEnvC scope cl C X.env) fp) W0 elt te) (hf : ∀ x, foldedSetIterable iter X.env x = pure x := by intro _; rfl) :
    PEd X W (.ListComp elt [⟨tg, iter, ifs, 0⟩] scope pos) (dLC ti t tt te (own.map (·.2))) := de_lcr finF_ok hc hN hi ok hs hg ht he hf
theorem de_lcM (hc : X.calm = true) (hN : X.N.Nodup) (hi : PId X W tg iter ti) (ok : BlkOk X.N X.env.scope scope own) (hs : ∀ i ∈ t.slots, i ∈ own.map (·.2))
    (hg : ∀ (s : Shared) (H : Hp) (C : Addr) (cl : List (Str × Addr)) (fp : List Addr), PG (X.blk s H scope (compEnvC scope cl C X.env) fp) tg (Tg.g X.K t)) (ht : ∀ (s : Shared) (H : Hp) (C : Addr) (cl : List (Str × Addr)) (fp : List Addr), PTsd (X.blk s H scope (compEnvC scope cl C X.env) fp) W0 ifs tt)
    (he : ∀ (s : Shared) (H : Hp) (C : Addr) (cl : List (Str × Addr)) (fp : List Addr), PEd (X.blk s H scope (compEnvC scope cl C X.env) fp) W0 elt te) (hf : ∀ x, foldedSetIterable iter X.env x = pure x := by intro _; rfl) :
    PEd X W (.ListComp elt [⟨tg, iter, ifs, 0⟩] scope pos) (dLCM ti t tt te (own.map (·.2))) := de_lcr finM_ok hc hN hi ok hs hg ht he hf
/-- name = [..] on one line, the name a local -/
theorem dst_setLcr (hfin : ∀ (K : PySem.W.Frag) H p acc m Q, Rel K H m → m p = some (.lst acc) → fin p acc m Q → ∃ d m', Q d m' ∧ Ext H m H m' ∧ Rel K H m' ∧ Rep K H m' d (.ref p))
    {i : Nat} {y : Str} {py spos : Pos} (hc : X.calm = true) (hN : X.N.Nodup) (hy : X.N[i]? = some y) (hyl : X.env.scope.names.lookup y = some .local)
    (hsw : swapsWith (.ListComp elt [⟨tg, iter, ifs, 0⟩] scope pos) (some (.Name y py)) spos.line X.env = pure true) (hi : PId X W tg iter ti) (ok : BlkOk X.N X.env.scope scope own) (hs : ∀ i ∈ t.slots, i ∈ own.map (·.2))
    (hg : ∀ (s : Shared) (H : Hp) (C : Addr) (cl : List (Str × Addr)) (fp : List Addr), PG (X.blk s H scope (compEnvC scope cl C X.env) fp) tg (Tg.g X.K t)) (ht : ∀ (s : Shared) (H : Hp) (C : Addr) (cl : List (Str × Addr)) (fp : List Addr), PTsd (X.blk s H scope (compEnvC scope cl C X.env) fp) W0 ifs tt)
    (he : ∀ (s : Shared) (H : Hp) (C : Addr) (cl : List (Str × Addr)) (fp : List Addr), PEd (X.blk s H scope (compEnvC scope cl C X.env) fp) W0 elt te) (hf : ∀ x, foldedSetIterable iter X.env x = pure x := by intro _; rfl) :
    PSd X W (.Assign [.Name y py] (.ListComp elt [⟨tg, iter, ifs, 0⟩] scope pos) spos) (dSet i (dLCr ti t tt te (own.map (·.2)) fin)) :=
  (ps_setLc hc hN hy hyl hsw hi ok hg ht he hf).to fun D σ H ⟨ρ, m, P, hv, hr, ht, hh⟩ =>
    lift_lc (W := W) (Q := fun x H1 => gName i x σ H1 D.nx) hs hfin ⟨ρ, m, _, _, hv, hr, ht, fun d m1 v H1 q e1 r1 x1 => hh.1 _ m1 _ H1 q e1 r1 ((hv.ext hr e1).set i x1), aft hv hr hh.2.2.2.2⟩
end
end
/-! ### what they come to -/
theorem lc_filter {tg : Tg} {tt : DT} {te : DE} {ρ : Env} {p : Addr} {side : MM → Prop} {K : List D → MM → Prop} (f : D → Option D) {m0 : MM} (hside : ∀ acc, side (mset m0 p (.lst acc))) :
    ∀ (items acc : List D), (∀ d ∈ items, ∀ (acc : List D) (Q1 : D → MM → Prop) (Q0 : MM → Prop), (match f d with | some e => Q1 e (mset m0 p (.lst acc)) | none => Q0 (mset m0 p (.lst acc))) →
      ∃ ρ1, Tg.d tg d ρ = some ρ1 ∧ tt ρ1 (mset m0 p (.lst acc)) (fun b m1 => if b = true then te ρ1 m1 Q1 xF else Q0 m1) xF) →
    acc.length + items.length ≤ sizeLine → K (acc ++ items.filterMap f) (mset m0 p (.lst (acc ++ items.filterMap f))) → lcRec tg tt te ρ p side K items acc (mset m0 p (.lst acc))
  | [], acc, turn, hz, hK => by
    unfold lcRec
    exact ⟨hside acc, mset_same, by simpa using hK⟩
  | d :: r, acc, turn, hz, hK => by
    unfold lcRec
    refine ⟨hside acc, mset_same, ?_⟩
    simp only [List.length_cons] at hz
    obtain ⟨ρ1, h1, h2⟩ := turn d List.mem_cons_self acc (fun e m2 => m2 p = some (.lst acc) ∧ acc.length < sizeLine ∧ lcRec tg tt te ρ p side K r (acc ++ [e]) (mset m2 p (.lst (acc ++ [e])))) (fun m1 => lcRec tg tt te ρ p side K r acc m1) (by
      cases hf : f d with
      | none =>
        rw [List.filterMap_cons_none hf] at hK
        exact lc_filter f hside r acc (fun d hd => turn d (List.mem_cons_of_mem _ hd)) (by omega) hK
      | some e =>
        rw [List.filterMap_cons_some hf] at hK
        refine ⟨mset_same, by omega, ?_⟩
        rw [mset_mset]
        exact lc_filter f hside r (acc ++ [e]) (fun d hd => turn d (List.mem_cons_of_mem _ hd)) (by rw [List.length_append, List.length_singleton]; omega) (by simpa using hK))
    rw [h1]
    exact h2
theorem lc_map {tg : Tg} {te : DE} {ρ : Env} {p : Addr} {side : MM → Prop} {K : List D → MM → Prop} (f : D → D) {m0 : MM} (items : List D) (hside : ∀ acc, side (mset m0 p (.lst acc)))
    (turn : ∀ d ∈ items, ∀ (acc : List D) (Q1 : D → MM → Prop), Q1 (f d) (mset m0 p (.lst acc)) → ∃ ρ1, Tg.d tg d ρ = some ρ1 ∧ te ρ1 (mset m0 p (.lst acc)) Q1 xF)
    (hz : items.length ≤ sizeLine) (hK : K (items.map f) (mset m0 p (.lst (items.map f)))) : lcRec tg dYes te ρ p side K items [] (mset m0 p (.lst [])) := by
  refine lc_filter (fun d => some (f d)) hside items [] (fun d hd acc Q1 Q0 h => ?_) (by simpa using hz) (by simpa using hK)
  obtain ⟨ρ1, h1, h2⟩ := turn d hd acc Q1 h
  exact ⟨ρ1, h1, by show (if true = true then te ρ1 (mset m0 p (.lst acc)) Q1 xF else Q0 (mset m0 p (.lst acc))); rw [if_pos rfl]; exact h2⟩
end Y
/-! Y7: defs and their promises over data; the context of a body. -/
namespace Y
open PySem PySem.Spec PyProof.Rows L2
abbrev DS := List D → MM → (D → MM → Prop) → XC → Prop
def spD (K : PySem.W.Frag) (S : DS) : Sp := fun vs H Q E => ∃ ds m P Px, Reps K H m ds vs ∧ Rel K H m ∧ S ds m P Px ∧
  (∀ d m' v H', P d m' → Ext H m H' m' → Rel K H' m' → Rep K H' m' d v → Q v H') ∧ (∀ C fs m' d H', Px C fs m' → Ext H m H' m' → Rel K H' m' → RepX K H' m' d fs → E (.ref C) d H')
/-- a def of the text keeps its promise over data -/
structure Fd (P : Program) (w : World) (K : PySem.W.Frag) (mg : Str → Option Value) (base : Heap) (k : Nat) (x : Str) (ps : List Str) (S : DS) : Prop where
  ex : ∃ f fd, FnOk P w K mg base (L2.CX P w) k f fd ps (spD K S) ∧ mg x = some (.ref f) ∧ PySem.W.keepIn K (.ref f) = true ∧ Binds K fd ps []
/-- a weaker promise -/
theorem Fd.imp {P : Program} {w : World} {K : PySem.W.Frag} {mg : Str → Option Value} {base : Heap} {k : Nat} {x : Str} {ps : List Str} {S S' : DS} (F : Fd P w K mg base k x ps S) (h : ∀ ds m Q Px, S' ds m Q Px → S ds m Q Px) : Fd P w K mg base k x ps S' := by
  obtain ⟨f, fd, h1, h2, h3, h4⟩ := F.ex
  exact ⟨f, fd, h1.imp fun vs H Q E ⟨ds, m, P, Px, a, b, c, d, e⟩ => ⟨ds, m, P, Px, a, b, h _ _ _ _ c, d, e⟩, h2, h3, h4⟩
def dCall (S : DS) (t : DA) : DE := fun ρ m Q X => t ρ m (fun ds m1 => S ds m1 Q X) X
/-! ### the context of a body -/
def visB (sc : Scope) (x : Str) : Bool := match sc.names.lookup x with
  | some .local => true
  | some .cell => true
  | some .free => true
  | _ => false
def glB (sc : Scope) (x : Str) : Bool := match sc.names.lookup x with
  | some .globalImplicit => true
  | _ => false
def plainB (x : Str) : Bool := x != "__debug__" && x != "__classdict__" && x != "__name__"
def nmB (sc : Scope) (N : List Str) (vis : List Nat) (G : List Str) : Bool :=
  (vis.all fun i => match N[i]? with
    | some x => visB sc x && plainB x
    | none => false) && G.all fun x => glB sc x && plainB x
theorem visB_ok {sc : Scope} {x : Str} (h : visB sc x = true) : Vis sc x := by
  unfold visB at h
  unfold Vis
  cases e : sc.names.lookup x with
  | none => rw [e] at h; cases h
  | some k => rw [e] at h; cases k <;> first | exact .inl rfl | exact .inr (.inl rfl) | exact .inr (.inr rfl) | cases h
structure Bd (P : Program) (w : World) (K : PySem.W.Frag) (mg : Str → Option Value) (base : Heap) (X : Cx) (W : WX) (sc : Scope) (N : List Str) (vis sts : List Nat) (G : List Str) (k : Nat) : Prop where
  hP : X.prog = P
  hw : X.w = w
  hK : X.K = K
  hmg : X.mg = mg
  hbase : X.base = base
  hN : X.N = N
  nd : N.Nodup
  hsc : X.env.scope = sc
  nm : nmB sc N vis G = true
  calm : X.calm = true
  hr : Room k X.A
  tk : Takes X W
  kind : X.env.scope.kind = .function
  sto : ∀ i ∈ sts, ∀ x, N[i]? = some x → L2.Loc X.env.scope x ∧ (X.fn x = true ∨ X.env.scope.names.lookup x = some .local)
section
variable {P : Program} {w : World} {K : PySem.W.Frag} {mg : Str → Option Value} {base : Heap} {X : Cx} {W : WX} {sc : Scope} {N : List Str} {vis sts : List Nat} {G : List Str} {k : Nat} {pos : Pos}
theorem Bd.visAt (B : Bd P w K mg base X W sc N vis sts G k) {i : Nat} {x : Str} (hi : N[i]? = some x) (hv : vis.contains i = true) : X.N[i]? = some x ∧ Vis X.env.scope x ∧ plainB x = true := by
  have h := (Bool.and_eq_true_iff.mp B.nm).1
  have q := List.all_eq_true.mp h i (by simpa using hv)
  rw [hi] at q
  obtain ⟨q1, q2⟩ := Bool.and_eq_true_iff.mp q
  exact ⟨by rw [B.hN]; exact hi, by rw [B.hsc]; exact visB_ok q1, q2⟩
theorem plainB_ok {x : Str} (h : plainB x = true) : (x == ("__debug__" : Str)) = false ∧ (x == ("__classdict__" : Str)) = false ∧ x ≠ "__name__" := by
  unfold plainB at h
  obtain ⟨h1, h3⟩ := Bool.and_eq_true_iff.mp h
  obtain ⟨h1, h2⟩ := Bool.and_eq_true_iff.mp h1
  refine ⟨?_, ?_, ?_⟩
  · simpa using h1
  · simpa using h2
  · simpa using h3
theorem Bd.gl (B : Bd P w K mg base X W sc N vis sts G k) {j : Nat} {x : Str} (hj : G[j]? = some x) : Gl X x ∧ plainB x = true := by
  have h := (Bool.and_eq_true_iff.mp B.nm).2
  have q := List.all_eq_true.mp h x (List.mem_of_getElem? hj)
  obtain ⟨q1, q2⟩ := Bool.and_eq_true_iff.mp q
  refine ⟨?_, q2⟩
  unfold Gl
  show X.env.scope.names.lookup x = _
  rw [B.hsc]
  unfold glB at q1
  cases e : sc.names.lookup x with
  | none => rw [e] at q1; cases q1
  | some k => rw [e] at q1; cases k <;> first | rfl | cases q1
theorem b_var (B : Bd P w K mg base X W sc N vis sts G k) (i : Nat) {x : Str} (hi : N[i]? = some x := by rfl) (hv : vis.contains i = true := by rfl) : PEd X W (.Name x pos) (dVar i) := by
  obtain ⟨h1, h2, h3⟩ := B.visAt hi hv
  obtain ⟨p1, p2, _⟩ := plainB_ok h3
  exact de_var i h1 h2 p1 p2
theorem Bd.loc (B : Bd P w K mg base X W sc N vis sts G k) {i : Nat} {x : Str} (hi : N[i]? = some x) (hs : sts.contains i = true) : L2.Loc X.env.scope x ∧ (X.fn x = true ∨ X.env.scope.names.lookup x = some .local) :=
  B.sto i (by simpa using hs) x hi
theorem b_name (B : Bd P w K mg base X W sc N vis sts G k) (i : Nat) {x : Str} (hi : N[i]? = some x := by rfl) (hv : sts.contains i = true := by rfl) : PG X (.Name x pos) (Tg.g X.K (.nm i)) := by
  obtain ⟨l1, l2⟩ := B.loc hi hv
  exact tg_name (by rw [B.hN]; exact B.nd) (by rw [B.hN]; exact hi) l1 l2
theorem b_set (B : Bd P w K mg base X W sc N vis sts G k) (i : Nat) {x : Str} {e : Expr} {t : DE} {pos' : Pos} (he : PEd X W e t) (hi : N[i]? = some x := by rfl) (hv : sts.contains i = true := by rfl)
    (hs : swapsWith e (some (.Name x pos')) pos.line X.env = pure false := by rfl) : PSd X W (.Assign [.Name x pos'] e pos) (dSet i t) := by
  obtain ⟨l1, l2⟩ := B.loc hi hv
  exact dst_set (by rw [B.hN]; exact B.nd) (by rw [B.hN]; exact hi) l1 he hs l2
/-- the test of swappedStores, over the scope -/
def swapB (sc : Scope) (ts vs : List Expr) : Bool :=
  (ts.length == 2 || ts.length == 3) && vs.length == ts.length && !(vs.any fun | .Starred .. => true | _ => false) && !(vs.all (foldedForSure 8)) && !(vs.all (constantsAlone 8))
def swapN (sc : Scope) (ts : List Expr) : List Str := ts.filterMap fun
    | .Name id pos => if sc.names.lookup id == some .local && pos.line == ((ts.head?.map (·.pos.line)).getD 0) then some id else none
    | _ => none
theorem swapped_yes {ts vs : List Expr} {k1 k2 : Nat} {p1 p2 : Pos} {names : List Str} {c1 : Nat} {c2 : Nat} (B : Bd P w K mg base X W sc N vis sts G k) (h : swapB sc ts vs = true) (hn : swapN sc ts = names) (hl : (names.length == ts.length && names.eraseDups.length == names.length) = true) (a1 : c1 = k1) (a2 : c2 = k2) :
    swappedStores [.Tuple ts k1 p1] (.Tuple vs k2 p2) X.env = pure (some names) := by
  unfold swapB at h
  simp only [Bool.and_eq_true, Bool.not_eq_true'] at h
  obtain ⟨⟨⟨⟨h1, h2⟩, h3⟩, h4⟩, h5⟩ := h
  have hb : X.env.blockKind = .function := by unfold Env.blockKind; rw [B.kind]; rfl
  have hn' : (ts.filterMap fun
    | .Name id pos => if X.env.kindOf id == some .local && pos.line == ((ts.head?.map (·.pos.line)).getD 0) then some id else none
    | _ => none) = names := by
    rw [← hn]
    unfold swapN Env.kindOf
    rw [B.hsc]
  unfold swappedStores
  obtain ⟨l1, l2⟩ := Bool.and_eq_true_iff.mp hl
  have g1 : (!(ts.length == 2 || ts.length == 3) || vs.length != ts.length || X.env.blockKind != ScopeKind.function) = false := by
    rw [h1, hb, beq_iff_eq.mp h2]; simp
  have g2 : (names.length != ts.length || names.eraseDups.length != names.length) = false := by
    rw [beq_iff_eq.mp l1, beq_iff_eq.mp l2, beq_iff_eq.mp l1]; simp
  refine (if_neg (fun hh => Bool.false_ne_true (g1.symm.trans hh))).trans ?_
  refine (if_neg (fun hh => Bool.false_ne_true (h3.symm.trans hh))).trans ?_
  show (if ((ts.filterMap fun
    | .Name id pos => if X.env.kindOf id == some .local && pos.line == ((ts.head?.map (·.pos.line)).getD 0) then some id else none
    | _ => none).length != ts.length || (ts.filterMap fun
    | .Name id pos => if X.env.kindOf id == some .local && pos.line == ((ts.head?.map (·.pos.line)).getD 0) then some id else none
    | _ => none).eraseDups.length != (ts.filterMap fun
    | .Name id pos => if X.env.kindOf id == some .local && pos.line == ((ts.head?.map (·.pos.line)).getD 0) then some id else none
    | _ => none).length) = true then pure none else _) = _
  refine (if_neg (by rw [hn', g2]; decide)).trans ?_
  refine (if_neg (fun hh => Bool.false_ne_true (h4.symm.trans hh))).trans ?_
  refine (if_neg (fun hh => Bool.false_ne_true (h5.symm.trans hh))).trans ?_
  exact congrArg (fun z => pure (some z)) hn'
theorem lift_call {S : DS} {t : DA} {σ : L2.St} {H : Hp} {Q : VK} (h : liftE X.K W (dCall S t) σ H Q) : tCallSD (spD X.K S) [] (WE W) (liftA X.K W t) σ H Q := by
  obtain ⟨ρ, m, P, Px, he, hr, ht, hP, hX⟩ := h
  refine ⟨ρ, m, _, Px, he, hr, ht, fun ds m1 vs H1 q e1 r1 x1 => ?_, hX⟩
  show spD X.K S (vs ++ []) H1 Q (WE W σ)
  rw [List.append_nil]
  exact ⟨ds, m1, P, Px, x1, r1, q, fun d m' v H' p e r w => hP d m' v H' p (e1.trans e) r w, fun C fs m' d H' p e r w => hX C fs m' d H' p (e1.trans e) r w⟩
theorem Bd.fd (B : Bd P w K mg base X W sc N vis sts G k) {j : Nat} {x : Str} {ps : List Str} {S : DS} (F : Fd P w K mg base j x ps S) : Fd X.prog X.w X.K X.mg X.base j x ps S := by
  obtain ⟨h1, h2, h3, h4, h5⟩ := B
  subst h1 h2 h3 h4 h5
  exact F
theorem b_call (B : Bd P w K mg base X W sc N vis sts G k) {j g : Nat} {x : Str} {ps : List Str} {S : DS} {p : Pos} {e : Expr} {es : List Expr} {t : DA} (F : Fd P w K mg base j x ps S) (ha : PAd X W (e :: es) t) (hg : G[g]? = some x := by rfl) (hj : j ≤ k := by decide)
    (he : starEach (e :: es) X.env = (false, eval e X.env) :: starEach es X.env := by rfl) (hpl : (backTo pos (starEach es X.env)).any (·.1) = false := by rfl) : PEd X W (.Call (.Name x p) (e :: es) [] pos) (dCall S t) := by
  obtain ⟨f, fd, h1, h2, h3, h4⟩ := (B.fd F).ex
  obtain ⟨g1, g2⟩ := B.gl hg
  exact (pe_callSD h1 (B.hr.mono hj) g1 h2 h3 h4 .nil (fun σ => passAt B.tk σ) ha (plainB_ok g2).1 he hpl).to fun _ _ _ => lift_call
theorem b_blt1 (B : Bd P w K mg base X W sc N vis sts G k) {g : Nat} {x : Str} {p : Pos} {e : Expr} {es : List Expr} {t : DA} {gr : DRC} {id : String} (hc : CallRd X (.builtin id) gr) (hm : mg x = none) (ha : PAd X W (e :: es) t) (hv : bootBuiltins x = some (.builtin id) := by decide +kernel) (hg : G[g]? = some x := by rfl)
    (he : starEach (e :: es) X.env = (false, eval e X.env) :: starEach es X.env := by rfl) (hpl : (backTo pos (starEach es X.env)).any (·.1) = false := by rfl) : PEd X W (.Call (.Name x p) (e :: es) [] pos) (dCB gr t) := by
  obtain ⟨g1, g2⟩ := B.gl hg
  exact de_callB hc g1 (by rw [B.hmg]; exact hm) hv ha (plainB_ok g2).2.2 (plainB_ok g2).1 he hpl
theorem b_ty1 (B : Bd P w K mg base X W sc N vis sts G k) {g : Nat} {x : Str} {p : Pos} {e : Expr} {es : List Expr} {t : DA} {gr : DRC} {T : String} (hc : CallRd X (.type T) gr) (hm : mg x = none) (ha : PAd X W (e :: es) t) (hv : bootBuiltins x = some (.type T) := by decide +kernel) (hg : G[g]? = some x := by rfl)
    (he : starEach (e :: es) X.env = (false, eval e X.env) :: starEach es X.env := by rfl) (hpl : (backTo pos (starEach es X.env)).any (·.1) = false := by rfl) : PEd X W (.Call (.Name x p) (e :: es) [] pos) (dCB gr t) := by
  obtain ⟨g1, g2⟩ := B.gl hg
  exact de_callTy hc g1 (by rw [B.hmg]; exact hm) hv ha (plainB_ok g2).2.2 (plainB_ok g2).1 he hpl
theorem b_bf (B : Bd P w K mg base X W sc N vis sts G k) {g : Nat} {x : Str} {p : Pos} {e : Expr} {es : List Expr} {t : DA} {gr : DRC} {id : String} (hc : CallRd X (.builtin id) gr) (hm : mg x = some (.builtin id)) (ha : PAd X W (e :: es) t) (hg : G[g]? = some x := by rfl)
    (he : starEach (e :: es) X.env = (false, eval e X.env) :: starEach es X.env := by rfl) (hpl : (backTo pos (starEach es X.env)).any (·.1) = false := by rfl) : PEd X W (.Call (.Name x p) (e :: es) [] pos) (dCB gr t) := by
  obtain ⟨g1, g2⟩ := B.gl hg
  exact de_callBf hc g1 (by rw [B.hmg]; exact hm) ha (plainB_ok g2).1 he hpl
/-- a module's constant -/
theorem b_glob (B : Bd P w K mg base X W sc N vis sts G k) {g : Nat} {x : Str} {u : Value} {v : V} {d : D} (hm : mg x = some u) (r : RelV v u) (hd : ∀ H m, Rep K H m d v) (hg : G[g]? = some x := by rfl) : PEd X W (.Name x pos) (dC d) := by
  obtain ⟨g1, g2⟩ := B.gl hg
  exact de_glob g1 (by rw [B.hmg]; exact hm) r (by rw [B.hK]; exact hd) (plainB_ok g2).1
theorem b_bltn (B : Bd P w K mg base X W sc N vis sts G k) {g : Nat} {x : Str} {u : Value} {v : V} {d : D} (hm : mg x = none) (hv : bootBuiltins x = some u) (r : RelV v u) (hd : ∀ H m, Rep K H m d v) (hg : G[g]? = some x := by rfl) : PEd X W (.Name x pos) (dC d) := by
  obtain ⟨g1, g2⟩ := B.gl hg
  exact de_blt g1 (by rw [B.hmg]; exact hm) hv r (by rw [B.hK]; exact hd) (plainB_ok g2).2.2 (plainB_ok g2).1
/-- the context of a comprehension's block -/
def stB (sc : Scope) (N : List Str) (sts : List Nat) : Bool := sts.all fun i => match N[i]? with
  | some x => (match sc.names.lookup x with
    | some .local => true
    | _ => false)
  | none => false
theorem stB_ok {sc : Scope} (h : stB sc N sts = true) : ∀ i ∈ sts, ∀ x, N[i]? = some x → sc.names.lookup x = some .local := fun i hi x hx => by
  have q := List.all_eq_true.mp h i hi
  rw [hx] at q
  have q2 : (match sc.names.lookup x with | some .local => true | _ => false) = true := q
  cases e : sc.names.lookup x with
  | none => rw [e] at q2; cases q2
  | some k => rw [e] at q2; cases k <;> first | rfl | cases q2
def blkB (scope : Scope) (sc : Scope) (N : List Str) (vis sts : List Nat) (G : List Str) : Bool := (match scope.kind with
  | .function => true
  | _ => false) && (nmB (relS scope sc) N vis G && stB (relS scope sc) N sts)
theorem Bd.blk (B : Bd P w K mg base X W sc N vis sts G k) {scope : Scope} {vis' sts' : List Nat} {G' : List Str} (h : blkB scope sc N vis' sts' G' = true)
    (s : Shared) (H : Hp) (C : Addr) (cl : List (Str × Addr)) (fp : List Addr) : Bd P w K mg base (X.blk s H scope (compEnvC scope cl C X.env) fp) W0 (relS scope sc) N vis' sts' G' k := by
  obtain ⟨h1, h2⟩ := Bool.and_eq_true_iff.mp h
  obtain ⟨h2, h3⟩ := Bool.and_eq_true_iff.mp h2
  have hs : (compEnvC scope cl C X.env).scope = relS scope sc := by rw [← B.hsc]; rfl
  refine ⟨B.hP, B.hw, B.hK, B.hmg, B.hbase, B.hN, B.nd, hs, h2, B.calm, B.hr, takes0, ?_, fun i hi x hx => ?_⟩
  · show (compEnvC scope cl C X.env).scope.kind = _
    rw [hs]
    show scope.kind = _
    cases e : scope.kind <;> rw [e] at h1 <;> first | rfl | cases h1
  · have q := stB_ok h3 i hi x hx
    rw [← hs] at q
    exact ⟨.inl q, .inr q⟩
/-- a comprehension's names -/
theorem Bd.own (B : Bd P w K mg base X W sc N vis sts G k) {scope : Scope} {own : List (Str × Nat)} (h : blkC N sc scope own = true) : BlkOk X.N X.env.scope scope own := by
  rw [B.hN, B.hsc]
  exact blkOk_by h
/-! ### a def keeps its promise -/
def startD (N : List Str) (ds : List D) : Env := ds.map some ++ List.replicate (N.length - ds.length) none
theorem start_rep {H : Hp} {m : MM} {ds : List D} {vs : List V} (h : Reps K H m ds vs) : EnvR K H m (startD N ds) (L2.start N vs) := by
  have hl := Reps.length _ _ h
  refine ⟨by unfold startD L2.start; simp [hl], fun i d q => ?_⟩
  unfold startD at q
  by_cases hi : i < ds.length
  · rw [List.getElem?_append_left (by simpa using hi), List.getElem?_map] at q
    cases e : ds[i]? with
    | none => rw [e] at q; cases q
    | some d' =>
      rw [e] at q
      cases q
      obtain ⟨v, hv, rv⟩ := Reps.get _ _ i _ h e
      refine ⟨v, ?_, rv⟩
      unfold L2.start
      rw [List.getElem?_append_left (by simpa [hl] using hi), List.getElem?_map, hv]
      rfl
  · rw [List.getElem?_append_right (by simpa using hi), List.getElem?_replicate] at q
    split at q <;> cases q
def defB (sc : Scope) (N : List Str) (ps : List Str) (vis : List Nat) (G : List Str) : Bool := nmB sc N vis G && vis.all fun i => match N[i]? with
  | some x => (match sc.names.lookup x with
    | some .local => true
    | some .cell => true
    | _ => false)
  | none => false
theorem mkFd {x qual : Str} {st : Stmt} {f : Addr} {fd : FuncData} {N ps : List Str} {k : Nat} {S : DS} {t : DSt} {vis : List Nat} {G : List Str} (F : Fun K qual qual st f fd) (hm : mg x = some (.ref f)) (C : FnScope N ps (defScope st)) (hn : defB (defScope st) N ps vis G = true)
    (b : ∀ (kV doc pm : Value) (an : Option Addr) (cdv ct : Value) (us : List Value), us.length = ps.length → bindArgs (PySem.W.fnOf qual qual (defArgs st) (defBody st) (defScope st) .none kV doc pm an cdv ct) ⟨us, []⟩ = pure (ps.zip us))
    (len : ∀ ds m Q Px, S ds m Q Px → ds.length = ps.length)
    (hb : ∀ (X : Cx) (W : WX), Bd P w K mg base X W (defScope st) N vis vis G k → PassesOwn (model X.prog X.w) X.A X.env X.xe → PSsd X W (defBody st) t)
    (hr : ∀ ds m Q Px, S ds m Q Px → t { nx := fun _ m' => Q .non m', rt := Q, ex := fun C fs _ m' => Px C fs m' } (startD N ds) m) : Fd P w K mg base (k + 1) x ps S := by
  obtain ⟨h1, h2⟩ := Bool.and_eq_true_iff.mp hn
  refine ⟨f, fd, F.okX C (fun vs H Q E ⟨ds, m, P, Px, a, _, c, _⟩ => (Reps.length _ _ a).trans (len _ _ _ _ c)) (fun cdv A outer s H vs Q E hroom ⟨ds, m, Pq, Px, a, rl, c, hq, hx⟩ => ?_), hm, F.kp, F.binds b⟩
  have tk : Takes (cxOf (L2.CX P w) P w K mg base N qual (defScope st) f cdv A outer s H E) (fun cls d _ H => E cls d H) := takes_of rfl rfl rfl rfl
  have B : Bd P w K mg base (cxOf (L2.CX P w) P w K mg base N qual (defScope st) f cdv A outer s H E) (fun cls d _ H => E cls d H) (defScope st) N vis vis G k := by
    refine ⟨rfl, rfl, rfl, rfl, rfl, rfl, C.nd, rfl, h1, rfl, hroom, tk, C.kind, fun i hi y hy => ?_⟩
    have q := List.all_eq_true.mp h2 i hi
    rw [hy] at q
    have q2 : (match (defScope st).names.lookup y with | some .local => true | some .cell => true | _ => false) = true := q
    refine ⟨?_, .inl rfl⟩
    show L2.Loc (defScope st) y
    unfold L2.Loc
    cases e : (defScope st).names.lookup y with
    | none => rw [e] at q2; cases q2
    | some k => rw [e] at q2; cases k <;> first | exact .inl rfl | exact .inr rfl | cases q2
  refine ⟨_, hb _ _ B (passes_of rfl), startD N ds, m, _, start_rep a, rl, hr ds m Pq Px c, fun ρ' m' σ' H' q e r v => ?_, fun d m' v H' q e r x => ?_, fun _ _ _ _ q => q.elim, fun _ _ _ _ q => q.elim, fun C fs ρ' m' d σ' H' q e r v w => ?_⟩
  · exact hq .non m' .non H' q e r (by unfold Rep; rfl)
  · exact hq d m' v H' q e r x
  · exact hx C fs m' d H' q e r w
end
end Y
/-! Y8: operations over data. -/
namespace Y
open PySem PySem.Spec PyProof.Rows L2
section
variable {K : PySem.W.Frag} {H : Hp} {m : MM}
theorem Rep.non' : Rep K H m .non .non := by unfold Rep; rfl
theorem Rep.bl' {b : Bool} : Rep K H m (.bl b) (.bl b) := by unfold Rep; rfl
theorem Rep.int' {i : Int} : Rep K H m (.int i) (.int i) := by unfold Rep; rfl
theorem Rep.str' {x : Str} : Rep K H m (.str x) (.str x) := by unfold Rep; rfl
theorem Rep.ty' {n : String} : Rep K H m (.ty n) (.ty n) := by unfold Rep; rfl
theorem Rep.adr' {a : Addr} : Rep K H m (.adr a) (.ref a) := by unfold Rep; rfl
theorem Rep.int_eq {i : Int} {v : V} (h : Rep K H m (.int i) v) : v = .int i := by unfold Rep at h; exact h
theorem Rep.str_eq {i : Str} {v : V} (h : Rep K H m (.str i) v) : v = .str i := by unfold Rep at h; exact h
theorem Rep.bl_eq {i : Bool} {v : V} (h : Rep K H m (.bl i) v) : v = .bl i := by unfold Rep at h; exact h
theorem Rep.non_eq {v : V} (h : Rep K H m .non v) : v = .non := by unfold Rep at h; exact h
theorem Rep.ty_eq {n : String} {v : V} (h : Rep K H m (.ty n) v) : v = .ty n := by unfold Rep at h; exact h
theorem Rep.adr_eq {a : Addr} {v : V} (h : Rep K H m (.adr a) v) : v = .ref a := by unfold Rep at h; exact h
theorem Rep.tup_eq {ds : List D} {v : V} (h : Rep K H m (.tup ds) v) : ∃ a vs, v = .ref a ∧ SqT K H a vs ∧ Reps K H m ds vs := by unfold Rep at h; exact h
theorem Rep.lst_eq {ds : List D} {v : V} (h : Rep K H m (.lst ds) v) : ∃ a vs, v = .ref a ∧ SqM H m a vs ∧ Reps K H m ds vs := by unfold Rep at h; exact h
end
/-- what a list holds, be it read alone or known -/
def lstOf (m : MM) : D → Option (List D)
  | .lst ds => some ds
  | .adr a => match m a with
    | some (.lst ds) => some ds
    | _ => none
  | _ => none
theorem lstOf_rep {K : PySem.W.Frag} {H : Hp} {m : MM} {d : D} {ds : List D} {v : V} (h : lstOf m d = some ds) (r : Rel K H m) (x : Rep K H m d v) : ∃ a vs, v = .ref a ∧ SqL K H a vs ∧ Reps K H m ds vs := by
  unfold lstOf at h
  split at h
  · cases h
    obtain ⟨a, vs, h1, h2, h3⟩ := x.lst_eq
    exact ⟨a, vs, h1, h2.sq, h3⟩
  · rename_i a
    split at h
    · rename_i q
      cases h
      obtain ⟨vs, h1, h2⟩ := r a _ q
      exact ⟨a, vs, x.adr_eq, .inl (.inl h1), h2⟩
    · cases h
  · cases h
/-- a tuple's or a list's items -/
def sqOf (m : MM) : D → Option (List D)
  | .tup ds => some ds
  | d => lstOf m d
theorem sqOf_rep {K : PySem.W.Frag} {H : Hp} {m : MM} {d : D} {ds : List D} {v : V} (h : sqOf m d = some ds) (r : Rel K H m) (x : Rep K H m d v) : ∃ a vs, v = .ref a ∧ (SqL K H a vs ∨ SqT K H a vs) ∧ Reps K H m ds vs := by
  unfold sqOf at h
  split at h
  · cases h
    obtain ⟨a, vs, h1, h2, h3⟩ := x.tup_eq
    exact ⟨a, vs, h1, .inr h2, h3⟩
  · obtain ⟨a, vs, h1, h2, h3⟩ := lstOf_rep h r x
    exact ⟨a, vs, h1, .inl h2, h3⟩
theorem lstM_rep {K : PySem.W.Frag} {H : Hp} {m : MM} {d : D} {ds : List D} {v : V} (h : lstOf m d = some ds) (r : Rel K H m) (x : Rep K H m d v) : ∃ a vs, v = .ref a ∧ H a = some (.lst vs) ∧ Reps K H m ds vs := by
  unfold lstOf at h
  split at h
  · cases h
    obtain ⟨a, vs, h1, h2, h3⟩ := x.lst_eq
    exact ⟨a, vs, h1, h2.1, h3⟩
  · rename_i a
    split at h
    · rename_i q
      cases h
      obtain ⟨vs, h1, h2⟩ := r a _ q
      exact ⟨a, vs, x.adr_eq, h1, h2⟩
    · cases h
  · cases h
/-! ### whole numbers -/
def onII (F : Int → Int → Prop) : D → D → Prop
  | .int i, .int j => F i j
  | _, _ => False
theorem onII_ok {F : Int → Int → Prop} {x y : D} (h : onII F x y) : ∃ i j, x = .int i ∧ y = .int j ∧ F i j := by
  unfold onII at h
  split at h
  · exact ⟨_, _, rfl, rfl, h⟩
  · exact h.elim
def onI (F : Int → Prop) : D → Prop
  | .int i => F i
  | _ => False
theorem onI_ok {F : Int → Prop} {x : D} (h : onI F x) : ∃ i, x = .int i ∧ F i := by
  unfold onI at h
  split at h
  · exact ⟨_, rfl, h⟩
  · exact h.elim
def gII (C : Int → Int → Prop) (g : Int → Int → D) : DR2 := fun x y m Q => onII (fun i j => C i j ∧ Q (g i j) m) x y
def gII0 (g : Int → Int → D) : DR2 := fun x y m Q => onII (fun i j => Q (g i j) m) x y
section
variable {X : Cx} {f : Value → Value → Sem Value}
theorem opd_I {C : Int → Int → Prop} {g : Int → Int → Int} (h : OpR X f (rI C fun i j => .int (g i j))) : OpRd X f (gII C fun i j => .int (g i j)) :=
  h.to fun x y H Q ⟨dx, dy, m, P, hx, hy, hr, hg, hP⟩ => by
    obtain ⟨i, j, rfl, rfl, c, q⟩ := onII_ok hg
    exact ⟨i, j, hx.int_eq, hy.int_eq, c, hP _ m _ H q (Ext.refl _ _) hr .int'⟩
theorem opd_I0 {g : Int → Int → Int} (h : OpR X f (rI0 fun i j => .int (g i j))) : OpRd X f (gII0 fun i j => .int (g i j)) :=
  h.to fun x y H Q ⟨dx, dy, m, P, hx, hy, hr, hg, hP⟩ => by
    obtain ⟨i, j, rfl, rfl, q⟩ := onII_ok hg
    exact ⟨i, j, hx.int_eq, hy.int_eq, hP _ m _ H q (Ext.refl _ _) hr .int'⟩
theorem opd_B0 {g : Int → Int → Bool} (h : OpR X f (rI0 fun i j => .bl (g i j))) : OpRd X f (gII0 fun i j => .bl (g i j)) :=
  h.to fun x y H Q ⟨dx, dy, m, P, hx, hy, hr, hg, hP⟩ => by
    obtain ⟨i, j, rfl, rfl, q⟩ := onII_ok hg
    exact ⟨i, j, hx.int_eq, hy.int_eq, hP _ m _ H q (Ext.refl _ _) hr .bl'⟩
/-- * of whole numbers whose bits are together few enough -/
def CM (i j : Int) : Prop := i.natAbs.log2 + j.natAbs.log2 + 2 ≤ 134217728
theorem CM.ok {i j : Int} (h : CM i j) : CMulX i j := by
  have b : ∀ x : Int, Builtin.Int.intBits x ≤ x.natAbs.log2 + 1 := fun x => by
    unfold Builtin.Int.intBits
    split <;> omega
  have h1 := b i
  have h2 := b j
  unfold CM at h
  unfold CMulX
  omega
abbrev gSub : DR2 := gII0 fun i j => .int (i - j)
abbrev gMul : DR2 := gII CM fun i j => .int (i * j)
/-- // by anything that is not 0 -/
def CV (i j : Int) : Prop := j ≠ 0 ∧ (j.natAbs.log2 < 9000 ∨ i.natAbs.log2 ≤ j.natAbs.log2 + 4000)
theorem CV.ok {i j : Int} (h : CV i j) : Builtin.divisionGoesByPylong i j = false := by
  rcases h.2 with q | q
  · exact PyProof.noPylong_of_log2 q
  · show (decide ((if j == 0 then 0 else j.natAbs.log2 / 30 + 1) > 300) && decide ((if i == 0 then 0 else i.natAbs.log2 / 30 + 1) > (if j == 0 then 0 else j.natAbs.log2 / 30 + 1) + 150)) = false
    rw [if_neg (show ¬ (j == 0) = true by simpa using h.1)]
    have k : ¬ ((if i == 0 then 0 else i.natAbs.log2 / 30 + 1) > j.natAbs.log2 / 30 + 1 + 150) := by
      split <;> omega
    rw [decide_eq_false k, Bool.and_false]
abbrev gFdv : DR2 := gII CV fun i j => .int (i.fdiv j)
abbrev gMod : DR2 := gII (fun _ j => j ≠ 0) fun i j => .int (i.fmod j)
abbrev gPow : DR2 := gII CPow fun i j => .int (i ^ j.toNat)
theorem od_sub : OpRd X (binaryOp .Sub) gSub := opd_I0 op_sub
theorem od_mul : OpRd X (binaryOp .Mult) gMul := (opd_I (C := CMulX) op_mulX).to fun x y H Q ⟨dx, dy, m, P, hx, hy, hr, hg, hP⟩ => by
  obtain ⟨i, j, rfl, rfl, c, q⟩ := onII_ok hg
  exact ⟨_, _, m, P, hx, hy, hr, ⟨c.ok, q⟩, hP⟩
theorem od_fdv : OpRd X (binaryOp .FloorDiv) gFdv := opd_I (opI fun i j _ _ _ _ _ hc q => floordiv_int hc.1 q (.inl hc.ok))
theorem od_mod : OpRd X (binaryOp .Mod) gMod := opd_I op_modN
theorem od_pow : OpRd X (binaryOp .Pow) gPow := opd_I op_pow
abbrev gLt : DR2 := gII0 fun i j => .bl (decide (i < j))
abbrev gLe : DR2 := gII0 fun i j => .bl (decide (i ≤ j))
abbrev gGt : DR2 := gII0 fun i j => .bl (decide (j < i))
abbrev gGe : DR2 := gII0 fun i j => .bl (decide (j ≤ i))
theorem od_lt : OpRd X (compareOp .Lt) gLt := opd_B0 op_lt
theorem od_le : OpRd X (compareOp .LtE) gLe := opd_B0 op_le
theorem od_gt : OpRd X (compareOp .Gt) gGt := opd_B0 op_gt
theorem od_ge : OpRd X (compareOp .GtE) gGe := opd_B0 op_ge
def gNeg : DR1 := fun x m Q => onI (fun i => Q (.int (-i)) m) x
theorem ud_neg : UnRd X (unaryOp .USub) gNeg := un_neg.to fun x H Q ⟨dx, m, P, hx, hr, hg, hP⟩ => by
  obtain ⟨i, rfl, q⟩ := onI_ok hg
  exact ⟨i, hx.int_eq, hP _ m _ H q (Ext.refl _ _) hr .int'⟩
/-! ### + -/
def gAdd : DR2 := fun x y m Q => match x, y with
  | .int i, .int j => Q (.int (i + j)) m
  | .str i, .str j => i.length + j.length ≤ sizeLine ∧ Q (.str (i ++ j)) m
  | .tup xs, .tup ys => xs.length + ys.length ≤ sizeLine ∧ Q (.tup (xs ++ ys)) m
  | x, y => match lstOf m x, lstOf m y with
    | some xs, some ys => xs.length + ys.length ≤ sizeLine ∧ Q (.lst (xs ++ ys)) m
    | _, _ => False
theorem gAdd_ok {x y : D} {m : MM} {Q : D → MM → Prop} (h : gAdd x y m Q) : (∃ i j, x = .int i ∧ y = .int j ∧ Q (.int (i + j)) m) ∨ (∃ i j, x = .str i ∧ y = .str j ∧ i.length + j.length ≤ sizeLine ∧ Q (.str (i ++ j)) m) ∨
    (∃ xs ys, x = .tup xs ∧ y = .tup ys ∧ xs.length + ys.length ≤ sizeLine ∧ Q (.tup (xs ++ ys)) m) ∨ ∃ xs ys, lstOf m x = some xs ∧ lstOf m y = some ys ∧ xs.length + ys.length ≤ sizeLine ∧ Q (.lst (xs ++ ys)) m := by
  unfold gAdd at h
  split at h
  · exact .inl ⟨_, _, rfl, rfl, h⟩
  · exact .inr (.inl ⟨_, _, rfl, rfl, h⟩)
  · exact .inr (.inr (.inl ⟨_, _, rfl, rfl, h⟩))
  · split at h
    · rename_i e1 e2
      exact .inr (.inr (.inr ⟨_, _, e1, e2, h⟩))
    · exact h.elim
theorem od_add : OpRd X (binaryOp .Add) gAdd := ((op_add.or op_add_str).or ((op_catA).or op_cat)).to fun x y H Q ⟨dx, dy, m, P, hx, hy, hr, hg, hP⟩ => by
  rcases gAdd_ok hg with ⟨i, j, rfl, rfl, q⟩ | ⟨i, j, rfl, rfl, hz, q⟩ | ⟨xs, ys, rfl, rfl, hz, q⟩ | ⟨xs, ys, e1, e2, hz, q⟩
  · exact .inl (.inl ⟨i, j, hx.int_eq, hy.int_eq, hP _ m _ H q (Ext.refl _ _) hr .int'⟩)
  · exact .inl (.inr ⟨i, j, hx.str_eq, hy.str_eq, hz, hP _ m _ H q (Ext.refl _ _) hr .str'⟩)
  · obtain ⟨a, vs, h1, h2, h3⟩ := hx.tup_eq
    obtain ⟨b, us, g1, g2, g3⟩ := hy.tup_eq
    have r := Reps.append _ _ _ _ h3 g3
    refine .inr (.inl ⟨a, b, vs, us, h1, g1, h2, g2, by rw [Reps.length _ _ h3, Reps.length _ _ g3]; exact hz, fun e => ?_, fun e f => ?_, fun e f p hp => ?_⟩)
    · subst e
      exact hP _ m _ H q (Ext.refl _ _) hr (by unfold Rep; exact ⟨b, us, rfl, g2, r⟩)
    · subst f
      rw [List.append_nil] at r
      exact hP _ m _ H q (Ext.refl _ _) hr (by unfold Rep; exact ⟨a, vs, rfl, h2, r⟩)
    · exact hP _ m _ _ q (Ext.laid p _ hp) (hr.laid p _ hp) (new_tup hr r hp)
  · obtain ⟨a, vs, h1, h2, h3⟩ := lstM_rep e1 hr hx
    obtain ⟨b, us, g1, g2, g3⟩ := lstM_rep e2 hr hy
    have r := Reps.append _ _ _ _ h3 g3
    exact .inr (.inr ⟨a, b, vs, us, h1, g1, h2, g2, by rw [Reps.length _ _ h3, Reps.length _ _ g3]; exact hz, fun p hp => hP _ m _ _ q (Ext.laid p _ hp) (hr.laid p _ hp) (new_lst hr r hp)⟩)
/-! ### == -/
mutual
def eqD : D → D → Bool
  | .non, .non => true
  | .bl a, .bl b => a == b
  | .bl a, .int j => (if a then 1 else 0) == j
  | .int i, .bl b => i == (if b then 1 else 0)
  | .int i, .int j => i == j
  | .str x, .str y => x == y
  | .tup xs, .tup ys => eqDs xs ys
  | .lst xs, .lst ys => eqDs xs ys
  | _, _ => false
def eqDs : List D → List D → Bool
  | [], [] => true
  | x :: xs, y :: ys => eqD x y && eqDs xs ys
  | _, _ => false
end
mutual
/-- plain data, no deeper than n -/
def shp : Nat → D → Bool
  | _, .non => true
  | _, .bl _ => true
  | _, .int _ => true
  | _, .str x => PyData.strOk x
  | n, .tup xs => (match n with
    | 0 => false
    | n + 1 => shps n xs)
  | n, .lst xs => (match n with
    | 0 => false
    | n + 1 => shps n xs)
  | _, _ => false
def shps : Nat → List D → Bool
  | _, [] => true
  | n, x :: xs => shp n x && shps n xs
end
end
mutual
def pd : D → PyData
  | .non => .none
  | .bl b => .bool b
  | .int i => .int i
  | .str x => .str x
  | .tup xs => .tuple (pds xs)
  | .lst xs => .list (pds xs)
  | _ => .none
def pds : List D → List PyData
  | [] => []
  | x :: xs => pd x :: pds xs
end
section
variable {K : PySem.W.Frag} {H : Hp} {m : MM}
mutual
theorem shp_dp : ∀ (n : Nat) (d : D) (v : V), shp n d = true → Rep K H m d v → Dp K H v (pd d)
  | n, .non, v, h, r => by rw [r.non_eq]; unfold pd; exact .non
  | n, .bl b, v, h, r => by rw [r.bl_eq]; unfold pd; exact .bl b
  | n, .int i, v, h, r => by rw [r.int_eq]; unfold pd; exact .int i
  | n, .str x, v, h, r => by rw [r.str_eq]; unfold pd; exact .str x
  | 0, .tup xs, v, h, r => by simp [shp] at h
  | n + 1, .tup xs, v, h, r => by
    obtain ⟨a, vs, rfl, h2, h3⟩ := r.tup_eq
    unfold pd
    exact .tup h2 (shp_dps n xs vs (by unfold shp at h; exact h) h3)
  | 0, .lst xs, v, h, r => by simp [shp] at h
  | n + 1, .lst xs, v, h, r => by
    obtain ⟨a, vs, rfl, h2, h3⟩ := r.lst_eq
    unfold pd
    exact .lst h2.sq (shp_dps n xs vs (by unfold shp at h; exact h) h3)
  | n, .ty _, v, h, r => by simp [shp] at h
  | n, .adr _, v, h, r => by simp [shp] at h
  | n, .kl _, v, h, r => by simp [shp] at h
theorem shp_dps : ∀ (n : Nat) (ds : List D) (vs : List V), shps n ds = true → Reps K H m ds vs → DpAll K H vs (pds ds)
  | n, [], vs, h, r => by unfold Reps at r; subst r; unfold pds; exact .nil
  | n, d :: ds, vs, h, r => by
    unfold shps at h
    obtain ⟨h1, h2⟩ := Bool.and_eq_true_iff.mp h
    unfold Reps at r
    obtain ⟨v, s, rfl, r1, r2⟩ := r
    unfold pds
    exact .cons (shp_dp n d v h1 r1) (shp_dps n ds s h2 r2)
end
end
mutual
theorem shp_depth : ∀ (n : Nat) (d : D), shp n d = true → (pd d).canLay0 = true ∧ (pd d).depth ≤ n
  | n, .non, h => by simp [pd, PyData.canLay0, PyData.depth]
  | n, .bl b, h => by simp [pd, PyData.canLay0, PyData.depth]
  | n, .int i, h => by simp [pd, PyData.canLay0, PyData.depth]
  | n, .str x, h => by
    unfold shp at h
    simp [pd, PyData.canLay0, PyData.depth, h]
  | 0, .tup xs, h => by simp [shp] at h
  | n + 1, .tup xs, h => by
    obtain ⟨h1, h2⟩ := shps_depth n xs (by unfold shp at h; exact h)
    unfold pd PyData.canLay0 PyData.depth
    exact ⟨h1, by omega⟩
  | 0, .lst xs, h => by simp [shp] at h
  | n + 1, .lst xs, h => by
    obtain ⟨h1, h2⟩ := shps_depth n xs (by unfold shp at h; exact h)
    unfold pd PyData.canLay0 PyData.depth
    exact ⟨h1, by omega⟩
  | n, .ty _, h => by simp [shp] at h
  | n, .adr _, h => by simp [shp] at h
  | n, .kl _, h => by simp [shp] at h
theorem shps_depth : ∀ (n : Nat) (ds : List D), shps n ds = true → PyData.canLayAll0 (pds ds) = true ∧ PyData.depthAll (pds ds) ≤ n
  | n, [], h => by simp [pds, PyData.canLayAll0, PyData.depthAll]
  | n, d :: ds, h => by
    unfold shps at h
    obtain ⟨h1, h2⟩ := Bool.and_eq_true_iff.mp h
    obtain ⟨a1, a2⟩ := shp_depth n d h1
    obtain ⟨b1, b2⟩ := shps_depth n ds h2
    unfold pds PyData.canLayAll0 PyData.depthAll
    exact ⟨by rw [a1, b1]; rfl, Nat.max_le.mpr ⟨a2, b2⟩⟩
end
theorem shp_shaped {d : D} (h : shp 64 d = true) : SeqAt.shaped (pd d) = true := by
  obtain ⟨h1, h2⟩ := shp_depth 64 d h
  unfold SeqAt.shaped
  rw [h1, decide_eq_true h2]; rfl
mutual
theorem pd_eqv : ∀ (n : Nat) (d e : D), shp n d = true → shp n e = true → PyData.eqv (pd d) (pd e) = eqD d e
  | n, .non, e, h, k => by cases e <;> first | (simp [shp] at k; done) | simp [pd, PyData.eqv, eqD]
  | n, .bl b, e, h, k => by cases e <;> first | (simp [shp] at k; done) | simp [pd, PyData.eqv, eqD]
  | n, .int i, e, h, k => by cases e <;> first | (simp [shp] at k; done) | simp [pd, PyData.eqv, eqD]
  | n, .str x, e, h, k => by cases e <;> first | (simp [shp] at k; done) | simp [pd, PyData.eqv, eqD]
  | 0, .tup xs, e, h, k => by simp [shp] at h
  | n + 1, .tup xs, .tup ys, h, k => by
    unfold shp at h k
    unfold pd PyData.eqv eqD
    exact pds_eqv n xs ys h k
  | n + 1, .tup xs, .non, h, k => by simp [pd, PyData.eqv, eqD]
  | n + 1, .tup xs, .bl _, h, k => by simp [pd, PyData.eqv, eqD]
  | n + 1, .tup xs, .int _, h, k => by simp [pd, PyData.eqv, eqD]
  | n + 1, .tup xs, .str _, h, k => by simp [pd, PyData.eqv, eqD]
  | n + 1, .tup xs, .lst _, h, k => by simp [pd, PyData.eqv, eqD]
  | n + 1, .tup xs, .ty _, h, k => by simp [shp] at k
  | n + 1, .tup xs, .adr _, h, k => by simp [shp] at k
  | n + 1, .tup xs, .kl _, h, k => by simp [shp] at k
  | 0, .lst xs, e, h, k => by simp [shp] at h
  | n + 1, .lst xs, .lst ys, h, k => by
    unfold shp at h k
    unfold pd PyData.eqv eqD
    exact pds_eqv n xs ys h k
  | n + 1, .lst xs, .non, h, k => by simp [pd, PyData.eqv, eqD]
  | n + 1, .lst xs, .bl _, h, k => by simp [pd, PyData.eqv, eqD]
  | n + 1, .lst xs, .int _, h, k => by simp [pd, PyData.eqv, eqD]
  | n + 1, .lst xs, .str _, h, k => by simp [pd, PyData.eqv, eqD]
  | n + 1, .lst xs, .tup _, h, k => by simp [pd, PyData.eqv, eqD]
  | n + 1, .lst xs, .ty _, h, k => by simp [shp] at k
  | n + 1, .lst xs, .adr _, h, k => by simp [shp] at k
  | n + 1, .lst xs, .kl _, h, k => by simp [shp] at k
  | n, .ty _, e, h, k => by simp [shp] at h
  | n, .adr _, e, h, k => by simp [shp] at h
  | n, .kl _, e, h, k => by simp [shp] at h
theorem pds_eqv : ∀ (n : Nat) (ds es : List D), shps n ds = true → shps n es = true → PyData.eqvAll (pds ds) (pds es) = eqDs ds es
  | n, [], [], h, k => by simp [pds, PyData.eqvAll, eqDs]
  | n, [], _ :: _, h, k => by simp [pds, PyData.eqvAll, eqDs]
  | n, _ :: _, [], h, k => by simp [pds, PyData.eqvAll, eqDs]
  | n, d :: ds, e :: es, h, k => by
    unfold shps at h k
    obtain ⟨h1, h2⟩ := Bool.and_eq_true_iff.mp h
    obtain ⟨k1, k2⟩ := Bool.and_eq_true_iff.mp k
    unfold pds PyData.eqvAll eqDs
    rw [pd_eqv n d e h1 k1, pds_eqv n ds es h2 k2]
end
/-- == and != of plain data -/
def gEqB (s : Bool) : DR2 := fun x y m Q => shp 64 x = true ∧ shp 64 y = true ∧ Q (.bl (xor s (eqD x y))) m
abbrev gEq : DR2 := gEqB false
abbrev gNe : DR2 := gEqB true
section
variable {X : Cx} {k : Nat}
theorem od_eq (hr : Room k X.A) : OpRd X (compareOp .Eq) gEq := (op_eqD hr.units).to fun x y H Q ⟨dx, dy, m, P, hx, hy, hr, hg, hP⟩ => by
  obtain ⟨h1, h2, q⟩ := hg
  refine ⟨_, _, shp_dp _ _ _ h1 hx, shp_dp _ _ _ h2 hy, shp_shaped h1, shp_shaped h2, ?_⟩
  rw [pd_eqv _ _ _ h1 h2]
  rw [Bool.false_xor] at q
  exact hP _ m _ H q (Ext.refl _ _) hr .bl'
theorem od_ne (hr : Room k X.A) : OpRd X (compareOp .NotEq) gNe := (op_neD hr.units).to fun x y H Q ⟨dx, dy, m, P, hx, hy, hr, hg, hP⟩ => by
  obtain ⟨h1, h2, q⟩ := hg
  refine ⟨_, _, shp_dp _ _ _ h1 hx, shp_dp _ _ _ h2 hy, shp_shaped h1, shp_shaped h2, ?_⟩
  rw [pd_eqv _ _ _ h1 h2]
  rw [Bool.true_xor] at q
  exact hP _ m _ H q (Ext.refl _ _) hr .bl'
/-! ### is -/
def isNon : D → Bool
  | .non => true
  | _ => false
theorem isNon_rep {K : PySem.W.Frag} {H : Hp} {m : MM} {d : D} {v : V} (r : Rep K H m d v) : decide (v = .non) = isNon d := by
  cases d with
  | non => rw [r.non_eq]; rfl
  | bl b => rw [r.bl_eq]; rfl
  | int b => rw [r.int_eq]; rfl
  | str b => rw [r.str_eq]; rfl
  | ty b => rw [r.ty_eq]; rfl
  | adr b => rw [r.adr_eq]; rfl
  | tup ds => obtain ⟨a, vs, rfl, _⟩ := r.tup_eq; rfl
  | lst ds => obtain ⟨a, vs, rfl, _⟩ := r.lst_eq; rfl
  | kl ds => unfold Rep at r; obtain ⟨a, vs, rfl, _⟩ := r; rfl
def gIsN (s : Bool) : DR2 := fun x y m Q => match y with
  | .non => Q (.bl (xor s (isNon x))) m
  | _ => False
theorem gIsN_ok {s : Bool} {x y : D} {m : MM} {Q : D → MM → Prop} (h : gIsN s x y m Q) : y = .non ∧ Q (.bl (xor s (isNon x))) m := by
  unfold gIsN at h
  split at h
  · exact ⟨rfl, h⟩
  · exact h.elim
theorem od_is : OpRd X (compareOp .Is) (gIsN false) := op_isN.to fun x y H Q ⟨dx, dy, m, P, hx, hy, hr, hg, hP⟩ => by
  obtain ⟨rfl, q⟩ := gIsN_ok hg
  refine ⟨hy.non_eq, ?_⟩
  rw [isNon_rep hx]
  rw [Bool.false_xor] at q
  exact hP _ m _ H q (Ext.refl _ _) hr .bl'
theorem od_isnt : OpRd X (compareOp .IsNot) (gIsN true) := op_notN.to fun x y H Q ⟨dx, dy, m, P, hx, hy, hr, hg, hP⟩ => by
  obtain ⟨rfl, q⟩ := gIsN_ok hg
  refine ⟨hy.non_eq, ?_⟩
  rw [isNon_rep hx]
  rw [Bool.true_xor] at q
  exact hP _ m _ H q (Ext.refl _ _) hr .bl'
end
end Y
set_option maxHeartbeats 2000000
/-! Y9: subscripts, slices, calls of built-ins over data. -/
namespace Y
open PySem PySem.Spec PyProof.Rows L2
theorem Reps.atI {K : PySem.W.Frag} {H : Hp} {m : MM} {ds : List D} {vs : List V} {i : Int} {d : D} (h : Reps K H m ds vs) (e : L2.atI ds i = some d) : ∃ v, L2.atI vs i = some v ∧ Rep K H m d v := by
  unfold L2.atI at e ⊢
  rw [Reps.length _ _ h]
  cases q : ixN ds.length i with
  | none => rw [q] at e; cases e
  | some j =>
    rw [q] at e
    exact Reps.get _ _ j d h e
theorem Reps.drop {K : PySem.W.Frag} {H : Hp} {m : MM} : ∀ (n : Nat) {ds : List D} {vs : List V}, Reps K H m ds vs → Reps K H m (ds.drop n) (vs.drop n)
  | 0, ds, vs, h => by simpa using h
  | n + 1, [], vs, h => by unfold Reps at h; subst h; simpa using Reps.nil
  | n + 1, d :: ds, vs, h => by
    unfold Reps at h
    obtain ⟨v, s, rfl, h1, h2⟩ := h
    simpa using Reps.drop n h2
theorem Reps.take {K : PySem.W.Frag} {H : Hp} {m : MM} : ∀ (n : Nat) {ds : List D} {vs : List V}, Reps K H m ds vs → Reps K H m (ds.take n) (vs.take n)
  | 0, ds, vs, h => by simpa using Reps.nil
  | n + 1, [], vs, h => by unfold Reps at h; subst h; simpa using Reps.nil
  | n + 1, d :: ds, vs, h => by
    unfold Reps at h
    obtain ⟨v, s, rfl, h1, h2⟩ := h
    simpa using Reps.cons h1 (Reps.take n h2)
theorem Reps.reverse {K : PySem.W.Frag} {H : Hp} {m : MM} : ∀ {ds : List D} {vs : List V}, Reps K H m ds vs → Reps K H m ds.reverse vs.reverse
  | [], vs, h => by unfold Reps at h; subst h; exact Reps.nil
  | d :: ds, vs, h => by
    unfold Reps at h
    obtain ⟨v, s, rfl, h1, h2⟩ := h
    rw [List.reverse_cons, List.reverse_cons]
    exact Reps.append _ _ _ _ (Reps.reverse h2) (.cons h1 .nil)
theorem Reps.rep {K : PySem.W.Frag} {H : Hp} {m : MM} {ds : List D} {vs : List V} (h : Reps K H m ds vs) : ∀ n : Nat, Reps K H m (List.replicate n ds).flatten (List.replicate n vs).flatten
  | 0 => by simpa using Reps.nil
  | n + 1 => by
    rw [List.replicate_succ, List.replicate_succ, List.flatten_cons, List.flatten_cons]
    exact Reps.append _ _ _ _ h (Reps.rep h n)
theorem Reps.map {K : PySem.W.Frag} {H : Hp} {m : MM} {α : Type} {f : α → D} {g : α → V} (h : ∀ a v, Rep K H m (f a) v → v = g a) : ∀ {l : List α} {vs : List V}, Reps K H m (l.map f) vs → vs = l.map g
  | [], vs, r => by simpa [Reps] using r
  | a :: l, vs, r => by
    rw [List.map_cons] at r
    unfold Reps at r
    obtain ⟨v, s, rfl, h1, h2⟩ := r
    rw [h a v h1, Reps.map h h2]; rfl
theorem Reps.map_mk {K : PySem.W.Frag} {H : Hp} {m : MM} {α : Type} {f : α → D} {g : α → V} (h : ∀ a, Rep K H m (f a) (g a)) : ∀ (l : List α), Reps K H m (l.map f) (l.map g)
  | [] => Reps.nil
  | a :: l => .cons (h a) (Reps.map_mk h l)
/-! ### subscripts -/
def cutD (xs : List D) (lo hi : Option Int) : List D := (xs.drop (HT.sIx xs.length 0 lo)).take (HT.sIx xs.length xs.length hi - HT.sIx xs.length 0 lo)
def ixD (m : MM) (x y : D) : Option D := match y with
  | .int i => match x with
    | .str z => if z.length ≤ sizeLine then (atI z.cps.toList i).map fun c => .str ⟨#[c]⟩ else none
    | x => match sqOf m x with
      | some ds => atI ds i
      | none => none
  | _ => none
def gIx : DR2 := fun x y m Q => match ixD m x y with
  | some d => Q d m
  | none => False
theorem gIx_ok {x y : D} {m : MM} {Q : D → MM → Prop} (h : gIx x y m Q) : (∃ z i c, x = .str z ∧ y = .int i ∧ z.length ≤ sizeLine ∧ atI z.cps.toList i = some c ∧ Q (.str ⟨#[c]⟩) m) ∨ ∃ i ds d, y = .int i ∧ sqOf m x = some ds ∧ atI ds i = some d ∧ Q d m := by
  unfold gIx at h
  cases e : ixD m x y with
  | none => rw [e] at h; exact h.elim
  | some d =>
    rw [e] at h
    unfold ixD at e
    split at e
    · split at e
      · split at e
        · rename_i z hz
          obtain ⟨c, h1, h2⟩ := Option.map_eq_some_iff.mp e
          subst h2
          exact .inl ⟨_, _, c, rfl, rfl, hz, h1, h⟩
        · cases e
      · split at e
        · rename_i q
          exact .inr ⟨_, _, d, rfl, q, e, h⟩
        · cases e
    · cases e
section
variable {X : Cx} {W : WX} {pos p2 : Pos}
theorem de_ix {a b : Expr} {ta tb : DE} (ha : PEd X W a ta) (hb : PEd X W b tb) (hs : PlainIx b := by intro _ _; rfl) : PEd X W (.Subscript a b pos) (dOp gIx ta tb) :=
  (pe_ix (r := liftR2 X.K gIx) (fun value slice pins s σ H x y v u Q I rx ry ⟨dx, dy, m, P, hx, hy, hr, hg, hP⟩ hs => by
    refine ix_seq value slice pins s σ H x y v u Q I rx ry ?_ hs
    rcases gIx_ok hg with ⟨z, i, c, rfl, rfl, hz, hc, q⟩ | ⟨i, ds, d, rfl, e1, e2, q⟩
    · exact .inr (.inr ⟨z, i, c, hx.str_eq, hy.int_eq, hz, hc, hP _ m _ H q (Ext.refl _ _) hr .str'⟩)
    · obtain ⟨p, vs, h1, h2, h3⟩ := sqOf_rep e1 hr hx
      obtain ⟨v, hv, rv⟩ := h3.atI e2
      rcases h2 with h2 | h2
      · exact .inl ⟨p, vs, i, v, h1, hy.int_eq, h2, hv, hP _ m _ H q (Ext.refl _ _) hr rv⟩
      · exact .inr (.inl ⟨p, vs, i, v, h1, hy.int_eq, h2, hv, hP _ m _ H q (Ext.refl _ _) hr rv⟩)) ha hb hs).to fun _ _ _ => lift_op
/-- a part of a slice -/
abbrev DO := Env → MM → (Option Int → MM → Prop) → XC → Prop
def liftO (K : PySem.W.Frag) (W : WX) (t : DO) : TO := fun σ H Q => ∃ ρ m P Px, EnvR K H m ρ σ ∧ Rel K H m ∧ t ρ m P Px ∧ (∀ o m' H', P o m' → Ext H m H' m' → Rel K H' m' → Q o H') ∧ AftX K W σ H m Px
abbrev POd (X : Cx) (W : WX) (e : Option Expr) (t : DO) : Prop := PO X e (liftO X.K W t)
def dNoPart : DO := fun _ m Q _ => Q none m
def dPart (t : DE) : DO := fun ρ m Q X => t ρ m (fun d m1 => onI (fun i => Q (some i) m1) d) X
theorem dpo_none : POd X W none dNoPart := ⟨fun pins s σ H Q I ⟨ρ, m, P, Px, he, hr, ht, hP, hX⟩ => po_none.run pins s σ H Q I (hP none m H ht (Ext.refl _ _) hr)⟩
theorem dpo_some {e : Expr} {t : DE} (h : PEd X W e t) : POd X W (some e) (dPart t) := ⟨fun pins s σ H Q I ⟨ρ, m, P, Px, he, hr, ht, hP, hX⟩ =>
  (po_some h).run pins s σ H Q I ⟨ρ, m, _, Px, he, hr, ht, fun d m1 v H1 q e1 r1 x1 => by
    obtain ⟨i, rfl, q⟩ := onI_ok q
    exact ⟨i, x1.int_eq, hP (some i) m1 H1 q e1 r1⟩, hX⟩⟩
def gSl (x : D) (lo hi : Option Int) (m : MM) (Q : D → MM → Prop) : Prop := match x with
  | .str z => z.length ≤ sizeLine ∧ Q (.str (cutS z lo hi)) m
  | .tup ds => Q (.tup (cutD ds lo hi)) m
  | x => match lstOf m x with
    | some ds => Q (.lst (cutD ds lo hi)) m
    | none => False
theorem gSl_ok {x : D} {lo hi : Option Int} {m : MM} {Q : D → MM → Prop} (h : gSl x lo hi m Q) : (∃ z, x = .str z ∧ z.length ≤ sizeLine ∧ Q (.str (cutS z lo hi)) m) ∨ (∃ ds, x = .tup ds ∧ Q (.tup (cutD ds lo hi)) m) ∨
    ∃ ds, lstOf m x = some ds ∧ Q (.lst (cutD ds lo hi)) m := by
  unfold gSl at h
  split at h
  · exact .inl ⟨_, rfl, h⟩
  · exact .inr (.inl ⟨_, rfl, h⟩)
  · split at h
    · rename_i q
      exact .inr (.inr ⟨_, q, h⟩)
    · exact h.elim
def dSl (te : DE) (tl th : DO) : DE := fun ρ m Q X => te ρ m (fun x m1 => tl ρ m1 (fun lo m2 => th ρ m2 (fun hi m3 => gSl x lo hi m3 Q) X) X) X
theorem Reps.cut {K : PySem.W.Frag} {H : Hp} {m : MM} {ds : List D} {vs : List V} (h : Reps K H m ds vs) (lo hi : Option Int) : Reps K H m (cutD ds lo hi) (cutV vs lo hi) := by
  unfold cutD cutV
  rw [Reps.length _ _ h]
  exact Reps.take _ (Reps.drop _ h)
theorem de_slice {e : Expr} {lo hi : Option Expr} {te : DE} {tl th : DO} (he : PEd X W e te) (hl : POd X W lo tl) (hh : POd X W hi th) : PEd X W (.Subscript e (.Slice lo hi none p2) pos) (dSl te tl th) :=
  (pe_slice ((sl_str.or (sl_tupA)).or sl_list) he hl hh).to fun σ H Q ⟨ρ, m, P, Px, hv, hr, ht, hP, hX⟩ =>
    ⟨ρ, m, _, Px, hv, hr, ht, fun dx m1 x H1 q e1 r1 x1 => ⟨ρ, m1, _, Px, hv.ext hr e1, r1, q, fun lo m2 H2 q2 e2 r2 => ⟨ρ, m2, _, Px, (hv.ext hr e1).ext r1 e2, r2, q2, fun hi m3 H3 q3 e3 r3 => by
      have x3 := (x1.ext r1 e2 _ _).ext r2 e3
      have e03 := (e1.trans e2).trans e3
      rcases gSl_ok q3 with ⟨z, rfl, hz, q4⟩ | ⟨ds, rfl, q4⟩ | ⟨ds, e, q4⟩
      · exact .inl (.inl ⟨z, x3.str_eq, hz, hP _ m3 _ H3 q4 e03 r3 .str'⟩)
      · obtain ⟨a, vs, h1, h2, h3⟩ := x3.tup_eq
        refine .inl (.inr ⟨a, vs, h1, h2, fun w => ?_, fun w p hp => ?_⟩)
        · refine hP _ m3 _ H3 q4 e03 r3 ?_
          have hc : cutV vs lo hi = vs := by
            unfold cutV
            rw [w.1, w.2]
            simp
          have h4 := h3.cut lo hi
          rw [hc] at h4
          unfold Rep
          exact ⟨a, vs, rfl, h2, h4⟩
        · exact hP _ m3 _ _ q4 (e03.trans (Ext.laid p _ hp)) (r3.laid p _ hp) (new_tup r3 (h3.cut lo hi) hp)
      · obtain ⟨a, vs, h1, h2, h3⟩ := lstOf_rep e r3 x3
        exact .inr ⟨a, vs, h1, h2, fun p hp => hP _ m3 _ _ q4 (e03.trans (Ext.laid p _ hp)) (r3.laid p _ hp) (new_lst r3 (h3.cut lo hi) hp)⟩,
      fun C fs m' d H' p e r w => hX C fs m' d H' p ((e1.trans e2).trans e) r w⟩, fun C fs m' d H' p e r w => hX C fs m' d H' p (e1.trans e) r w⟩, hX⟩
/-- a list turned round: read alone, or to be changed -/
def dRev (t : DE) : DE := fun ρ m Q X => t ρ m (fun d m1 => match lstOf m1 d with
  | some ds => Q (.lst ds.reverse) m1
  | none => False) X
def dRevM (t : DE) : DE := fun ρ m Q X => t ρ m (fun d m1 => match lstOf m1 d with
  | some ds => ∀ p, m1 p = none → Q (.adr p) (mset m1 p (.lst ds.reverse))
  | none => False) X
theorem de_rev {e : Expr} {t : DE} {k : Nat} {p1 p3 p4 : Pos} (he : PEd X W e t) : PEd X W (.Subscript e (.Slice none none (some (.UnaryOp .USub (.Constant (.int 1) k p1) p2)) p3) pos) (dRev t) :=
  (pe_revL he).to fun σ H Q ⟨ρ, m, P, Px, hv, hr, ht, hP, hX⟩ => ⟨ρ, m, _, Px, hv, hr, ht, fun d m1 v H1 q e1 r1 x1 => by
    cases e : lstOf m1 d with
    | none => rw [e] at q; exact q.elim
    | some ds =>
      rw [e] at q
      obtain ⟨a, vs, h1, h2, h3⟩ := lstOf_rep e r1 x1
      exact ⟨a, vs, h1, h2, fun p hp => hP _ m1 _ _ q (e1.trans (Ext.laid p _ hp)) (r1.laid p _ hp) (new_lst r1 h3.reverse hp)⟩, hX⟩
theorem de_revM {e : Expr} {t : DE} {k : Nat} {p1 p3 p4 : Pos} (he : PEd X W e t) : PEd X W (.Subscript e (.Slice none none (some (.UnaryOp .USub (.Constant (.int 1) k p1) p2)) p3) pos) (dRevM t) :=
  (pe_revL he).to fun σ H Q ⟨ρ, m, P, Px, hv, hr, ht, hP, hX⟩ => ⟨ρ, m, _, Px, hv, hr, ht, fun d m1 v H1 q e1 r1 x1 => by
    cases e : lstOf m1 d with
    | none => rw [e] at q; exact q.elim
    | some ds =>
      rw [e] at q
      obtain ⟨a, vs, h1, h2, h3⟩ := lstOf_rep e r1 x1
      exact ⟨a, vs, h1, h2, fun p hp => hP _ _ _ _ (q p (r1.free hp)) (e1.trans (Ext.made hp)) (new_lstM r1 h3.reverse hp) .adr'⟩, hX⟩
/-! ### tuple * int -/
theorem tuple_mul1 (l : Addr) (items : Array Value) (n : Nat) (dd : Option Addr) (sl : Array (Option Value)) (u : Tok) :
    Meets (Builtin.«tuple.__mul__» ⟨[.ref l, .int 1 u], []⟩) (fun _ R s => s.heap.get? l = some { cls := .type "tuple", dict := dd, data := .seq items n, slots := sl } ∧ R (.ok (.ret (Value.ref l))) s) :=
  .of_wp fun prog w A R s h => by
    obtain ⟨hp, g, d, tk, os⟩ := s
    obtain ⟨hl, h⟩ := h
    have f1 := AutoSeq1.idx_int
    wp_walk using wpAny_loadPart' hl
    repeat (first
      | (refine wpAny_ite_true (decide_eq_true (by simp)) ?_; wp_walk using wpAny_loadPart' hl)
      | (refine wpAny_ite_false (decide_eq_false (by decide)) ?_; wp_walk using wpAny_loadPart' hl))
    exact ⟨_, rfl, h⟩
/-- a tuple so many times -/
def rRepA (K : PySem.W.Frag) : R2 := fun x y H Q => ∃ l k xs, x = .ref l ∧ y = .int k ∧ SqT K H l xs ∧ xs ≠ [] ∧ 1 ≤ k ∧ k ≤ 1000 ∧ xs.length ≤ 1000 ∧ (k = 1 → Q (.ref l) H) ∧ (k ≠ 1 → ∀ p, H p = none → Q (.ref p) (upd H p (.tup (List.replicate k.toNat xs).flatten)))
theorem op_repA : OpR X (binaryOp .Mult) (rRepA X.K) := by
  intro pins s σ H x y v u Q I rx ry h
  obtain ⟨l, k, xs, rfl, rfl, hT, hne, h1, h2, hz, q1, q2⟩ := h
  by_cases hk : k = 1
  · subst hk
    cases rx
    obtain ⟨t, rfl⟩ := ry
    obtain ⟨its, r, ⟨⟨cls, dd, data, sl⟩, ho, hc, n, hd⟩, hs⟩ := I.tuple hT
    simp only at hc hd
    subst hc hd
    exact wpAny_binaryOp_repeat_ref (T := "tuple") (U := "int") (by decide) ⟨_, ho, rfl⟩ (fun s' => typeIs_int s' 1 t) noFill_tuple_mul F.fills_int_mul F.slot_int_rmul repeat_tuple F.slot_int_index.lookup
      (call_meets F.slot_int_rmul (typeIs_int s 1 t) F.entry_int_rmul (F.args_int_rmul_2 _ _) (int_rmul_tuple 1 t l its.toArray n dd sl)
        ⟨ho, rfl, ⟨_, ho, rfl⟩, call_meets F.slot_tuple_mul ⟨_, ho, rfl⟩ F.entry_tuple_mul (F.args_tuple_mul_2 _ _) (tuple_mul1 l its.toArray n dd sl t) ⟨ho, ⟨.ref l, H, I, rfl, q1 rfl⟩⟩⟩)
  · exact op_repT pins s σ H _ _ v u Q I rx ry ⟨l, k, xs, rfl, rfl, hT, hne, by omega, h2, hz, q2 hk⟩
/-- a tuple or a list, so many times -/
def gRep : DR2 := fun x y m Q => match y with
  | .int k => (match x with
    | .tup ds => ds ≠ [] ∧ 1 ≤ k ∧ k ≤ 1000 ∧ ds.length ≤ 1000 ∧ Q (.tup (List.replicate k.toNat ds).flatten) m
    | .lst ds => k < 2 ^ 63 ∧ -(2 ^ 63) ≤ k ∧ ds.length * k.toNat ≤ sizeLine ∧ Q (.lst (List.replicate k.toNat ds).flatten) m
    | _ => False)
  | _ => False
theorem od_rep : OpRd X (binaryOp .Mult) gRep := (op_repA.or op_rep).to fun x y H Q ⟨dx, dy, m, P, hx, hy, hr, hg, hP⟩ => by
  unfold gRep at hg
  split at hg
  · split at hg
    · obtain ⟨h1, h2, h3, h4, q⟩ := hg
      obtain ⟨a, vs, e1, e2, e3⟩ := hx.tup_eq
      refine .inl ⟨a, _, vs, e1, hy.int_eq, e2, fun z => h1 ?_, h2, h3, by rw [Reps.length _ _ e3]; exact h4, fun hk => ?_, fun hk p hp => ?_⟩
      · subst z
        exact List.eq_nil_of_length_eq_zero (Reps.length _ _ e3).symm
      · subst hk
        refine hP _ m _ H q (Ext.refl _ _) hr ?_
        have hz : ∀ {α : Type} (l : List α), (List.replicate (Int.toNat 1) l).flatten = l := fun l => by simp
        rw [hz]
        unfold Rep
        exact ⟨a, vs, rfl, e2, e3⟩
      · exact hP _ m _ _ q (Ext.laid p _ hp) (hr.laid p _ hp) (new_tup hr (e3.rep _) hp)
    · obtain ⟨h1, h2, h3, q⟩ := hg
      obtain ⟨a, vs, e1, e2, e3⟩ := hx.lst_eq
      exact .inr ⟨a, _, vs, e1, hy.int_eq, e2.1, h2, h1, by rw [Reps.length _ _ e3]; exact h3, fun p hp => hP _ m _ _ q (Ext.laid p _ hp) (hr.laid p _ hp) (new_lst hr (e3.rep _) hp)⟩
    · exact hg.elim
  · exact hg.elim
/-- a list to be changed, so many times a list -/
def dRepM (ta tb : DE) : DE := fun ρ m Q X => ta ρ m (fun x m1 => tb ρ m1 (fun y m2 => match x, y with
  | .lst ds, .int k => k < 2 ^ 63 ∧ -(2 ^ 63) ≤ k ∧ ds.length * k.toNat ≤ sizeLine ∧ ∀ p, m2 p = none → Q (.adr p) (mset m2 p (.lst (List.replicate k.toNat ds).flatten))
  | _, _ => False) X) X
theorem de_repM {a b : Expr} {ta tb : DE} (ha : PEd X W a ta) (hb : PEd X W b tb) : PEd X W (.BinOp a .Mult b pos) (dRepM ta tb) :=
  (pe_op op_rep ha hb).to fun σ H Q ⟨ρ, m, P, Px, he, hr, ht, hP, hX⟩ => ⟨ρ, m, _, Px, he, hr, ht, fun dx m1 x H1 q e1 r1 x1 => ⟨ρ, m1, _, Px, he.ext hr e1, r1, q, fun dy m2 y H2 q2 e2 r2 y2 => by
    have x2 := x1.ext r1 e2 _ _
    split at q2
    · obtain ⟨h1, h2, h3, q⟩ := q2
      obtain ⟨a, vs, g1, g2, g3⟩ := x2.lst_eq
      exact ⟨a, _, vs, g1, y2.int_eq, g2.1, h2, h1, by rw [Reps.length _ _ g3]; exact h3, fun p hp => hP _ _ _ _ (q p (r2.free hp)) ((e1.trans e2).trans (Ext.made hp)) (new_lstM r2 (g3.rep _) hp) .adr'⟩
    · exact q2.elim, fun C fs m' d H' p e r w => hX C fs m' d H' p (e1.trans e) r w⟩, hX⟩
/-! ### calls -/
def on1 (F : D → Prop) : List D → Prop
  | [d] => F d
  | _ => False
theorem on1_ok {F : D → Prop} {ds : List D} (h : on1 F ds) : ∃ d, ds = [d] ∧ F d := by
  unfold on1 at h
  split at h
  · exact ⟨_, rfl, h⟩
  · exact h.elim
theorem Reps.one {K : PySem.W.Frag} {H : Hp} {m : MM} {d : D} {vs : List V} (h : Reps K H m [d] vs) : ∃ v, vs = [v] ∧ Rep K H m d v := by
  unfold Reps at h
  obtain ⟨v, s, rfl, h1, h2⟩ := h
  unfold Reps at h2
  subst h2
  exact ⟨v, rfl, h1⟩
def on2 (F : D → D → Prop) : List D → Prop
  | [d, e] => F d e
  | _ => False
theorem on2_ok {F : D → D → Prop} {ds : List D} (h : on2 F ds) : ∃ d e, ds = [d, e] ∧ F d e := by
  unfold on2 at h
  split at h
  · exact ⟨_, _, rfl, h⟩
  · exact h.elim
theorem Reps.two {K : PySem.W.Frag} {H : Hp} {m : MM} {d e : D} {vs : List V} (h : Reps K H m [d, e] vs) : ∃ v u, vs = [v, u] ∧ Rep K H m d v ∧ Rep K H m e u := by
  unfold Reps at h
  obtain ⟨v, s, rfl, h1, h2⟩ := h
  obtain ⟨u, rfl, h3⟩ := h2.one
  exact ⟨v, u, rfl, h1, h3⟩
def gAbs : DRC := fun ds m Q => on1 (onI fun i => Q (.int (if i < 0 then -i else i)) m) ds
theorem cd_abs : CallRd X (.builtin "abs") gAbs := call_abs.to fun xs H Q ⟨ds, m, P, hx, hr, hg, hP⟩ => by
  obtain ⟨d, rfl, hk⟩ := on1_ok hg
  obtain ⟨i, rfl, q⟩ := onI_ok hk
  obtain ⟨v, rfl, r⟩ := hx.one
  exact ⟨i, by rw [r.int_eq], hP _ m _ H q (Ext.refl _ _) hr .int'⟩
def gInt : DRC := fun ds m Q => on1 (fun d => match d with
  | .int i => Q (.int i) m
  | .bl b => Q (.int (if b then 1 else 0)) m
  | _ => False) ds
theorem cd_int : CallRd X (.type "int") gInt := call_int1.to fun xs H Q ⟨ds, m, P, hx, hr, hg, hP⟩ => by
  obtain ⟨d, rfl, hk⟩ := on1_ok hg
  obtain ⟨v, rfl, r⟩ := hx.one
  split at hk
  · exact .inl ⟨_, by rw [r.int_eq], hP _ m _ H hk (Ext.refl _ _) hr .int'⟩
  · exact .inr ⟨_, by rw [r.bl_eq], hP _ m _ H hk (Ext.refl _ _) hr .int'⟩
  · exact hk.elim
def gIntT : DRC := fun ds m Q => on1 (fun d => match d with
  | .str z => ∃ n, PySem.intText? z = some n ∧ z.length ≤ 640 ∧ Q (.int n) m
  | _ => False) ds
theorem cd_intT : CallRd X (.type "int") gIntT := call_int_str.to fun xs H Q ⟨ds, m, P, hx, hr, hg, hP⟩ => by
  obtain ⟨d, rfl, hk⟩ := on1_ok hg
  obtain ⟨v, rfl, r⟩ := hx.one
  split at hk
  · obtain ⟨n, h1, h2, q⟩ := hk
    exact ⟨_, n, by rw [r.str_eq], h1, h2, hP _ m _ H q (Ext.refl _ _) hr .int'⟩
  · exact hk.elim
def gStr : DRC := fun ds m Q => on1 (onI fun i => i.natAbs.log2 < 1920 ∧ Q (.str (toString i)) m) ds
theorem cd_str : CallRd X (.type "str") gStr := call_str_int.to fun xs H Q ⟨ds, m, P, hx, hr, hg, hP⟩ => by
  obtain ⟨d, rfl, hk⟩ := on1_ok hg
  obtain ⟨i, rfl, h1, q⟩ := onI_ok hk
  obtain ⟨v, rfl, r⟩ := hx.one
  exact ⟨i, by rw [r.int_eq], h1, hP _ m _ H q (Ext.refl _ _) hr .str'⟩
def gGcd : DRC := fun ds m Q => on2 (onII fun i j => Q (.int ((Nat.gcd i.natAbs j.natAbs : Nat) : Int)) m) ds
theorem cd_gcd : CallRd X (.builtin "math.gcd") gGcd := cr_gcd.to fun xs H Q ⟨ds, m, P, hx, hr, hg, hP⟩ => by
  obtain ⟨d, e, rfl, hk⟩ := on2_ok hg
  obtain ⟨i, j, rfl, rfl, q⟩ := onII_ok hk
  obtain ⟨v, u, rfl, r1, r2⟩ := hx.two
  exact ⟨i, j, by rw [r1.int_eq, r2.int_eq], hP _ m _ H q (Ext.refl _ _) hr .int'⟩
def lenD (m : MM) : D → Option Nat
  | .str z => if z.length ≤ sizeLine then some z.length else none
  | d => (sqOf m d).map List.length
def gLen : DRC := fun ds m Q => on1 (fun d => match lenD m d with
  | some n => Q (.int (n : Nat)) m
  | none => False) ds
theorem cd_len : CallRd X (.builtin "len") gLen := call_len.to fun xs H Q ⟨ds, m, P, hx, hr, hg, hP⟩ => by
  obtain ⟨d, rfl, hk⟩ := on1_ok hg
  obtain ⟨v, rfl, r⟩ := hx.one
  cases e : lenD m d with
  | none => rw [e] at hk; exact hk.elim
  | some n =>
    rw [e] at hk
    refine ⟨v, n, rfl, ?_, hP _ m _ H hk (Ext.refl _ _) hr .int'⟩
    unfold lenD at e
    split at e
    · split at e
      · rename_i z hz
        cases e
        rw [r.str_eq]
        exact ⟨hz, rfl⟩
      · cases e
    · obtain ⟨ds, h1, h2⟩ := Option.map_eq_some_iff.mp e
      obtain ⟨a, vs, rfl, g2, g3⟩ := sqOf_rep h1 hr r
      have hl := Reps.length _ _ g3
      rcases g2 with g2 | g2
      · exact .inl ⟨vs, g2, by omega⟩
      · exact .inr ⟨vs, g2, by omega⟩
/-- tuple(..) -/
def gTupC : DRC := fun ds m Q => on1 (fun d => match sqOf m d with
  | some xs => Q (.tup xs) m
  | none => False) ds
theorem cd_tuple : CallRd X (.type "tuple") gTupC := call_tuple_of.to fun xs H Q ⟨ds, m, P, hx, hr, hg, hP⟩ => by
  obtain ⟨d, rfl, hk⟩ := on1_ok hg
  obtain ⟨v, rfl, r⟩ := hx.one
  cases e : sqOf m d with
  | none => rw [e] at hk; exact hk.elim
  | some xs =>
    rw [e] at hk
    obtain ⟨a, vs, rfl, g2, g3⟩ := sqOf_rep e hr r
    rcases g2 with g2 | g2
    · exact ⟨a, vs, rfl, .inl ⟨g2, fun p hp => hP _ m _ _ hk (Ext.laid p _ hp) (hr.laid p _ hp) (new_tup hr g3 hp)⟩⟩
    · exact ⟨a, vs, rfl, .inr ⟨g2, hP _ m _ H hk (Ext.refl _ _) hr (by unfold Rep; exact ⟨a, vs, rfl, g2, g3⟩)⟩⟩
/-- list(..): read alone, or to be changed -/
def gLstC : DRC := fun ds m Q => on1 (fun d => match sqOf m d with
  | some xs => Q (.lst xs) m
  | none => False) ds
def gLstCM : DRC := fun ds m Q => on1 (fun d => match sqOf m d with
  | some xs => ∀ p, m p = none → Q (.adr p) (mset m p (.lst xs))
  | none => False) ds
theorem cd_list : CallRd X (.type "list") gLstC := call_list_of.to fun xs H Q ⟨ds, m, P, hx, hr, hg, hP⟩ => by
  obtain ⟨d, rfl, hk⟩ := on1_ok hg
  obtain ⟨v, rfl, r⟩ := hx.one
  cases e : sqOf m d with
  | none => rw [e] at hk; exact hk.elim
  | some xs =>
    rw [e] at hk
    obtain ⟨a, vs, rfl, g2, g3⟩ := sqOf_rep e hr r
    exact ⟨a, vs, rfl, g2, fun p hp => hP _ m _ _ hk (Ext.laid p _ hp) (hr.laid p _ hp) (new_lst hr g3 hp)⟩
theorem cd_listM : CallRd X (.type "list") gLstCM := call_list_of.to fun xs H Q ⟨ds, m, P, hx, hr, hg, hP⟩ => by
  obtain ⟨d, rfl, hk⟩ := on1_ok hg
  obtain ⟨v, rfl, r⟩ := hx.one
  cases e : sqOf m d with
  | none => rw [e] at hk; exact hk.elim
  | some xs =>
    rw [e] at hk
    obtain ⟨a, vs, rfl, g2, g3⟩ := sqOf_rep e hr r
    exact ⟨a, vs, rfl, g2, fun p hp => hP _ _ _ _ (hk p (hr.free hp)) (Ext.made hp) (new_lstM hr g3 hp) .adr'⟩
/-- all, any, of bools; sum of whole numbers -/
def blsD : List D → Option (List Bool)
  | [] => some []
  | .bl b :: r => (blsD r).map (b :: ·)
  | _ => none
theorem blsD_ok : ∀ {ds : List D} {bs : List Bool}, blsD ds = some bs → ds = bs.map D.bl
  | [], bs, h => by cases h; rfl
  | .bl b :: r, bs, h => by
    unfold blsD at h
    obtain ⟨cs, h1, h2⟩ := Option.map_eq_some_iff.mp h
    subst h2
    rw [List.map_cons, ← blsD_ok h1]
  | .non :: _, _, h => by simp [blsD] at h
  | .int _ :: _, _, h => by simp [blsD] at h
  | .str _ :: _, _, h => by simp [blsD] at h
  | .ty _ :: _, _, h => by simp [blsD] at h
  | .adr _ :: _, _, h => by simp [blsD] at h
  | .tup _ :: _, _, h => by simp [blsD] at h
  | .lst _ :: _, _, h => by simp [blsD] at h
  | .kl _ :: _, _, h => by simp [blsD] at h
theorem blsD_map (bs : List Bool) : blsD (bs.map D.bl) = some bs := by
  induction bs with
  | nil => rfl
  | cons b r ih => rw [List.map_cons]; unfold blsD; rw [ih]; rfl
def intsD : List D → Option (List Int)
  | [] => some []
  | .int b :: r => (intsD r).map (b :: ·)
  | _ => none
theorem intsD_ok : ∀ {ds : List D} {bs : List Int}, intsD ds = some bs → ds = bs.map D.int
  | [], bs, h => by cases h; rfl
  | .int b :: r, bs, h => by
    unfold intsD at h
    obtain ⟨cs, h1, h2⟩ := Option.map_eq_some_iff.mp h
    subst h2
    rw [List.map_cons, ← intsD_ok h1]
  | .non :: _, _, h => by simp [intsD] at h
  | .bl _ :: _, _, h => by simp [intsD] at h
  | .str _ :: _, _, h => by simp [intsD] at h
  | .ty _ :: _, _, h => by simp [intsD] at h
  | .adr _ :: _, _, h => by simp [intsD] at h
  | .tup _ :: _, _, h => by simp [intsD] at h
  | .lst _ :: _, _, h => by simp [intsD] at h
  | .kl _ :: _, _, h => by simp [intsD] at h
theorem intsD_map (bs : List Int) : intsD (bs.map D.int) = some bs := by
  induction bs with
  | nil => rfl
  | cons b r ih => rw [List.map_cons]; unfold intsD; rw [ih]; rfl
def gBls (f : List Bool → Bool) : DRC := fun ds m Q => on1 (fun d => match (lstOf m d).bind blsD with
  | some bs => Q (.bl (f bs)) m
  | none => False) ds
abbrev gAll : DRC := gBls (·.all id)
abbrev gAny : DRC := gBls (·.any id)
theorem gBls_ok {f : List Bool → Bool} {K : PySem.W.Frag} {H : Hp} {m : MM} {ds : List D} {xs : List V} {Q : D → MM → Prop} (hx : Reps K H m ds xs) (hr : Rel K H m) (hg : gBls f ds m Q) :
    ∃ a bs, xs = [.ref a] ∧ SqL K H a (bs.map V.bl) ∧ Q (.bl (f bs)) m := by
  obtain ⟨d, rfl, hk⟩ := on1_ok hg
  obtain ⟨v, rfl, r⟩ := hx.one
  cases e : (lstOf m d).bind blsD with
  | none => rw [e] at hk; exact hk.elim
  | some bs =>
    rw [e] at hk
    obtain ⟨us, h1, h2⟩ := Option.bind_eq_some_iff.mp e
    obtain ⟨a, vs, rfl, g2, g3⟩ := lstOf_rep h1 hr r
    rw [blsD_ok h2] at g3
    rw [Reps.map (g := V.bl) (fun _ _ h => h.bl_eq) g3] at g2
    exact ⟨a, bs, rfl, g2, hk⟩
theorem cd_all (hc : X.calm = true) : CallRd X (.builtin "all") gAll := (cr_all hc).to fun xs H Q ⟨ds, m, P, hx, hr, hg, hP⟩ => by
  obtain ⟨a, bs, h1, h2, q⟩ := gBls_ok hx hr hg
  exact ⟨a, bs, h1, h2, hP _ m _ H q (Ext.refl _ _) hr .bl'⟩
theorem cd_any (hc : X.calm = true) : CallRd X (.builtin "any") gAny := (cr_any hc).to fun xs H Q ⟨ds, m, P, hx, hr, hg, hP⟩ => by
  obtain ⟨a, bs, h1, h2, q⟩ := gBls_ok hx hr hg
  exact ⟨a, bs, h1, h2, hP _ m _ H q (Ext.refl _ _) hr .bl'⟩
def gSum : DRC := fun ds m Q => on1 (fun d => match (lstOf m d).bind intsD with
  | some ns => Q (.int ns.sum) m
  | none => False) ds
theorem cd_sum (hc : X.calm = true) : CallRd X (.builtin "sum") gSum := (cr_sum hc).to fun xs H Q ⟨ds, m, P, hx, hr, hg, hP⟩ => by
  obtain ⟨d, rfl, hk⟩ := on1_ok hg
  obtain ⟨v, rfl, r⟩ := hx.one
  cases e : (lstOf m d).bind intsD with
  | none => rw [e] at hk; exact hk.elim
  | some bs =>
    rw [e] at hk
    obtain ⟨us, h1, h2⟩ := Option.bind_eq_some_iff.mp e
    obtain ⟨a, vs, rfl, g2, g3⟩ := lstOf_rep h1 hr r
    rw [intsD_ok h2] at g3
    rw [Reps.map (g := V.int) (fun _ _ h => h.int_eq) g3] at g2
    exact ⟨a, bs, rfl, g2, hP _ m _ H hk (Ext.refl _ _) hr .int'⟩
/-- isinstance with a built-in class -/
def tyD (m : MM) : D → Option String
  | .non => some "NoneType"
  | .bl _ => some "bool"
  | .int _ => some "int"
  | .str _ => some "str"
  | .tup _ => some "tuple"
  | .lst _ => some "list"
  | .adr a => match m a with
    | some (.lst _) => some "list"
    | some (.dK _) => some "dict"
    | some (.dT _) => some "dict"
    | _ => none
  | _ => none
theorem tyD_rep {K : PySem.W.Frag} {H : Hp} {m : MM} {d : D} {v : V} {T : String} (hr : Rel K H m) (r : Rep K H m d v) (h : tyD m d = some T) : TyX K H v (.type T) := by
  unfold tyD at h
  split at h
  · cases h; rw [r.non_eq]; exact .base .non
  · cases h; rw [r.bl_eq]; exact .base (.bl _)
  · cases h; rw [r.int_eq]; exact .base (.int _)
  · cases h; rw [r.str_eq]; exact .base (.str _)
  · cases h
    obtain ⟨a, vs, rfl, h2, _⟩ := r.tup_eq
    rcases h2 with (h2 | ⟨o, h2⟩) | h2
    · exact .base (.tup h2)
    · exact .fTuple h2
    · obtain ⟨o, its, n, h3, h4, _⟩ := h2
      exact .kTuple h3 h4
  · cases h
    obtain ⟨a, vs, rfl, h2, _⟩ := r.lst_eq
    exact .base (.lst h2.1)
  · split at h
    · rename_i q
      cases h
      obtain ⟨vs, h1, _⟩ := hr _ _ q
      rw [r.adr_eq]; exact .base (.lst h1)
    · rename_i q
      cases h
      obtain ⟨vs, h1, _⟩ := hr _ _ q
      rw [r.adr_eq]; exact .base (.dK h1)
    · rename_i q
      cases h
      obtain ⟨vs, h1, _⟩ := hr _ _ q
      rw [r.adr_eq]; exact .base (.dT h1)
    · cases h
  · cases h
def isB (t c : String) : Bool := t == c || (t == "bool" && c == "int")
def kinds : List String := ["NoneType", "bool", "int", "str", "tuple", "list", "dict"]
theorem kit_tt (K : PySem.W.Frag) : ∀ t ∈ kinds, ∀ c ∈ kinds, PySem.W.kitOne K (.type t) (.type c) = some (isB t c) := by
  intro t ht c hc
  simp only [kinds, List.mem_cons, List.not_mem_nil, or_false] at ht hc
  rcases ht with rfl | rfl | rfl | rfl | rfl | rfl | rfl <;> rcases hc with rfl | rfl | rfl | rfl | rfl | rfl | rfl <;> rfl
theorem tyD_kinds {m : MM} {d : D} {T : String} (h : tyD m d = some T) : T ∈ kinds := by
  unfold tyD at h
  split at h <;> first | (cases h; decide) | (split at h <;> first | (cases h; decide) | cases h) | cases h
def gIsi : DRC := fun ds m Q => on2 (fun d e => match e with
  | .ty c => c ∈ kinds ∧ (match tyD m d with
    | some t => Q (.bl (isB t c)) m
    | none => False)
  | _ => False) ds
theorem cd_isi : CallRd X (.builtin "isinstance") gIsi := call_isi.to fun xs H Q ⟨ds, m, P, hx, hr, hg, hP⟩ => by
  obtain ⟨d, e, rfl, hk⟩ := on2_ok hg
  obtain ⟨v, u, rfl, r1, r2⟩ := hx.two
  split at hk
  · obtain ⟨h1, hk⟩ := hk
    cases et : tyD m d with
    | none => rw [et] at hk; exact hk.elim
    | some t =>
      rw [et] at hk
      rw [r2.ty_eq]
      exact ⟨v, _, .type t, .type _, _, rfl, .ty _, tyD_rep hr r1 et, kit_tt X.K t (tyD_kinds et) _ h1, hP _ m _ H hk (Ext.refl _ _) hr .bl'⟩
  · exact hk.elim
end
end Y
/-! Y10: dicts, lists that change, texts. -/
namespace Y
open PySem PySem.Spec PyProof.Rows L2
/-! ### keys -/
def keyD : D → Option Key
  | .int i => some (.inl i)
  | .str x => some (.inr x)
  | _ => none
theorem keyD_rep {K : PySem.W.Frag} {H : Hp} {m : MM} {d : D} {k : Key} {v : V} (h : keyD d = some k) (r : Rep K H m d v) : v = kV k := by
  unfold keyD at h
  split at h
  · cases h; exact r.int_eq
  · cases h; exact r.str_eq
  · cases h
section
variable {κ : Type} [DecidableEq κ]
def valD (kvs : List (κ × D)) (k : κ) : Option D := (kvs.find? fun kv => decide (kv.1 = k)).map (·.2)
def putD (kvs : List (κ × D)) (k : κ) (v : D) : List (κ × D) :=
  if (kvs.any fun kv => decide (kv.1 = k)) = true then kvs.map (fun kv => if kv.1 = k then (kv.1, v) else kv) else kvs ++ [(k, v)]
theorem RepKV.val {K : PySem.W.Frag} {H : Hp} {m : MM} : ∀ {ds : List (κ × D)} {vs : List (κ × V)} {k : κ} {d : D}, RepKV K H m ds vs → valD ds k = some d → ∃ v, valV vs k = some v ∧ Rep K H m d v
  | [], vs, k, d, h, e => by cases e
  | (k0, d0) :: ds, vs, k, d, h, e => by
    unfold RepKV at h
    obtain ⟨v, s, rfl, h2, h3⟩ := h
    by_cases hk : k0 = k
    · have : d0 = d := by
        unfold valD at e
        simp [List.find?_cons, hk] at e
        exact e
      subst this
      exact ⟨v, by simp [valV, List.find?_cons, hk], h2⟩
    · have e' : valD ds k = some d := by
        unfold valD at e ⊢
        simpa [List.find?_cons, hk] using e
      obtain ⟨u, h4, h5⟩ := RepKV.val h3 e'
      exact ⟨u, by rw [← h4]; simp [valV, List.find?_cons, hk], h5⟩
theorem RepKV.length {K : PySem.W.Frag} {H : Hp} {m : MM} {κ : Type} : ∀ {ds : List (κ × D)} {vs : List (κ × V)}, RepKV K H m ds vs → vs.length = ds.length
  | [], vs, h => by unfold RepKV at h; rw [h]; rfl
  | (k0, d0) :: ds, vs, h => by
    unfold RepKV at h
    obtain ⟨v, s, rfl, h2, h3⟩ := h
    simp [RepKV.length h3]
theorem RepKV.any {K : PySem.W.Frag} {H : Hp} {m : MM} : ∀ {ds : List (κ × D)} {vs : List (κ × V)} (k : κ), RepKV K H m ds vs → (vs.any fun kv => decide (kv.1 = k)) = (ds.any fun kv => decide (kv.1 = k))
  | [], vs, k, h => by unfold RepKV at h; rw [h]; rfl
  | (k0, d0) :: ds, vs, k, h => by
    unfold RepKV at h
    obtain ⟨v, s, rfl, h2, h3⟩ := h
    simp [RepKV.any k h3]
theorem RepKV.append {K : PySem.W.Frag} {H : Hp} {m : MM} {κ : Type} : ∀ {ds es : List (κ × D)} {vs us : List (κ × V)}, RepKV K H m ds vs → RepKV K H m es us → RepKV K H m (ds ++ es) (vs ++ us)
  | [], es, vs, us, h, k => by unfold RepKV at h; subst h; exact k
  | (k0, d0) :: ds, es, vs, us, h, k => by
    unfold RepKV at h
    obtain ⟨v, s, rfl, h2, h3⟩ := h
    show RepKV K H m ((k0, d0) :: (ds ++ es)) ((k0, v) :: (s ++ us))
    unfold RepKV
    exact ⟨v, _, rfl, h2, RepKV.append h3 k⟩
theorem RepKV.nil {K : PySem.W.Frag} {H : Hp} {m : MM} {κ : Type} : RepKV (κ := κ) K H m [] [] := by unfold RepKV; rfl
theorem RepKV.cons {K : PySem.W.Frag} {H : Hp} {m : MM} {κ : Type} {k : κ} {d : D} {ds : List (κ × D)} {v : V} {vs : List (κ × V)} (h : Rep K H m d v) (r : RepKV K H m ds vs) : RepKV K H m ((k, d) :: ds) ((k, v) :: vs) := by
  unfold RepKV; exact ⟨v, vs, rfl, h, r⟩
theorem RepKV.put {K : PySem.W.Frag} {H : Hp} {m : MM} {ds : List (κ × D)} {vs : List (κ × V)} {k : κ} {d : D} {v : V} (h : RepKV K H m ds vs) (r : Rep K H m d v) : RepKV K H m (putD ds k d) (putK vs k v) := by
  have key : ∀ {ds : List (κ × D)} {vs : List (κ × V)}, RepKV K H m ds vs → RepKV K H m (ds.map (fun kv => if kv.1 = k then (kv.1, d) else kv)) (vs.map (fun kv => if kv.1 = k then (kv.1, v) else kv)) := by
    intro ds
    induction ds with
    | nil => intro vs h; unfold RepKV at h; subst h; exact .nil
    | cons p ds ih =>
      intro vs h
      obtain ⟨k0, d0⟩ := p
      unfold RepKV at h
      obtain ⟨v0, s, rfl, h2, h3⟩ := h
      rw [List.map_cons, List.map_cons]
      by_cases hk : k0 = k
      · simp only [hk, if_true]
        exact .cons r (ih h3)
      · simp only [hk, if_false]
        exact .cons h2 (ih h3)
  unfold putD putK
  rw [RepKV.any k h]
  split
  · exact key h
  · exact RepKV.append h (.cons r .nil)
theorem putD_len (kvs : List (κ × D)) (k : κ) (v : D) : (putD kvs k v).length ≤ kvs.length + 1 := by
  unfold putD
  split
  · rw [List.length_map]; omega
  · simp
end
/-- o[i] of lists, tuples, texts and dicts -/
def itD (m : MM) (x y : D) : Option D := match x with
  | .adr a => (match m a with
    | some (.lst ds) => (match y with
      | .int i => atI ds i
      | _ => none)
    | some (.dK kvs) => (match keyD y with
      | some k => valD kvs k
      | none => none)
    | _ => none)
  | x => ixD m x y
def gIt : DR2 := fun x y m Q => match itD m x y with
  | some d => Q d m
  | none => False
section
variable {X : Cx} {W : WX} {pos : Pos}
def rIxDK : R2 := fun x y H Q => ∃ a v, x = .ref a ∧ DGet H a y (some v) ∧ Q v H
theorem ix_dict (hu : X.A.units + 1 < cLine) : IxR X rIxDK := by
  intro value slice pins s σ H x y v u Q I rx ry h hs
  obtain ⟨a, z, rfl, g, q⟩ := h
  obtain rfl : v = Value.ref a := rx
  have hT := dict_typeIs I g
  unfold subscriptTail
  refine wpAny_bind ?_
  rw [getitemInPython_of_ne hT.not_modules]
  refine wpAny_bind (wpAny_specialOf hT PySem.F.slot_dict_getitem.lookup ?_)
  have fin : wpAny (model X.prog X.w) X.A (subscripted slice false (.ref a) u) (fun r s₃ => wpAny (model X.prog X.w) X.A (letTemporaryGo value (.ref a) r >>= fun _ => pure r) (EP X pins σ Q) X.xe s₃) X.xe s := by
    rw [hs]
    refine wpAny_operating (thn (d_getItem hu I g ry fun w' s3 I3 rw' => (⟨z, H, I3, rw', q⟩ : EP X pins σ Q w' s3)) fun r s₃ h₃ => wpAny_bind (wpAny_letTemporaryGo (wpAny_pure h₃)))
  first
    | exact wpAny_pure (wpAny_bind fin)
    | exact wpAny_bind (wpAny_pure (wpAny_bind fin))
    | exact wpAny_pure fin
theorem de_it {a b : Expr} {ta tb : DE} {k : Nat} (hu : Room k X.A) (ha : PEd X W a ta) (hb : PEd X W b tb) (hs : PlainIx b := by intro _ _; rfl) : PEd X W (.Subscript a b pos) (dOp gIt ta tb) :=
  (pe_ix (r := liftR2 X.K gIt) (fun value slice pins s σ H x y v u Q I rx ry ⟨dx, dy, m, P, hx, hy, hr, hg, hP⟩ hs => by
    unfold gIt at hg
    cases e : itD m dx dy with
    | none => rw [e] at hg; exact hg.elim
    | some d =>
      rw [e] at hg
      unfold itD at e
      split at e
      · rename_i a
        split at e
        · rename_i ds q
          split at e
          · rename_i i
            obtain ⟨vs, h1, h2⟩ := hr _ _ q
            obtain ⟨z, hz, rz⟩ := h2.atI e
            exact ix_list value slice pins s σ H x y v u Q I rx ry ⟨a, vs, i, z, hx.adr_eq, hy.int_eq, SqL.of h1, hz, hP _ m _ H hg (Ext.refl _ _) hr rz⟩ hs
          · cases e
        · rename_i kvs q
          split at e
          · rename_i k ek
            obtain ⟨us, h1, h2⟩ := hr _ _ q
            obtain ⟨z, hz, rz⟩ := RepKV.val h2 e
            refine ix_dict (by have := hu.units; omega) value slice pins s σ H x y v u Q I rx ry ⟨a, z, hx.adr_eq, ?_, hP _ m _ H hg (Ext.refl _ _) hr rz⟩ hs
            have := DGet.k (k := k) h1
            rw [hz] at this
            rw [keyD_rep ek hy]
            exact this
          · cases e
        · cases e
      · refine ix_seq value slice pins s σ H x y v u Q I rx ry ?_ hs
        rcases gIx_ok (x := dx) (y := dy) (m := m) (Q := P) (by unfold gIx; rw [e]; exact hg) with ⟨z, i, c, rfl, rfl, hz, hc, q⟩ | ⟨i, ds, d, rfl, e1, e2, q⟩
        · exact .inr (.inr ⟨z, i, c, hx.str_eq, hy.int_eq, hz, hc, hP _ m _ H q (Ext.refl _ _) hr .str'⟩)
        · obtain ⟨p, vs, h1, h2, h3⟩ := sqOf_rep e1 hr hx
          obtain ⟨v, hv, rv⟩ := h3.atI e2
          rcases h2 with h2 | h2
          · exact .inl ⟨p, vs, i, v, h1, hy.int_eq, h2, hv, hP _ m _ H q (Ext.refl _ _) hr rv⟩
          · exact .inr (.inl ⟨p, vs, i, v, h1, hy.int_eq, h2, hv, hP _ m _ H q (Ext.refl _ _) hr rv⟩)) ha hb hs).to fun _ _ _ => lift_op
/-- o[i] = v -/
def setD (m : MM) (x y v : D) : Option (Addr × MO) := match x with
  | .adr a => (match m a with
    | some (.lst ds) => (match y with
      | .int i => (match ixN ds.length i with
        | some j => some (a, .lst (ds.set j v))
        | none => none)
      | _ => none)
    | some (.dK kvs) => (match keyD y with
      | some k => if kvs.length < sizeLine then some (a, .dK (putD kvs k v)) else none
      | none => none)
    | _ => none)
  | _ => none
theorem Reps.set {K : PySem.W.Frag} {H : Hp} {m : MM} : ∀ {ds : List D} {vs : List V} (j : Nat) {d : D} {v : V}, Reps K H m ds vs → Rep K H m d v → Reps K H m (ds.set j d) (vs.set j v)
  | [], vs, j, d, v, h, r => by unfold Reps at h; subst h; exact Reps.nil
  | d0 :: ds, vs, 0, d, v, h, r => by
    unfold Reps at h
    obtain ⟨v0, s, rfl, h2, h3⟩ := h
    exact .cons r h3
  | d0 :: ds, vs, j + 1, d, v, h, r => by
    unfold Reps at h
    obtain ⟨v0, s, rfl, h2, h3⟩ := h
    exact .cons h2 (Reps.set j h3 r)
/-- value first, then the object, then the place -/
def dPut (to ti tv : DE) : DSt := fun E ρ m => tv ρ m (fun v m1 => to ρ m1 (fun x m2 => ti ρ m2 (fun y m3 => match setD m3 x y v with
  | some (a, o) => E.nx ρ (mset m3 a o)
  | none => False) (exOf E ρ)) (exOf E ρ)) (exOf E ρ)
theorem setD_rep {K : PySem.W.Frag} {H : Hp} {m : MM} {x y v : D} {a : Addr} {o : MO} {vx vy vv : V} (e : setD m x y v = some (a, o)) (r : Rel K H m) (rx : Rep K H m x vx) (ry : Rep K H m y vy) (rv : Rep K H m v vv) :
    ∃ u, vx = .ref a ∧ Ext H m (upd H a u) (mset m a o) ∧ Rel K (upd H a u) (mset m a o) ∧ ((∃ xs k j, vy = .int k ∧ H a = some (.lst xs) ∧ ixN xs.length k = some j ∧ u = .lst (xs.set j vv)) ∨ DPut H a vy vv (upd H a u)) := by
  unfold setD at e
  split at e
  · rename_i b
    split at e
    · rename_i ds q
      split at e
      · rename_i i
        split at e
        · rename_i j hj
          cases e
          obtain ⟨vs, h1, h2⟩ := r _ _ q
          refine ⟨.lst (vs.set j vv), rx.adr_eq, Ext.write q, r.write q ⟨_, upd_same, Reps.ext r (Ext.write q) _ _ (Reps.set j h2 rv)⟩, .inl ⟨vs, i, j, ry.int_eq, h1, by rw [Reps.length _ _ h2]; exact hj, rfl⟩⟩
        · cases e
      · cases e
    · rename_i kvs q
      split at e
      · rename_i k ek
        split at e
        · rename_i hl
          cases e
          obtain ⟨us, h1, h2⟩ := r _ _ q
          refine ⟨.dK (putK us k vv), rx.adr_eq, Ext.write q, r.write q ⟨_, upd_same, RepKV.ext r (Ext.write q) _ _ (RepKV.put h2 rv)⟩, .inr ?_⟩
          rw [keyD_rep ek ry]
          exact DPut.k h1 (by rw [RepKV.length h2]; exact hl)
        · cases e
      · cases e
    · cases e
  · cases e
theorem set_any (hu : X.A.units + 1 < cLine) : PSet X (fun o i v H Q => rSetL o i v H Q ∨ rSetD o i v H Q) := fun pins s σ H o i v ov iv u Q I ro ri rv h => by
  rcases h with h | h
  · exact set_list pins s σ H o i v ov iv u Q I ro ri rv h
  · exact set_dict hu pins s σ H o i v ov iv u Q I ro ri rv h
theorem dst_put {o i e : Expr} {to ti tv : DE} {p1 : Pos} {k : Nat} (hu : Room k X.A) (ho : PEd X W o to) (hi : PEd X W i ti) (he : PEd X W e tv)
    (hs : swapsWithSole [.Subscript o i p1] e pos.line X.env = pure false := by rfl) (hw : swappedStores [.Subscript o i p1] e X.env = pure none := by rfl)
    (h1 : (assignEach [.Subscript o i p1] X.env).map (·.2) = [assign (.Subscript o i p1) X.env] := by rfl)
    (ha : ∀ v, assign (.Subscript o i p1) X.env v = (do
      let ov ← holding [v] (eval o X.env)
      let iv ← holding [v, ov] (eval i X.env)
      standAt p1
      holding [v, ov, iv] (setItem ov iv v)
      release [v, ov, iv] []) := by intro _; rfl) : PSd X W (.Assign [.Subscript o i p1] e pos) (dPut to ti tv) :=
  (ps_asg he (pg_sub ho hi (set_any (by have := hu.units; omega)) ha) hs hw h1).to fun D σ H ⟨ρ, m, P, he, hr, ht, hh⟩ => by
    have A5 := aft (W := W) he hr hh.2.2.2.2
    refine ⟨ρ, m, _, _, he, hr, ht, fun v m1 vv H1 q1 e1 r1 x1 => ?_, A5⟩
    refine ⟨ρ, m1, _, _, he.ext hr e1, r1, q1, fun x m2 vx H2 q2 e2 r2 x2 => ?_, A5.ext e1⟩
    refine ⟨ρ, m2, _, _, (he.ext hr e1).ext r1 e2, r2, q2, fun y m3 vy H3 q3 e3 r3 x3 => ?_, A5.ext (e1.trans e2)⟩
    cases e : setD m3 x y v with
    | none => rw [e] at q3; exact q3.elim
    | some p =>
      obtain ⟨a, ob⟩ := p
      rw [e] at q3
      have q4 : P.nx ρ (mset m3 a ob) := q3
      obtain ⟨u, g1, g2, g3, g4⟩ := setD_rep e r3 (x2.ext r2 e3 _ _) x3 ((x1.ext r1 e2 _ _).ext r2 e3 _ _)
      have e03 := (e1.trans e2).trans e3
      have fin : D.nx σ (upd H3 a u) := hh.1 _ _ _ _ q4 (e03.trans g2) g3 ((he.ext hr e03).ext r3 g2)
      rcases g4 with ⟨xs, k, j, f1, f2, f3, f4⟩ | g4
      · subst f4
        exact .inl ⟨a, xs, k, j, g1, f1, f2, f3, fin⟩
      · exact .inr ⟨a, _, g1, g4, fin⟩
end
end Y
/-! Y11: methods of lists and texts, displays of dicts, texts put together. -/
namespace Y
open PySem PySem.Spec PyProof.Rows L2
section
variable {X : Cx} {W : WX} {pos : Pos}
/-! ### list methods -/
abbrev DM := D → List D → MM → (D → MM → Prop) → Prop
def isL (m : MM) (x : D) : Prop := (lstOf m x).isSome = true
def dM (g : DM) (to : DE) (ta : DA) : DE := fun ρ m Q X => to ρ m (fun x m1 => isL m1 x ∧ ta ρ m1 (fun ds m2 => g x ds m2 Q) X) X
def dM0 (g : DM) (to : DE) : DE := fun ρ m Q X => to ρ m (fun x m1 => isL m1 x ∧ g x [] m1 Q) X
theorem isL_ty {K : PySem.W.Frag} {H : Hp} {m : MM} {x : D} {v : V} (h : isL m x) (r : Rel K H m) (rx : Rep K H m x v) : tyV K "list" v H := by
  unfold isL at h
  cases e : lstOf m x with
  | none => rw [e] at h; cases h
  | some ds =>
    obtain ⟨a, vs, rfl, h1, _⟩ := lstM_rep e r rx
    exact .inl ⟨rfl, vs, SqL.of h1⟩
def mlst (m : MM) : D → Option (Addr × List D)
  | .adr a => match m a with
    | some (.lst ds) => some (a, ds)
    | _ => none
  | _ => none
theorem mlst_ok {m : MM} {x : D} {a : Addr} {ds : List D} (h : mlst m x = some (a, ds)) : x = .adr a ∧ m a = some (.lst ds) := by
  unfold mlst at h
  split at h
  · split at h
    · rename_i q
      cases h
      exact ⟨rfl, q⟩
    · cases h
  · cases h
def gAppend : DM := fun x ds m Q => on1 (fun y => match mlst m x with
  | some (a, xs) => xs.length < sizeLine ∧ Q .non (mset m a (.lst (xs ++ [y])))
  | none => False) ds
def gPop : DM := fun x ds m Q => ds = [] ∧ match mlst m x with
  | some (a, xs) => (match xs[xs.length - 1]? with
    | some y => Q y (mset m a (.lst xs.dropLast))
    | none => False)
  | none => False
def gPopAt : DM := fun x ds m Q => on1 (onI fun i => match mlst m x with
  | some (a, xs) => -(2 ^ 63) ≤ i ∧ i < 2 ^ 63 ∧ ∃ k y, seqIndex? i xs.length = some k ∧ xs[k]? = some y ∧ Q y (mset m a (.lst (xs.eraseIdx k)))
  | none => False) ds
theorem Reps.dropLast {K : PySem.W.Frag} {H : Hp} {m : MM} {ds : List D} {vs : List V} (h : Reps K H m ds vs) : Reps K H m ds.dropLast vs.dropLast := by
  rw [List.dropLast_eq_take, List.dropLast_eq_take, Reps.length _ _ h]
  exact Reps.take _ h
theorem Reps.eraseIdx {K : PySem.W.Frag} {H : Hp} {m : MM} : ∀ {ds : List D} {vs : List V} (k : Nat), Reps K H m ds vs → Reps K H m (ds.eraseIdx k) (vs.eraseIdx k)
  | [], vs, k, h => by unfold Reps at h; subst h; simpa using Reps.nil
  | d :: ds, vs, 0, h => by
    unfold Reps at h
    obtain ⟨v, s, rfl, h1, h2⟩ := h
    simpa using h2
  | d :: ds, vs, k + 1, h => by
    unfold Reps at h
    obtain ⟨v, s, rfl, h1, h2⟩ := h
    simpa using Reps.cons h1 (Reps.eraseIdx k h2)
theorem lift_dM {g : DM} {r : V → List V → Hp → VK → Prop} {to : DE} {ta : DA} (hg : ∀ x ds vx vs H m P Q, Rel X.K H m → Rep X.K H m x vx → Reps X.K H m ds vs → g x ds m P → (∀ d m' v H', P d m' → Ext H m H' m' → Rel X.K H' m' → Rep X.K H' m' d v → Q v H') → r vx vs H Q)
    {σ : L2.St} {H : Hp} {Q : VK} (h : liftE X.K W (dM g to ta) σ H Q) : tBM X.K "list" r (liftE X.K W to) (liftA X.K W ta) σ H Q := by
  obtain ⟨ρ, m, P, Px, hv, hr, ht, hP, hX⟩ := h
  refine ⟨ρ, m, _, Px, hv, hr, ht, fun x m1 vx H1 q1 e1 r1 x1 => ?_, hX⟩
  obtain ⟨hl, q1⟩ := q1
  refine ⟨isL_ty hl r1 x1, ρ, m1, _, Px, hv.ext hr e1, r1, q1, fun ds m2 vs H2 q2 e2 r2 x2 => ?_, AftX.ext hX e1⟩
  exact hg x ds vx vs H2 m2 P Q r2 (x1.ext r1 e2 _ _) x2 q2 fun d m' v H' p e r w => hP d m' v H' p ((e1.trans e2).trans e) r w
theorem lift_dM0 {g : DM} {r : V → List V → Hp → VK → Prop} {to : DE} (hg : ∀ x ds vx vs H m P Q, Rel X.K H m → Rep X.K H m x vx → Reps X.K H m ds vs → g x ds m P → (∀ d m' v H', P d m' → Ext H m H' m' → Rel X.K H' m' → Rep X.K H' m' d v → Q v H') → r vx vs H Q)
    {σ : L2.St} {H : Hp} {Q : VK} (h : liftE X.K W (dM0 g to) σ H Q) : tBM0 X.K "list" r (liftE X.K W to) σ H Q := by
  obtain ⟨ρ, m, P, Px, hv, hr, ht, hP, hX⟩ := h
  refine ⟨ρ, m, _, Px, hv, hr, ht, fun x m1 vx H1 q1 e1 r1 x1 => ?_, hX⟩
  obtain ⟨hl, q1⟩ := q1
  refine ⟨isL_ty hl r1 x1, ?_⟩
  exact hg x [] vx [] H1 m1 P Q r1 x1 Reps.nil q1 fun d m' v H' p e r w => hP d m' v H' p (e1.trans e) r w
theorem de_append {o e : Expr} {apos : Pos} {to te : DE} (ho : PEd X W o to) (he : PEd X W e te)
    (hbase : attributeBase o "append" X.env (eval o X.env) = eval o X.env := by rfl)
    (hfew : ((backTo pos (starEach [e] X.env)).all (fun x => !x.1) && (backToKw pos (keywordEach [] X.env)).all (fun x => x.1.isSome)
      && decide ([e].length + ([] : List Keyword).length + (if ([] : List Keyword).isEmpty then 0 else 1) < 30)) = true := by rfl)
    (hline : (apos.endLine == pos.line) = true := by rfl) (hs : starEach [e] X.env = (false, eval e X.env) :: starEach [] X.env := by rfl) (hplain : (backTo pos (starEach [] X.env)).any (·.1) = false := by rfl) :
    PEd X W (.Call (.Attribute o "append" apos) [e] [] pos) (dM gAppend to (dCons te dNil)) :=
  (pe_bm PySem.F.plainAttrs_list PySem.F.slot_list_append PySem.F.type_list_append mt_append ho (da_cons he da_nil hs) hbase hfew hline hs hplain).to fun σ H Q h =>
    lift_dM (fun x ds vx vs H m P Q hr rx rs hg hP => by
      obtain ⟨y, rfl, hk⟩ := on1_ok hg
      obtain ⟨u, rfl, ru⟩ := rs.one
      cases e : mlst m x with
      | none => simp only [e] at hk
      | some p =>
        obtain ⟨a, xs⟩ := p
        simp only [e] at hk
        obtain ⟨rfl, ha⟩ := mlst_ok e
        obtain ⟨ws, h1, h2⟩ := hr _ _ ha
        exact ⟨a, ws, u, rx.adr_eq, rfl, h1, by rw [Reps.length _ _ h2]; exact hk.1, hP _ _ _ _ hk.2 (Ext.write ha) (hr.write ha ⟨_, upd_same, Reps.ext hr (Ext.write ha) _ _ (Reps.append _ _ _ _ h2 (.cons ru .nil))⟩) .non'⟩) h
theorem de_pop {o : Expr} {apos : Pos} {to : DE} (ho : PEd X W o to)
    (hbase : attributeBase o "pop" X.env (eval o X.env) = eval o X.env := by rfl) (hline : (apos.endLine == pos.line) = true := by rfl) :
    PEd X W (.Call (.Attribute o "pop" apos) [] [] pos) (dM0 gPop to) :=
  (pe_bm0 PySem.F.plainAttrs_list PySem.F.slot_list_pop PySem.F.type_list_pop mt_pop ho hbase hline).to fun σ H Q h =>
    lift_dM0 (fun x ds vx vs H m P Q hr rx rs hg hP => by
      obtain ⟨rfl, hg⟩ := hg
      unfold Reps at rs
      subst rs
      cases e : mlst m x with
      | none => simp only [e] at hg
      | some p =>
        obtain ⟨a, xs⟩ := p
        simp only [e] at hg
        obtain ⟨rfl, ha⟩ := mlst_ok e
        obtain ⟨ws, h1, h2⟩ := hr _ _ ha
        cases ey : xs[xs.length - 1]? with
        | none => simp only [ey] at hg
        | some y =>
          simp only [ey] at hg
          obtain ⟨u, hu, ru⟩ := Reps.get _ _ _ _ h2 ey
          exact ⟨a, ws, u, rx.adr_eq, rfl, h1, by rw [Reps.length _ _ h2]; exact hu, hP _ _ _ _ hg (Ext.write ha) (hr.write ha ⟨_, upd_same, Reps.ext hr (Ext.write ha) _ _ h2.dropLast⟩) (ru.ext hr (Ext.write ha) _ _)⟩) h
theorem de_popAt {o e : Expr} {apos : Pos} {to te : DE} (ho : PEd X W o to) (he : PEd X W e te)
    (hbase : attributeBase o "pop" X.env (eval o X.env) = eval o X.env := by rfl)
    (hfew : ((backTo pos (starEach [e] X.env)).all (fun x => !x.1) && (backToKw pos (keywordEach [] X.env)).all (fun x => x.1.isSome)
      && decide ([e].length + ([] : List Keyword).length + (if ([] : List Keyword).isEmpty then 0 else 1) < 30)) = true := by rfl)
    (hline : (apos.endLine == pos.line) = true := by rfl) (hs : starEach [e] X.env = (false, eval e X.env) :: starEach [] X.env := by rfl) (hplain : (backTo pos (starEach [] X.env)).any (·.1) = false := by rfl) :
    PEd X W (.Call (.Attribute o "pop" apos) [e] [] pos) (dM gPopAt to (dCons te dNil)) :=
  (pe_bm PySem.F.plainAttrs_list PySem.F.slot_list_pop PySem.F.type_list_pop mt_popAt ho (da_cons he da_nil hs) hbase hfew hline hs hplain).to fun σ H Q h =>
    lift_dM (fun x ds vx vs H m P Q hr rx rs hg hP => by
      obtain ⟨y, rfl, hk⟩ := on1_ok hg
      obtain ⟨u, rfl, ru⟩ := rs.one
      obtain ⟨i, rfl, hj⟩ := onI_ok hk
      cases e : mlst m x with
      | none => simp only [e] at hj
      | some p =>
        obtain ⟨a, xs⟩ := p
        simp only [e] at hj
        obtain ⟨rfl, ha⟩ := mlst_ok e
        obtain ⟨ws, h1, h2⟩ := hr _ _ ha
        obtain ⟨g1, g2, k, y, g3, g4, g5⟩ := hj
        obtain ⟨w, hw, rw'⟩ := Reps.get _ _ _ _ h2 g4
        exact ⟨a, ws, i, k, w, rx.adr_eq, by rw [ru.int_eq], h1, g1, g2, by rw [Reps.length _ _ h2]; exact g3, hw, hP _ _ _ _ g5 (Ext.write ha) (hr.write ha ⟨_, upd_same, Reps.ext hr (Ext.write ha) _ _ (h2.eraseIdx k)⟩) (rw'.ext hr (Ext.write ha) _ _)⟩) h
/-! ### texts -/
def strsD : List D → Option (List Str)
  | [] => some []
  | .str b :: r => (strsD r).map (b :: ·)
  | _ => none
theorem strsD_ok : ∀ {ds : List D} {bs : List Str}, strsD ds = some bs → ds = bs.map D.str
  | [], bs, h => by cases h; rfl
  | .str b :: r, bs, h => by
    unfold strsD at h
    obtain ⟨cs, h1, h2⟩ := Option.map_eq_some_iff.mp h
    subst h2
    rw [List.map_cons, ← strsD_ok h1]
  | .non :: _, _, h => by simp [strsD] at h
  | .bl _ :: _, _, h => by simp [strsD] at h
  | .int _ :: _, _, h => by simp [strsD] at h
  | .ty _ :: _, _, h => by simp [strsD] at h
  | .adr _ :: _, _, h => by simp [strsD] at h
  | .tup _ :: _, _, h => by simp [strsD] at h
  | .lst _ :: _, _, h => by simp [strsD] at h
  | .kl _ :: _, _, h => by simp [strsD] at h
theorem strsD_map (bs : List Str) : strsD (bs.map D.str) = some bs := by
  induction bs with
  | nil => rfl
  | cons b r ih => rw [List.map_cons]; unfold strsD; rw [ih]; rfl
def dJoin (to te : DE) : DE := fun ρ m Q X => to ρ m (fun x m1 => match x with
  | .str a => te ρ m1 (fun y m2 => match (sqOf m2 y).bind strsD with
    | some ys => (ys.map (·.length)).sum + ys.length * a.length ≤ 16777216 ∧ Q (.str (Txt.join a ys)) m2
    | none => False) X
  | _ => False) X
theorem de_join {o e : Expr} {apos : Pos} {to te : DE} (ho : PEd X W o to) (he : PEd X W e te) (hs : starEach [e] X.env = [(false, eval e X.env)] := by rfl) (hbase : attributeBase o "join" X.env (eval o X.env) = eval o X.env := by rfl)
    (hline : (apos.endLine == pos.line) = true := by rfl) : PEd X W (.Call (.Attribute o "join" apos) [e] [] pos) (dJoin to te) :=
  (pe_join ho he hs hbase hline).to fun σ H Q ⟨ρ, m, P, Px, hv, hr, ht, hP, hX⟩ => ⟨ρ, m, _, Px, hv, hr, ht, fun x m1 vx H1 q1 e1 r1 x1 => by
    split at q1
    · rename_i a
      refine ⟨⟨a, x1.str_eq⟩, ρ, m1, _, Px, hv.ext hr e1, r1, q1, fun y m2 vy H2 q2 e2 r2 x2 => ?_, AftX.ext hX e1⟩
      cases e : (sqOf m2 y).bind strsD with
      | none => rw [e] at q2; exact q2.elim
      | some ys =>
        rw [e] at q2
        obtain ⟨us, h1, h2⟩ := Option.bind_eq_some_iff.mp e
        obtain ⟨p, vs, rfl, g2, g3⟩ := sqOf_rep h1 r2 x2
        rw [strsD_ok h2] at g3
        rw [Reps.map (g := V.str) (fun _ _ h => h.str_eq) g3] at g2
        exact ⟨a, p, ys, x1.str_eq, rfl, g2, q2.1, hP _ _ _ _ q2.2 (e1.trans e2) r2 .str'⟩
    · exact q1.elim, hX⟩
/-- one sign in a text; plain data in a list -/
def gIn (s : Bool) : DR2 := fun x y m Q => match y with
  | .str b => (match x with
    | .str a => ∃ c, a = ⟨#[c]⟩ ∧ Q (.bl (xor s (decide (c ∈ b.cps.toList)))) m
    | _ => False)
  | .lst ys => shp 60 x = true ∧ shps 60 ys = true ∧ Q (.bl (xor s (ys.any fun z => eqD z x))) m
  | _ => False
theorem pds_any {x : D} (hx : shp 60 x = true) : ∀ {ys : List D}, shps 60 ys = true → ((pds ys).any fun z => PyData.eqv z (pd x)) = ys.any fun z => eqD z x
  | [], h => rfl
  | y :: ys, h => by
    unfold shps at h
    obtain ⟨h1, h2⟩ := Bool.and_eq_true_iff.mp h
    unfold pds
    rw [List.any_cons, List.any_cons, pds_any hx h2, pd_eqv 60 y x h1 hx]
mutual
theorem shp_mono : ∀ (n k : Nat) (d : D), n ≤ k → shp n d = true → shp k d = true
  | n, k, .non, h, e => by simp [shp]
  | n, k, .bl b, h, e => by simp [shp]
  | n, k, .int b, h, e => by simp [shp]
  | n, k, .str b, h, e => by unfold shp at e ⊢; exact e
  | 0, k, .tup xs, h, e => by simp [shp] at e
  | n + 1, 0, .tup xs, h, e => by omega
  | n + 1, k + 1, .tup xs, h, e => by unfold shp at e ⊢; exact shps_mono n k xs (by omega) e
  | 0, k, .lst xs, h, e => by simp [shp] at e
  | n + 1, 0, .lst xs, h, e => by omega
  | n + 1, k + 1, .lst xs, h, e => by unfold shp at e ⊢; exact shps_mono n k xs (by omega) e
  | n, k, .ty _, h, e => by simp [shp] at e
  | n, k, .adr _, h, e => by simp [shp] at e
  | n, k, .kl _, h, e => by simp [shp] at e
theorem shps_mono : ∀ (n k : Nat) (ds : List D), n ≤ k → shps n ds = true → shps k ds = true
  | n, k, [], h, e => by simp [shps]
  | n, k, d :: ds, h, e => by
    unfold shps at e ⊢
    obtain ⟨h1, h2⟩ := Bool.and_eq_true_iff.mp e
    rw [shp_mono n k d h h1, shps_mono n k ds h h2]; rfl
end
theorem gIn_ok {s : Bool} {K : PySem.W.Frag} {H : Hp} {x y : D} {vx vy : V} {m : MM} {Q : D → MM → Prop} (h : gIn s x y m Q) (rx : Rep K H m x vx) (ry : Rep K H m y vy) : (∃ (c : Nat) (z : Str), vx = .str ⟨#[c]⟩ ∧ vy = .str z ∧ Q (.bl (xor s (decide (c ∈ z.cps.toList)))) m) ∨
    ∃ d ds, Dp K H vx d ∧ Dp K H vy (.list ds) ∧ SeqAt.shaped d = true ∧ SeqAt.shaped (.list ds) = true ∧ Q (.bl (xor s (ds.any fun z => PyData.eqv z d))) m := by
  unfold gIn at h
  split at h
  · split at h
    · obtain ⟨c, rfl, q⟩ := h
      exact .inl ⟨c, _, rx.str_eq, ry.str_eq, q⟩
    · exact h.elim
  · rename_i ys
    obtain ⟨h1, h2, q⟩ := h
    have e1 : shp 64 x = true := shp_mono 60 64 x (by omega) h1
    have e2 : shp 64 (.lst ys) = true := by unfold shp; exact shps_mono 60 63 ys (by omega) h2
    have d2 := shp_dp 64 _ _ e2 ry
    have e3 := shp_shaped e2
    unfold pd at d2 e3
    refine .inr ⟨pd x, pds ys, shp_dp 64 _ _ e1 rx, d2, shp_shaped e1, e3, ?_⟩
    rw [pds_any h1 h2]
    exact q
  · exact h.elim
theorem od_in {k : Nat} (hu : Room k X.A) : OpRd X (compareOp .In) (gIn false) := (op_in_sign.or (op_inD (by have := hu.un; omega))).to fun x y H Q ⟨dx, dy, m, P, hx, hy, hr, hg, hP⟩ => by
  rcases gIn_ok hg hx hy with ⟨c, z, h1, h2, q⟩ | ⟨d, ds, h1, h2, h3, h4, q⟩
  · rw [Bool.false_xor] at q
    exact .inl ⟨c, z, h1, h2, hP _ m _ H q (Ext.refl _ _) hr .bl'⟩
  · rw [Bool.false_xor] at q
    exact .inr ⟨d, ds, h1, h2, h3, h4, hP _ m _ H q (Ext.refl _ _) hr .bl'⟩
theorem od_notin {k : Nat} (hu : Room k X.A) : OpRd X (compareOp .NotIn) (gIn true) := (op_notIn_sign.or (op_notInD (by have := hu.un; omega))).to fun x y H Q ⟨dx, dy, m, P, hx, hy, hr, hg, hP⟩ => by
  rcases gIn_ok hg hx hy with ⟨c, z, h1, h2, q⟩ | ⟨d, ds, h1, h2, h3, h4, q⟩
  · rw [Bool.true_xor] at q
    exact .inl ⟨c, z, h1, h2, hP _ m _ H q (Ext.refl _ _) hr .bl'⟩
  · rw [Bool.true_xor] at q
    exact .inr ⟨d, ds, h1, h2, h3, h4, hP _ m _ H q (Ext.refl _ _) hr .bl'⟩
/-- texts put together -/
def dFmt (t : DE) : DE := fun ρ m Q X => t ρ m (fun d m1 => match d with
  | .str y => y.length ≤ sizeLine ∧ Q (.str y) m1
  | .int i => i.natAbs.log2 < 1920 ∧ Q (.str (toString i)) m1
  | _ => False) X
theorem de_fmt {e : Expr} {t : DE} (he : PEd X W e t) : PEd X W (.FormattedValue e (-1) none pos) (dFmt t) :=
  (pe_fmt he).to fun σ H Q ⟨ρ, m, P, Px, hv, hr, ht, hP, hX⟩ => ⟨ρ, m, _, Px, hv, hr, ht, fun d m1 v H1 q1 e1 r1 x1 => by
    split at q1
    · exact .inl ⟨_, x1.str_eq, q1.1, hP _ _ _ _ q1.2 e1 r1 .str'⟩
    · exact .inr ⟨_, x1.int_eq, q1.1, hP _ _ _ _ q1.2 e1 r1 .str'⟩
    · exact q1.elim, hX⟩
inductive PJd (X : Cx) (W : WX) : List Expr → List DE → Prop where
  | nil : PJd X W [] []
  | cons {e : Expr} {t : DE} {es : List Expr} {ts : List DE} (h : PEd X W e t) (r : PJd X W es ts) : PJd X W (e :: es) (t :: ts)
theorem PJd.pj {es : List Expr} {ts : List DE} (h : PJd X W es ts) : PJ X es (ts.map (liftE X.K W)) := by
  induction h with
  | nil => exact .nil
  | cons h _ ih => exact .cons h ih
def dJs : List DE → Str → Env → MM → (Str → MM → Prop) → XC → Prop
  | [], acc, _, m, Q, _ => Q acc m
  | t :: ts, acc, ρ, m, Q, X => t ρ m (fun d m1 => match d with
    | .str y => (acc ++ y).length ≤ sizeLine ∧ dJs ts (acc ++ y) ρ m1 Q X
    | _ => False) X
def dJoined (ts : List DE) : DE := fun ρ m Q X => dJs ts Str.empty ρ m (fun x m1 => Q (.str x) m1) X
theorem lift_js : ∀ (ts : List DE) (acc : Str) {ρ : Env} {m m0 : MM} {σ : L2.St} {H H0 : Hp} {P : Str → MM → Prop} {Q : Str → Hp → Prop} {Px : XC}, EnvR X.K H m ρ σ → Rel X.K H m → Ext H0 m0 H m → dJs ts acc ρ m P Px →
    (∀ x m' H', P x m' → Ext H0 m0 H' m' → Rel X.K H' m' → Q x H') → AftX X.K W σ H0 m0 Px → tJs (ts.map (liftE X.K W)) acc σ H Q
  | [], acc, ρ, m, m0, σ, H, H0, P, Q, Px, hv, hr, e, h, hP, hX => hP acc m H h e hr
  | t :: ts, acc, ρ, m, m0, σ, H, H0, P, Q, Px, hv, hr, e, h, hP, hX => ⟨ρ, m, _, Px, hv, hr, h, fun d m1 v H1 q1 e1 r1 x1 => by
    split at q1
    · exact ⟨_, x1.str_eq, q1.1, lift_js ts _ (hv.ext hr e1) r1 (e.trans e1) q1.2 hP hX⟩
    · exact q1.elim, AftX.ext hX e⟩
theorem de_joined {v1 v2 : Expr} {rest : List Expr} {ts : List DE} (h : PJd X W (v1 :: v2 :: rest) ts) : PEd X W (.JoinedStr (v1 :: v2 :: rest) pos) (dJoined ts) :=
  (pe_joined h.pj).to fun σ H Q ⟨ρ, m, P, Px, hv, hr, ht, hP, hX⟩ => lift_js ts _ hv hr (Ext.refl _ _) ht (fun x m' H' p e r => hP _ m' _ H' p e r .str') hX
/-! ### displays of dicts -/
def dPairs : List (DE × DE) → Env → MM → (List (Key × D) → MM → Prop) → XC → Prop
  | [], _, m, Q, _ => Q [] m
  | (tk, tv) :: r, ρ, m, Q, X => tk ρ m (fun x m1 => match keyD x with
    | some k => tv ρ m1 (fun y m2 => dPairs r ρ m2 (fun ps m3 => Q ((k, y) :: ps) m3) X) X
    | none => False) X
def mergeD (kvs more : List (Key × D)) : List (Key × D) := more.foldl (fun acc kv => putD acc kv.1 kv.2) kvs
def dDict (prs : List (DE × DE)) : DE := fun ρ m Q X => ∀ p, m p = none → dPairs prs ρ (mset m p (.dK [])) (fun kvs m2 => m2 p = some (.dK []) ∧ kvs.length ≤ 15 ∧ Q (.adr p) (mset m2 p (.dK (mergeD [] kvs)))) X
theorem RepKV.merge {K : PySem.W.Frag} {H : Hp} {m : MM} : ∀ {ds es : List (Key × D)} {vs us : List (Key × V)}, RepKV K H m ds vs → RepKV K H m es us → RepKV K H m (mergeD ds es) (mergeK vs us)
  | ds, [], vs, us, h, k => by unfold RepKV at k; subst k; exact h
  | ds, (k0, d0) :: es, vs, us, h, k => by
    unfold RepKV at k
    obtain ⟨v, s, rfl, h2, h3⟩ := k
    exact RepKV.merge (ds := putD ds k0 d0) (vs := putK vs k0 v) (h.put h2) h3
abbrev PPd (X : Cx) (W : WX) (pos : Pos) (keys : List (Option Expr)) (values : List Expr) (prs : List (DE × DE)) : Prop := PPs X pos keys values (prs.map fun p => (liftE X.K W p.1, liftE X.K W p.2))
theorem lift_pairs : ∀ (prs : List (DE × DE)) {ρ : Env} {m m0 : MM} {σ : L2.St} {H H0 : Hp} {P : List (Key × D) → MM → Prop} {Q : List (V × V) → Hp → Prop} {Px : XC}, EnvR X.K H m ρ σ → Rel X.K H m → Ext H0 m0 H m → dPairs prs ρ m P Px →
    (∀ ds m' vs H', P ds m' → Ext H0 m0 H' m' → Rel X.K H' m' → RepKV X.K H' m' ds vs → Q (vs.map fun kv => (kV kv.1, kv.2)) H') → AftX X.K W σ H0 m0 Px → tPairs (prs.map fun p => (liftE X.K W p.1, liftE X.K W p.2)) σ H Q
  | [], ρ, m, m0, σ, H, H0, P, Q, Px, hv, hr, e, h, hP, hX => hP [] m [] H h e hr .nil
  | (tk, tv) :: r, ρ, m, m0, σ, H, H0, P, Q, Px, hv, hr, e, h, hP, hX => ⟨ρ, m, _, Px, hv, hr, h, fun x m1 vx H1 q1 e1 r1 x1 => by
    cases ek : keyD x with
    | none => rw [ek] at q1; exact q1.elim
    | some k =>
      rw [ek] at q1
      refine ⟨ρ, m1, _, Px, hv.ext hr e1, r1, q1, fun y m2 vy H2 q2 e2 r2 y2 => ?_, AftX.ext hX (e.trans e1)⟩
      have e012 := (e.trans e1).trans e2
      refine lift_pairs r (m0 := m2) (H0 := H2) ((hv.ext hr e1).ext r1 e2) r2 (Ext.refl _ _) q2 (fun ds m' vs H' p e' r' w => ?_) (AftX.ext hX e012)
      rw [keyD_rep ek x1]
      exact hP ((k, y) :: ds) m' ((k, vy) :: vs) H' p (e012.trans e') r' (.cons (y2.ext r2 e' _ _) w), AftX.ext hX e⟩
theorem de_dict {keys : List (Option Expr)} {values : List Expr} {prs : List (DE × DE)} (h : PPd X W pos keys values prs) (hall : keys.all (·.isSome) = true := by rfl) (hl : keys.length = values.length := by rfl) (h0 : keys ≠ [] := by simp) (h15 : keys.length ≤ 15 := by decide) : PEd X W (.Dict keys values pos) (dDict prs) :=
  (pe_disp h hall hl h0 h15).to fun σ H Q ⟨ρ, m, P, Px, hv, hr, ht, hP, hX⟩ p hp => by
    have hm := hr.free hp
    have e0 : Ext H m (upd H p (.dK [])) (mset m p (.dK [])) := Ext.made hp
    have r0 : Rel X.K (upd H p (.dK [])) (mset m p (.dK [])) := hr.made hp ⟨[], upd_same, .nil⟩
    refine lift_pairs prs (m0 := mset m p (.dK [])) (H0 := upd H p (.dK [])) (hv.ext hr e0) r0 (Ext.refl _ _) (ht p hm) (fun ds m' vs H' q e r w => ?_) (AftX.ext hX e0)
    obtain ⟨q1, q2, q3⟩ := q
    obtain ⟨us, g1, g2⟩ := r p _ q1
    unfold RepKV at g2
    subst g2
    exact ⟨g1, vs, rfl, by rw [RepKV.length w]; exact q2, hP _ _ _ _ q3 ((e0.trans e).trans (Ext.write q1)) (r.write q1 ⟨_, upd_same, RepKV.ext r (Ext.write q1) _ _ (RepKV.merge .nil w)⟩) .adr'⟩
theorem dpp_nil : PPd X W pos [] [] [] := pps_nil
theorem dpp_cons {k v : Expr} {ks : List (Option Expr)} {vs : List Expr} {tk tv : DE} {prs : List (DE × DE)} (hk : PEd X W k tk) (hv : PEd X W v tv) (hr : PPd X W pos ks vs prs) : PPd X W pos (some k :: ks) (v :: vs) ((tk, tv) :: prs) := pps_cons hk hv hr
end
end Y
/-! Y12: objects. -/
namespace Y
open PySem PySem.Spec PyProof.Rows L2
structure Fn (P : Program) (w : World) (K : PySem.W.Frag) (mg : Str → Option Value) (base : Heap) (k : Nat) (ps : List Str) (S : DS) (f : Addr) : Prop where
  ex : ∃ fd, FnOk P w K mg base (L2.CX P w) k f fd ps (spD K S) ∧ Binds K fd ps []
/-- a method of a class -/
structure Md (P : Program) (w : World) (K : PySem.W.Frag) (mg : Str → Option Value) (base : Heap) (k : Nat) (C : Addr) (n : Str) (ps : List Str) (S : DS) : Prop where
  ex : ∃ f, Fn P w K mg base k ps S f ∧ Meth K C n f
/-- a class whose instances have fields -/
structure Kl (K : PySem.W.Frag) (C : Addr) (fs : List Str) : Prop where
  cls : Cls K C
  no : ∀ f ∈ fs, NoAttr K C f
/-- a class that is called -/
structure Mr (P : Program) (w : World) (K : PySem.W.Frag) (mg : Str → Option Value) (base : Heap) (k : Nat) (C : Addr) (ps : List Str) (S : DS) : Prop where
  ex : ∃ f, Fn P w K mg base k ps S f ∧ Mk K C f
theorem cx_none {P : Program} {w : World} {X : Cx} : Passes (L2.CX P w) X (fun _ _ _ => False) := fun _ _ _ _ _ _ _ c => by
  obtain ⟨a, B, H', cls, d, h⟩ := c
  exact h.2.2.2.2.2.2.2.elim
def fldGet (fs : List (Str × D)) (f : Str) : Option D := fs.lookup f
theorem RepKV.lookup {K : PySem.W.Frag} {H : Hp} {m : MM} {f : Str} {d : D} : ∀ {ds : List (Str × D)} {vs : List (Str × V)}, RepKV K H m ds vs → ds.lookup f = some d → ∃ v, vs.lookup f = some v ∧ Rep K H m d v
  | [], vs, h, e => by cases e
  | (k0, d0) :: ds, vs, h, e => by
    unfold RepKV at h
    obtain ⟨v, s, rfl, h2, h3⟩ := h
    rw [List.lookup_cons] at e ⊢
    cases hk : f == k0 with
    | true => rw [hk] at e; cases e; exact ⟨v, rfl, h2⟩
    | false => rw [hk] at e; exact RepKV.lookup h3 e
theorem RepKV.lookup_none {K : PySem.W.Frag} {H : Hp} {m : MM} {f : Str} : ∀ {ds : List (Str × D)} {vs : List (Str × V)}, RepKV K H m ds vs → ds.lookup f = none → vs.lookup f = none
  | [], vs, h, e => by unfold RepKV at h; subst h; rfl
  | (k0, d0) :: ds, vs, h, e => by
    unfold RepKV at h
    obtain ⟨v, s, rfl, h2, h3⟩ := h
    rw [List.lookup_cons] at e ⊢
    cases hk : f == k0 with
    | true => rw [hk] at e; cases e
    | false => rw [hk] at e; exact RepKV.lookup_none h3 e
def putFD (f : Str) (d : D) : List (Str × D) → List (Str × D)
  | [] => [(f, d)]
  | (g, x) :: r => if g = f then (g, d) :: r else (g, x) :: putFD f d r
theorem RepKV.putF {K : PySem.W.Frag} {H : Hp} {m : MM} {f : Str} {d : D} {v : V} (r : Rep K H m d v) : ∀ {ds : List (Str × D)} {vs : List (Str × V)}, RepKV K H m ds vs → RepKV K H m (putFD f d ds) (L2.putF f v vs)
  | [], vs, h => by unfold RepKV at h; subst h; exact .cons r .nil
  | (k0, d0) :: ds, vs, h => by
    unfold RepKV at h
    obtain ⟨v0, s, rfl, h2, h3⟩ := h
    unfold putFD L2.putF
    split
    · exact .cons r h3
    · exact .cons h2 (RepKV.putF r h3)
section
variable {X : Cx} {W : WX} {pos : Pos}
/-- an object's fields -/
def insD (m : MM) (C : Addr) : D → Option (Addr × List (Str × D))
  | .adr a => match m a with
    | some (.ins C' fs) => if C' = C then some (a, fs) else none
    | _ => none
  | _ => none
theorem insD_ok {m : MM} {C : Addr} {x : D} {a : Addr} {fs : List (Str × D)} (h : insD m C x = some (a, fs)) : x = .adr a ∧ m a = some (.ins C fs) := by
  unfold insD at h
  split at h
  · split at h
    · rename_i q
      split at h
      · rename_i e
        cases h
        subst e
        exact ⟨rfl, q⟩
      · cases h
    · cases h
  · cases h
def dFld (C : Addr) (f : Str) (t : DE) : DE := fun ρ m Q X => t ρ m (fun x m1 => match insD m1 C x with
  | some (_, fs) => (match fs.lookup f with
    | some d => Q d m1
    | none => False)
  | none => False) X
theorem de_fld {C : Addr} {f : Str} {e : Expr} {t : DE} (c : Cls X.K C) (n : NoAttr X.K C f) (he : PEd X W e t) (hb : attributeBase e f X.env (eval e X.env) = eval e X.env := by rfl) : PEd X W (.Attribute e f pos) (dFld C f t) :=
  (pe_fld he hb).to fun σ H Q ⟨ρ, m, P, Px, hv, hr, ht, hP, hX⟩ => ⟨ρ, m, _, Px, hv, hr, ht, fun x m1 v H1 q1 e1 r1 x1 => by
    cases e : insD m1 C x with
    | none => simp only [e] at q1
    | some p =>
      obtain ⟨a, fs⟩ := p
      simp only [e] at q1
      obtain ⟨rfl, ha⟩ := insD_ok e
      obtain ⟨dx, us, g1, g2, g3⟩ := r1 _ _ ha
      cases el : fs.lookup f with
      | none => simp only [el] at q1
      | some d =>
        simp only [el] at q1
        obtain ⟨v', h1, h2⟩ := RepKV.lookup g3 el
        exact ⟨a, C, dx, us, v', x1.adr_eq, g1, c, n, h1, hP _ _ _ _ q1 e1 r1 h2⟩, hX⟩
def dSetF (C : Addr) (f : Str) (to tv : DE) : DSt := fun E ρ m => tv ρ m (fun v m1 => to ρ m1 (fun x m2 => match insD m2 C x with
  | some (a, fs) => fs.length < 1000 ∧ E.nx ρ (mset m2 a (.ins C (putFD f v fs)))
  | none => False) (exOf E ρ)) (exOf E ρ)
theorem dst_fld {C : Addr} {f : Str} {o e : Expr} {to tv : DE} {p1 : Pos} (c : Cls X.K C) (n : NoAttr X.K C f) (ho : PEd X W o to) (he : PEd X W e tv) (hs : swapsWith e (some (.Attribute o f p1)) pos.line X.env = pure false := by rfl) :
    PSd X W (.Assign [.Attribute o f p1] e pos) (dSetF C f to tv) :=
  (ps_fld ho he hs).to fun D σ H ⟨ρ, m, P, hv, hr, ht, hh⟩ => by
    have A5 := aft (W := W) hv hr hh.2.2.2.2
    refine ⟨ρ, m, _, _, hv, hr, ht, fun y m1 vy H1 q1 e1 r1 y1 => ?_, A5⟩
    refine ⟨ρ, m1, _, _, hv.ext hr e1, r1, q1, fun x m2 vx H2 q2 e2 r2 x2 => ?_, A5.ext e1⟩
    cases e : insD m2 C x with
    | none => simp only [e] at q2
    | some p =>
      obtain ⟨a, fs⟩ := p
      simp only [e] at q2
      obtain ⟨rfl, ha⟩ := insD_ok e
      obtain ⟨dx, us, g1, g2, g3⟩ := r2 _ _ ha
      have e02 := e1.trans e2
      have ed : Ext H2 m2 (upd H2 a (.ins C dx (L2.putF f vy us))) (mset m2 a (.ins C (putFD f y fs))) := Ext.write ha
      have nd : dx ≠ a := fun z => by rw [z, g1] at g2; cases g2
      refine ⟨a, C, dx, us, x2.adr_eq, g1, c, n, by rw [RepKV.length g3]; exact q2.1, hh.1 _ _ _ _ q2.2 (e02.trans ed) (r2.write ha ⟨dx, _, upd_same, by rw [upd_ne nd]; exact g2, RepKV.ext r2 ed _ _ (RepKV.putF (y1.ext r1 e2 _ _) g3)⟩) ((hv.ext hr e02).ext r2 ed)⟩
/-- o.m(..) -/
def dMeth (C : Addr) (n : Str) (S : DS) (to : DE) (t : DA) : DE := fun ρ m Q X => to ρ m (fun x m1 => match insD m1 C x with
  | some (_, fs) => fs.lookup n = none ∧ t ρ m1 (fun ds m2 => S (x :: ds) m2 Q xF) X
  | none => False) X
theorem lift_meth {C : Addr} {n : Str} {S : DS} {to : DE} {t : DA} {σ : L2.St} {H : Hp} {Q : VK} (h : liftE X.K W (dMeth C n S to t) σ H Q) : tMeth C n (spD X.K S) [] (fun _ _ _ => False) (liftE X.K W to) (liftA X.K W t) σ H Q := by
  obtain ⟨ρ, m, P, Px, hv, hr, ht, hP, hX⟩ := h
  refine ⟨ρ, m, _, Px, hv, hr, ht, fun x m1 vx H1 q1 e1 r1 x1 => ?_, hX⟩
  cases e : insD m1 C x with
  | none => simp only [e] at q1
  | some p =>
    obtain ⟨a, fs⟩ := p
    simp only [e] at q1
    obtain ⟨rfl, ha⟩ := insD_ok e
    obtain ⟨dx, us, g1, g2, g3⟩ := r1 _ _ ha
    refine ⟨a, dx, us, x1.adr_eq, g1, RepKV.lookup_none g3 q1.1, ρ, m1, _, Px, hv.ext hr e1, r1, q1.2, fun ds m2 vs H2 q2 e2 r2 x2 => ?_, AftX.ext hX e1⟩
    show spD X.K S (vx :: (vs ++ [])) H2 Q _
    rw [List.append_nil]
    exact ⟨_, m2, P, xF, .cons (x1.ext r1 e2 _ _) x2, r2, q2, fun d m' v H' p e r w => hP d m' v H' p ((e1.trans e2).trans e) r w, fun _ _ _ _ _ p => p.elim⟩
theorem lift_meth0 {C : Addr} {n : Str} {S : DS} {to : DE} {σ : L2.St} {H : Hp} {Q : VK} (h : liftE X.K W (dMeth C n S to dNil) σ H Q) : tMeth C n (spD X.K S) [] (fun _ _ _ => False) (liftE X.K W to) tNil σ H Q := by
  obtain ⟨ρ, m, P, Px, hv, hr, ht, hP, hX⟩ := h
  refine ⟨ρ, m, _, Px, hv, hr, ht, fun x m1 vx H1 q1 e1 r1 x1 => ?_, hX⟩
  cases e : insD m1 C x with
  | none => simp only [e] at q1
  | some p =>
    obtain ⟨a, fs⟩ := p
    simp only [e] at q1
    obtain ⟨rfl, ha⟩ := insD_ok e
    obtain ⟨dx, us, g1, g2, g3⟩ := r1 _ _ ha
    exact ⟨a, dx, us, x1.adr_eq, g1, RepKV.lookup_none g3 q1.1, _, m1, P, xF, .cons x1 .nil, r1, q1.2, fun d m' v H' p e r w => hP d m' v H' p (e1.trans e) r w, fun _ _ _ _ _ p => p.elim⟩
/-- C(..) -/
def dMake (C : Addr) (S : DS) (t : DA) : DE := fun ρ m Q X => t ρ m (fun ds m1 => ∀ p, m1 p = none → S (.adr p :: ds) (mset m1 p (.ins C [])) (fun d m2 => d = .non ∧ Q (.adr p) m2) xF) X
theorem lift_make {C : Addr} {S : DS} {t : DA} {σ : L2.St} {H : Hp} {Q : VK} (h : liftE X.K W (dMake C S t) σ H Q) : tMake C (spD X.K S) [] (fun _ _ _ => False) (liftA X.K W t) σ H Q := by
  obtain ⟨ρ, m, P, Px, hv, hr, ht, hP, hX⟩ := h
  refine ⟨ρ, m, _, Px, hv, hr, ht, fun ds m1 vs H1 q1 e1 r1 x1 => fun p dx hp hd hne => ?_, hX⟩
  have q2 := q1 p (r1.free hp)
  have e2 : Ext H1 m1 (upd H1 dx (.own p)) m1 := Ext.laid dx _ hd
  have r2 : Rel X.K (upd H1 dx (.own p)) m1 := r1.laid dx _ hd
  have hp2 : (upd H1 dx (.own p)) p = none := by rw [upd_ne (Ne.symm hne)]; exact hp
  have e3 : Ext (upd H1 dx (.own p)) m1 (upd (upd H1 dx (.own p)) p (.ins C dx [])) (mset m1 p (.ins C [])) := Ext.made hp2
  have r3 : Rel X.K (upd (upd H1 dx (.own p)) p (.ins C dx [])) (mset m1 p (.ins C [])) := r2.made hp2 ⟨dx, [], upd_same, by rw [upd_ne hne]; exact upd_same, .nil⟩
  show spD X.K S (.ref p :: (vs ++ [])) _ _ _
  rw [List.append_nil]
  refine ⟨_, _, _, xF, .cons .adr' (Reps.ext r1 (e2.trans e3) _ _ x1), r3, q2, fun d m' v H' q e r w => ?_, fun _ _ _ _ _ p => p.elim⟩
  obtain ⟨rfl, q⟩ := q
  exact ⟨w.non_eq, hP _ _ _ _ q (((e1.trans e2).trans e3).trans e) r .adr'⟩
end
section
variable {P : Program} {w : World} {K : PySem.W.Frag} {mg : Str → Option Value} {base : Heap} {X : Cx} {W : WX} {sc : Scope} {N : List Str} {vis sts : List Nat} {G : List Str} {k : Nat} {pos apos p : Pos}
theorem Bd.fn (B : Bd P w K mg base X W sc N vis sts G k) {j : Nat} {ps : List Str} {S : DS} {f : Addr} (F : Fn P w K mg base j ps S f) : Fn X.prog X.w X.K X.mg X.base j ps S f := by
  obtain ⟨h1, h2, h3, h4, h5⟩ := B
  subst h1 h2 h3 h4 h5
  exact F
theorem b_fld (B : Bd P w K mg base X W sc N vis sts G k) {C : Addr} {f : Str} {fl : List Str} {e : Expr} {t : DE} (c : Kl K C fl) (he : PEd X W e t) (hf : f ∈ fl := by simp) (hb : attributeBase e f X.env (eval e X.env) = eval e X.env := by rfl) : PEd X W (.Attribute e f pos) (dFld C f t) :=
  de_fld (by rw [B.hK]; exact c.cls) (by rw [B.hK]; exact c.no f hf) he hb
theorem b_setf (B : Bd P w K mg base X W sc N vis sts G k) {C : Addr} {f : Str} {fl : List Str} {o e : Expr} {to tv : DE} {p1 : Pos} (c : Kl K C fl) (ho : PEd X W o to) (he : PEd X W e tv) (hf : f ∈ fl := by simp) (hs : swapsWith e (some (.Attribute o f p1)) pos.line X.env = pure false := by rfl) :
    PSd X W (.Assign [.Attribute o f p1] e pos) (dSetF C f to tv) := dst_fld (by rw [B.hK]; exact c.cls) (by rw [B.hK]; exact c.no f hf) ho he hs
theorem b_meth (B : Bd P w K mg base X W sc N vis sts G k) {C : Addr} {n : Str} {fl : List Str} {j : Nat} {ps : List Str} {S : DS} {o e : Expr} {es : List Expr} {to : DE} {t : DA} {pl : Sem Bool} (c : Kl K C fl) (M : Md P w K mg base j C n ps S) (ho : PEd X W o to) (ha : PAd X W (e :: es) t) (hj : j ≤ k := by decide)
    (hst : starEach (e :: es) X.env = (false, eval e X.env) :: starEach es X.env := by rfl) (hpl : (backTo pos (starEach es X.env)).any (·.1) = false := by rfl)
    (ht : eval (.Call (.Attribute o n apos) (e :: es) [] pos) X.env = (do
      let ov ← eval o X.env
      standAt apos.atName
      let (f, first) ← holding [ov] (getMethod ov n pl)
      callWith pos f first (backTo pos (starEach (e :: es) X.env)) (backToKw pos (keywordEach [] X.env))) := by rfl) : PEd X W (.Call (.Attribute o n apos) (e :: es) [] pos) (dMeth C n S to t) := by
  obtain ⟨f, F, hm⟩ := M.ex
  obtain ⟨fd, h1, h2⟩ := (B.fn F).ex
  exact (pe_meth ho (by rw [B.hK]; exact c.cls) (by rw [B.hK]; exact hm) h1 (B.hr.mono hj) h2 .nil cx_none ha hst hpl ht).to fun _ _ _ => lift_meth
theorem b_meth0 (B : Bd P w K mg base X W sc N vis sts G k) {C : Addr} {n : Str} {fl : List Str} {j : Nat} {ps : List Str} {S : DS} {o : Expr} {to : DE} {pl : Sem Bool} (c : Kl K C fl) (M : Md P w K mg base j C n ps S) (ho : PEd X W o to) (hj : j ≤ k := by decide)
    (ht : eval (.Call (.Attribute o n apos) [] [] pos) X.env = (do
      let ov ← eval o X.env
      standAt apos.atName
      let (f, first) ← holding [ov] (getMethod ov n pl)
      callWith pos f first (backTo pos (starEach [] X.env)) (backToKw pos (keywordEach [] X.env))) := by rfl) : PEd X W (.Call (.Attribute o n apos) [] [] pos) (dMeth C n S to dNil) := by
  obtain ⟨f, F, hm⟩ := M.ex
  obtain ⟨fd, h1, h2⟩ := (B.fn F).ex
  exact (pe_meth0 ho (by rw [B.hK]; exact c.cls) (by rw [B.hK]; exact hm) h1 (B.hr.mono hj) h2 .nil cx_none ht).to fun _ _ _ => lift_meth0
theorem b_make (B : Bd P w K mg base X W sc N vis sts G k) {C : Addr} {j g : Nat} {x : Str} {ps : List Str} {S : DS} {e : Expr} {es : List Expr} {t : DA} (M : Mr P w K mg base j C ps S) (hm : mg x = some (.ref C)) (ha : PAd X W (e :: es) t) (hg : G[g]? = some x := by rfl) (hj : j + 1 ≤ k := by decide)
    (he : starEach (e :: es) X.env = (false, eval e X.env) :: starEach es X.env := by rfl) (hpl : (backTo pos (starEach es X.env)).any (·.1) = false := by rfl) : PEd X W (.Call (.Name x p) (e :: es) [] pos) (dMake C S t) := by
  obtain ⟨f, F, hk⟩ := M.ex
  obtain ⟨fd, h1, h2⟩ := (B.fn F).ex
  obtain ⟨g1, g2⟩ := B.gl hg
  exact (pe_make (by rw [B.hK]; exact hk) h1 (B.hr.mono hj) g1 (by rw [B.hmg]; exact hm) h2 .nil cx_none ha (plainB_ok g2).1 he hpl).to fun _ _ _ => lift_make
theorem mkFn {x qual : Str} {st : Stmt} {f : Addr} {fd : FuncData} {N ps : List Str} {k : Nat} {S : DS} {t : DSt} {vis : List Nat} {G : List Str} (F : Fun K x qual st f fd) (C : FnScope N ps (defScope st)) (hn : defB (defScope st) N ps vis G = true)
    (b : ∀ (kV doc pm : Value) (an : Option Addr) (cdv ct : Value) (us : List Value), us.length = ps.length → bindArgs (PySem.W.fnOf x qual (defArgs st) (defBody st) (defScope st) .none kV doc pm an cdv ct) ⟨us, []⟩ = pure (ps.zip us))
    (len : ∀ ds m Q Px, S ds m Q Px → ds.length = ps.length)
    (hb : ∀ (X : Cx) (W : WX), Bd P w K mg base X W (defScope st) N vis vis G k → PassesOwn (model X.prog X.w) X.A X.env X.xe → PSsd X W (defBody st) t)
    (hr : ∀ ds m Q Px, S ds m Q Px → t { nx := fun _ m' => Q .non m', rt := Q, ex := fun C fs _ m' => Px C fs m' } (startD N ds) m) : Fn P w K mg base (k + 1) ps S f := by
  obtain ⟨h1, h2⟩ := Bool.and_eq_true_iff.mp hn
  refine ⟨fd, F.okX C (fun vs H Q E ⟨ds, m, P, Px, a, _, c, _⟩ => (Reps.length _ _ a).trans (len _ _ _ _ c)) (fun cdv A outer s H vs Q E hroom ⟨ds, m, Pq, Px, a, rl, c, hq, hx⟩ => ?_), F.binds b⟩
  have tk : Takes (cxOf (L2.CX P w) P w K mg base N qual (defScope st) f cdv A outer s H E) (fun cls d _ H => E cls d H) := takes_of rfl rfl rfl rfl
  have B : Bd P w K mg base (cxOf (L2.CX P w) P w K mg base N qual (defScope st) f cdv A outer s H E) (fun cls d _ H => E cls d H) (defScope st) N vis vis G k := by
    refine ⟨rfl, rfl, rfl, rfl, rfl, rfl, C.nd, rfl, h1, rfl, hroom, tk, C.kind, fun i hi y hy => ?_⟩
    have q := List.all_eq_true.mp h2 i hi
    rw [hy] at q
    have q2 : (match (defScope st).names.lookup y with | some .local => true | some .cell => true | _ => false) = true := q
    refine ⟨?_, .inl rfl⟩
    show L2.Loc (defScope st) y
    unfold L2.Loc
    cases e : (defScope st).names.lookup y with
    | none => rw [e] at q2; cases q2
    | some k => rw [e] at q2; cases k <;> first | exact .inl rfl | exact .inr rfl | cases q2
  refine ⟨_, hb _ _ B (passes_of rfl), startD N ds, m, _, start_rep a, rl, hr ds m Pq Px c, fun ρ' m' σ' H' q e r v => ?_, fun d m' v H' q e r x => ?_, fun _ _ _ _ q => q.elim, fun _ _ _ _ q => q.elim, fun C fs ρ' m' d σ' H' q e r v w => ?_⟩
  · exact hq .non m' .non H' q e r .non'
  · exact hq d m' v H' q e r x
  · exact hx C fs m' d H' q e r w
theorem Fn.fd {j : Nat} {x : Str} {ps : List Str} {S : DS} {f : Addr} (F : Fn P w K mg base j ps S f) (hm : mg x = some (.ref f)) (kp : PySem.W.keepIn K (.ref f) = true) : Fd P w K mg base j x ps S := by
  obtain ⟨fd, h1, h2⟩ := F.ex
  exact ⟨f, fd, h1, hm, kp, h2⟩
end
end Y
/-! Y13: what a def leaves behind; comprehensions, parallel stores in a body's context. -/
namespace Y
open PySem PySem.Spec PyProof.Rows L2
/-- less is known, and a value is seen otherwise -/
structure Shed (m' : MM) (d : D) (m2 : MM) (d2 : D) : Prop where
  less : Less m2 m'
  see : ∀ (K : PySem.W.Frag) H v, Rel K H m' → Rep K H m' d v → Rep K H m2 d2 v
theorem Shed.of {m' m2 : MM} {d : D} (h : Less m2 m') : Shed m' d m2 d := ⟨h, fun K H v r x => x.ext r (Ext.less h) _ _⟩
theorem Shed.refl {m : MM} {d : D} : Shed m d m d := .of (Less.refl m)
theorem Shed.lst {m' m2 : MM} {p : Addr} {ds : List D} (h : Less m2 m') (e : m' p = some (.lst ds)) (n : m2 p = none) : Shed m' (.adr p) m2 (.lst ds) := ⟨h, fun K H v r x => by
  obtain ⟨vs, e1, e2⟩ := r p _ e
  rw [x.adr_eq]
  unfold Rep
  exact ⟨p, vs, rfl, ⟨e1, n⟩, Reps.ext r (Ext.less h) _ _ e2⟩⟩
theorem Less.mset {m m' : MM} {p : Addr} {o : MO} (h : Less m m') (n : m p = none) : Less m (mset m' p o) := fun a o' e => by
  have ne : a ≠ p := fun z => by rw [z, n] at e; cases e
  rw [mset_ne ne]; exact h a o' e
theorem Less.trans {m m1 m2 : MM} (h : Less m m1) (k : Less m1 m2) : Less m m2 := fun a o e => k a o (h a o e)
/-- how a def may end -/
def endD (Q : D → MM → Prop) (Px : XC) : DEnds := { nx := fun _ m' => ∃ m2, Less m2 m' ∧ Q .non m2, rt := fun d m' => ∃ m2 d2, Shed m' d m2 d2 ∧ Q d2 m2, ex := fun C fs _ m' => ∃ m2, Less m2 m' ∧ Px C fs m2 }
theorem RepX.less {K : PySem.W.Frag} {H : Hp} {m m2 : MM} {d : Option Addr} {fs : List (Str × D)} (r : Rel K H m) (h : Less m2 m) (x : RepX K H m d fs) : RepX K H m2 d fs := by
  rcases x with x | ⟨dx, us, h1, h2, h3, h4⟩
  · exact .inl x
  · refine .inr ⟨dx, us, h1, h2, ?_, RepKV.ext r (Ext.less h) _ _ h4⟩
    cases e : m2 dx with
    | none => rfl
    | some o => rw [h dx o e] at h3; cases h3
section
variable {P : Program} {w : World} {K : PySem.W.Frag} {mg : Str → Option Value} {base : Heap}
theorem mkFn2 {x qual : Str} {st : Stmt} {f : Addr} {fd : FuncData} {N ps : List Str} {k : Nat} {S : DS} {t : DSt} {vis : List Nat} {G : List Str} (F : Fun K x qual st f fd) (C : FnScope N ps (defScope st)) (hn : defB (defScope st) N ps vis G = true)
    (b : ∀ (kV doc pm : Value) (an : Option Addr) (cdv ct : Value) (us : List Value), us.length = ps.length → bindArgs (PySem.W.fnOf x qual (defArgs st) (defBody st) (defScope st) .none kV doc pm an cdv ct) ⟨us, []⟩ = pure (ps.zip us))
    (hb : ∀ (X : Cx) (W : WX), Bd P w K mg base X W (defScope st) N vis vis G k → PassesOwn (model X.prog X.w) X.A X.env X.xe → PSsd X W (defBody st) t)
    (len : ∀ ds m Q Px, S ds m Q Px → ds.length = ps.length)
    (hr : ∀ ds m Q Px, S ds m Q Px → t (endD Q Px) (startD N ds) m) : Fn P w K mg base (k + 1) ps S f := by
  obtain ⟨h1, h2⟩ := Bool.and_eq_true_iff.mp hn
  refine ⟨fd, F.okX C (fun vs H Q E ⟨ds, m, P, Px, a, _, c, _⟩ => (Reps.length _ _ a).trans (len _ _ _ _ c)) (fun cdv A outer s H vs Q E hroom ⟨ds, m, Pq, Px, a, rl, c, hq, hx⟩ => ?_), F.binds b⟩
  have tk : Takes (cxOf (L2.CX P w) P w K mg base N qual (defScope st) f cdv A outer s H E) (fun cls d _ H => E cls d H) := takes_of rfl rfl rfl rfl
  have B : Bd P w K mg base (cxOf (L2.CX P w) P w K mg base N qual (defScope st) f cdv A outer s H E) (fun cls d _ H => E cls d H) (defScope st) N vis vis G k := by
    refine ⟨rfl, rfl, rfl, rfl, rfl, rfl, C.nd, rfl, h1, rfl, hroom, tk, C.kind, fun i hi y hy => ?_⟩
    have q := List.all_eq_true.mp h2 i hi
    rw [hy] at q
    have q2 : (match (defScope st).names.lookup y with | some .local => true | some .cell => true | _ => false) = true := q
    refine ⟨?_, .inl rfl⟩
    show L2.Loc (defScope st) y
    unfold L2.Loc
    cases e : (defScope st).names.lookup y with
    | none => rw [e] at q2; cases q2
    | some k => rw [e] at q2; cases k <;> first | exact .inl rfl | exact .inr rfl | cases q2
  refine ⟨_, hb _ _ B (passes_of rfl), startD N ds, m, _, start_rep a, rl, hr ds m Pq Px c, fun ρ' m' σ' H' q e r v => ?_, fun d m' v H' q e r x => ?_, fun _ _ _ _ q => q.elim, fun _ _ _ _ q => q.elim, fun C fs ρ' m' d σ' H' q e r v w => ?_⟩
  · obtain ⟨m2, l, q⟩ := q
    exact hq .non m2 .non H' q (e.trans (Ext.less l)) (r.less l) .non'
  · obtain ⟨m2, d2, l, q⟩ := q
    exact hq d2 m2 v H' q (e.trans (Ext.less l.less)) (r.less l.less) (l.see K H' v r x)
  · obtain ⟨m2, l, q⟩ := q
    exact hx C fs m2 d H' q (e.trans (Ext.less l)) (r.less l) (w.less r l)
end
section
variable {P : Program} {w : World} {K : PySem.W.Frag} {mg : Str → Option Value} {base : Heap} {X : Cx} {W : WX} {sc : Scope} {N : List Str} {vis sts : List Nat} {G : List Str} {k : Nat} {pos apos p : Pos}
def swB (sc : Scope) (scope : Scope) (y : Str) (l1 l2 : Nat) : Bool := (match sc.names.lookup y with
  | some .local => true
  | _ => false) && l1 == l2 && !(scope.names.any fun (n, k) => n == y && (k == .local || k == .cell))
theorem kind_loc {sc : Scope} {y : Str} (h : (match sc.names.lookup y with
  | some .local => true
  | _ => false) = true) : sc.names.lookup y = some .local := by
  cases e : sc.names.lookup y with
  | none => rw [e] at h; cases h
  | some k => rw [e] at h; cases k <;> first | rfl | cases h
theorem swaps_lc (B : Bd P w K mg base X W sc N vis sts G k) {elt : Expr} {gens : List Comprehension} {scope : Scope} {y : Str} {py p2 : Pos} {l : Nat} (h : swB sc scope y py.line p2.line = true) :
    swapsWith (.ListComp elt gens scope p2) (some (.Name y py)) l X.env = pure true := by
  unfold swB at h
  obtain ⟨h1, h3⟩ := Bool.and_eq_true_iff.mp h
  obtain ⟨h1, h2⟩ := Bool.and_eq_true_iff.mp h1
  have hl := kind_loc h1
  unfold swapsWith
  have hb : X.env.blockKind = ScopeKind.function := by unfold Env.blockKind; rw [B.kind]; rfl
  have hk : X.env.kindOf y = some .local := by unfold Env.kindOf; rw [B.hsc]; exact hl
  show pure (X.env.blockKind == .function && X.env.kindOf y == some .local && py.line == p2.line && !(scope.names.any fun (n, k) => n == y && (k == .local || k == .cell))) = _
  rw [hb, hk, h2]
  rw [h3]; rfl
/-- a comprehension -/
theorem b_lc (B : Bd P w K mg base X W sc N vis sts G k) (own : List (Str × Nat)) (vis' sts' : List Nat) (G' : List Str) {elt tg iter : Expr} {ifs : List Expr} {scope : Scope} {ti : DI} {t : Tg} {tt : DT} {te : DE} (hi : PId X W tg iter ti)
    (hg : ∀ X', Bd P w K mg base X' W0 (relS scope sc) N vis' sts' G' k → PG X' tg (Tg.g X'.K t)) (ht : ∀ X', Bd P w K mg base X' W0 (relS scope sc) N vis' sts' G' k → PTsd X' W0 ifs tt) (he : ∀ X', Bd P w K mg base X' W0 (relS scope sc) N vis' sts' G' k → PEd X' W0 elt te)
    (hown : blkC N sc scope own = true := by rfl) (hblk : blkB scope sc N vis' sts' G' = true := by rfl) (hs : (t.slots.all fun i => (own.map (·.2)).contains i) = true := by rfl) (hf : ∀ x, foldedSetIterable iter X.env x = pure x := by intro _; rfl) :
    PEd X W (.ListComp elt [⟨tg, iter, ifs, 0⟩] scope pos) (dLC ti t tt te (own.map (·.2))) :=
  de_lc B.calm (by rw [B.hN]; exact B.nd) hi (B.own hown) (fun i h => by simpa using List.all_eq_true.mp hs i h) (fun s H C cl fp => hg _ (B.blk hblk s H C cl fp)) (fun s H C cl fp => ht _ (B.blk hblk s H C cl fp)) (fun s H C cl fp => he _ (B.blk hblk s H C cl fp)) hf
theorem b_lcM (B : Bd P w K mg base X W sc N vis sts G k) (own : List (Str × Nat)) (vis' sts' : List Nat) (G' : List Str) {elt tg iter : Expr} {ifs : List Expr} {scope : Scope} {ti : DI} {t : Tg} {tt : DT} {te : DE} (hi : PId X W tg iter ti)
    (hg : ∀ X', Bd P w K mg base X' W0 (relS scope sc) N vis' sts' G' k → PG X' tg (Tg.g X'.K t)) (ht : ∀ X', Bd P w K mg base X' W0 (relS scope sc) N vis' sts' G' k → PTsd X' W0 ifs tt) (he : ∀ X', Bd P w K mg base X' W0 (relS scope sc) N vis' sts' G' k → PEd X' W0 elt te)
    (hown : blkC N sc scope own = true := by rfl) (hblk : blkB scope sc N vis' sts' G' = true := by rfl) (hs : (t.slots.all fun i => (own.map (·.2)).contains i) = true := by rfl) (hf : ∀ x, foldedSetIterable iter X.env x = pure x := by intro _; rfl) :
    PEd X W (.ListComp elt [⟨tg, iter, ifs, 0⟩] scope pos) (dLCM ti t tt te (own.map (·.2))) :=
  de_lcM B.calm (by rw [B.hN]; exact B.nd) hi (B.own hown) (fun i h => by simpa using List.all_eq_true.mp hs i h) (fun s H C cl fp => hg _ (B.blk hblk s H C cl fp)) (fun s H C cl fp => ht _ (B.blk hblk s H C cl fp)) (fun s H C cl fp => he _ (B.blk hblk s H C cl fp)) hf
/-- name = [..] -/
theorem b_setLc (B : Bd P w K mg base X W sc N vis sts G k) (i : Nat) (own : List (Str × Nat)) (vis' sts' : List Nat) (G' : List Str) {y : Str} {elt tg iter : Expr} {ifs : List Expr} {scope : Scope} {ti : DI} {t : Tg} {tt : DT} {te : DE} {py spos : Pos} (hi : PId X W tg iter ti)
    (hg : ∀ X', Bd P w K mg base X' W0 (relS scope sc) N vis' sts' G' k → PG X' tg (Tg.g X'.K t)) (ht : ∀ X', Bd P w K mg base X' W0 (relS scope sc) N vis' sts' G' k → PTsd X' W0 ifs tt) (he : ∀ X', Bd P w K mg base X' W0 (relS scope sc) N vis' sts' G' k → PEd X' W0 elt te)
    (hy : N[i]? = some y := by rfl) (hsw : swB sc scope y py.line pos.line = true := by rfl) (hown : blkC N sc scope own = true := by rfl) (hblk : blkB scope sc N vis' sts' G' = true := by rfl) (hs : (t.slots.all fun i => (own.map (·.2)).contains i) = true := by rfl) (hf : ∀ x, foldedSetIterable iter X.env x = pure x := by intro _; rfl) :
    PSd X W (.Assign [.Name y py] (.ListComp elt [⟨tg, iter, ifs, 0⟩] scope pos) spos) (dSet i (dLC ti t tt te (own.map (·.2)))) :=
  dst_setLcr finF_ok B.calm (by rw [B.hN]; exact B.nd) (by rw [B.hN]; exact hy) (by rw [B.hsc]; exact kind_loc (Bool.and_eq_true_iff.mp (Bool.and_eq_true_iff.mp hsw).1).1) (swaps_lc B hsw) hi (B.own hown) (fun i h => by simpa using List.all_eq_true.mp hs i h) (fun s H C cl fp => hg _ (B.blk hblk s H C cl fp)) (fun s H C cl fp => ht _ (B.blk hblk s H C cl fp)) (fun s H C cl fp => he _ (B.blk hblk s H C cl fp)) hf
theorem b_setLcM (B : Bd P w K mg base X W sc N vis sts G k) (i : Nat) (own : List (Str × Nat)) (vis' sts' : List Nat) (G' : List Str) {y : Str} {elt tg iter : Expr} {ifs : List Expr} {scope : Scope} {ti : DI} {t : Tg} {tt : DT} {te : DE} {py spos : Pos} (hi : PId X W tg iter ti)
    (hg : ∀ X', Bd P w K mg base X' W0 (relS scope sc) N vis' sts' G' k → PG X' tg (Tg.g X'.K t)) (ht : ∀ X', Bd P w K mg base X' W0 (relS scope sc) N vis' sts' G' k → PTsd X' W0 ifs tt) (he : ∀ X', Bd P w K mg base X' W0 (relS scope sc) N vis' sts' G' k → PEd X' W0 elt te)
    (hy : N[i]? = some y := by rfl) (hsw : swB sc scope y py.line pos.line = true := by rfl) (hown : blkC N sc scope own = true := by rfl) (hblk : blkB scope sc N vis' sts' G' = true := by rfl) (hs : (t.slots.all fun i => (own.map (·.2)).contains i) = true := by rfl) (hf : ∀ x, foldedSetIterable iter X.env x = pure x := by intro _; rfl) :
    PSd X W (.Assign [.Name y py] (.ListComp elt [⟨tg, iter, ifs, 0⟩] scope pos) spos) (dSet i (dLCM ti t tt te (own.map (·.2)))) :=
  dst_setLcr finM_ok B.calm (by rw [B.hN]; exact B.nd) (by rw [B.hN]; exact hy) (by rw [B.hsc]; exact kind_loc (Bool.and_eq_true_iff.mp (Bool.and_eq_true_iff.mp hsw).1).1) (swaps_lc B hsw) hi (B.own hown) (fun i h => by simpa using List.all_eq_true.mp hs i h) (fun s H C cl fp => hg _ (B.blk hblk s H C cl fp)) (fun s H C cl fp => ht _ (B.blk hblk s H C cl fp)) (fun s H C cl fp => he _ (B.blk hblk s H C cl fp)) hf
/-- x, y = a, b -/
theorem b_par (B : Bd P w K mg base X W sc N vis sts G k) (i j : Nat) {x y : Str} {a b : Expr} {t : DA} {px py pt : Pos} {kt k2 : Nat} {pt2 : Pos} (ha : PAd X W [a, b] t) (hi : N[i]? = some x := by rfl) (hj : N[j]? = some y := by rfl) (hij : i ≠ j := by decide) (hst : stB sc N [i, j] = true := by rfl)
    (h1 : swapB sc [.Name x px, .Name y py] [a, b] = true := by rfl) (h2 : (px.line == px.line && py.line == px.line && x != y) = true := by rfl) (hs : swapsWithSole [.Tuple [.Name x px, .Name y py] kt pt] (.Tuple [a, b] k2 pt2) pos.line X.env = pure false := by rfl) :
    PSd X W (.Assign [.Tuple [.Name x px, .Name y py] kt pt] (.Tuple [a, b] k2 pt2) pos) (dPar i j t) := by
  have lx : sc.names.lookup x = some .local := stB_ok hst i (by simp) x hi
  have ly : sc.names.lookup y = some .local := stB_ok hst j (by simp) y hj
  obtain ⟨h2, h5⟩ := Bool.and_eq_true_iff.mp h2
  obtain ⟨_, h4⟩ := Bool.and_eq_true_iff.mp h2
  have hn : swapN sc [.Name x px, .Name y py] = [x, y] := by
    unfold swapN
    simp only [List.filterMap_cons, List.filterMap_nil, lx, ly, List.head?_cons, Option.map_some, Option.getD_some]
    have e1 : (Expr.Name x px).pos = px := rfl
    rw [e1]
    simp [h4]
  have hxy : (y == x) = false := by
    cases e : y == x with
    | false => rfl
    | true =>
      have := beq_iff_eq.mp e
      subst this
      simp at h5
  exact dst_par B.calm (by rw [B.hN]; exact B.nd) (by rw [B.hN]; exact hi) (by rw [B.hN]; exact hj) hij (by rw [B.hsc]; exact lx) (by rw [B.hsc]; exact ly) ha
    (swapped_yes (c1 := kt) (c2 := k2) (k1 := kt) (k2 := k2) (p1 := pt) (p2 := pt2) B h1 hn (by
      have : ([x, y] : List Str).eraseDups = [x, y] := by simp [List.eraseDups_cons, hxy]
      rw [this]; rfl) rfl rfl) hs
end
end Y
/-! Y14: what the head tells, for the walks. -/
namespace Y
open PySem PySem.Spec PyProof.Rows L2
section
variable {P : Program} {w : World} {K : PySem.W.Frag} {mg : Str → Option Value} {base : Heap}
/-- a module's constant -/
def Cst (K : PySem.W.Frag) (mg : Str → Option Value) (x : Str) (d : D) : Prop := ∃ u v, mg x = some u ∧ RelV v u ∧ ∀ H m, Rep K H m d v
/-- a def of the text -/
def Df (K : PySem.W.Frag) (mg : Str → Option Value) (x : Str) (st : Stmt) : Prop := ∃ f fd, FunD K x x (defArgs st) (defBody st) (defScope st) [] [] f fd ∧ mg x = some (.ref f)
/-- a method of the text -/
def Dm (K : PySem.W.Frag) (C : Addr) (n qual : Str) (st : Stmt) : Prop := ∃ f fd, FunD K n qual (defArgs st) (defBody st) (defScope st) [] [] f fd ∧ Meth K C n f
/-- an __init__ of the text -/
def Di (K : PySem.W.Frag) (C : Addr) (qual : Str) (st : Stmt) : Prop := ∃ f fd, FunD K "__init__" qual (defArgs st) (defBody st) (defScope st) [] [] f fd ∧ Mk K C f
abbrev BindOk (x qual : Str) (st : Stmt) (ps : List Str) : Prop := ∀ (kV doc pm : Value) (an : Option Addr) (cdv ct : Value) (us : List Value), us.length = ps.length → bindArgs (PySem.W.fnOf x qual (defArgs st) (defBody st) (defScope st) .none kV doc pm an cdv ct) ⟨us, []⟩ = pure (ps.zip us)
theorem mkFnD {x qual : Str} {st : Stmt} {f : Addr} {fd : FuncData} {N ps : List Str} {k : Nat} {S : DS} {t : DSt} {vis : List Nat} {G : List Str} (F : FunD K x qual (defArgs st) (defBody st) (defScope st) [] [] f fd) (C : FnScope N ps (defScope st)) (hn : defB (defScope st) N ps vis G = true)
    (b : BindOk x qual st ps)
    (hb : ∀ (X : Cx) (W : WX), Bd P w K mg base X W (defScope st) N vis vis G k → PassesOwn (model X.prog X.w) X.A X.env X.xe → PSsd X W (defBody st) t)
    (hr : ∀ ds m Q Px, S ds m Q Px → ds.length = ps.length ∧ t (endD Q Px) (startD N ds) m) : Fn P w K mg base (k + 1) ps S f := by
  obtain ⟨h1, h2⟩ := Bool.and_eq_true_iff.mp hn
  refine ⟨fd, F.ok C (fun vs H Q E ⟨ds, m, P, Px, a, _, c, _⟩ => (Reps.length _ _ a).trans (hr _ _ _ _ c).1) (fun cdv A outer s H vs Q E hroom ⟨ds, m, Pq, Px, a, rl, c, hq, hx⟩ => ?_), F.bindsN b⟩
  have tk : Takes (cxOf (L2.CX P w) P w K mg base N qual (defScope st) f cdv A outer s H E) (fun cls d _ H => E cls d H) := takes_of rfl rfl rfl rfl
  have B : Bd P w K mg base (cxOf (L2.CX P w) P w K mg base N qual (defScope st) f cdv A outer s H E) (fun cls d _ H => E cls d H) (defScope st) N vis vis G k := by
    refine ⟨rfl, rfl, rfl, rfl, rfl, rfl, C.nd, rfl, h1, rfl, hroom, tk, C.kind, fun i hi y hy => ?_⟩
    have q := List.all_eq_true.mp h2 i hi
    rw [hy] at q
    have q2 : (match (defScope st).names.lookup y with | some .local => true | some .cell => true | _ => false) = true := q
    refine ⟨?_, .inl rfl⟩
    show L2.Loc (defScope st) y
    unfold L2.Loc
    cases e : (defScope st).names.lookup y with
    | none => rw [e] at q2; cases q2
    | some k => rw [e] at q2; cases k <;> first | exact .inl rfl | exact .inr rfl | cases q2
  refine ⟨_, hb _ _ B (passes_of rfl), startD N ds, m, _, start_rep a, rl, (hr ds m Pq Px c).2, fun ρ' m' σ' H' q e r v => ?_, fun d m' v H' q e r x => ?_, fun _ _ _ _ q => q.elim, fun _ _ _ _ q => q.elim, fun C fs ρ' m' d σ' H' q e r v w => ?_⟩
  · obtain ⟨m2, l, q⟩ := q
    exact hq .non m2 .non H' q (e.trans (Ext.less l)) (r.less l) .non'
  · obtain ⟨m2, d2, l, q⟩ := q
    exact hq d2 m2 v H' q (e.trans (Ext.less l.less)) (r.less l.less) (l.see K H' v r x)
  · obtain ⟨m2, l, q⟩ := q
    exact hx C fs m2 d H' q (e.trans (Ext.less l)) (r.less l) (w.less r l)
theorem fd_of {x : Str} {st : Stmt} {N ps : List Str} {k : Nat} {S : DS} {t : DSt} {vis : List Nat} {G : List Str} (F : Df K mg x st) (C : FnScope N ps (defScope st)) (hn : defB (defScope st) N ps vis G = true) (b : BindOk x x st ps)
    (hb : ∀ (X : Cx) (W : WX), Bd P w K mg base X W (defScope st) N vis vis G k → PassesOwn (model X.prog X.w) X.A X.env X.xe → PSsd X W (defBody st) t)
    (hr : ∀ ds m Q Px, S ds m Q Px → ds.length = ps.length ∧ t (endD Q Px) (startD N ds) m) : Fd P w K mg base (k + 1) x ps S := by
  obtain ⟨f, fd, h1, h2⟩ := F
  exact (mkFnD h1 C hn b hb hr).fd h2 h1.kp
theorem md_of {C : Addr} {n qual : Str} {st : Stmt} {N ps : List Str} {k : Nat} {S : DS} {t : DSt} {vis : List Nat} {G : List Str} (F : Dm K C n qual st) (Sc : FnScope N ps (defScope st)) (hn : defB (defScope st) N ps vis G = true) (b : BindOk n qual st ps)
    (hb : ∀ (X : Cx) (W : WX), Bd P w K mg base X W (defScope st) N vis vis G k → PassesOwn (model X.prog X.w) X.A X.env X.xe → PSsd X W (defBody st) t)
    (hr : ∀ ds m Q Px, S ds m Q Px → ds.length = ps.length ∧ t (endD Q Px) (startD N ds) m) : Md P w K mg base (k + 1) C n ps S := by
  obtain ⟨f, fd, h1, h2⟩ := F
  exact ⟨f, mkFnD h1 Sc hn b hb hr, h2⟩
theorem mr_of {C : Addr} {qual : Str} {st : Stmt} {N ps : List Str} {k : Nat} {S : DS} {t : DSt} {vis : List Nat} {G : List Str} (F : Di K C qual st) (Sc : FnScope N ps (defScope st)) (hn : defB (defScope st) N ps vis G = true) (b : BindOk "__init__" qual st ps)
    (hb : ∀ (X : Cx) (W : WX), Bd P w K mg base X W (defScope st) N vis vis G k → PassesOwn (model X.prog X.w) X.A X.env X.xe → PSsd X W (defBody st) t)
    (hr : ∀ ds m Q Px, S ds m Q Px → ds.length = ps.length ∧ t (endD Q Px) (startD N ds) m) : Mr P w K mg base (k + 1) C ps S := by
  obtain ⟨f, fd, h1, h2⟩ := F
  exact ⟨f, mkFnD h1 Sc hn b hb hr, h2⟩
/-- a scope's facts, by a Bool -/
def scB (N ps : List Str) (sc : Scope) : Bool := (match sc.kind with
  | .function => true
  | _ => false) && (!sc.isCoroutine && (!sc.isGenerator && (decide N.Nodup && (decide (N.take ps.length = ps) && ((ps.all fun x => match sc.names.lookup x with
  | some .local => true
  | some .cell => true
  | _ => false) && sc.names.all fun y => match y.2 with
  | .free => false
  | _ => true)))))
theorem scB_ok {N ps : List Str} {sc : Scope} (h : scB N ps sc = true) : FnScope N ps sc := by
  unfold scB at h
  obtain ⟨h1, h⟩ := Bool.and_eq_true_iff.mp h
  obtain ⟨h2, h⟩ := Bool.and_eq_true_iff.mp h
  obtain ⟨h3, h⟩ := Bool.and_eq_true_iff.mp h
  obtain ⟨h4, h⟩ := Bool.and_eq_true_iff.mp h
  obtain ⟨h5, h⟩ := Bool.and_eq_true_iff.mp h
  obtain ⟨h6, h7⟩ := Bool.and_eq_true_iff.mp h
  refine ⟨?_, by simpa using h2, by simpa using h3, of_decide_eq_true h4, of_decide_eq_true h5, fun x hx => ?_, fun y hy e => ?_⟩
  · cases e : sc.kind <;> rw [e] at h1 <;> first | rfl | cases h1
  · have q := List.all_eq_true.mp h6 x hx
    cases e : sc.names.lookup x with
    | none => rw [e] at q; cases q
    | some k => rw [e] at q; cases k <;> first | exact .inl rfl | exact .inr rfl | cases q
  · have q := List.all_eq_true.mp h7 y hy
    rw [e] at q; cases q
end
section
variable {P : Program} {w : World} {K : PySem.W.Frag} {mg : Str → Option Value} {base : Heap} {X : Cx} {W : WX} {sc : Scope} {N : List Str} {vis sts : List Nat} {G : List Str} {k : Nat} {pos apos p : Pos}
theorem Bd.mgn (B : Bd P w K mg base X W sc N vis sts G k) {x : Str} (h : mg x = none) : X.mg x = none := by rw [B.hmg]; exact h
theorem b_const (B : Bd P w K mg base X W sc N vis sts G k) {g : Nat} {x : Str} {d : D} (h : Cst K mg x d) (hg : G[g]? = some x := by rfl) : PEd X W (.Name x pos) (dC d) := by
  obtain ⟨u, v, h1, h2, h3⟩ := h
  exact b_glob B h1 h2 h3 hg
/-- a tuple into names, not all of them plain locals -/
def swapNo (sc : Scope) (ts vs : List Expr) : Bool :=
  let names := swapN sc ts
  (!(ts.length == 2 || ts.length == 3) || vs.length != ts.length) || (vs.any fun | .Starred .. => true | _ => false) || (names.length != ts.length || names.eraseDups.length != names.length) || vs.all (foldedForSure 8)
theorem swapped_no (B : Bd P w K mg base X W sc N vis sts G k) {ts vs : List Expr} {k1 k2 : Nat} {p1 p2 : Pos} (h : swapNo sc ts vs = true) : swappedStores [.Tuple ts k1 p1] (.Tuple vs k2 p2) X.env = pure none := by
  have hb : X.env.blockKind = ScopeKind.function := by unfold Env.blockKind; rw [B.kind]; rfl
  have hn' : (ts.filterMap fun
    | .Name id pos => if X.env.kindOf id == some .local && pos.line == ((ts.head?.map (·.pos.line)).getD 0) then some id else none
    | _ => none) = swapN sc ts := by
    unfold swapN Env.kindOf
    (rw [B.hsc]) <;> rfl
  unfold swapNo at h
  simp only [Bool.or_eq_true] at h
  unfold swappedStores
  show (if (!(ts.length == 2 || ts.length == 3) || vs.length != ts.length || X.env.blockKind != ScopeKind.function) = true then pure none else _) = _
  by_cases c1 : (!(ts.length == 2 || ts.length == 3) || vs.length != ts.length || X.env.blockKind != ScopeKind.function) = true
  · exact if_pos c1
  refine (if_neg c1).trans ?_
  by_cases c2 : (vs.any fun | .Starred .. => true | _ => false) = true
  · exact if_pos c2
  refine (if_neg c2).trans ?_
  show (if ((ts.filterMap fun
    | .Name id pos => if X.env.kindOf id == some .local && pos.line == ((ts.head?.map (·.pos.line)).getD 0) then some id else none
    | _ => none).length != ts.length || (ts.filterMap fun
    | .Name id pos => if X.env.kindOf id == some .local && pos.line == ((ts.head?.map (·.pos.line)).getD 0) then some id else none
    | _ => none).eraseDups.length != (ts.filterMap fun
    | .Name id pos => if X.env.kindOf id == some .local && pos.line == ((ts.head?.map (·.pos.line)).getD 0) then some id else none
    | _ => none).length) = true then pure none else _) = _
  by_cases c3 : ((swapN sc ts).length != ts.length || (swapN sc ts).eraseDups.length != (swapN sc ts).length) = true
  · exact if_pos (by rw [hn']; exact c3)
  refine (if_neg (by rw [hn']; exact c3)).trans ?_
  by_cases c4 : vs.all (foldedForSure 8) = true
  · exact if_pos c4
  · rcases h with ((h | h) | h) | h
    · exfalso
      apply c1
      simp only [Bool.or_eq_true]
      exact .inl h
    · exact absurd h c2
    · exact absurd (by simpa using h) c3
    · exact absurd h c4
theorem b_asgN (B : Bd P w K mg base X W sc N vis sts G k) {ts vs : List Expr} {k1 k2 : Nat} {p1 p2 : Pos} {t : DE} {g : DG} (he : PEd X W (.Tuple vs k2 p2) t) (hg : PGd X (.Tuple ts k1 p1) g) (hno : swapNo sc ts vs = true := by rfl)
    (hs : swapsWithSole [.Tuple ts k1 p1] (.Tuple vs k2 p2) pos.line X.env = pure false := by rfl) (h1 : (assignEach [.Tuple ts k1 p1] X.env).map (·.2) = [assign (.Tuple ts k1 p1) X.env] := by rfl) : PSd X W (.Assign [.Tuple ts k1 p1] (.Tuple vs k2 p2) pos) (dAsg t g) :=
  dst_asg he hg hs (swapped_no B hno) h1
end
end Y
/-! Y15: the head's facts, the law's end. -/
namespace Y
open PySem PySem.Spec PyProof.Rows L2
/-! ### constants of the top -/
mutual
def cB (K : PySem.W.Frag) : D → Value → Bool
  | .non, .none => true
  | .bl b, .bool c => b == c
  | .int i, .int j _ => decide (i = j)
  | .str x, .str y _ => decide (x = y)
  | .tup ds, .ref a => (match K.lookup a with
    | some ⟨.type c, _, .seq its _, _⟩ => decide (c = "tuple") && (decide (its.size ≤ sizeLine) && cBs K ds its.toList)
    | _ => false)
  | _, _ => false
def cBs (K : PySem.W.Frag) : List D → List Value → Bool
  | [], [] => true
  | d :: ds, u :: us => cB K d u && cBs K ds us
  | _, _ => false
end
mutual
theorem cB_ok (K : PySem.W.Frag) : ∀ (d : D) (u : Value), cB K d u = true → ∃ v, RelV v u ∧ ∀ H m, Rep K H m d v
  | .non, u, h => by
    cases u <;> first | (simp [cB] at h; done) | exact ⟨.non, rfl, fun _ _ => .non'⟩
  | .bl b, u, h => by
    cases u <;> first | (simp [cB] at h; done) | (simp [cB] at h; subst h; exact ⟨.bl b, rfl, fun _ _ => .bl'⟩)
  | .int i, u, h => by
    cases u <;> first | (simp [cB] at h; done) | (simp [cB] at h; subst h; exact ⟨.int i, ⟨_, rfl⟩, fun _ _ => .int'⟩)
  | .str i, u, h => by
    cases u <;> first | (simp [cB] at h; done) | (simp [cB] at h; subst h; exact ⟨.str i, ⟨_, rfl⟩, fun _ _ => .str'⟩)
  | .tup ds, u, h => by
    cases u with
    | ref a =>
      simp only [cB] at h
      split at h
      · rename_i c od its n sl lk
        simp only [Bool.and_eq_true, decide_eq_true_eq] at h
        obtain ⟨h1, h2, h3⟩ := h
        subst h1
        obtain ⟨vs, r1, r2⟩ := cBs_ok K ds its.toList h3
        refine ⟨.ref a, rfl, fun H m => ?_⟩
        unfold Rep
        exact ⟨a, vs, rfl, .inr ⟨_, its, n, lk, rfl, rfl, h2, r1⟩, r2 H m⟩
      · cases h
    | _ => simp [cB] at h
  | .ty _, u, h => by simp [cB] at h
  | .adr _, u, h => by simp [cB] at h
  | .lst _, u, h => by simp [cB] at h
  | .kl _, u, h => by simp [cB] at h
theorem cBs_ok (K : PySem.W.Frag) : ∀ (ds : List D) (us : List Value), cBs K ds us = true → ∃ vs, Vals vs us ∧ ∀ H m, Reps K H m ds vs
  | [], [], h => ⟨[], .nil, fun _ _ => .nil⟩
  | [], _ :: _, h => by simp [cBs] at h
  | _ :: _, [], h => by simp [cBs] at h
  | d :: ds, u :: us, h => by
    unfold cBs at h
    obtain ⟨h1, h2⟩ := Bool.and_eq_true_iff.mp h
    obtain ⟨v, r1, r2⟩ := cB_ok K d u h1
    obtain ⟨vs, s1, s2⟩ := cBs_ok K ds us h2
    exact ⟨v :: vs, .cons r1 s1, fun H m => .cons (r2 H m) (s2 H m)⟩
end
inductive Ck where
  | cst (x : Str) (d : D)
  | blt (x : Str) (id : String)
def Ck.ok (K : PySem.W.Frag) : Ck → Bool
  | .cst x d => (match PySem.W.nsIn K mainGlobals x with
    | some (some u) => cB K d u
    | _ => false)
  | .blt x id => He.eqO (PySem.W.nsIn K mainGlobals x) (some (some (.builtin id)))
def cks (l : List Ck) (K : PySem.W.Frag) : Bool := l.all fun c => c.ok K
section
variable {K : PySem.W.Frag} {h : Heap} {mg : Str → Option Value}
theorem ck_cst (X : K.In h) (G : h.Ns mainGlobals mg) {x : Str} {d : D} (c : (Ck.cst x d).ok K = true) : Cst K mg x d := by
  simp only [Ck.ok] at c
  split at c
  · rename_i u e
    obtain ⟨v, h1, h2⟩ := cB_ok K d u c
    exact ⟨u, v, PySem.W.mg_of X G e, h1, h2⟩
  · cases c
theorem ck_blt (X : K.In h) (G : h.Ns mainGlobals mg) {x : Str} {id : String} (c : (Ck.blt x id).ok K = true) : mg x = some (.builtin id) := PySem.W.mg_of X G (He.eqO_ok c)
theorem cks_at {l : List Ck} (c : cks l K = true) (i : Nat) {k : Ck} (e : l[i]? = some k := by rfl) : k.ok K = true := List.all_eq_true.mp c k (List.mem_of_getElem? e)
/-! ### the law's end -/
variable {P : Program} {w : World}
theorem okD_of {base : Heap} {x qual : Str} {st : Stmt} {f : Addr} {fd : FuncData} {N ps : List Str} {k : Nat} {S : DS} {t : DSt} {vis : List Nat} {G : List Str} (F : FunD K x qual (defArgs st) (defBody st) (defScope st) [] [] f fd) (C : FnScope N ps (defScope st)) (hn : defB (defScope st) N ps vis G = true)
    (hb : ∀ (X : Cx) (W : WX), Bd P w K mg base X W (defScope st) N vis vis G k → PassesOwn (model X.prog X.w) X.A X.env X.xe → PSsd X W (defBody st) t)
    (hr : ∀ ds m Q Px, S ds m Q Px → ds.length = ps.length ∧ t (endD Q Px) (startD N ds) m) : FnOk P w K mg base (L2.CX P w) (k + 1) f fd ps (spD K S) := by
  obtain ⟨h1, h2⟩ := Bool.and_eq_true_iff.mp hn
  refine F.ok C (fun vs H Q E ⟨ds, m, P, Px, a, _, c, _⟩ => (Reps.length _ _ a).trans (hr _ _ _ _ c).1) (fun cdv A outer s H vs Q E hroom ⟨ds, m, Pq, Px, a, rl, c, hq, hx⟩ => ?_)
  have tk : Takes (cxOf (L2.CX P w) P w K mg base N qual (defScope st) f cdv A outer s H E) (fun cls d _ H => E cls d H) := takes_of rfl rfl rfl rfl
  have B : Bd P w K mg base (cxOf (L2.CX P w) P w K mg base N qual (defScope st) f cdv A outer s H E) (fun cls d _ H => E cls d H) (defScope st) N vis vis G k := by
    refine ⟨rfl, rfl, rfl, rfl, rfl, rfl, C.nd, rfl, h1, rfl, hroom, tk, C.kind, fun i hi y hy => ?_⟩
    have q := List.all_eq_true.mp h2 i hi
    rw [hy] at q
    have q2 : (match (defScope st).names.lookup y with | some .local => true | some .cell => true | _ => false) = true := q
    refine ⟨?_, .inl rfl⟩
    show L2.Loc (defScope st) y
    unfold L2.Loc
    cases e : (defScope st).names.lookup y with
    | none => rw [e] at q2; cases q2
    | some k => rw [e] at q2; cases k <;> first | exact .inl rfl | exact .inr rfl | cases q2
  refine ⟨_, hb _ _ B (passes_of rfl), startD N ds, m, _, start_rep a, rl, (hr ds m Pq Px c).2, fun ρ' m' σ' H' q e r v => ?_, fun d m' v H' q e r x => ?_, fun _ _ _ _ q => q.elim, fun _ _ _ _ q => q.elim, fun C fs ρ' m' d σ' H' q e r v w => ?_⟩
  · obtain ⟨m2, l, q⟩ := q
    exact hq .non m2 .non H' q (e.trans (Ext.less l)) (r.less l) .non'
  · obtain ⟨m2, d2, l, q⟩ := q
    exact hq d2 m2 v H' q (e.trans (Ext.less l.less)) (r.less l.less) (l.see K H' v r x)
  · obtain ⟨m2, l, q⟩ := q
    exact hx C fs m2 d H' q (e.trans (Ext.less l)) (r.less l) (w.less r l)
/-- what the law's def keeps: any such script gives True -/
def S_law : DS := fun ds m Q X => ∃ ns : List Int, ds = [.kl (ns.map .int)] ∧ ns.length ≤ 63 ∧ (∀ c ∈ ns, c.natAbs.log2 ≤ 2097152) ∧ m = (fun _ => none) ∧ ∀ m', Q (.bl true) m'
theorem law_sp {H : Hp} {a : Addr} {ns : List Int} (hn : ns.length ≤ 63) (hb : ∀ k ∈ ns, Builtin.Int.intBits k ≤ 1048576) (hs : SqL K H a (ns.map V.int)) : spD K S_law [.ref a] H (fun v _ => v = .bl true) fun _ _ _ => False := by
  have r0 : Rel K H (fun _ => none) := fun _ _ e => by cases e
  refine ⟨[.kl (ns.map .int)], fun _ => none, fun d _ => d = .bl true, xF, .cons ?_ .nil, r0, ⟨ns, rfl, hn, fun c hc => ?_, rfl, fun _ => rfl⟩, fun d m' v H' p e r w => ?_, fun _ _ _ _ _ p => p.elim⟩
  · unfold Rep
    refine ⟨a, ns.map V.int, rfl, ?_, Reps.map_mk (fun i => .int') ns⟩
    rcases hs with h | h
    · exact .inl ⟨h, rfl⟩
    · exact .inr h
  · have := hb c hc
    unfold Builtin.Int.intBits at this
    split at this
    · rename_i h0
      have h0 : c = 0 := by simpa using h0
      subst h0
      decide
    · omega
  · subst p
    exact w.bl_eq
end
/-- the end, with the bound of the script's bits -/
theorem walk_end {l : PySem.W.OpenLaw} {q : Program} {loose : List Str} {XP : (Str → Option Value) → Heap → Prop} {YP : World → Heap → Prop} {d : DefRec} {x : Str} {k : Nat} (hdf : d.params.defaults = []) (hn : l.most = some 63) (hr : Room k callerA)
    (F : ∀ (w : World) (mg : Str → Option Value) (h : Heap), YP w h → h.Ns mainGlobals mg → ∃ (K : PySem.W.Frag) (fd : FuncData) (fa : Addr), K.In h ∧ mg d.name = some (.ref fa) ∧ (∀ (s : Shared) (u : Value), BindsTo s fd ⟨[u], []⟩ [(x, u)]) ∧ ∀ base : Heap, K.In base → base.Ns mainGlobals mg → FnOk l.prog w K mg base (L2.CX l.prog w) k fa fd [x] (spD K S_law)) :
    PySem.W.WalkO q loose XP YP l.row.toRowW d [] (fun f vs => PySem.call f vs) := by
  refine Att.attach_callB hn hdf fun w s₀ s₁ mg mb fa o pm cd doc a vs ns G Yh ho hd hcd hmg hobj hints hlen hbits hg => ?_
  obtain ⟨K, fd, fa', KX, hfa, hb, hF⟩ := F w mg _ Yh G.T.g
  have e : fa' = fa := by rw [hfa] at hmg; cases hmg; rfl
  subst e
  refine law_call KX G.T.g G.T.b G.T.builtins G.T.nolimit hg hobj hints (by rw [PySem.sizeLine_eq]; omega) hr hF hb (fun H _ hS => law_sp hlen hbits hS) fun H e s' c => ?_
  obtain ⟨_, _, _, _, _, z⟩ := c
  exact z.2.2.2.2.2.2.2
end Y
/-! Y16: a dict's keys as a list; sorted pairs. -/
namespace Y
open PySem PySem.Spec PyProof.Rows L2
def keysDs : List D → Option (List Key)
  | [] => some []
  | d :: r => match keyD d, keysDs r with
    | some k, some ks => some (k :: ks)
    | _, _ => none
def keysD : D → Option (List Key)
  | .tup ds => keysDs ds
  | _ => none
/-- each key once, where it stands first -/
def onceD : List D → List (List Key) → List D
  | [], _ => []
  | d :: r, seen => match keysD d with
    | some k => if (seen.any fun s => decide (s = k)) = true then onceD r seen else d :: onceD r (k :: seen)
    | none => []
/-- list({x: True for x in ..}) -/
def dLSet (ti : DI) : DE := fun ρ m Q X => ti ρ m (fun items side m1 => (∀ D o, m1 D = none → side (mset m1 D o)) ∧ items.length ≤ 1000000 ∧ (∀ d ∈ items, ∃ k, keysD d = some k) ∧ Q (.lst (onceD items [])) m1) X
/-- a pair's first, a whole number -/
def fstI : D → Option Int
  | .tup [.int k, _] => some k
  | _ => none
def gSortP : DRC := fun ds m Q => on1 (fun d => match lstOf m d with
  | some xs => (∀ x ∈ xs, ∃ k, fstI x = some k) ∧ (xs.map fstI).Nodup ∧ ∀ out : List D, out.Perm xs → out.Pairwise (fun x y => ∀ i j, fstI x = some i → fstI y = some j → i ≤ j) → Q (.lst out) m
  | none => False) ds
/-! pairs (whole number, anything), in order by their first -/
def IsP (h : Heap) (v : Value) (i : Int) : Prop := ∃ (a : Addr) (o : Obj) (t : Tok) (y : Value) (n : Nat), v = .ref a ∧ h.get? a = some o ∧ o.cls = .type "tuple" ∧ o.data = .seq #[.int i t, y] n
theorem IsP.keep {h h' : Heap} {v : Value} {i : Int} (p : IsP h v i) (k : ∀ b o, h.get? b = some o → o.cls = .type "tuple" → h'.get? b = some o) : IsP h' v i := by
  obtain ⟨a, o, t, y, n, e, h1, h2, h3⟩ := p
  exact ⟨a, o, t, y, n, e, k a o h1 h2, h2, h3⟩
theorem kt_heads {h : Heap} {f : Value → Int} : ∀ {us : List Value}, (∀ u ∈ us, IsP h u (f u)) → ∃ hs : List Value, PySem.W.KatTups h us hs ∧ hs.length = us.length ∧ ∀ x ∈ hs, ∃ j t, x = Value.int j t
  | [], _ => ⟨[], .nil, rfl, fun _ q => (List.not_mem_nil q).elim⟩
  | u :: us, q => by
    obtain ⟨a, o, t, y, n, rfl, h1, h2, h3⟩ := q u List.mem_cons_self
    obtain ⟨hs, g1, g2, g3⟩ := kt_heads fun x hx => q x (List.mem_cons_of_mem _ hx)
    exact ⟨_, PySem.W.KatTups.cons h1 h2 h3 rfl g1, congrArg (· + 1) g2, fun x hx => (List.mem_cons.mp hx).elim (fun e => ⟨_, _, e⟩) (g3 x)⟩
theorem lt1_swo {α : Type} (f : α → Int) : SrtO.Swo fun x y => decide (f x < f y) where
  asym x y h := decide_eq_false (Int.not_lt.mpr (Int.le_of_lt (of_decide_eq_true h)))
  tr x y z h1 h2 := by
    have a := of_decide_eq_false h1
    have b := of_decide_eq_false h2
    exact decide_eq_false (by omega)
theorem kt_cmp {P : Program} {w : World} {A : Around} {s : Shared} {us : List Value} {f : Value → Int} (q : ∀ u ∈ us, IsP s.heap u (f u)) (inj : ∀ u ∈ us, ∀ v ∈ us, f u = f v → u = v) :
    SrtO.Cmp P w A s (tuples' true) (fun p => p.1 ∈ us) (SrtO.lt2 fun u v => decide (f u < f v)) := by
  rintro ⟨u, u2⟩ ⟨v, v2⟩ hu hv
  show wpAny (model P w) A (keyLt' (tuples' true) u v) (fun r s' => s' = s ∧ r = decide (f u < f v)) (fun _ _ => False) s
  obtain ⟨a, o, t, y, n, e1, h1, h2, h3⟩ := q u hu
  obtain ⟨b, o', t', z, n', e2, g1, g2, g3⟩ := q v hv
  have hij := inj u hu v hv
  generalize f u = i at *
  generalize f v = j at *
  subst e1 e2
  refine PySem.W.kat_lt h1 h3 g1 g3 (PySem.W.kat_cons (SeqAt.EqAt.int_int _ _ _ _ P w _ _ ?_))
  by_cases e : i = j
  · cases hij e
    rw [h1] at g1
    cases g1
    rw [h3] at g3
    cases g3
    rw [beq_self_eq_true]
    refine PySem.W.kat_yes (PySem.W.kat_cons (SeqAt.EqAt.same y P w _ _ ?_))
    exact PySem.W.kat_yes (PySem.W.kat_nil ⟨rfl, (decide_eq_false (Int.lt_irrefl _)).symm⟩)
  · rw [beq_false_of_ne e]
    exact PySem.W.kat_no (oneLt_int ⟨rfl, rfl⟩)
theorem kt_sorted {P : Program} {w : World} {A : Around} {s : Shared} {E : Value → Shared → Prop} {l : Addr} {us : List Value} {f : Value → Int} {Q : Value → Shared → Prop} (hl : s.heap.IsList l us.toArray) (hz : us.length ≤ sizeLine) (q : ∀ u ∈ us, IsP s.heap u (f u)) (inj : ∀ u ∈ us, ∀ v ∈ us, f u = f v → u = v)
    (k : ∀ (h' : Heap) (d : Addr) (out : List Value), out.Perm us → out.Pairwise (fun u v => f u ≤ f v) → (∀ b o, s.heap.get? b = some o → h'.get? b = some o) → s.heap.objs.size ≤ d → (∃ n, h'.get? d = some (seqObj "list" out.toArray n)) → Q (.ref d) { s with heap := h' }) :
    wpAny (model P w) A (call (.builtin "sorted") [.ref l]) Q E s := by
  refine SrtO.sorted_ord (lt1_swo f) hl hz ?_ ?_
  · intro h2 h1 a ha old h' keep
    have tup : ∀ b o, s.heap.get? b = some o → o.cls = .type "tuple" → h'.get? b = some o := fun b o e _ => keep b o (old b o e).1 (old b o e).2
    have q' : ∀ u ∈ us, IsP h' u (f u) := fun u hu => (q u hu).keep tup
    obtain ⟨hs, g1, g2, g3⟩ := kt_heads q'
    refine ⟨tuples' true, ?_, kt_cmp q' inj⟩
    intro Q' E' hq
    refine PySem.W.kat_kind (T := .type "int") g1 (by omega) ?_ rfl ?_
    · intro x hx
      obtain ⟨j, t, rfl⟩ := g3 x hx
      exact PySem.W.Looks.now
    · have ne : (Value.type "int" != Value.type "tuple") = true := by decide +kernel
      rw [ne]
      exact hq
  · intro out o1 o2
    refine k _ _ out o2.perm (o1.imp fun {u v} h => ?_) (fun b o e => sortedAll_old e) (Nat.le_succ _) (sortedAll_at s.heap us out.toArray)
    have := of_decide_eq_false h
    omega
theorem nodup_at {α β : Type} {f : α → β} : ∀ {l : List α}, (l.map f).Nodup → ∀ x ∈ l, ∀ y ∈ l, f x = f y → x = y
  | [], _, _, hx, _, _, _ => (List.not_mem_nil hx).elim
  | a :: l, h, x, hx, y, hy, e => by
    rw [List.map_cons, List.nodup_cons] at h
    rcases List.mem_cons.mp hx with e1 | hx <;> rcases List.mem_cons.mp hy with e2 | hy
    · rw [e1, e2]
    · exact (h.1 (by rw [← e1, e]; exact List.mem_map_of_mem hy)).elim
    · exact (h.1 (by rw [← e2, ← e]; exact List.mem_map_of_mem hx)).elim
    · exact nodup_at h.2 x hx y hy e
theorem Reps.zip {K : PySem.W.Frag} {H : Hp} {m : MM} : ∀ {ds : List D} {vs : List V}, Reps K H m ds vs → ∃ ps : List (D × V), ds = ps.map (·.1) ∧ vs = ps.map (·.2) ∧ ∀ p ∈ ps, Rep K H m p.1 p.2
  | [], vs, h => ⟨[], rfl, by unfold Reps at h; exact h, fun _ q => (List.not_mem_nil q).elim⟩
  | d :: ds, vs, h => by
    unfold Reps at h
    obtain ⟨v, r, rfl, h1, h2⟩ := h
    obtain ⟨ps, rfl, rfl, h3⟩ := h2.zip
    exact ⟨(d, v) :: ps, rfl, rfl, fun p hp => (List.mem_cons.mp hp).elim (fun e => e ▸ h1) (h3 p)⟩
theorem Reps.unzip {K : PySem.W.Frag} {H : Hp} {m : MM} : ∀ {ps : List (D × V)}, (∀ p ∈ ps, Rep K H m p.1 p.2) → Reps K H m (ps.map (·.1)) (ps.map (·.2))
  | [], _ => by unfold Reps; rfl
  | p :: ps, h => by
    simp only [List.map_cons]
    unfold Reps
    exact ⟨_, _, rfl, h p List.mem_cons_self, Reps.unzip fun q hq => h q (List.mem_cons_of_mem _ hq)⟩
theorem fstI_some {d : D} {k : Int} (h : fstI d = some k) : ∃ y, d = .tup [.int k, y] := by
  unfold fstI at h
  split at h
  · cases h; exact ⟨_, rfl⟩
  · cases h
section
variable {P : Program} {w : World} {K : PySem.W.Frag} {mg : Str → Option Value} {base : Heap} {X : Cx} {W : WX} {sc : Scope} {N : List Str} {vis sts : List Nat} {G : List Str} {k : Nat} {pos apos p : Pos}
theorem cd_sortP : CallRd X (.builtin "sorted") gSortP := by
  intro pins s σ H vs us Q I rv ⟨ds, m, P, hx, hr, hg, hP⟩
  obtain ⟨d, rfl, hk⟩ := on1_ok hg
  obtain ⟨v, rfl, r⟩ := hx.one
  cases e : lstOf m d with
  | none => rw [e] at hk; exact hk.elim
  | some xs =>
    rw [e] at hk
    obtain ⟨k1, k2, k3⟩ := hk
    obtain ⟨a, vs, rfl, g2, g3⟩ := lstOf_rep e hr r
    obtain ⟨u, rfl, ru⟩ := vals1 rv
    obtain rfl : u = Value.ref a := ru
    obtain ⟨its, rvs, hl, hz⟩ := I.list g2
    obtain ⟨ps, rfl, rfl, hps⟩ := g3.zip
    have tp : ∀ p ∈ ps, ∃ t j y, p.2 = V.ref t ∧ fstI p.1 = some j ∧ SqT X.K H t [.int j, y] := by
      intro p hp
      obtain ⟨j, hj⟩ := k1 p.1 (List.mem_map_of_mem hp)
      obtain ⟨y, ey⟩ := fstI_some hj
      have rp := hps p hp
      rw [ey] at rp
      obtain ⟨t, vs, h1, h2, h3⟩ := rp.tup_eq
      unfold Reps at h3
      obtain ⟨v1, r1, rfl, h4, h5⟩ := h3
      unfold Reps at h5
      obtain ⟨v2, r2, rfl, h6, h7⟩ := h5
      unfold Reps at h7
      subst h7
      rw [h4.int_eq] at h2
      exact ⟨t, j, v2, h1, hj, h2⟩
    have inj : ∀ p ∈ ps, ∀ q ∈ ps, fstI p.1 = fstI q.1 → p = q := by
      have k2' : (ps.map fun p => fstI p.1).Nodup := by rw [List.map_map] at k2; exact k2
      exact nodup_at k2'
    have inj2 : ∀ p ∈ ps, ∀ q ∈ ps, p.2 = q.2 → p = q := by
      intro p hp q hq h
      obtain ⟨t, j, y, e1, e2, e3⟩ := tp p hp
      obtain ⟨t', j', y', e1', e2', e3'⟩ := tp q hq
      rw [e1, e1'] at h
      cases h
      have := I.tuple_inj e3 e3'
      cases this
      exact inj p hp q hq (e2.trans e2'.symm)
    have cho : ∃ g : V → D × V, ∀ p ∈ ps, g p.2 = p := by
      refine ⟨fun v => if h : ∃ p ∈ ps, p.2 = v then Classical.choose h else (.non, .non), fun p hp => ?_⟩
      have hh : ∃ q ∈ ps, q.2 = p.2 := ⟨p, hp, rfl⟩
      obtain ⟨c1, c2⟩ := Classical.choose_spec hh
      refine (dif_pos hh).trans ?_
      exact inj2 _ c1 p hp c2
    obtain ⟨g, hgp⟩ := cho
    obtain ⟨e1, e2⟩ := refs_back rvs fun x hx => by
      obtain ⟨p, hp, rfl⟩ := List.mem_map.mp hx
      obtain ⟨t, j, y, q, _⟩ := tp p hp
      exact ⟨t, q⟩
    have at_ : ∀ u ∈ its, ∃ p ∈ ps, backV u = p.2 ∧ g (backV u) = p := by
      intro u hu
      have : backV u ∈ ps.map (·.2) := by rw [e1]; exact List.mem_map_of_mem hu
      obtain ⟨p, hp, q⟩ := List.mem_map.mp this
      exact ⟨p, hp, q.symm, by rw [← q]; exact hgp p hp⟩
    have eps : ps = its.map fun u => g (backV u) := by
      have : (ps.map (·.2)).map g = ps := by
        rw [List.map_map]
        exact (List.map_congr_left fun p hp => hgp p hp).trans (List.map_id _)
      rw [← this, e1, List.map_map]
      rfl
    refine kt_sorted (f := fun u => (fstI (g (backV u)).1).getD 0) hl.isList (by rw [← rvs.length]; exact hz) ?_ ?_ ?_
    · intro u hu
      obtain ⟨p, hp, q1, q2⟩ := at_ u hu
      obtain ⟨t, j, y, p1, p2, p3⟩ := tp p hp
      obtain ⟨a', eu⟩ := e2 u hu
      subst eu
      have : t = a' := by rw [p1] at q1; cases q1; rfl
      subst this
      obtain ⟨its2, r2, ⟨o, ho, hc, n, hd⟩, _⟩ := I.tuple p3
      obtain ⟨u1, u2, rfl, ri, rj⟩ := vals2 r2
      obtain ⟨t1, rfl⟩ := ri
      refine ⟨t, o, t1, u2, n, rfl, ho, hc, ?_⟩
      show o.data = _
      rw [q2, p2]
      exact hd
    · intro u hu v hv h
      obtain ⟨p, hp, q1, q2⟩ := at_ u hu
      obtain ⟨p', hp', q1', q2'⟩ := at_ v hv
      obtain ⟨a1, rfl⟩ := e2 u hu
      obtain ⟨a2, rfl⟩ := e2 v hv
      obtain ⟨t, j, y, p1, p2, p3⟩ := tp p hp
      obtain ⟨t', j', y', p1', p2', p3'⟩ := tp p' hp'
      simp only [q2, q2', p2, p2', Option.getD_some] at h
      have := inj p hp p' hp' (by rw [p2, p2', h])
      subst this
      rw [← q1'] at q1
      cases q1
      rfl
    · intro h' b out o1 o2 o3 o4 o5
      have e3 : ∀ u ∈ out, ∃ a, u = Value.ref a := fun u hu => e2 u (o1.mem_iff.mp hu)
      have pm : (out.map fun u => g (backV u)).Perm ps := by rw [eps]; exact o1.map _
      have ev : (out.map fun u => g (backV u)).map (·.2) = out.map backV := by
        rw [List.map_map]
        refine List.map_congr_left fun u hu => ?_
        obtain ⟨p, hp, q1, q2⟩ := at_ u (o1.mem_iff.mp hu)
        show (g (backV u)).2 = backV u
        rw [q2, q1]
      obtain ⟨n, hn⟩ := o5
      have hb : H b = none := I.hok.fresh o4
      refine ⟨.ref b, upd H b (.lst (out.map backV)), I.laid (t' := s.toks) o3 o4 ⟨?_, out, n, vals_back e3, hn⟩, rfl, hP (.lst ((out.map fun u => g (backV u)).map (·.1))) m _ _ (k3 _ (pm.map _) ?_) (Ext.laid b _ hb) (hr.laid b _ hb) (new_lst hr ?_ hb)⟩
      · rw [List.length_map, o1.length_eq, ← rvs.length]; exact hz
      · rw [List.map_map, List.pairwise_map]
        refine o2.imp_of_mem ?_
        intro u v hu hv h i j hi hj
        simp only [Function.comp] at hi hj
        rw [hi, hj] at h
        exact h
      · rw [← ev]
        exact Reps.unzip fun p hp => hps p (pm.mem_iff.mp hp)
end
end Y
/-! Y17: the keys of a dict that a comprehension makes: flat tuples, tracked or of the module. -/
namespace Y
open PySem PySem.Spec PyProof.Rows L2
abbrev KX := List (List Key × Addr × Value)
/-- the dict at D: these keys, at these addresses -/
def KD (P : Program) (w : World) (D : Addr) (xs : KX) (h : Heap) : Prop :=
  (D == sysModules) = false ∧ ∃ o es ep, h.get? D = some o ∧ o.ExactDict ∧ o.data = .dict es ep ∧ es.toList = xs.map (entryOfKey (tupleKind (mixKind P w))) ∧ (xs.map (·.1)).Nodup
abbrev hoK (X : Cx) (D : Addr) (xs : KX) : HO := .ext (KD X.prog X.w D xs)
theorem KD.ok {P : Program} {w : World} {D : Addr} {xs : KX} {h : Heap} {H : Hp} (k : KD P w D xs h) : ObjOk P w H h D (.ext (KD P w D xs)) := by
  refine ⟨k, ?_, ?_⟩
  · obtain ⟨_, o, _, _, e, _⟩ := k
    exact ⟨o, e⟩
  · rintro h1 h2 ⟨a, o, es, ep, e, r⟩ st
    exact ⟨a, o, es, ep, st o e, r⟩
theorem KD.start {P : Program} {w : World} (h : Heap) (hb : sysModules < h.objs.size) : KD P w h.objs.size [] (h.push { cls := .type "dict", data := .dict #[] }) := by
  refine ⟨beq_false_of_ne (Nat.ne_of_gt hb), _, #[], 0, Heap.get?_push_size _ rfl, ⟨rfl, rfl, rfl⟩, rfl, rfl, .nil⟩
section
variable {X : Cx} {pins : List (Addr × Obj)} {σ : L2.St} {H : Hp} {s : Shared} {D a : Addr} {xs : KX} {k : List Key}
theorem kt_is (I : Inv X pins σ H s) (h : SqT X.K H a (k.map kV)) : (tupleKind (mixKind X.prog X.w)).is s.heap k a := by
  obtain ⟨its, r, ⟨o, h1, h2, n, h3⟩, _⟩ := I.tuple h
  refine ⟨o, its.toArray, n, h1, h2, h3, ?_⟩
  simpa using items_are r
def TupsAt (K : PySem.W.Frag) (H : Hp) (xs : KX) : Prop := ∀ x ∈ xs, SqT K H x.2.1 (x.1.map kV)
theorem kd_set {E : Value → Shared → Prop} {r : Value} {Q : Unit → Shared → Prop} (I : Inv X pins σ H s) (hu : X.A.units < cLine) (hD : H D = some (hoK X D xs)) (hx : TupsAt X.K H xs) (ha : SqT X.K H a (k.map kV)) (hz : xs.length < sizeLine)
    (q : ∀ s', Inv X pins σ (upd H D (hoK X D (storedH xs k a r))) s' → Q () s') : wpAny (model X.prog X.w) X.A (dictSet D (.ref a) r) Q E s := by
  obtain ⟨⟨hs, o, es, ep, h1, h2, h3, h4, h5⟩, _⟩ := (show ObjOk X.prog X.w H s.heap D (hoK X D xs) from I.hok D _ hD)
  refine wpAny_dictSet_heap (knd := tupleKind (mixKind X.prog X.w)) (hsz := Nat.le_of_lt hz) hu (kt_is I ha) ⟨o, es, ep, h1, h2, h3, h4, fun x m => kt_is I (hx x m), h5⟩ fun h' dd sb => q _ ?_
  obtain ⟨o', es', ep', g1, g2, g3, g4, _, g5⟩ := dd
  exact d_write I (by rw [hD]; exact True.intro) sb ⟨o', g1⟩ (KD.ok ⟨hs, o', es', ep', g1, g2, g3, g4, g5⟩)
end
section
variable {X : Cx}
def rKeysL (X : Cx) : List V → Hp → VK → Prop := fun vs H Q => ∃ D xs, vs = [V.ref D] ∧ H D = some (hoK X D xs) ∧ xs.length ≤ sizeLine ∧ ∀ p, H p = none → Q (.ref p) (upd H p (.lst (xs.map fun x => V.ref x.2.1)))
theorem call_keysL (hc : X.calm = true) : CallR X (.type "list") (rKeysL X) := by
  rintro pins s σ H vs us Q I rv ⟨D, xs, rfl, hD, hz, q⟩
  obtain ⟨u, rfl, ru⟩ := vals1 rv
  obtain rfl : u = Value.ref D := ru
  obtain ⟨⟨hs, o, es, ep, h1, h2, h3, h4, _⟩, _⟩ := (show ObjOk X.prog X.w H s.heap D (hoK X D xs) from I.hok D _ hD)
  have hn : es.size = xs.length := size_of_entries h4
  refine PySem.W.kdl_call (kdl_raw hs h2 h3) (I.ok.hd hc) h1 (by omega) fun h' tk acc c kp hp hit => ?_
  have eacc : acc.toList = (xs.map fun x => x.2.1).map Value.ref := by
    refine List.ext_getElem (by rw [Array.length_toList, List.length_map, List.length_map, hit.1, hn]) fun j j1 j2 => ?_
    rw [Array.length_toList] at j1
    obtain ⟨en, e1, e2⟩ := hit.2 j acc[j] (Array.getElem?_eq_getElem j1)
    rw [List.getElem_map, List.getElem_map, Array.getElem_toList, e2]
    rw [entry_at h4 j] at e1
    have jx : j < xs.length := by rw [List.length_map, List.length_map] at j2; exact j2
    rw [List.getElem?_eq_getElem jx] at e1
    cases e1
    rfl
  have rl : Vals ((xs.map fun x => x.2.1).map V.ref) acc.toList := by rw [eacc]; exact vals_refs _
  have el : (xs.map fun x => V.ref x.2.1) = (xs.map fun x => x.2.1).map V.ref := by rw [List.map_map]; rfl
  refine ⟨.ref s.heap.objs.size, upd H s.heap.objs.size (.lst (xs.map fun x => V.ref x.2.1)), I.laid (t' := tk) kp (Nat.le_refl _) ⟨by rw [List.length_map]; exact hz, acc.toList, c, by rw [el]; exact rl, ?_⟩, rfl, q _ (I.hok.fresh (Nat.le_refl _))⟩
  rw [Array.toArray_toList]
  exact hp
/-- {k: True for .. in ..}: D the dict -/
def tKDc (X : Cx) (wi : TI) (g : TG) (tk : TE) (vs : List Nat) : TE := fun σ H Q => wi σ H fun J H1 => ∀ D, H1 D = none → ∃ N : Nat → Nat → Hp → Prop, (∃ m, N 0 m (upd H1 D (hoK X D []))) ∧ ∀ i m H2, N i m H2 →
  (J.stop i H2 ∧ Q (.ref D) H2) ∨ (J.go i H2 ∧ ∀ x H3, J.yld i H2 x H3 → g x (wipe σ vs) H3 fun τ H4 => wipe τ vs = wipe σ vs ∧ tk τ H4 fun y H5 => ∃ xs k a, y = .ref a ∧ SqT X.K H5 a (k.map kV) ∧ H5 D = some (hoK X D xs) ∧ TupsAt X.K H5 xs ∧ xs.length < sizeLine ∧
    ∃ m', m' < m ∧ N (i + 1) m' (upd H5 D (hoK X D (storedH xs k a (.bool true)))))
theorem pe_kdc {kx vx tg iter : Expr} {scope : Scope} {own : List (Str × Nat)} {pos : Pos} {wi : TI} {g : TG} {tk : TE} (hc : X.calm = true) (hu : X.A.units < cLine) (hN : X.N.Nodup) (hi : PI X tg iter wi) (ok : BlkOk X.N X.env.scope scope own)
    (hg : ∀ (s : Shared) (H : Hp) (C : Addr) (cl : List (Str × Addr)) (fp : List Addr), PG (X.blk s H scope (compEnvC scope cl C X.env) fp) tg g)
    (hk : ∀ (s : Shared) (H : Hp) (C : Addr) (cl : List (Str × Addr)) (fp : List Addr), PE (X.blk s H scope (compEnvC scope cl C X.env) fp) kx tk)
    (hv : ∀ (s : Shared) (H : Hp) (C : Addr) (cl : List (Str × Addr)) (fp : List Addr), PE (X.blk s H scope (compEnvC scope cl C X.env) fp) vx (tC (.bl true)))
    (hf : ∀ x, foldedSetIterable iter X.env x = pure x) : PE X (.DictComp kx vx [⟨tg, iter, [], 0⟩] scope pos) (tKDc X wi g tk (own.map (·.2))) := by
  constructor
  intro pins s σ H Q I hyp
  rw [arm_eval_DictComp]
  have cells : ∀ y ∈ scope.names, y.2 = .free → ∃ c, X.env.cells.lookup y.1 = some c := fun y hy e => (ok.free y hy e).elim (fun q => I.ok.has _ (.inl q)) fun q => I.ok.has _ (.inr q)
  refine wpAny_comprehension_free rfl hf (closure_ok cells) ok.kind (fun y hy e => (ok.uniq y hy).trans (congrArg some e)) (thn (hi.run pins s σ H _ I hyp) fun itv s1 q1 => thn q1 fun iv s2 q2 => ?_)
  obtain ⟨it, fp, tn, J, H2, rfl, I2, T, st2, f2, q⟩ := q2
  refine wpAny_newObj_type (newEnv_comp ?_)
  have nD : H2 s2.heap.objs.size = none := I2.hok.fresh (Nat.le_refl _)
  obtain ⟨N, ⟨m0, n0⟩, turn⟩ := q _ nD
  -- the dict laid
  have IL : Inv X pins σ (upd H2 s2.heap.objs.size (hoK X s2.heap.objs.size [])) { s2 with heap := s2.heap.push { cls := .type "dict", data := .dict #[] } } :=
    I2.laid (t' := s2.toks) (fun _ _ e => Heap.get?_push_of_some _ e) (Nat.le_refl _) (KD.ok (KD.start s2.heap I2.big))
  have below : ∀ b ∈ fp, b < s2.heap.objs.size := fun b hb => let ⟨_, e, _⟩ := T.obj _ _ st2 b hb; Heap.lt_size e
  have stL : tn 0 (s2.heap.push { cls := .type "dict", data := .dict #[] }) := T.keep _ _ _ st2 fun _ _ _ e => Heap.get?_push_of_some _ e
  have fL : ∀ b ∈ fp, FpOk X pins (upd H2 s2.heap.objs.size (hoK X s2.heap.objs.size [])) b ∧ b < (s2.heap.push { cls := .type "dict", data := .dict #[] }).objs.size := fun b hb => by
    have lt := below b hb
    refine ⟨⟨?_, (f2 b hb).2⟩, by rw [Heap.size_push]; exact Nat.lt_succ_of_lt lt⟩
    rw [upd_ne (Nat.ne_of_lt lt)]
    exact (f2 b hb).1
  generalize eD : s2.heap.objs.size = D at *
  generalize eS : ({ s2 with heap := s2.heap.push { cls := .type "dict", data := .dict #[] } } : Shared) = sL at *
  have hL : s2.heap.push { cls := .type "dict", data := .dict #[] } = sL.heap := by rw [← eS]
  rw [hL] at stL fL
  generalize eH : upd H2 D (hoK X D []) = HL at *
  -- the block runs
  have IB := block_start IL ok hN fL
  have pg := hg sL HL sL.heap.objs.size (cellsFrom (sL.heap.objs.size + 1) scope.names (cloFrom X.env.cells scope.names [])) fp
  have pk := hk sL HL sL.heap.objs.size (cellsFrom (sL.heap.objs.size + 1) scope.names (cloFrom X.env.cells scope.names [])) fp
  have pv := hv sL HL sL.heap.objs.size (cellsFrom (sL.heap.objs.size + 1) scope.names (cloFrom X.env.cells scope.names [])) fp
  show codeAny _ _ (.compStart (.DictComp kx vx [⟨tg, iter, [], 0⟩] scope pos) 0 (.ref it) (.ref D) (compEnvC scope (cellsFrom (sL.heap.objs.size + 1) scope.names (cloFrom X.env.cells scope.names [])) sL.heap.objs.size X.env)) (compPost (model X.prog X.w) X.A X.xe _ _ (.ref D) sL.heap.objs.size) { sL with heap := pushCells (sL.heap.push { cls := .type "dict", data := .dict #[] }) scope.names }
  have envL : (compEnvC scope (cellsFrom (sL.heap.objs.size + 1) scope.names (cloFrom X.env.cells scope.names [])) sL.heap.objs.size X.env).locals = sL.heap.objs.size := rfl
  generalize compEnvC scope (cellsFrom (sL.heap.objs.size + 1) scope.names (cloFrom X.env.cells scope.names [])) sL.heap.objs.size X.env = ce at IB pg pk pv envL ⊢
  have stB : tn 0 (pushCells (sL.heap.push { cls := .type "dict", data := .dict #[] }) scope.names) := T.keep _ _ _ stL fun _ _ _ e => pushCells_keeps _ _ _ _ (Heap.get?_push_of_some _ e)
  generalize eB : ({ sL with heap := pushCells (sL.heap.push { cls := .type "dict", data := .dict #[] }) scope.names } : Shared) = sB at IB ⊢
  have stB' : tn 0 sB.heap := by rw [← eB]; exact stB
  have free : ∀ {τ : L2.St} {H' : Hp} {s' : Shared}, Inv (X.blk sL HL scope ce fp) [] τ H' s' → (∀ b ∈ fp, H' b = none) → ∀ b ∈ fp, FpOk (X.blk sL HL scope ce fp) [] H' b := fun J' n b hb =>
    ⟨n b hb, (J'.ok.exf b hb).1, J'.ok.exfs b hb, .inl hb, (J'.ok.exf b hb).2, fun p hp => (List.not_mem_nil hp).elim⟩
  have run : codeAny (model X.prog X.w) X.A (.compLoop (.DictComp kx vx [⟨tg, iter, [], 0⟩] scope pos) 0 (.ref it) (.ref D) ce) (compPost (model X.prog X.w) X.A X.xe none (EP X pins σ Q) (.ref D) sL.heap.objs.size) sB := by
    refine compLoop_anyD (fun n s' => ∃ i H', Inv (X.blk sL HL scope ce fp) [] (wipe σ (own.map (·.2))) H' s' ∧ tn i s'.heap ∧ (∀ b ∈ fp, H' b = none) ∧ N i n H') ?_ m0 ⟨0, HL, IB, stB', fun b hb => (fL b hb).1.1, n0⟩
    rintro n s5 ⟨i, H5, I5, st5, fr5, n5⟩
    rcases turn i n H5 n5 with ⟨stop, post⟩ | ⟨go, step⟩
    · refine thnF (T.done (X.blk sL HL scope ce fp) rfl rfl rfl hc i [] s5 _ H5 (fun _ _ => False) I5 (free I5 fr5) st5 stop) fun r s6 ⟨er, I6⟩ => ?_
      subst er
      have I7 : Inv X pins σ H5 s6 := IL.call' (ch := fp) I6.os I6.base I6.hok I6.bare fun b hb => let f := (fL b hb).1; ⟨f.2.2.2.1, f.2.1, f.2.2.2.2.1, f.2.2.2.2.2⟩
      have nC : H5 sL.heap.objs.size = none := by
        have z : H5 ce.locals = none := I6.free
        rwa [envL] at z
      obtain ⟨m, hm, _⟩ := I6.loc
      have hm : s6.heap.Ns ce.locals m := hm
      rw [envL] at hm
      obtain ⟨c0, c1, c2, c3, c4, c5⟩ := IL.fpOk (Nat.le_refl _) nC
      exact ⟨m, hm, fun h' sb => ⟨.ref D, H5, I7.turned (t' := s6.toks) (fun b o hb e => (sb.2 b hb).trans e) c0 c1 c3 c4 c5, rfl, post⟩⟩
    · refine thnF (T.item (X.blk sL HL scope ce fp) rfl rfl rfl hc i [] s5 _ H5 (fun _ _ => False) I5 (free I5 fr5) st5 go) fun r s6 ⟨u, er, t6⟩ => ?_
      subst er
      refine thnF t6 fun _ s7 ⟨x, H7, I7, rx, y7, st7, fr7⟩ => ?_
      refine thnF (pg.run _ s7 _ H7 x u _ (I7.pinned (free I7 fr7) (T.obj _ _ st7)) rx (step x H7 y7)) fun _ s8 ⟨σ8, H8, I8, hw, q8⟩ => ?_
      refine wpAny_tests_nil ?_
      rw [if_pos rfl]
      refine thnF (pk.run _ s8 σ8 H8 _ I8 q8) fun z s9 ⟨yk, H9, I9, rk, xs, k, a, ek, ha, hD, hx, hz, m', hm, nn⟩ => ?_
      subst ek
      obtain rfl : z = Value.ref a := rk
      refine thnF (pv.run _ s9 σ8 H9 (fun v H' => v = .bl true ∧ H' = H9) I9 ⟨rfl, rfl⟩) fun z2 s10 ⟨yv, H10, I10, r10, e1, e2⟩ => ?_
      subst e1 e2
      obtain rfl : z2 = Value.bool true := r10
      refine kd_set (X := X.blk sL HL scope ce fp) I10 hu hD hx ha hz fun s11 I11 => ?_
      have pinned : ∀ b ∈ fp, ∀ o, s7.heap.get? b = some o → s11.heap.get? b = some o ∧ (upd H10 D (hoK X D (storedH xs k a (.bool true)))) b = none := fun b hb o e =>
        have z := I11.pin (b, o) (List.mem_append_right _ (List.mem_append_right _ (mem_pinsAt hb e)))
        ⟨z.1, z.2.1⟩
      refine ⟨m', hm, i + 1, _, (I11.unpinned (pins := [])).weak (by rw [← hw, wipe_length]) (fun j v e => ?_), T.keep _ _ _ st7 fun b hb o e => (pinned b hb o e).1, fun b hb => ?_, nn⟩
      · rw [← hw] at e
        exact (wipe_some e).1
      · obtain ⟨o, e, _⟩ := T.obj _ _ st7 b hb
        exact (pinned b hb o e).2
  exact codeAny_compStart_dict run (T.self X.A 0 _ _ _ stB' run)
/-! over data -/
theorem keysDs_rep {K : PySem.W.Frag} {H : Hp} {m : MM} : ∀ {ds : List D} {k : List Key} {vs : List V}, keysDs ds = some k → Reps K H m ds vs → vs = k.map kV
  | [], k, vs, h, r => by
    unfold keysDs at h
    unfold Reps at r
    cases h
    exact r
  | d :: ds, k, vs, h, r => by
    unfold keysDs at h
    unfold Reps at r
    obtain ⟨v, us, rfl, h1, h2⟩ := r
    split at h
    · rename_i k1 ks e1 e2
      cases h
      rw [keyD_rep e1 h1, keysDs_rep e2 h2, List.map_cons]
    · cases h
theorem flat_rep {K : PySem.W.Frag} {H : Hp} {m : MM} {d : D} {k : List Key} {v : V} (h : keysD d = some k) (r : Rep K H m d v) : ∃ a, v = .ref a ∧ SqT K H a (k.map kV) := by
  unfold keysD at h
  split at h
  · obtain ⟨a, vs, e, h1, h2⟩ := r.tup_eq
    rw [keysDs_rep h h2] at h1
    exact ⟨a, e, h1⟩
  · cases h
theorem tups_rep {K : PySem.W.Frag} {H : Hp} {m : MM} : ∀ {os : List D} {xs : KX}, Reps K H m os (xs.map fun x => V.ref x.2.1) → os.map keysD = xs.map (fun x => some x.1) → TupsAt K H xs
  | _, [], _, _ => fun _ h => (List.not_mem_nil h).elim
  | [], _ :: _, _, h => by cases h
  | d :: os, x :: xs, r, h => by
    rw [List.map_cons] at r
    unfold Reps at r
    obtain ⟨v, us, e, h1, h2⟩ := r
    cases e
    rw [List.map_cons, List.map_cons] at h
    have h3 := (List.cons.inj h).1
    have h4 := tups_rep h2 (List.cons.inj h).2
    obtain ⟨a, e, h5⟩ := flat_rep h3 h1
    cases e
    intro y hy
    rcases List.mem_cons.mp hy with rfl | hy
    · exact h5
    · exact h4 y hy
theorem at_none {xs : KX} {k : List Key} (h : k ∉ xs.map (·.1)) : atKey xs k = none := by
  refine atKey_none_of_get fun j p e => h ?_
  exact List.mem_map.mpr ⟨_, List.mem_of_getElem? e, rfl⟩
theorem at_some {xs : KX} {k : List Key} (h : k ∈ xs.map (·.1)) : ∃ p, atKey xs k = some p := by
  obtain ⟨x, hx, e⟩ := List.mem_map.mp h
  unfold atKey
  cases q : xs.find? fun x => decide (x.1 = k) with
  | some y => exact ⟨_, rfl⟩
  | none => exact absurd (decide_eq_true e) (List.find?_eq_none.mp q x hx)
theorem put_same {xs : KX} {k : List Key} (h : ∀ x ∈ xs, x.2.2 = .bool true) : xs.map (putAt k (.bool true)) = xs := by
  refine (List.map_congr_left fun x hx => ?_).trans (List.map_id _)
  unfold putAt
  have e := h x hx
  split
  · show (x.1, x.2.1, Value.bool true) = x
    rw [← e]
  · rfl
theorem wipe_idem (σ : L2.St) (vs : List Nat) : wipe (wipe σ vs) vs = wipe σ vs := by
  have key : ∀ (l us : List Nat) (τ : L2.St), (∀ i ∈ l, i ∈ us) → wipe (wipe τ l) us = wipe τ us := by
    intro l
    induction l with
    | nil => exact fun us τ _ => rfl
    | cons v l ih =>
      intro us τ h
      have : wipe τ (v :: l) = (wipe τ l).set v none := rfl
      rw [this, wipe_same (h v List.mem_cons_self)]
      exact ih us τ fun i hi => h i (List.mem_cons_of_mem _ hi)
  exact key vs vs σ fun _ h => h
theorem raw_ok {K : PySem.W.Frag} {H : Hp} {m : MM} {D : Addr} {xs : KX} (h : H D = some (hoK X D xs)) : RepO K H m D (.raw (hoK X D xs)) := by
  unfold RepO
  exact ⟨h, (fun _ e => nomatch e), (fun _ _ e => nomatch e), (fun _ e => nomatch e)⟩
theorem lift_lset {W : WX} {ti : DI} {vs : List Nat} {j : Nat} (hj : j ∈ vs) {σ : L2.St} {H : Hp} {Q : VK} (hl : j < σ.length) (h : liftE X.K W (dLSet ti) σ H Q) :
    tCB (rKeysL X) (tCons (tKDc X (liftI X.K W ti) (Tg.g X.K (.nm j)) (liftE X.K W0 (dVar j)) vs) tNil) σ H Q := by
  obtain ⟨ρ, m, P, Px, hv, hr, ht, hP, hX⟩ := h
  refine ⟨ρ, m, _, Px, hv, hr, ht, fun items side m1 J H1 q e1 r1 y => ?_, hX⟩
  obtain ⟨hsd, hlen, hkey, hq⟩ := q
  intro D hD
  have mD : m1 D = none := r1.free hD
  refine ⟨fun i n H2 => n = items.length - i ∧ i ≤ items.length ∧ ∃ (xs : KX) (os : List Y.D) (seen : List (List Key)), Ext H1 m1 H2 (mset m1 D (.raw (hoK X D xs))) ∧ Rel X.K H2 (mset m1 D (.raw (hoK X D xs))) ∧ onceD items [] = os ++ onceD (items.drop i) seen ∧ (∀ k, k ∈ seen ↔ k ∈ xs.map (·.1)) ∧
    Reps X.K H2 (mset m1 D (.raw (hoK X D xs))) os (xs.map fun x => V.ref x.2.1) ∧ os.map keysD = xs.map (fun x => some x.1) ∧ (∀ x ∈ xs, x.2.2 = .bool true) ∧ xs.length ≤ i,
    ⟨_, rfl, Nat.zero_le _, [], [], [], Ext.made hD, r1.made hD (raw_ok upd_same), rfl, fun k => Iff.rfl, Reps.nil, rfl, fun _ h => (List.not_mem_nil h).elim, Nat.le_refl _⟩, ?_⟩
  rintro i n H2 ⟨rfl, hle, xs, os, seen, e2, r2, ho, hs, hR, hK, hT, hz⟩
  have atD : H2 D = some (hoK X D xs) := by
    have := r2 D _ mset_same
    unfold RepO at this
    exact this.1
  have sd := hsd D (.raw (hoK X D xs)) mD
  cases hd : items[i]? with
  | none =>
    have hge : items.length ≤ i := List.getElem?_eq_none_iff.mp hd
    have hi : i = items.length := Nat.le_antisymm hle hge
    rw [List.drop_eq_nil_of_le hge, show onceD [] seen = [] from rfl, List.append_nil] at ho
    refine .inl ⟨hi ▸ y.stop H2 _ e2 r2 sd, D, xs, rfl, atD, ?_, fun p hp => ?_⟩
    · exact Nat.le_trans hz (Nat.le_trans hle (by rw [PySem.sizeLine_eq]; omega))
    · have back : mdel (mset m1 D (.raw (hoK X D xs))) D = m1 := mdel_mset mD
      have r3 : Rel X.K H2 m1 := by rw [← back]; exact r2.less (Less.del _ _)
      have e3 : Ext H2 (mset m1 D (.raw (hoK X D xs))) H2 m1 := by
        have := Ext.less (H := H2) (Less.del (mset m1 D (.raw (hoK X D xs))) D)
        rw [back] at this
        exact this
      have R3 := Reps.ext r2 e3 _ _ hR
      refine hP (.lst (onceD items [])) m1 _ _ hq (((e1.trans e2).trans e3).trans (Ext.laid p _ hp)) (r3.laid p _ hp) ?_
      rw [ho]
      exact new_lst r3 R3 hp
  | some d =>
    obtain ⟨hlt, hd'⟩ := List.getElem?_eq_some_iff.mp hd
    refine .inr ⟨y.go i d H2 _ e2 r2 sd hd, fun x H3 hy => ?_⟩
    obtain ⟨e3, r3, x3⟩ := y.yld i d H2 _ x H3 e2 r2 sd hd hy
    obtain ⟨k, hk⟩ := hkey d (List.mem_of_getElem? hd)
    refine ⟨by rw [wipe_same hj, wipe_idem], (wipeD ρ vs).set j (some d), _, fun d' m' => d' = d ∧ m' = mset m1 D (.raw (hoK X D xs)), xF, (((hv.ext hr e1).ext r1 e2).ext r2 e3 |>.wipe vs).set j x3, r3, ?_, ?_, aft0⟩
    · have : j < (wipeD ρ vs).length := by rw [wipeD_len, hv.1]; exact hl
      unfold dVar
      rw [List.getElem?_set_self this]
      exact ⟨rfl, rfl⟩
    · rintro d' m' v H5 ⟨rfl, rfl⟩ e5 r5 x5
      obtain ⟨a, rfl, ha⟩ := flat_rep hk x5
      have R5 := Reps.ext r3 e5 _ _ (Reps.ext r2 e3 _ _ hR)
      have aD : H5 D = some (hoK X D xs) := by
        have := r5 D _ mset_same
        unfold RepO at this
        exact this.1
      have lz : xs.length < sizeLine := by rw [PySem.sizeLine_eq]; omega
      refine ⟨xs, k, a, rfl, ha, aD, tups_rep R5 hK, lz, _, (by omega : items.length - (i + 1) < items.length - i), rfl, hlt, ?_⟩
      have eN : Ext H5 (mset m1 D (.raw (hoK X D xs))) (upd H5 D (hoK X D (storedH xs k a (.bool true)))) (mset m1 D (.raw (hoK X D (storedH xs k a (.bool true))))) := by
        have := Ext.write (H := H5) (m := mset m1 D (.raw (hoK X D xs))) (o' := .raw (hoK X D (storedH xs k a (.bool true)))) (u := hoK X D (storedH xs k a (.bool true))) mset_same
        rw [mset_mset] at this
        exact this
      have rN : Rel X.K (upd H5 D (hoK X D (storedH xs k a (.bool true)))) (mset m1 D (.raw (hoK X D (storedH xs k a (.bool true))))) := by
        have := Rel.write r5 (a := D) (o' := .raw (hoK X D (storedH xs k a (.bool true)))) (u := hoK X D (storedH xs k a (.bool true))) mset_same (raw_ok upd_same)
        rw [mset_mset] at this
        exact this
      have RN := Reps.ext r5 eN _ _ R5
      have xN := Rep.ext r5 eN _ _ x5
      have eA := ((e2.trans e3).trans e5).trans eN
      rw [List.drop_eq_getElem_cons hlt, hd', onceD, hk] at ho
      simp only at ho
      by_cases hm : k ∈ xs.map (·.1)
      · obtain ⟨p, hp⟩ := at_some hm
        have es : storedH xs k a (.bool true) = xs := by rw [storedH_old hp, put_same hT]
        rw [es] at RN eA rN ⊢
        have seenk : (seen.any fun s => decide (s = k)) = true := List.any_eq_true.mpr ⟨k, (hs k).mpr hm, decide_eq_true rfl⟩
        rw [seenk, if_pos rfl] at ho
        exact ⟨xs, os, seen, eA, rN, ho, hs, RN, hK, hT, Nat.le_succ_of_le hz⟩
      · have es : storedH xs k a (.bool true) = xs ++ [(k, a, .bool true)] := storedH_new (at_none hm) _ _
        rw [es] at RN eA rN xN ⊢
        have seenk : (seen.any fun s => decide (s = k)) = false := by
          rw [List.any_eq_false]
          intro s hs' e
          exact hm ((hs k).mp (of_decide_eq_true e ▸ hs'))
        rw [seenk, if_neg Bool.false_ne_true] at ho
        refine ⟨xs ++ [(k, a, .bool true)], os ++ [d'], k :: seen, eA, rN, by rw [ho, List.append_assoc]; rfl, fun q => ?_, ?_, ?_, ?_, ?_⟩
        · rw [List.mem_cons, hs q, List.map_append, List.mem_append, List.map_cons, List.map_nil, List.mem_singleton]
          exact or_comm
        · rw [List.map_append]
          exact Reps.append _ _ _ _ RN (.cons xN .nil)
        · rw [List.map_append, List.map_append, hK, List.map_cons, List.map_nil, hk]
          rfl
        · intro x hx
          rcases List.mem_append.mp hx with hx | hx
          · exact hT x hx
          · rw [List.mem_singleton.mp hx]
        · rw [List.length_append, List.length_cons, List.length_nil]
          omega
end
section
variable {P : Program} {w : World} {K : PySem.W.Frag} {mg : Str → Option Value} {base : Heap} {X : Cx} {W : WX} {sc : Scope} {N : List Str} {vis sts : List Nat} {G : List Str} {k : Nat} {pos apos p : Pos}
/-- list({y: True for y in ..}) -/
theorem b_lset (B : Bd P w K mg base X W sc N vis sts G k) (own : List (Str × Nat)) (vis' sts' : List Nat) (G' : List Str) {g : Nat} {y : Str} {py pt pc : Pos} {j : Nat} {iter : Expr} {scope : Scope} {ti : DI} (hi : PId X W (.Name y pt) iter ti) (hm : mg "list" = none)
    (hg : ∀ X', Bd P w K mg base X' W0 (relS scope sc) N vis' sts' G' k → PG X' (.Name y pt) (Tg.g X'.K (.nm j))) (he : ∀ X', Bd P w K mg base X' W0 (relS scope sc) N vis' sts' G' k → PEd X' W0 (.Name y py) (dVar j))
    (hgl : G[g]? = some ("list" : Str) := by rfl) (hown : blkC N sc scope own = true := by rfl) (hblk : blkB scope sc N vis' sts' G' = true := by rfl) (hs : ((own.map (·.2)).contains j) = true := by rfl) (hj : Nat.blt j N.length = true := by rfl) (hf : ∀ x, foldedSetIterable iter X.env x = pure x := by intro _; rfl) :
    PEd X W (.Call (.Name "list" p) [.DictComp (.Name y py) (.Constant (.bool true) 0 pc) [⟨.Name y pt, iter, [], 0⟩] scope pos] [] apos) (dLSet ti) := by
  constructor
  intro pins s σ H Q I h
  have hl : j < σ.length := by
    rw [I.len, B.hN]
    exact Nat.le_of_ble_eq_true hj
  obtain ⟨g1, g2⟩ := B.gl hgl
  have dc := pe_kdc (X := X) (pos := pos) (vx := .Constant (.bool true) 0 pc) (g := Tg.g X.K (.nm j)) (tk := liftE X.K W0 (dVar j)) B.calm (by have := B.hr.units; omega) (by rw [B.hN]; exact B.nd) hi (B.own hown) (fun s H C cl fp => hg _ (B.blk hblk s H C cl fp)) (fun s H C cl fp => he _ (B.blk hblk s H C cl fp)) (fun s H C cl fp => pe_bl) hf
  exact (pe_callTy (p := p) (pos := apos) (call_keysL B.calm) g1 (by rw [B.hmg]; exact hm) (by decide +kernel) (pa_cons dc pa_nil) (plainB_ok g2).2.2 (plainB_ok g2).1).run pins s σ H Q I (lift_lset (by simpa using hs) hl h)
end
end Y
set_option maxHeartbeats 4000000
/-! M1: fractions over data. -/
namespace Y
open PySem PySem.Spec PyProof.Rows L2
theorem at0 {α : Type} {a : α} {l : List α} : atI (a :: l) 0 = some a := by
  unfold atI ixN
  simp
theorem at1 {α : Type} {a b : α} {l : List α} : atI (a :: b :: l) 1 = some b := by
  unfold atI ixN
  have : (1 : Int) < ((a :: b :: l).length : Int) := by simp; omega
  simp only [show (0 : Int) ≤ 1 by decide, if_true, this]
  rfl
theorem at2 {α : Type} {a b c : α} {l : List α} : atI (a :: b :: c :: l) 2 = some c := by
  unfold atI ixN
  have : (2 : Int) < ((a :: b :: c :: l).length : Int) := by simp; omega
  simp only [show (0 : Int) ≤ 2 by decide, if_true, this]
  rfl
theorem atn1 {α : Type} {a : α} : atI [a] (-1) = some a := rfl
theorem at02 {α : Type} {l : List α} {n : Nat} : atI l (n : Int) = l[n]? := by
  unfold atI ixN
  by_cases h : n < l.length
  · have h2 : (n : Int) < (l.length : Int) := by omega
    simp only [show (0 : Int) ≤ (n : Int) by omega, if_true, h2]
    rfl
  · have h2 : ¬ (n : Int) < (l.length : Int) := by omega
    simp only [show (0 : Int) ≤ (n : Int) by omega, if_true, h2, if_false]
    simp only [Option.bind_none]
    rw [List.getElem?_eq_none (by omega)]
theorem ev_it0 {m : MM} {a : D} {l : List D} : itD m (.tup (a :: l)) (.int 0) = some a := at0
theorem ev_it1 {m : MM} {a b : D} {l : List D} : itD m (.tup (a :: b :: l)) (.int 1) = some b := at1
theorem ev_it2 {m : MM} {a b c : D} {l : List D} : itD m (.tup (a :: b :: c :: l)) (.int 2) = some c := at2
theorem ev_itn1 {m : MM} {a : D} : itD m (.tup [a]) (.int (-1)) = some a := rfl
theorem ev_itn {m : MM} {l : List D} {n : Nat} : itD m (.tup l) (.int (n : Int)) = l[n]? := at02
theorem ev_len_t {m : MM} {l : List D} : lenD m (.tup l) = some l.length := rfl
theorem ev_len_l {m : MM} {l : List D} : lenD m (.lst l) = some l.length := rfl
theorem ev_sq_t {m : MM} {l : List D} : sqOf m (.tup l) = some l := rfl
theorem ev_sq_l {m : MM} {l : List D} : sqOf m (.lst l) = some l := rfl
theorem ev_lst_l {m : MM} {l : List D} : lstOf m (.lst l) = some l := rfl
theorem ev_so_t {m : MM} {l : List D} : seqOf m (.tup l) = some l := rfl
theorem ev_so_l {m : MM} {l : List D} : seqOf m (.lst l) = some l := rfl
theorem ev_so_k {m : MM} {l : List D} : seqOf m (.kl l) = some l := rfl
theorem ev_si_t {m : MM} {l : List D} : sideOf m (.tup l) = fun _ => True := rfl
theorem ev_si_l {m : MM} {l : List D} : sideOf m (.lst l) = fun _ => True := rfl
theorem ev_si_k {m : MM} {l : List D} : sideOf m (.kl l) = fun _ => True := rfl
theorem ev_ty_i {m : MM} {i : Int} : tyD m (.int i) = some "int" := rfl
theorem ev_ty_b {m : MM} {i : Bool} : tyD m (.bl i) = some "bool" := rfl
theorem ev_ty_n {m : MM} : tyD m .non = some "NoneType" := rfl
theorem ev_ty_s {m : MM} {i : Str} : tyD m (.str i) = some "str" := rfl
theorem ev_ty_t {m : MM} {l : List D} : tyD m (.tup l) = some "tuple" := rfl
theorem ev_ty_l {m : MM} {l : List D} : tyD m (.lst l) = some "list" := rfl
theorem ev_eq_ii {i j : Int} : eqD (.int i) (.int j) = decide (i = j) := by
  unfold eqD
  by_cases h : i = j
  · subst h; simp
  · simp [h]
theorem ev_shp_i {n : Nat} {i : Int} : (shp n (.int i) = true) = True := by simp [shp]
theorem ev_shp_b {n : Nat} {i : Bool} : (shp n (.bl i) = true) = True := by simp [shp]
theorem ev_shp_n {n : Nat} : (shp n .non = true) = True := by simp [shp]
theorem ev_key_i {i : Int} : keyD (.int i) = some (.inl i) := rfl
theorem ev_key_s {i : Str} : keyD (.str i) = some (.inr i) := rfl
theorem kd_NoneType : ("NoneType" ∈ kinds) = True := by simp [kinds]
theorem kd_bool : ("bool" ∈ kinds) = True := by simp [kinds]
theorem kd_int : ("int" ∈ kinds) = True := by simp [kinds]
theorem kd_str : ("str" ∈ kinds) = True := by simp [kinds]
theorem kd_tuple : ("tuple" ∈ kinds) = True := by simp [kinds]
theorem kd_list : ("list" ∈ kinds) = True := by simp [kinds]
theorem kd_dict : ("dict" ∈ kinds) = True := by simp [kinds]
theorem ib_NoneType_NoneType : isB "NoneType" "NoneType" = true := rfl
theorem ib_NoneType_bool : isB "NoneType" "bool" = false := rfl
theorem ib_NoneType_int : isB "NoneType" "int" = false := rfl
theorem ib_NoneType_str : isB "NoneType" "str" = false := rfl
theorem ib_NoneType_tuple : isB "NoneType" "tuple" = false := rfl
theorem ib_NoneType_list : isB "NoneType" "list" = false := rfl
theorem ib_NoneType_dict : isB "NoneType" "dict" = false := rfl
theorem ib_bool_NoneType : isB "bool" "NoneType" = false := rfl
theorem ib_bool_bool : isB "bool" "bool" = true := rfl
theorem ib_bool_int : isB "bool" "int" = true := rfl
theorem ib_bool_str : isB "bool" "str" = false := rfl
theorem ib_bool_tuple : isB "bool" "tuple" = false := rfl
theorem ib_bool_list : isB "bool" "list" = false := rfl
theorem ib_bool_dict : isB "bool" "dict" = false := rfl
theorem ib_int_NoneType : isB "int" "NoneType" = false := rfl
theorem ib_int_bool : isB "int" "bool" = false := rfl
theorem ib_int_int : isB "int" "int" = true := rfl
theorem ib_int_str : isB "int" "str" = false := rfl
theorem ib_int_tuple : isB "int" "tuple" = false := rfl
theorem ib_int_list : isB "int" "list" = false := rfl
theorem ib_int_dict : isB "int" "dict" = false := rfl
theorem ib_str_NoneType : isB "str" "NoneType" = false := rfl
theorem ib_str_bool : isB "str" "bool" = false := rfl
theorem ib_str_int : isB "str" "int" = false := rfl
theorem ib_str_str : isB "str" "str" = true := rfl
theorem ib_str_tuple : isB "str" "tuple" = false := rfl
theorem ib_str_list : isB "str" "list" = false := rfl
theorem ib_str_dict : isB "str" "dict" = false := rfl
theorem ib_tuple_NoneType : isB "tuple" "NoneType" = false := rfl
theorem ib_tuple_bool : isB "tuple" "bool" = false := rfl
theorem ib_tuple_int : isB "tuple" "int" = false := rfl
theorem ib_tuple_str : isB "tuple" "str" = false := rfl
theorem ib_tuple_tuple : isB "tuple" "tuple" = true := rfl
theorem ib_tuple_list : isB "tuple" "list" = false := rfl
theorem ib_tuple_dict : isB "tuple" "dict" = false := rfl
theorem ib_list_NoneType : isB "list" "NoneType" = false := rfl
theorem ib_list_bool : isB "list" "bool" = false := rfl
theorem ib_list_int : isB "list" "int" = false := rfl
theorem ib_list_str : isB "list" "str" = false := rfl
theorem ib_list_tuple : isB "list" "tuple" = false := rfl
theorem ib_list_list : isB "list" "list" = true := rfl
theorem ib_list_dict : isB "list" "dict" = false := rfl
theorem ib_dict_NoneType : isB "dict" "NoneType" = false := rfl
theorem ib_dict_bool : isB "dict" "bool" = false := rfl
theorem ib_dict_int : isB "dict" "int" = false := rfl
theorem ib_dict_str : isB "dict" "str" = false := rfl
theorem ib_dict_tuple : isB "dict" "tuple" = false := rfl
theorem ib_dict_list : isB "dict" "list" = false := rfl
theorem ib_dict_dict : isB "dict" "dict" = true := rfl
theorem ite_nt_eq {α : Sort _} {c : Bool} {a b : α} : (if (!c) = true then a else b) = if c = true then b else a := by cases c <;> rfl
theorem ite_nf_eq {α : Sort _} {a b : α} : (if true = false then a else b) = b := if_neg (fun h => nomatch h)
theorem dec_not {p : Prop} [Decidable p] {α : Sort _} {a b : α} : (if (!decide p) = true then a else b) = if p then b else a := by
  by_cases h : p
  · rw [if_pos h, if_neg (by simpa using h)]
  · rw [if_neg h, if_pos (by simpa using h)]
theorem ite_true_eq {α : Sort _} {a b : α} : (if true = true then a else b) = a := if_pos rfl
theorem ite_false_eq {α : Sort _} {a b : α} : (if false = true then a else b) = b := if_neg Bool.false_ne_true
theorem dec_true {p : Prop} [Decidable p] {α : Sort _} {a b : α} : (if decide p = true then a else b) = if p then a else b := by
  by_cases h : p
  · rw [if_pos (decide_eq_true h), if_pos h]
  · rw [if_neg (by simpa using h), if_neg h]
theorem bxor_f {b : Bool} : xor false b = b := Bool.false_xor b
theorem bxor_t {b : Bool} : xor true b = !b := Bool.true_xor b
theorem tyD_mset {m : MM} {p : Addr} {o : MO} {d : D} {t : String} (hp : m p = none) (h : tyD m d = some t) : tyD (mset m p o) d = some t := by
  cases d with
  | adr a =>
    simp only [tyD] at h ⊢
    have ne : a ≠ p := fun e => by subst e; rw [hp] at h; cases h
    rw [mset_ne ne]; exact h
  | _ => unfold tyD at h ⊢; exact h
theorem lc_pure {tg : Tg} {te : DE} {ρ : Env} {p : Addr} {side : MM → Prop} {m : MM} {Q : D → MM → Prop} (f : D → D) (items : List D) (hp : m p = none) (hside : ∀ acc, side (mset m p (.lst acc)))
    (turn : ∀ d ∈ items, ∀ (acc : List D) (Q1 : D → MM → Prop), Q1 (f d) (mset m p (.lst acc)) → ∃ ρ1, Tg.d tg d ρ = some ρ1 ∧ te ρ1 (mset m p (.lst acc)) Q1 xF)
    (hz : items.length ≤ sizeLine) (hQ : Q (.lst (items.map f)) m) : lcRec tg dYes te ρ p side (fun acc m2 => finF p acc m2 Q) items [] (mset m p (.lst [])) := by
  refine lc_map f items hside turn hz ?_
  unfold finF
  rw [mdel_mset hp]
  exact hQ
theorem for_ind {g : DG} {tb : DSt} {side : MM → Prop} {E : DEnds} (I : List D → Env → MM → Prop) (step : ∀ d r ρ m (N : Env → MM → Prop), (∀ ρ' m', I r ρ' m' → N ρ' m') → I (d :: r) ρ m → side m ∧ g d ρ m fun ρ1 m1 => tb { E with nx := N, ct := N, bk := E.nx } ρ1 m1)
    (done : ∀ ρ m, I [] ρ m → side m ∧ E.nx ρ m) : ∀ (items : List D) (ρ : Env) (m : MM), I items ρ m → forRec g tb side E items ρ m
  | [], ρ, m, h => by unfold forRec; exact done ρ m h
  | d :: r, ρ, m, h => by unfold forRec; exact step d r ρ m _ (fun ρ' m' h' => for_ind I step done r ρ' m' h') h
/-! ### fractions -/
def enc (q : Rat) : D := .tup [.int q.num, .int (q.den : Int)]
def encR (r : List Rat) : D := .tup (r.map enc)
/-- not too great -/
def Sm (k : Nat) (q : Rat) : Prop := q.num.natAbs < 2 ^ k ∧ q.den < 2 ^ k
theorem lg_lt {n k : Nat} (h : n < 2 ^ k) (hk : 0 < k) : n.log2 < k := by
  by_cases h0 : n = 0
  · subst h0; simpa using hk
  · exact (Nat.log2_lt h0).mpr h
theorem lg_le {n k : Nat} (h : n < 2 ^ k) : n.log2 ≤ k := by
  by_cases h0 : n = 0
  · subst h0; simp
  · exact Nat.le_of_lt ((Nat.log2_lt h0).mpr h)
theorem Sm.mono {a b : Nat} {q : Rat} (h : Sm a q) (k : a ≤ b) : Sm b q := ⟨Nat.lt_of_lt_of_le h.1 (Nat.pow_le_pow_right (by decide) k), Nat.lt_of_lt_of_le h.2 (Nat.pow_le_pow_right (by decide) k)⟩
theorem Sm.ln {a : Nat} {q : Rat} (h : Sm a q) : q.num.natAbs.log2 ≤ a := lg_le h.1
theorem Sm.ld {a : Nat} {q : Rat} (h : Sm a q) : q.den.log2 ≤ a := lg_le h.2
theorem divInt_sm {n d : Int} {k : Nat} (hn : n.natAbs < 2 ^ k) (hd : d.natAbs < 2 ^ k) (hk : 0 < k) : Sm k (Rat.divInt n d) := by
  have h1 : 1 < 2 ^ k := Nat.one_lt_two_pow (by omega)
  constructor
  · rw [Rat.num_divInt]
    refine Nat.lt_of_le_of_lt ?_ hn
    rw [Int.natAbs_ediv_of_dvd ?_]
    · refine Nat.le_trans (Nat.div_le_self _ _) ?_
      rw [Int.natAbs_mul]
      rcases Int.lt_trichotomy d 0 with h | h | h
      · rw [Int.sign_eq_neg_one_of_neg h]; simp
      · subst h; simp
      · rw [Int.sign_eq_one_of_pos h]; simp
    · exact Int.dvd_mul_of_dvd_right (Int.gcd_dvd_right ..)
  · rw [Rat.den_divInt]
    split
    · exact h1
    · exact Nat.lt_of_le_of_lt (Nat.div_le_self _ _) hd
theorem add_divInt (x y : Rat) : x + y = Rat.divInt (x.num * (y.den : Int) + y.num * (x.den : Int)) ((x.den : Int) * (y.den : Int)) := by
  rw [Rat.add_def', ← Int.natCast_mul, Rat.divInt_ofNat]
theorem sub_divInt (x y : Rat) : x - y = Rat.divInt (x.num * (y.den : Int) - y.num * (x.den : Int)) ((x.den : Int) * (y.den : Int)) := by
  rw [Rat.sub_def', ← Int.natCast_mul, Rat.divInt_ofNat]
theorem mul_divInt (x y : Rat) : x * y = Rat.divInt (x.num * y.num) ((x.den : Int) * (y.den : Int)) := by
  rw [Rat.mul_def', ← Int.natCast_mul, Rat.divInt_ofNat]
theorem mul_lt2 {a b i j : Nat} (ha : a < 2 ^ i) (hb : b < 2 ^ j) : a * b < 2 ^ (i + j) := by
  rw [Nat.pow_add]
  rcases Nat.eq_zero_or_pos b with h | h
  · subst h; simp; exact Nat.mul_pos (Nat.pow_pos (by decide)) (Nat.pow_pos (by decide))
  · exact Nat.lt_of_lt_of_le ((Nat.mul_lt_mul_right h).mpr ha) (Nat.mul_le_mul_left _ (Nat.le_of_lt hb))
theorem add_lt2 {a b i j k : Int} {n : Nat} (ha : a.natAbs < 2 ^ n) (hb : b.natAbs < 2 ^ n) : (a + b).natAbs < 2 ^ (n + 1) := by
  have := Int.natAbs_add_le a b
  rw [Nat.pow_succ]; omega
theorem sub_lt2 {a b i j k : Int} {n : Nat} (ha : a.natAbs < 2 ^ n) (hb : b.natAbs < 2 ^ n) : (a - b).natAbs < 2 ^ (n + 1) := by
  have := Int.natAbs_sub_le a b
  rw [Nat.pow_succ]; omega
section
variable {x y : Rat} {a b : Nat}
theorem Sm.n_nd (hx : Sm a x) (hy : Sm b y) : (x.num * (y.den : Int)).natAbs < 2 ^ (a + b) := by rw [Int.natAbs_mul]; exact mul_lt2 hx.1 (by simpa using hy.2)
theorem Sm.n_dn (hx : Sm a x) (hy : Sm b y) : (y.num * (x.den : Int)).natAbs < 2 ^ (a + b) := by rw [Int.natAbs_mul, Nat.mul_comm]; exact mul_lt2 (by simpa using hx.2) hy.1
theorem Sm.n_dd (hx : Sm a x) (hy : Sm b y) : ((x.den : Int) * (y.den : Int)).natAbs < 2 ^ (a + b) := by rw [Int.natAbs_mul]; exact mul_lt2 (by simpa using hx.2) (by simpa using hy.2)
theorem Sm.n_nn (hx : Sm a x) (hy : Sm b y) : (x.num * y.num).natAbs < 2 ^ (a + b) := by rw [Int.natAbs_mul]; exact mul_lt2 hx.1 hy.1
theorem up1 {n k : Nat} (h : n < 2 ^ k) : n < 2 ^ (k + 1) := by rw [Nat.pow_succ]; omega
theorem Sm.add (hx : Sm a x) (hy : Sm b y) : Sm (a + b + 1) (x + y) := by
  rw [add_divInt]
  exact divInt_sm (add_lt2 (i := 0) (j := 0) (k := 0) (hx.n_nd hy) (hx.n_dn hy)) (up1 (hx.n_dd hy)) (by omega)
theorem Sm.sub (hx : Sm a x) (hy : Sm b y) : Sm (a + b + 1) (x - y) := by
  rw [sub_divInt]
  exact divInt_sm (sub_lt2 (i := 0) (j := 0) (k := 0) (hx.n_nd hy) (hx.n_dn hy)) (up1 (hx.n_dd hy)) (by omega)
theorem Sm.mul (hx : Sm a x) (hy : Sm b y) : Sm (a + b + 1) (x * y) := by
  rw [mul_divInt]
  exact divInt_sm (up1 (hx.n_nn hy)) (up1 (hx.n_dd hy)) (by omega)
theorem Sm.neg (hx : Sm a x) : Sm a (-x) := ⟨by rw [Rat.neg_num, Int.natAbs_neg]; exact hx.1, by rw [Rat.neg_den]; exact hx.2⟩
theorem Sm.zero : Sm 1 0 := ⟨by decide, by decide⟩
end
/-- gcd as the code takes it -/
theorem encDiv {n d : Int} (hd : d ≠ 0) : (0 < d → enc (Rat.divInt n d) = .tup [.int (n.fdiv ((Nat.gcd n.natAbs d.natAbs : Nat) : Int)), .int (d.fdiv ((Nat.gcd n.natAbs d.natAbs : Nat) : Int))]) ∧
    (¬ 0 < d → enc (Rat.divInt n d) = .tup [.int (n.fdiv (-((Nat.gcd n.natAbs d.natAbs : Nat) : Int))), .int (d.fdiv (-((Nat.gcd n.natAbs d.natAbs : Nat) : Int)))]) := by
  have g1 : ((Nat.gcd n.natAbs d.natAbs : Nat) : Int) ∣ n := Int.ofNat_dvd_left.mpr (Nat.gcd_dvd_left _ _)
  have g2 : ((Nat.gcd n.natAbs d.natAbs : Nat) : Int) ∣ d := Int.ofNat_dvd_left.mpr (Nat.gcd_dvd_right _ _)
  have hg : ((Nat.gcd n.natAbs d.natAbs : Nat) : Int) = (d.gcd n : Nat) := by rw [Int.gcd_comm]; rfl
  have g1' : (-((Nat.gcd n.natAbs d.natAbs : Nat) : Int)) ∣ n := Int.neg_dvd.mpr g1
  have g2' : (-((Nat.gcd n.natAbs d.natAbs : Nat) : Int)) ∣ d := Int.neg_dvd.mpr g2
  have hpos : (0 : Int) < ((Nat.gcd n.natAbs d.natAbs : Nat) : Int) := by
    have := Nat.gcd_pos_of_pos_right n.natAbs (Int.natAbs_pos.mpr hd)
    omega
  have hden : ((Rat.divInt n d).den : Int) = ((d.natAbs : Nat) : Int) / (d.gcd n : Nat) := by
    rw [Rat.den_divInt, if_neg hd, Int.natCast_ediv]
  constructor
  · intro h
    unfold enc
    rw [Int.fdiv_eq_ediv_of_dvd g1, Int.fdiv_eq_ediv_of_dvd g2, hden, Rat.num_divInt, Int.sign_eq_one_of_pos h, Int.one_mul, hg]
    rw [show ((d.natAbs : Nat) : Int) = d by omega]
  · intro h
    have hneg : d < 0 := by omega
    unfold enc
    rw [Int.fdiv_eq_ediv_of_dvd g1', Int.fdiv_eq_ediv_of_dvd g2', hden, Rat.num_divInt, Int.sign_eq_neg_one_of_neg hneg, Int.ediv_neg, Int.ediv_neg, hg]
    rw [show ((d.natAbs : Nat) : Int) = -d by omega]
    rw [Int.neg_mul, Int.one_mul, Int.neg_ediv_of_dvd (by rw [← hg]; exact g1), Int.neg_ediv_of_dvd (by rw [← hg]; exact g2)]
end Y
/-! M2: what the defs over fractions and rows promise. -/
namespace Y
open PySem PySem.Spec PyProof.Rows L2
def c_ZERO : D := .tup [.int 0, .int 1]
def c_ONE : D := .tup [.int 1, .int 1]
theorem enc_zero : enc 0 = .tup [.int 0, .int 1] := rfl
theorem two_le : 2 ≤ sizeLine := by rw [PySem.sizeLine_eq]; decide
/-- a thing whose kind is known, and its items' -/
def Kn (m : MM) (d : D) : Prop := ∃ t, tyD m d = some t
def Kn2 (m : MM) (d : D) : Prop := Kn m d ∧ ∀ xs, d = .tup xs → (∀ x ∈ xs, Kn m x) ∧ xs.length ≤ sizeLine
theorem Kn.mset {m : MM} {p : Addr} {o : MO} {d : D} (hp : m p = none) (h : Kn m d) : Kn (mset m p o) d := let ⟨t, e⟩ := h; ⟨t, tyD_mset hp e⟩
theorem Kn.int {m : MM} {i : Int} : Kn m (.int i) := ⟨_, rfl⟩
theorem Kn.tup {m : MM} {xs : List D} : Kn m (.tup xs) := ⟨_, rfl⟩
theorem Kn2.mset {m : MM} {p : Addr} {o : MO} {d : D} (hp : m p = none) (h : Kn2 m d) : Kn2 (mset m p o) d := ⟨h.1.mset hp, fun xs e => ⟨fun x hx => ((h.2 xs e).1 x hx).mset hp, (h.2 xs e).2⟩⟩
def isNum : D → Bool
  | .int _ => true
  | _ => false
theorem tyD_int {m : MM} {d : D} {t : String} (h : tyD m d = some t) : (isB t "int" && !isB t "bool") = isNum d := by
  cases d with
  | adr a =>
    simp only [tyD] at h
    split at h <;> first | (cases h; rfl) | cases h
  | _ => simp only [tyD] at h <;> first | (cases h; rfl) | cases h
def S_is_number : DS := fun ds m Q X => ∃ d, ds = [d] ∧ Kn m d ∧ Q (.bl (isNum d)) m
def T_is_number : DSt := (dRet (dAndV (dCB gIsi (dCons (dVar 0) (dCons (dC (.ty "int")) dNil))) (dNotV (dCB gIsi (dCons (dVar 0) (dCons (dC (.ty "bool")) dNil))))))
theorem H_is_number (ds : List D) (m : MM) (Q : D → MM → Prop) (Px : XC) (h : S_is_number ds m Q Px) : ds.length = 1 ∧ T_is_number (endD Q Px) (startD ["value"] ds) m := by
  obtain ⟨d, rfl, ⟨t, ht⟩, q⟩ := h
  refine ⟨rfl, ?_⟩
  have e := tyD_int ht
  have k : "int" ∈ kinds ∧ "bool" ∈ kinds := by decide
  simp only [T_is_number, startD, dRet, dAndV, dNotV, dCB, dCons, dNil, dVar, dC, gIsi, on2, ht, List.map_cons, List.map_nil, List.length_cons, List.length_nil, List.replicate, List.cons_append, List.nil_append, List.getElem?_cons_succ, List.getElem?_cons_zero]
  refine ⟨k.1, ?_⟩
  rw [← e] at q
  cases h1 : isB t "int" with
  | false =>
    rw [h1] at q
    exact ⟨m, _, .refl, by simpa using q⟩
  | true =>
    rw [h1] at q
    refine ⟨k.2, m, _, .refl, by simpa using q⟩
def S_in_form : DS := fun ds m Q X => ∃ n d : Int, ds = [.int n, .int d] ∧ d ≠ 0 ∧ d.natAbs < 2 ^ 8999 ∧ Q (enc (Rat.divInt n d)) m
def T_in_form : DSt := (dSeq (dSet 2 (dIfE (dB (dOp gGt (dVar 1) (dC (.int 0)))) (dCB gGcd (dCons (dVar 0) (dCons (dVar 1) dNil))) (dUn gNeg (dCB gGcd (dCons (dVar 0) (dCons (dVar 1) dNil))))))
  (dRet (dTup (dCons (dOp gFdv (dVar 0) (dVar 2)) (dCons (dOp gFdv (dVar 1) (dVar 2)) dNil)))))
theorem cv_gcd {n d : Int} (hd : d ≠ 0) (hl : d.natAbs < 2 ^ 8999) {e : Int} : CV e ((Nat.gcd n.natAbs d.natAbs : Nat) : Int) ∧ CV e (-((Nat.gcd n.natAbs d.natAbs : Nat) : Int)) := by
  have h1 := Nat.gcd_pos_of_pos_right n.natAbs (Int.natAbs_pos.mpr hd)
  have h2 : Nat.gcd n.natAbs d.natAbs ≤ d.natAbs := Nat.gcd_le_right _ (Int.natAbs_pos.mpr hd)
  have h3 : (Nat.gcd n.natAbs d.natAbs).log2 < 9000 := Nat.lt_of_le_of_lt (lg_le (Nat.lt_of_le_of_lt h2 hl)) (by decide)
  refine ⟨⟨by omega, .inl (by simpa using h3)⟩, ⟨by omega, .inl (by simpa using h3)⟩⟩
theorem H_in_form (ds : List D) (m : MM) (Q : D → MM → Prop) (Px : XC) (h : S_in_form ds m Q Px) : ds.length = 2 ∧ T_in_form (endD Q Px) (startD ["n", "d", "divisor"] ds) m := by
  obtain ⟨n, d, rfl, hd, hl, q⟩ := h
  refine ⟨rfl, ?_⟩
  obtain ⟨e1, e2⟩ := encDiv (n := n) hd
  simp only [T_in_form, startD, dSeq, dNext, dBreak, dCont, dSet, dIfE, dIfS, dB, dOp, dVar, dC, dCB, dCons, dNil, dUn, dRet, dRetN, dTup, dLst, dLstM, dCall, dDrop, dAsg, dT, Tg.d, Tgs.d, dNotT, dAndT, dOrT, dAndV, dOrV, dNotV, dPar, dFor, dSeqI, dRng1, dRng2, dZip2, dZip3, dEnum, dLC, dLCr, dLCM, finM, gII0, gII, onII, onI, gGcd, gNeg, gAdd, gIt, gIx, gLen, gTupC, gLstC, gLstCM, gAll, gAny, gBls, gSum, gIsi, gAbs, gInt, gStr, gEqB, gIsN, isNon, gRep, dRepM, dSl, dPart, dNoPart, gSl, dRev, dRevM, dM, dM0, gAppend, gPop, dFld, dSetF, dMeth, dMake, dPut, dDict, dPairs, dJoin, dJoined, dJs, dFmt, gIn, exOf, endD, on1, on2, ev_it0, ev_it1, ev_it2, ev_itn1, ev_itn, ev_len_t, ev_len_l, ev_sq_t, ev_sq_l, ev_lst_l, ev_so_t, ev_so_l, ev_so_k, ev_si_t, ev_si_l, ev_si_k, ev_ty_i, ev_ty_b, ev_ty_n, ev_ty_s, ev_ty_t, ev_ty_l, ev_eq_ii, ev_shp_i, ev_shp_b, ev_shp_n, ev_key_i, ev_key_s, kd_NoneType, kd_bool, kd_int, kd_str, kd_tuple, kd_list, kd_dict, ib_NoneType_NoneType, ib_NoneType_bool, ib_NoneType_int, ib_NoneType_str, ib_NoneType_tuple, ib_NoneType_list, ib_NoneType_dict, ib_bool_NoneType, ib_bool_bool, ib_bool_int, ib_bool_str, ib_bool_tuple, ib_bool_list, ib_bool_dict, ib_int_NoneType, ib_int_bool, ib_int_int, ib_int_str, ib_int_tuple, ib_int_list, ib_int_dict, ib_str_NoneType, ib_str_bool, ib_str_int, ib_str_str, ib_str_tuple, ib_str_list, ib_str_dict, ib_tuple_NoneType, ib_tuple_bool, ib_tuple_int, ib_tuple_str, ib_tuple_tuple, ib_tuple_list, ib_tuple_dict, ib_list_NoneType, ib_list_bool, ib_list_int, ib_list_str, ib_list_tuple, ib_list_list, ib_list_dict, ib_dict_NoneType, ib_dict_bool, ib_dict_int, ib_dict_str, ib_dict_tuple, ib_dict_list, ib_dict_dict, true_and, and_true, if_true, if_false, Bool.not_true, Bool.not_false, List.map_cons, List.map_nil, List.length_cons, List.length_nil, List.replicate, List.cons_append, List.nil_append, List.getElem?_cons_succ, List.getElem?_cons_zero, List.set_cons_succ, List.set_cons_zero, ite_true_eq, ite_false_eq, ite_nt_eq, ite_nf_eq, dec_true, dec_not, bxor_f, bxor_t]
  split
  · rename_i h
    refine ⟨(cv_gcd hd hl).1, (cv_gcd hd hl).1, two_le, m, _, .refl, ?_⟩
    rw [← e1 h]; exact q
  · rename_i h
    refine ⟨(cv_gcd hd hl).2, (cv_gcd hd hl).2, two_le, m, _, .refl, ?_⟩
    rw [← e2 h]; exact q
def S_fraction : DS := fun ds m Q X => ∃ n d : Int, ds = [.int n, .int d] ∧ d ≠ 0 ∧ d.natAbs < 2 ^ 8999 ∧ Q (enc (Rat.divInt n d)) m
def T_fraction : DSt := (dSeq (dIfS (dOrT (dNotT (dB (dCall S_is_number (dCons (dVar 0) dNil)))) (dOrT (dNotT (dB (dCall S_is_number (dCons (dVar 1) dNil)))) (dB (dOp gEq (dVar 1) (dC (.int 0)))))) dNever dNext)
  (dRet (dCall S_in_form (dCons (dVar 0) (dCons (dVar 1) dNil)))))
theorem H_fraction (ds : List D) (m : MM) (Q : D → MM → Prop) (Px : XC) (h : S_fraction ds m Q Px) : ds.length = 2 ∧ T_fraction (endD Q Px) (startD ["n", "d"] ds) m := by
  obtain ⟨n, d, rfl, hd, hl, q⟩ := h
  refine ⟨rfl, ?_⟩
  simp only [T_fraction, startD, dSeq, dNext, dBreak, dCont, dSet, dIfE, dIfS, dB, dOp, dVar, dC, dCB, dCons, dNil, dUn, dRet, dRetN, dTup, dLst, dLstM, dCall, dDrop, dAsg, dT, Tg.d, Tgs.d, dNotT, dAndT, dOrT, dAndV, dOrV, dNotV, dPar, dFor, dSeqI, dRng1, dRng2, dZip2, dZip3, dEnum, dLC, dLCr, dLCM, finM, gII0, gII, onII, onI, gGcd, gNeg, gAdd, gIt, gIx, gLen, gTupC, gLstC, gLstCM, gAll, gAny, gBls, gSum, gIsi, gAbs, gInt, gStr, gEqB, gIsN, isNon, gRep, dRepM, dSl, dPart, dNoPart, gSl, dRev, dRevM, dM, dM0, gAppend, gPop, dFld, dSetF, dMeth, dMake, dPut, dDict, dPairs, dJoin, dJoined, dJs, dFmt, gIn, exOf, endD, on1, on2, ev_it0, ev_it1, ev_it2, ev_itn1, ev_itn, ev_len_t, ev_len_l, ev_sq_t, ev_sq_l, ev_lst_l, ev_so_t, ev_so_l, ev_so_k, ev_si_t, ev_si_l, ev_si_k, ev_ty_i, ev_ty_b, ev_ty_n, ev_ty_s, ev_ty_t, ev_ty_l, ev_eq_ii, ev_shp_i, ev_shp_b, ev_shp_n, ev_key_i, ev_key_s, kd_NoneType, kd_bool, kd_int, kd_str, kd_tuple, kd_list, kd_dict, ib_NoneType_NoneType, ib_NoneType_bool, ib_NoneType_int, ib_NoneType_str, ib_NoneType_tuple, ib_NoneType_list, ib_NoneType_dict, ib_bool_NoneType, ib_bool_bool, ib_bool_int, ib_bool_str, ib_bool_tuple, ib_bool_list, ib_bool_dict, ib_int_NoneType, ib_int_bool, ib_int_int, ib_int_str, ib_int_tuple, ib_int_list, ib_int_dict, ib_str_NoneType, ib_str_bool, ib_str_int, ib_str_str, ib_str_tuple, ib_str_list, ib_str_dict, ib_tuple_NoneType, ib_tuple_bool, ib_tuple_int, ib_tuple_str, ib_tuple_tuple, ib_tuple_list, ib_tuple_dict, ib_list_NoneType, ib_list_bool, ib_list_int, ib_list_str, ib_list_tuple, ib_list_list, ib_list_dict, ib_dict_NoneType, ib_dict_bool, ib_dict_int, ib_dict_str, ib_dict_tuple, ib_dict_list, ib_dict_dict, true_and, and_true, if_true, if_false, Bool.not_true, Bool.not_false, List.map_cons, List.map_nil, List.length_cons, List.length_nil, List.replicate, List.cons_append, List.nil_append, List.getElem?_cons_succ, List.getElem?_cons_zero, List.set_cons_succ, List.set_cons_zero, ite_true_eq, ite_false_eq, ite_nt_eq, ite_nf_eq, dec_true, dec_not, bxor_f, bxor_t]
  refine ⟨_, rfl, .int, ?_⟩
  simp only [isNum, Bool.not_true, startD, dSeq, dNext, dBreak, dCont, dSet, dIfE, dIfS, dB, dOp, dVar, dC, dCB, dCons, dNil, dUn, dRet, dRetN, dTup, dLst, dLstM, dCall, dDrop, dAsg, dT, Tg.d, Tgs.d, dNotT, dAndT, dOrT, dAndV, dOrV, dNotV, dPar, dFor, dSeqI, dRng1, dRng2, dZip2, dZip3, dEnum, dLC, dLCr, dLCM, finM, gII0, gII, onII, onI, gGcd, gNeg, gAdd, gIt, gIx, gLen, gTupC, gLstC, gLstCM, gAll, gAny, gBls, gSum, gIsi, gAbs, gInt, gStr, gEqB, gIsN, isNon, gRep, dRepM, dSl, dPart, dNoPart, gSl, dRev, dRevM, dM, dM0, gAppend, gPop, dFld, dSetF, dMeth, dMake, dPut, dDict, dPairs, dJoin, dJoined, dJs, dFmt, gIn, exOf, endD, on1, on2, ev_it0, ev_it1, ev_it2, ev_itn1, ev_itn, ev_len_t, ev_len_l, ev_sq_t, ev_sq_l, ev_lst_l, ev_so_t, ev_so_l, ev_so_k, ev_si_t, ev_si_l, ev_si_k, ev_ty_i, ev_ty_b, ev_ty_n, ev_ty_s, ev_ty_t, ev_ty_l, ev_eq_ii, ev_shp_i, ev_shp_b, ev_shp_n, ev_key_i, ev_key_s, kd_NoneType, kd_bool, kd_int, kd_str, kd_tuple, kd_list, kd_dict, ib_NoneType_NoneType, ib_NoneType_bool, ib_NoneType_int, ib_NoneType_str, ib_NoneType_tuple, ib_NoneType_list, ib_NoneType_dict, ib_bool_NoneType, ib_bool_bool, ib_bool_int, ib_bool_str, ib_bool_tuple, ib_bool_list, ib_bool_dict, ib_int_NoneType, ib_int_bool, ib_int_int, ib_int_str, ib_int_tuple, ib_int_list, ib_int_dict, ib_str_NoneType, ib_str_bool, ib_str_int, ib_str_str, ib_str_tuple, ib_str_list, ib_str_dict, ib_tuple_NoneType, ib_tuple_bool, ib_tuple_int, ib_tuple_str, ib_tuple_tuple, ib_tuple_list, ib_tuple_dict, ib_list_NoneType, ib_list_bool, ib_list_int, ib_list_str, ib_list_tuple, ib_list_list, ib_list_dict, ib_dict_NoneType, ib_dict_bool, ib_dict_int, ib_dict_str, ib_dict_tuple, ib_dict_list, ib_dict_dict, true_and, and_true, if_true, if_false, Bool.not_true, Bool.not_false, List.map_cons, List.map_nil, List.length_cons, List.length_nil, List.replicate, List.cons_append, List.nil_append, List.getElem?_cons_succ, List.getElem?_cons_zero, List.set_cons_succ, List.set_cons_zero, ite_true_eq, ite_false_eq, ite_nt_eq, ite_nf_eq, dec_true, dec_not, bxor_f, bxor_t]
  refine ⟨_, rfl, .int, ?_⟩
  simp only [isNum, Bool.not_true, shp, eqD, true_and, beq_iff_eq, startD, dSeq, dNext, dBreak, dCont, dSet, dIfE, dIfS, dB, dOp, dVar, dC, dCB, dCons, dNil, dUn, dRet, dRetN, dTup, dLst, dLstM, dCall, dDrop, dAsg, dT, Tg.d, Tgs.d, dNotT, dAndT, dOrT, dAndV, dOrV, dNotV, dPar, dFor, dSeqI, dRng1, dRng2, dZip2, dZip3, dEnum, dLC, dLCr, dLCM, finM, gII0, gII, onII, onI, gGcd, gNeg, gAdd, gIt, gIx, gLen, gTupC, gLstC, gLstCM, gAll, gAny, gBls, gSum, gIsi, gAbs, gInt, gStr, gEqB, gIsN, isNon, gRep, dRepM, dSl, dPart, dNoPart, gSl, dRev, dRevM, dM, dM0, gAppend, gPop, dFld, dSetF, dMeth, dMake, dPut, dDict, dPairs, dJoin, dJoined, dJs, dFmt, gIn, exOf, endD, on1, on2, ev_it0, ev_it1, ev_it2, ev_itn1, ev_itn, ev_len_t, ev_len_l, ev_sq_t, ev_sq_l, ev_lst_l, ev_so_t, ev_so_l, ev_so_k, ev_si_t, ev_si_l, ev_si_k, ev_ty_i, ev_ty_b, ev_ty_n, ev_ty_s, ev_ty_t, ev_ty_l, ev_eq_ii, ev_shp_i, ev_shp_b, ev_shp_n, ev_key_i, ev_key_s, kd_NoneType, kd_bool, kd_int, kd_str, kd_tuple, kd_list, kd_dict, ib_NoneType_NoneType, ib_NoneType_bool, ib_NoneType_int, ib_NoneType_str, ib_NoneType_tuple, ib_NoneType_list, ib_NoneType_dict, ib_bool_NoneType, ib_bool_bool, ib_bool_int, ib_bool_str, ib_bool_tuple, ib_bool_list, ib_bool_dict, ib_int_NoneType, ib_int_bool, ib_int_int, ib_int_str, ib_int_tuple, ib_int_list, ib_int_dict, ib_str_NoneType, ib_str_bool, ib_str_int, ib_str_str, ib_str_tuple, ib_str_list, ib_str_dict, ib_tuple_NoneType, ib_tuple_bool, ib_tuple_int, ib_tuple_str, ib_tuple_tuple, ib_tuple_list, ib_tuple_dict, ib_list_NoneType, ib_list_bool, ib_list_int, ib_list_str, ib_list_tuple, ib_list_list, ib_list_dict, ib_dict_NoneType, ib_dict_bool, ib_dict_int, ib_dict_str, ib_dict_tuple, ib_dict_list, ib_dict_dict, true_and, and_true, if_true, if_false, Bool.not_true, Bool.not_false, List.map_cons, List.map_nil, List.length_cons, List.length_nil, List.replicate, List.cons_append, List.nil_append, List.getElem?_cons_succ, List.getElem?_cons_zero, List.set_cons_succ, List.set_cons_zero, ite_true_eq, ite_false_eq, ite_nt_eq, ite_nf_eq, dec_true, dec_not, bxor_f, bxor_t]
  rw [if_neg hd]
  exact ⟨n, d, rfl, hd, hl, m, _, .refl, q⟩
def isFrac : D → Bool
  | .tup [.int a, .int b] => decide (0 < b) && Nat.gcd a.natAbs b.natAbs == 1
  | _ => false
def S_is_fraction : DS := fun ds m Q X => ∃ d, ds = [d] ∧ Kn2 m d ∧ Q (.bl (isFrac d)) m
def T_is_fraction : DSt := (dSeq (dIfS (dOrT (dNotT (dB (dCB gIsi (dCons (dVar 0) (dCons (dC (.ty "tuple")) dNil))))) (dOrT (dB (dOp gNe (dCB gLen (dCons (dVar 0) dNil)) (dC (.int 2)))) (dNotT (dB (dCB gAll (dCons (dLC (dSeqI (dVar 0)) (.nm 1) dYes (dCall S_is_number (dCons (dVar 1) dNil)) [1]) dNil)))))) (dRet (dC (.bl false))) dNext)
  (dRet (dAndV (dOp gGt (dOp gIt (dVar 0) (dC (.int 1))) (dC (.int 0))) (dOp gEq (dCB gGcd (dCons (dOp gIt (dVar 0) (dC (.int 0))) (dCons (dOp gIt (dVar 0) (dC (.int 1))) dNil))) (dC (.int 1))))))
theorem H_is_fraction (ds : List D) (m : MM) (Q : D → MM → Prop) (Px : XC) (h : S_is_fraction ds m Q Px) : ds.length = 1 ∧ T_is_fraction (endD Q Px) (startD ["value", "one"] ds) m := by
  obtain ⟨d, rfl, ⟨⟨t, ht⟩, hk⟩, q⟩ := h
  refine ⟨rfl, ?_⟩
  cases d with
  | tup xs =>
    obtain ⟨h1, h2⟩ := hk xs rfl
    simp only [T_is_fraction, startD, dSeq, dNext, dBreak, dCont, dSet, dIfE, dIfS, dB, dOp, dVar, dC, dCB, dCons, dNil, dUn, dRet, dRetN, dTup, dLst, dLstM, dCall, dDrop, dAsg, dT, Tg.d, Tgs.d, dNotT, dAndT, dOrT, dAndV, dOrV, dNotV, dPar, dFor, dSeqI, dRng1, dRng2, dZip2, dZip3, dEnum, dLC, dLCr, dLCM, finM, gII0, gII, onII, onI, gGcd, gNeg, gAdd, gIt, gIx, gLen, gTupC, gLstC, gLstCM, gAll, gAny, gBls, gSum, gIsi, gAbs, gInt, gStr, gEqB, gIsN, isNon, gRep, dRepM, dSl, dPart, dNoPart, gSl, dRev, dRevM, dM, dM0, gAppend, gPop, dFld, dSetF, dMeth, dMake, dPut, dDict, dPairs, dJoin, dJoined, dJs, dFmt, gIn, exOf, endD, on1, on2, ev_it0, ev_it1, ev_it2, ev_itn1, ev_itn, ev_len_t, ev_len_l, ev_sq_t, ev_sq_l, ev_lst_l, ev_so_t, ev_so_l, ev_so_k, ev_si_t, ev_si_l, ev_si_k, ev_ty_i, ev_ty_b, ev_ty_n, ev_ty_s, ev_ty_t, ev_ty_l, ev_eq_ii, ev_shp_i, ev_shp_b, ev_shp_n, ev_key_i, ev_key_s, kd_NoneType, kd_bool, kd_int, kd_str, kd_tuple, kd_list, kd_dict, ib_NoneType_NoneType, ib_NoneType_bool, ib_NoneType_int, ib_NoneType_str, ib_NoneType_tuple, ib_NoneType_list, ib_NoneType_dict, ib_bool_NoneType, ib_bool_bool, ib_bool_int, ib_bool_str, ib_bool_tuple, ib_bool_list, ib_bool_dict, ib_int_NoneType, ib_int_bool, ib_int_int, ib_int_str, ib_int_tuple, ib_int_list, ib_int_dict, ib_str_NoneType, ib_str_bool, ib_str_int, ib_str_str, ib_str_tuple, ib_str_list, ib_str_dict, ib_tuple_NoneType, ib_tuple_bool, ib_tuple_int, ib_tuple_str, ib_tuple_tuple, ib_tuple_list, ib_tuple_dict, ib_list_NoneType, ib_list_bool, ib_list_int, ib_list_str, ib_list_tuple, ib_list_list, ib_list_dict, ib_dict_NoneType, ib_dict_bool, ib_dict_int, ib_dict_str, ib_dict_tuple, ib_dict_list, ib_dict_dict, true_and, and_true, if_true, if_false, Bool.not_true, Bool.not_false, List.map_cons, List.map_nil, List.length_cons, List.length_nil, List.replicate, List.cons_append, List.nil_append, List.getElem?_cons_succ, List.getElem?_cons_zero, List.set_cons_succ, List.set_cons_zero, ite_true_eq, ite_false_eq, ite_nt_eq, ite_nf_eq, dec_true, dec_not, bxor_f, bxor_t]
    by_cases hl : ((xs.length : Nat) : Int) = 2
    · rw [if_pos hl]
      intro p hp
      refine lc_pure (fun d => .bl (isNum d)) xs hp (fun _ => trivial) (fun d hd acc Q1 q1 => ⟨_, rfl, ?_⟩) h2 ?_
      · simp only [wipeD, startD, dSeq, dNext, dBreak, dCont, dSet, dIfE, dIfS, dB, dOp, dVar, dC, dCB, dCons, dNil, dUn, dRet, dRetN, dTup, dLst, dLstM, dCall, dDrop, dAsg, dT, Tg.d, Tgs.d, dNotT, dAndT, dOrT, dAndV, dOrV, dNotV, dPar, dFor, dSeqI, dRng1, dRng2, dZip2, dZip3, dEnum, dLC, dLCr, dLCM, finM, gII0, gII, onII, onI, gGcd, gNeg, gAdd, gIt, gIx, gLen, gTupC, gLstC, gLstCM, gAll, gAny, gBls, gSum, gIsi, gAbs, gInt, gStr, gEqB, gIsN, isNon, gRep, dRepM, dSl, dPart, dNoPart, gSl, dRev, dRevM, dM, dM0, gAppend, gPop, dFld, dSetF, dMeth, dMake, dPut, dDict, dPairs, dJoin, dJoined, dJs, dFmt, gIn, exOf, endD, on1, on2, ev_it0, ev_it1, ev_it2, ev_itn1, ev_itn, ev_len_t, ev_len_l, ev_sq_t, ev_sq_l, ev_lst_l, ev_so_t, ev_so_l, ev_so_k, ev_si_t, ev_si_l, ev_si_k, ev_ty_i, ev_ty_b, ev_ty_n, ev_ty_s, ev_ty_t, ev_ty_l, ev_eq_ii, ev_shp_i, ev_shp_b, ev_shp_n, ev_key_i, ev_key_s, kd_NoneType, kd_bool, kd_int, kd_str, kd_tuple, kd_list, kd_dict, ib_NoneType_NoneType, ib_NoneType_bool, ib_NoneType_int, ib_NoneType_str, ib_NoneType_tuple, ib_NoneType_list, ib_NoneType_dict, ib_bool_NoneType, ib_bool_bool, ib_bool_int, ib_bool_str, ib_bool_tuple, ib_bool_list, ib_bool_dict, ib_int_NoneType, ib_int_bool, ib_int_int, ib_int_str, ib_int_tuple, ib_int_list, ib_int_dict, ib_str_NoneType, ib_str_bool, ib_str_int, ib_str_str, ib_str_tuple, ib_str_list, ib_str_dict, ib_tuple_NoneType, ib_tuple_bool, ib_tuple_int, ib_tuple_str, ib_tuple_tuple, ib_tuple_list, ib_tuple_dict, ib_list_NoneType, ib_list_bool, ib_list_int, ib_list_str, ib_list_tuple, ib_list_list, ib_list_dict, ib_dict_NoneType, ib_dict_bool, ib_dict_int, ib_dict_str, ib_dict_tuple, ib_dict_list, ib_dict_dict, true_and, and_true, if_true, if_false, Bool.not_true, Bool.not_false, List.map_cons, List.map_nil, List.length_cons, List.length_nil, List.replicate, List.cons_append, List.nil_append, List.getElem?_cons_succ, List.getElem?_cons_zero, List.set_cons_succ, List.set_cons_zero, ite_true_eq, ite_false_eq, ite_nt_eq, ite_nf_eq, dec_true, dec_not, bxor_f, bxor_t]
        exact ⟨_, rfl, (h1 d hd).mset hp, q1⟩
      · have e : (lstOf m (.lst (xs.map fun d => .bl (isNum d)))).bind blsD = some (xs.map isNum) := by
          show blsD (xs.map fun d => .bl (isNum d)) = _
          rw [← blsD_map, List.map_map]; rfl
        rw [e]
        simp only [startD, dSeq, dNext, dBreak, dCont, dSet, dIfE, dIfS, dB, dOp, dVar, dC, dCB, dCons, dNil, dUn, dRet, dRetN, dTup, dLst, dLstM, dCall, dDrop, dAsg, dT, Tg.d, Tgs.d, dNotT, dAndT, dOrT, dAndV, dOrV, dNotV, dPar, dFor, dSeqI, dRng1, dRng2, dZip2, dZip3, dEnum, dLC, dLCr, dLCM, finM, gII0, gII, onII, onI, gGcd, gNeg, gAdd, gIt, gIx, gLen, gTupC, gLstC, gLstCM, gAll, gAny, gBls, gSum, gIsi, gAbs, gInt, gStr, gEqB, gIsN, isNon, gRep, dRepM, dSl, dPart, dNoPart, gSl, dRev, dRevM, dM, dM0, gAppend, gPop, dFld, dSetF, dMeth, dMake, dPut, dDict, dPairs, dJoin, dJoined, dJs, dFmt, gIn, exOf, endD, on1, on2, ev_it0, ev_it1, ev_it2, ev_itn1, ev_itn, ev_len_t, ev_len_l, ev_sq_t, ev_sq_l, ev_lst_l, ev_so_t, ev_so_l, ev_so_k, ev_si_t, ev_si_l, ev_si_k, ev_ty_i, ev_ty_b, ev_ty_n, ev_ty_s, ev_ty_t, ev_ty_l, ev_eq_ii, ev_shp_i, ev_shp_b, ev_shp_n, ev_key_i, ev_key_s, kd_NoneType, kd_bool, kd_int, kd_str, kd_tuple, kd_list, kd_dict, ib_NoneType_NoneType, ib_NoneType_bool, ib_NoneType_int, ib_NoneType_str, ib_NoneType_tuple, ib_NoneType_list, ib_NoneType_dict, ib_bool_NoneType, ib_bool_bool, ib_bool_int, ib_bool_str, ib_bool_tuple, ib_bool_list, ib_bool_dict, ib_int_NoneType, ib_int_bool, ib_int_int, ib_int_str, ib_int_tuple, ib_int_list, ib_int_dict, ib_str_NoneType, ib_str_bool, ib_str_int, ib_str_str, ib_str_tuple, ib_str_list, ib_str_dict, ib_tuple_NoneType, ib_tuple_bool, ib_tuple_int, ib_tuple_str, ib_tuple_tuple, ib_tuple_list, ib_tuple_dict, ib_list_NoneType, ib_list_bool, ib_list_int, ib_list_str, ib_list_tuple, ib_list_list, ib_list_dict, ib_dict_NoneType, ib_dict_bool, ib_dict_int, ib_dict_str, ib_dict_tuple, ib_dict_list, ib_dict_dict, true_and, and_true, if_true, if_false, Bool.not_true, Bool.not_false, List.map_cons, List.map_nil, List.length_cons, List.length_nil, List.replicate, List.cons_append, List.nil_append, List.getElem?_cons_succ, List.getElem?_cons_zero, List.set_cons_succ, List.set_cons_zero, ite_true_eq, ite_false_eq, ite_nt_eq, ite_nf_eq, dec_true, dec_not, bxor_f, bxor_t]
        match xs, hl, q with
        | [a, b], _, q =>
          simp only [startD, dSeq, dNext, dBreak, dCont, dSet, dIfE, dIfS, dB, dOp, dVar, dC, dCB, dCons, dNil, dUn, dRet, dRetN, dTup, dLst, dLstM, dCall, dDrop, dAsg, dT, Tg.d, Tgs.d, dNotT, dAndT, dOrT, dAndV, dOrV, dNotV, dPar, dFor, dSeqI, dRng1, dRng2, dZip2, dZip3, dEnum, dLC, dLCr, dLCM, finM, gII0, gII, onII, onI, gGcd, gNeg, gAdd, gIt, gIx, gLen, gTupC, gLstC, gLstCM, gAll, gAny, gBls, gSum, gIsi, gAbs, gInt, gStr, gEqB, gIsN, isNon, gRep, dRepM, dSl, dPart, dNoPart, gSl, dRev, dRevM, dM, dM0, gAppend, gPop, dFld, dSetF, dMeth, dMake, dPut, dDict, dPairs, dJoin, dJoined, dJs, dFmt, gIn, exOf, endD, on1, on2, ev_it0, ev_it1, ev_it2, ev_itn1, ev_itn, ev_len_t, ev_len_l, ev_sq_t, ev_sq_l, ev_lst_l, ev_so_t, ev_so_l, ev_so_k, ev_si_t, ev_si_l, ev_si_k, ev_ty_i, ev_ty_b, ev_ty_n, ev_ty_s, ev_ty_t, ev_ty_l, ev_eq_ii, ev_shp_i, ev_shp_b, ev_shp_n, ev_key_i, ev_key_s, kd_NoneType, kd_bool, kd_int, kd_str, kd_tuple, kd_list, kd_dict, ib_NoneType_NoneType, ib_NoneType_bool, ib_NoneType_int, ib_NoneType_str, ib_NoneType_tuple, ib_NoneType_list, ib_NoneType_dict, ib_bool_NoneType, ib_bool_bool, ib_bool_int, ib_bool_str, ib_bool_tuple, ib_bool_list, ib_bool_dict, ib_int_NoneType, ib_int_bool, ib_int_int, ib_int_str, ib_int_tuple, ib_int_list, ib_int_dict, ib_str_NoneType, ib_str_bool, ib_str_int, ib_str_str, ib_str_tuple, ib_str_list, ib_str_dict, ib_tuple_NoneType, ib_tuple_bool, ib_tuple_int, ib_tuple_str, ib_tuple_tuple, ib_tuple_list, ib_tuple_dict, ib_list_NoneType, ib_list_bool, ib_list_int, ib_list_str, ib_list_tuple, ib_list_list, ib_list_dict, ib_dict_NoneType, ib_dict_bool, ib_dict_int, ib_dict_str, ib_dict_tuple, ib_dict_list, ib_dict_dict, true_and, and_true, if_true, if_false, Bool.not_true, Bool.not_false, List.map_cons, List.map_nil, List.length_cons, List.length_nil, List.replicate, List.cons_append, List.nil_append, List.getElem?_cons_succ, List.getElem?_cons_zero, List.set_cons_succ, List.set_cons_zero, ite_true_eq, ite_false_eq, ite_nt_eq, ite_nf_eq, dec_true, dec_not, bxor_f, bxor_t]
          cases a with
          | int x =>
            cases b with
            | int y =>
              simp only [isNum, List.all_cons, List.all_nil, id, Bool.and_true, if_true]
              try simp only [startD, dSeq, dNext, dBreak, dCont, dSet, dIfE, dIfS, dB, dOp, dVar, dC, dCB, dCons, dNil, dUn, dRet, dRetN, dTup, dLst, dLstM, dCall, dDrop, dAsg, dT, Tg.d, Tgs.d, dNotT, dAndT, dOrT, dAndV, dOrV, dNotV, dPar, dFor, dSeqI, dRng1, dRng2, dZip2, dZip3, dEnum, dLC, dLCr, dLCM, finM, gII0, gII, onII, onI, gGcd, gNeg, gAdd, gIt, gIx, gLen, gTupC, gLstC, gLstCM, gAll, gAny, gBls, gSum, gIsi, gAbs, gInt, gStr, gEqB, gIsN, isNon, gRep, dRepM, dSl, dPart, dNoPart, gSl, dRev, dRevM, dM, dM0, gAppend, gPop, dFld, dSetF, dMeth, dMake, dPut, dDict, dPairs, dJoin, dJoined, dJs, dFmt, gIn, exOf, endD, on1, on2, ev_it0, ev_it1, ev_it2, ev_itn1, ev_itn, ev_len_t, ev_len_l, ev_sq_t, ev_sq_l, ev_lst_l, ev_so_t, ev_so_l, ev_so_k, ev_si_t, ev_si_l, ev_si_k, ev_ty_i, ev_ty_b, ev_ty_n, ev_ty_s, ev_ty_t, ev_ty_l, ev_eq_ii, ev_shp_i, ev_shp_b, ev_shp_n, ev_key_i, ev_key_s, kd_NoneType, kd_bool, kd_int, kd_str, kd_tuple, kd_list, kd_dict, ib_NoneType_NoneType, ib_NoneType_bool, ib_NoneType_int, ib_NoneType_str, ib_NoneType_tuple, ib_NoneType_list, ib_NoneType_dict, ib_bool_NoneType, ib_bool_bool, ib_bool_int, ib_bool_str, ib_bool_tuple, ib_bool_list, ib_bool_dict, ib_int_NoneType, ib_int_bool, ib_int_int, ib_int_str, ib_int_tuple, ib_int_list, ib_int_dict, ib_str_NoneType, ib_str_bool, ib_str_int, ib_str_str, ib_str_tuple, ib_str_list, ib_str_dict, ib_tuple_NoneType, ib_tuple_bool, ib_tuple_int, ib_tuple_str, ib_tuple_tuple, ib_tuple_list, ib_tuple_dict, ib_list_NoneType, ib_list_bool, ib_list_int, ib_list_str, ib_list_tuple, ib_list_list, ib_list_dict, ib_dict_NoneType, ib_dict_bool, ib_dict_int, ib_dict_str, ib_dict_tuple, ib_dict_list, ib_dict_dict, true_and, and_true, if_true, if_false, Bool.not_true, Bool.not_false, List.map_cons, List.map_nil, List.length_cons, List.length_nil, List.replicate, List.cons_append, List.nil_append, List.getElem?_cons_succ, List.getElem?_cons_zero, List.set_cons_succ, List.set_cons_zero, ite_true_eq, ite_false_eq, ite_nt_eq, ite_nf_eq, dec_true, dec_not, bxor_f, bxor_t]
              simp only [isFrac] at q
              by_cases hy : 0 < y
              · rw [decide_eq_true hy] at q ⊢
                refine ⟨m, _, .refl, ?_⟩
                rw [Bool.true_and] at q
                have : (Nat.gcd x.natAbs y.natAbs == 1) = decide (((Nat.gcd x.natAbs y.natAbs : Nat) : Int) = 1) := by
                  by_cases h : Nat.gcd x.natAbs y.natAbs = 1
                  · rw [h]; rfl
                  · rw [decide_eq_false (by omega), beq_eq_false_iff_ne.mpr h]
                rw [← this]; exact q
              · rw [decide_eq_false hy] at q ⊢
                exact ⟨m, _, .refl, by simpa using q⟩
            | _ =>
              simp only [isNum, List.all_cons, List.all_nil, id, Bool.and_true, Bool.and_false, Bool.false_eq_true, if_false]
              exact ⟨m, _, .refl, q⟩
          | _ =>
            simp only [isNum, List.all_cons, List.all_nil, id, Bool.false_and, Bool.false_eq_true, if_false]
            exact ⟨m, _, .refl, q⟩
    · rw [if_neg hl]
      refine ⟨m, _, .refl, ?_⟩
      have : isFrac (.tup xs) = false := by
        unfold isFrac
        split
        · rename_i e
          cases e
          simp at hl
        · rfl
      rw [← this]; exact q
  | adr a =>
    simp only [T_is_fraction, ht, startD, dSeq, dNext, dBreak, dCont, dSet, dIfE, dIfS, dB, dOp, dVar, dC, dCB, dCons, dNil, dUn, dRet, dRetN, dTup, dLst, dLstM, dCall, dDrop, dAsg, dT, Tg.d, Tgs.d, dNotT, dAndT, dOrT, dAndV, dOrV, dNotV, dPar, dFor, dSeqI, dRng1, dRng2, dZip2, dZip3, dEnum, dLC, dLCr, dLCM, finM, gII0, gII, onII, onI, gGcd, gNeg, gAdd, gIt, gIx, gLen, gTupC, gLstC, gLstCM, gAll, gAny, gBls, gSum, gIsi, gAbs, gInt, gStr, gEqB, gIsN, isNon, gRep, dRepM, dSl, dPart, dNoPart, gSl, dRev, dRevM, dM, dM0, gAppend, gPop, dFld, dSetF, dMeth, dMake, dPut, dDict, dPairs, dJoin, dJoined, dJs, dFmt, gIn, exOf, endD, on1, on2, ev_it0, ev_it1, ev_it2, ev_itn1, ev_itn, ev_len_t, ev_len_l, ev_sq_t, ev_sq_l, ev_lst_l, ev_so_t, ev_so_l, ev_so_k, ev_si_t, ev_si_l, ev_si_k, ev_ty_i, ev_ty_b, ev_ty_n, ev_ty_s, ev_ty_t, ev_ty_l, ev_eq_ii, ev_shp_i, ev_shp_b, ev_shp_n, ev_key_i, ev_key_s, kd_NoneType, kd_bool, kd_int, kd_str, kd_tuple, kd_list, kd_dict, ib_NoneType_NoneType, ib_NoneType_bool, ib_NoneType_int, ib_NoneType_str, ib_NoneType_tuple, ib_NoneType_list, ib_NoneType_dict, ib_bool_NoneType, ib_bool_bool, ib_bool_int, ib_bool_str, ib_bool_tuple, ib_bool_list, ib_bool_dict, ib_int_NoneType, ib_int_bool, ib_int_int, ib_int_str, ib_int_tuple, ib_int_list, ib_int_dict, ib_str_NoneType, ib_str_bool, ib_str_int, ib_str_str, ib_str_tuple, ib_str_list, ib_str_dict, ib_tuple_NoneType, ib_tuple_bool, ib_tuple_int, ib_tuple_str, ib_tuple_tuple, ib_tuple_list, ib_tuple_dict, ib_list_NoneType, ib_list_bool, ib_list_int, ib_list_str, ib_list_tuple, ib_list_list, ib_list_dict, ib_dict_NoneType, ib_dict_bool, ib_dict_int, ib_dict_str, ib_dict_tuple, ib_dict_list, ib_dict_dict, true_and, and_true, if_true, if_false, Bool.not_true, Bool.not_false, List.map_cons, List.map_nil, List.length_cons, List.length_nil, List.replicate, List.cons_append, List.nil_append, List.getElem?_cons_succ, List.getElem?_cons_zero, List.set_cons_succ, List.set_cons_zero, ite_true_eq, ite_false_eq, ite_nt_eq, ite_nf_eq, dec_true, dec_not, bxor_f, bxor_t]
    have e : isB t "tuple" = false := by
      simp only [tyD] at ht
      split at ht <;> first | (cases ht; rfl) | cases ht
    rw [e]
    simp only [Bool.false_eq_true, startD, dSeq, dNext, dBreak, dCont, dSet, dIfE, dIfS, dB, dOp, dVar, dC, dCB, dCons, dNil, dUn, dRet, dRetN, dTup, dLst, dLstM, dCall, dDrop, dAsg, dT, Tg.d, Tgs.d, dNotT, dAndT, dOrT, dAndV, dOrV, dNotV, dPar, dFor, dSeqI, dRng1, dRng2, dZip2, dZip3, dEnum, dLC, dLCr, dLCM, finM, gII0, gII, onII, onI, gGcd, gNeg, gAdd, gIt, gIx, gLen, gTupC, gLstC, gLstCM, gAll, gAny, gBls, gSum, gIsi, gAbs, gInt, gStr, gEqB, gIsN, isNon, gRep, dRepM, dSl, dPart, dNoPart, gSl, dRev, dRevM, dM, dM0, gAppend, gPop, dFld, dSetF, dMeth, dMake, dPut, dDict, dPairs, dJoin, dJoined, dJs, dFmt, gIn, exOf, endD, on1, on2, ev_it0, ev_it1, ev_it2, ev_itn1, ev_itn, ev_len_t, ev_len_l, ev_sq_t, ev_sq_l, ev_lst_l, ev_so_t, ev_so_l, ev_so_k, ev_si_t, ev_si_l, ev_si_k, ev_ty_i, ev_ty_b, ev_ty_n, ev_ty_s, ev_ty_t, ev_ty_l, ev_eq_ii, ev_shp_i, ev_shp_b, ev_shp_n, ev_key_i, ev_key_s, kd_NoneType, kd_bool, kd_int, kd_str, kd_tuple, kd_list, kd_dict, ib_NoneType_NoneType, ib_NoneType_bool, ib_NoneType_int, ib_NoneType_str, ib_NoneType_tuple, ib_NoneType_list, ib_NoneType_dict, ib_bool_NoneType, ib_bool_bool, ib_bool_int, ib_bool_str, ib_bool_tuple, ib_bool_list, ib_bool_dict, ib_int_NoneType, ib_int_bool, ib_int_int, ib_int_str, ib_int_tuple, ib_int_list, ib_int_dict, ib_str_NoneType, ib_str_bool, ib_str_int, ib_str_str, ib_str_tuple, ib_str_list, ib_str_dict, ib_tuple_NoneType, ib_tuple_bool, ib_tuple_int, ib_tuple_str, ib_tuple_tuple, ib_tuple_list, ib_tuple_dict, ib_list_NoneType, ib_list_bool, ib_list_int, ib_list_str, ib_list_tuple, ib_list_list, ib_list_dict, ib_dict_NoneType, ib_dict_bool, ib_dict_int, ib_dict_str, ib_dict_tuple, ib_dict_list, ib_dict_dict, true_and, and_true, if_true, if_false, Bool.not_true, Bool.not_false, List.map_cons, List.map_nil, List.length_cons, List.length_nil, List.replicate, List.cons_append, List.nil_append, List.getElem?_cons_succ, List.getElem?_cons_zero, List.set_cons_succ, List.set_cons_zero, ite_true_eq, ite_false_eq, ite_nt_eq, ite_nf_eq, dec_true, dec_not, bxor_f, bxor_t]
    exact ⟨m, _, .refl, q⟩
  | _ =>
    first
      | (simp [tyD] at ht; done)
      | (simp only [T_is_fraction, startD, dSeq, dNext, dBreak, dCont, dSet, dIfE, dIfS, dB, dOp, dVar, dC, dCB, dCons, dNil, dUn, dRet, dRetN, dTup, dLst, dLstM, dCall, dDrop, dAsg, dT, Tg.d, Tgs.d, dNotT, dAndT, dOrT, dAndV, dOrV, dNotV, dPar, dFor, dSeqI, dRng1, dRng2, dZip2, dZip3, dEnum, dLC, dLCr, dLCM, finM, gII0, gII, onII, onI, gGcd, gNeg, gAdd, gIt, gIx, gLen, gTupC, gLstC, gLstCM, gAll, gAny, gBls, gSum, gIsi, gAbs, gInt, gStr, gEqB, gIsN, isNon, gRep, dRepM, dSl, dPart, dNoPart, gSl, dRev, dRevM, dM, dM0, gAppend, gPop, dFld, dSetF, dMeth, dMake, dPut, dDict, dPairs, dJoin, dJoined, dJs, dFmt, gIn, exOf, endD, on1, on2, ev_it0, ev_it1, ev_it2, ev_itn1, ev_itn, ev_len_t, ev_len_l, ev_sq_t, ev_sq_l, ev_lst_l, ev_so_t, ev_so_l, ev_so_k, ev_si_t, ev_si_l, ev_si_k, ev_ty_i, ev_ty_b, ev_ty_n, ev_ty_s, ev_ty_t, ev_ty_l, ev_eq_ii, ev_shp_i, ev_shp_b, ev_shp_n, ev_key_i, ev_key_s, kd_NoneType, kd_bool, kd_int, kd_str, kd_tuple, kd_list, kd_dict, ib_NoneType_NoneType, ib_NoneType_bool, ib_NoneType_int, ib_NoneType_str, ib_NoneType_tuple, ib_NoneType_list, ib_NoneType_dict, ib_bool_NoneType, ib_bool_bool, ib_bool_int, ib_bool_str, ib_bool_tuple, ib_bool_list, ib_bool_dict, ib_int_NoneType, ib_int_bool, ib_int_int, ib_int_str, ib_int_tuple, ib_int_list, ib_int_dict, ib_str_NoneType, ib_str_bool, ib_str_int, ib_str_str, ib_str_tuple, ib_str_list, ib_str_dict, ib_tuple_NoneType, ib_tuple_bool, ib_tuple_int, ib_tuple_str, ib_tuple_tuple, ib_tuple_list, ib_tuple_dict, ib_list_NoneType, ib_list_bool, ib_list_int, ib_list_str, ib_list_tuple, ib_list_list, ib_list_dict, ib_dict_NoneType, ib_dict_bool, ib_dict_int, ib_dict_str, ib_dict_tuple, ib_dict_list, ib_dict_dict, true_and, and_true, if_true, if_false, Bool.not_true, Bool.not_false, List.map_cons, List.map_nil, List.length_cons, List.length_nil, List.replicate, List.cons_append, List.nil_append, List.getElem?_cons_succ, List.getElem?_cons_zero, List.set_cons_succ, List.set_cons_zero, ite_true_eq, ite_false_eq, ite_nt_eq, ite_nf_eq, dec_true, dec_not, bxor_f, bxor_t]; exact ⟨m, _, .refl, q⟩)
theorem isFrac_enc (q : Rat) : isFrac (enc q) = true := by
  unfold isFrac enc
  have h1 := q.den_pos
  have h2 := q.reduced
  simp only [Bool.and_eq_true, decide_eq_true_eq]
  refine ⟨by omega, ?_⟩
  rw [Int.natAbs_natCast]
  exact beq_iff_eq.mpr h2
theorem Kn2.enc {m : MM} {q : Rat} : Kn2 m (enc q) := ⟨.tup, fun xs e => by
  unfold Y.enc at e
  cases e
  refine ⟨fun x hx => ?_, two_le⟩
  simp at hx
  rcases hx with rfl | rfl <;> exact .int⟩
theorem cm_of {i j : Int} {a b : Nat} (h1 : i.natAbs < 2 ^ a) (h2 : j.natAbs < 2 ^ b) (h : a + b ≤ 9000) : CM i j := by
  have := lg_le h1
  have := lg_le h2
  unfold CM; omega
theorem nd_lt {q : Rat} {a : Nat} (h : Sm a q) : ((q.den : Nat) : Int).natAbs < 2 ^ a := by simpa using h.2
theorem den_ne {x y : Rat} : ((x.den : Nat) : Int) * ((y.den : Nat) : Int) ≠ 0 := Int.mul_ne_zero (by have := x.den_pos; omega) (by have := y.den_pos; omega)
theorem pow_le_8999 {n k : Nat} (h : n < 2 ^ k) (hk : k ≤ 8999) : n < 2 ^ 8999 := Nat.lt_of_lt_of_le h (Nat.pow_le_pow_right (by decide) hk)
def S_plus : DS := fun ds m Q X => ∃ (x y : Rat) (a b : Nat), ds = [enc x, enc y] ∧ Sm a x ∧ Sm b y ∧ a + b ≤ 8990 ∧ Q (enc (x + y)) m
def T_plus : DSt := (dRet (dCall S_in_form (dCons (dOp gAdd (dOp gMul (dOp gIt (dVar 0) (dC (.int 0))) (dOp gIt (dVar 1) (dC (.int 1)))) (dOp gMul (dOp gIt (dVar 1) (dC (.int 0))) (dOp gIt (dVar 0) (dC (.int 1))))) (dCons (dOp gMul (dOp gIt (dVar 0) (dC (.int 1))) (dOp gIt (dVar 1) (dC (.int 1)))) dNil))))
theorem H_plus (ds : List D) (m : MM) (Q : D → MM → Prop) (Px : XC) (h : S_plus ds m Q Px) : ds.length = 2 ∧ T_plus (endD Q Px) (startD ["x", "y"] ds) m := by
  obtain ⟨x, y, a, b, rfl, hx, hy, hl, q⟩ := h
  refine ⟨rfl, ?_⟩
  simp only [T_plus, enc, startD, dSeq, dNext, dBreak, dCont, dSet, dIfE, dIfS, dB, dOp, dVar, dC, dCB, dCons, dNil, dUn, dRet, dRetN, dTup, dLst, dLstM, dCall, dDrop, dAsg, dT, Tg.d, Tgs.d, dNotT, dAndT, dOrT, dAndV, dOrV, dNotV, dPar, dFor, dSeqI, dRng1, dRng2, dZip2, dZip3, dEnum, dLC, dLCr, dLCM, finM, gII0, gII, onII, onI, gGcd, gNeg, gAdd, gIt, gIx, gLen, gTupC, gLstC, gLstCM, gAll, gAny, gBls, gSum, gIsi, gAbs, gInt, gStr, gEqB, gIsN, isNon, gRep, dRepM, dSl, dPart, dNoPart, gSl, dRev, dRevM, dM, dM0, gAppend, gPop, dFld, dSetF, dMeth, dMake, dPut, dDict, dPairs, dJoin, dJoined, dJs, dFmt, gIn, exOf, endD, on1, on2, ev_it0, ev_it1, ev_it2, ev_itn1, ev_itn, ev_len_t, ev_len_l, ev_sq_t, ev_sq_l, ev_lst_l, ev_so_t, ev_so_l, ev_so_k, ev_si_t, ev_si_l, ev_si_k, ev_ty_i, ev_ty_b, ev_ty_n, ev_ty_s, ev_ty_t, ev_ty_l, ev_eq_ii, ev_shp_i, ev_shp_b, ev_shp_n, ev_key_i, ev_key_s, kd_NoneType, kd_bool, kd_int, kd_str, kd_tuple, kd_list, kd_dict, ib_NoneType_NoneType, ib_NoneType_bool, ib_NoneType_int, ib_NoneType_str, ib_NoneType_tuple, ib_NoneType_list, ib_NoneType_dict, ib_bool_NoneType, ib_bool_bool, ib_bool_int, ib_bool_str, ib_bool_tuple, ib_bool_list, ib_bool_dict, ib_int_NoneType, ib_int_bool, ib_int_int, ib_int_str, ib_int_tuple, ib_int_list, ib_int_dict, ib_str_NoneType, ib_str_bool, ib_str_int, ib_str_str, ib_str_tuple, ib_str_list, ib_str_dict, ib_tuple_NoneType, ib_tuple_bool, ib_tuple_int, ib_tuple_str, ib_tuple_tuple, ib_tuple_list, ib_tuple_dict, ib_list_NoneType, ib_list_bool, ib_list_int, ib_list_str, ib_list_tuple, ib_list_list, ib_list_dict, ib_dict_NoneType, ib_dict_bool, ib_dict_int, ib_dict_str, ib_dict_tuple, ib_dict_list, ib_dict_dict, true_and, and_true, if_true, if_false, Bool.not_true, Bool.not_false, List.map_cons, List.map_nil, List.length_cons, List.length_nil, List.replicate, List.cons_append, List.nil_append, List.getElem?_cons_succ, List.getElem?_cons_zero, List.set_cons_succ, List.set_cons_zero, ite_true_eq, ite_false_eq, ite_nt_eq, ite_nf_eq, dec_true, dec_not, bxor_f, bxor_t]
  refine ⟨cm_of hx.1 (nd_lt hy) (by omega), cm_of hy.1 (nd_lt hx) (by omega), cm_of (nd_lt hx) (nd_lt hy) (by omega), _, _, rfl, den_ne, pow_le_8999 (hx.n_dd hy) (by omega), m, _, .refl, ?_⟩
  rw [← add_divInt]; exact q
def S_minus : DS := fun ds m Q X => ∃ (x y : Rat) (a b : Nat), ds = [enc x, enc y] ∧ Sm a x ∧ Sm b y ∧ a + b ≤ 8990 ∧ Q (enc (x - y)) m
def T_minus : DSt := (dRet (dCall S_in_form (dCons (dOp gSub (dOp gMul (dOp gIt (dVar 0) (dC (.int 0))) (dOp gIt (dVar 1) (dC (.int 1)))) (dOp gMul (dOp gIt (dVar 1) (dC (.int 0))) (dOp gIt (dVar 0) (dC (.int 1))))) (dCons (dOp gMul (dOp gIt (dVar 0) (dC (.int 1))) (dOp gIt (dVar 1) (dC (.int 1)))) dNil))))
theorem H_minus (ds : List D) (m : MM) (Q : D → MM → Prop) (Px : XC) (h : S_minus ds m Q Px) : ds.length = 2 ∧ T_minus (endD Q Px) (startD ["x", "y"] ds) m := by
  obtain ⟨x, y, a, b, rfl, hx, hy, hl, q⟩ := h
  refine ⟨rfl, ?_⟩
  simp only [T_minus, enc, startD, dSeq, dNext, dBreak, dCont, dSet, dIfE, dIfS, dB, dOp, dVar, dC, dCB, dCons, dNil, dUn, dRet, dRetN, dTup, dLst, dLstM, dCall, dDrop, dAsg, dT, Tg.d, Tgs.d, dNotT, dAndT, dOrT, dAndV, dOrV, dNotV, dPar, dFor, dSeqI, dRng1, dRng2, dZip2, dZip3, dEnum, dLC, dLCr, dLCM, finM, gII0, gII, onII, onI, gGcd, gNeg, gAdd, gIt, gIx, gLen, gTupC, gLstC, gLstCM, gAll, gAny, gBls, gSum, gIsi, gAbs, gInt, gStr, gEqB, gIsN, isNon, gRep, dRepM, dSl, dPart, dNoPart, gSl, dRev, dRevM, dM, dM0, gAppend, gPop, dFld, dSetF, dMeth, dMake, dPut, dDict, dPairs, dJoin, dJoined, dJs, dFmt, gIn, exOf, endD, on1, on2, ev_it0, ev_it1, ev_it2, ev_itn1, ev_itn, ev_len_t, ev_len_l, ev_sq_t, ev_sq_l, ev_lst_l, ev_so_t, ev_so_l, ev_so_k, ev_si_t, ev_si_l, ev_si_k, ev_ty_i, ev_ty_b, ev_ty_n, ev_ty_s, ev_ty_t, ev_ty_l, ev_eq_ii, ev_shp_i, ev_shp_b, ev_shp_n, ev_key_i, ev_key_s, kd_NoneType, kd_bool, kd_int, kd_str, kd_tuple, kd_list, kd_dict, ib_NoneType_NoneType, ib_NoneType_bool, ib_NoneType_int, ib_NoneType_str, ib_NoneType_tuple, ib_NoneType_list, ib_NoneType_dict, ib_bool_NoneType, ib_bool_bool, ib_bool_int, ib_bool_str, ib_bool_tuple, ib_bool_list, ib_bool_dict, ib_int_NoneType, ib_int_bool, ib_int_int, ib_int_str, ib_int_tuple, ib_int_list, ib_int_dict, ib_str_NoneType, ib_str_bool, ib_str_int, ib_str_str, ib_str_tuple, ib_str_list, ib_str_dict, ib_tuple_NoneType, ib_tuple_bool, ib_tuple_int, ib_tuple_str, ib_tuple_tuple, ib_tuple_list, ib_tuple_dict, ib_list_NoneType, ib_list_bool, ib_list_int, ib_list_str, ib_list_tuple, ib_list_list, ib_list_dict, ib_dict_NoneType, ib_dict_bool, ib_dict_int, ib_dict_str, ib_dict_tuple, ib_dict_list, ib_dict_dict, true_and, and_true, if_true, if_false, Bool.not_true, Bool.not_false, List.map_cons, List.map_nil, List.length_cons, List.length_nil, List.replicate, List.cons_append, List.nil_append, List.getElem?_cons_succ, List.getElem?_cons_zero, List.set_cons_succ, List.set_cons_zero, ite_true_eq, ite_false_eq, ite_nt_eq, ite_nf_eq, dec_true, dec_not, bxor_f, bxor_t]
  refine ⟨cm_of hx.1 (nd_lt hy) (by omega), cm_of hy.1 (nd_lt hx) (by omega), cm_of (nd_lt hx) (nd_lt hy) (by omega), _, _, rfl, den_ne, pow_le_8999 (hx.n_dd hy) (by omega), m, _, .refl, ?_⟩
  rw [← sub_divInt]; exact q
def S_times_of : DS := fun ds m Q X => ∃ (x y : Rat) (a b : Nat), ds = [enc x, enc y] ∧ Sm a x ∧ Sm b y ∧ a + b ≤ 8990 ∧ Q (enc (x * y)) m
def T_times_of : DSt := (dRet (dCall S_in_form (dCons (dOp gMul (dOp gIt (dVar 0) (dC (.int 0))) (dOp gIt (dVar 1) (dC (.int 0)))) (dCons (dOp gMul (dOp gIt (dVar 0) (dC (.int 1))) (dOp gIt (dVar 1) (dC (.int 1)))) dNil))))
theorem H_times_of (ds : List D) (m : MM) (Q : D → MM → Prop) (Px : XC) (h : S_times_of ds m Q Px) : ds.length = 2 ∧ T_times_of (endD Q Px) (startD ["x", "y"] ds) m := by
  obtain ⟨x, y, a, b, rfl, hx, hy, hl, q⟩ := h
  refine ⟨rfl, ?_⟩
  simp only [T_times_of, enc, startD, dSeq, dNext, dBreak, dCont, dSet, dIfE, dIfS, dB, dOp, dVar, dC, dCB, dCons, dNil, dUn, dRet, dRetN, dTup, dLst, dLstM, dCall, dDrop, dAsg, dT, Tg.d, Tgs.d, dNotT, dAndT, dOrT, dAndV, dOrV, dNotV, dPar, dFor, dSeqI, dRng1, dRng2, dZip2, dZip3, dEnum, dLC, dLCr, dLCM, finM, gII0, gII, onII, onI, gGcd, gNeg, gAdd, gIt, gIx, gLen, gTupC, gLstC, gLstCM, gAll, gAny, gBls, gSum, gIsi, gAbs, gInt, gStr, gEqB, gIsN, isNon, gRep, dRepM, dSl, dPart, dNoPart, gSl, dRev, dRevM, dM, dM0, gAppend, gPop, dFld, dSetF, dMeth, dMake, dPut, dDict, dPairs, dJoin, dJoined, dJs, dFmt, gIn, exOf, endD, on1, on2, ev_it0, ev_it1, ev_it2, ev_itn1, ev_itn, ev_len_t, ev_len_l, ev_sq_t, ev_sq_l, ev_lst_l, ev_so_t, ev_so_l, ev_so_k, ev_si_t, ev_si_l, ev_si_k, ev_ty_i, ev_ty_b, ev_ty_n, ev_ty_s, ev_ty_t, ev_ty_l, ev_eq_ii, ev_shp_i, ev_shp_b, ev_shp_n, ev_key_i, ev_key_s, kd_NoneType, kd_bool, kd_int, kd_str, kd_tuple, kd_list, kd_dict, ib_NoneType_NoneType, ib_NoneType_bool, ib_NoneType_int, ib_NoneType_str, ib_NoneType_tuple, ib_NoneType_list, ib_NoneType_dict, ib_bool_NoneType, ib_bool_bool, ib_bool_int, ib_bool_str, ib_bool_tuple, ib_bool_list, ib_bool_dict, ib_int_NoneType, ib_int_bool, ib_int_int, ib_int_str, ib_int_tuple, ib_int_list, ib_int_dict, ib_str_NoneType, ib_str_bool, ib_str_int, ib_str_str, ib_str_tuple, ib_str_list, ib_str_dict, ib_tuple_NoneType, ib_tuple_bool, ib_tuple_int, ib_tuple_str, ib_tuple_tuple, ib_tuple_list, ib_tuple_dict, ib_list_NoneType, ib_list_bool, ib_list_int, ib_list_str, ib_list_tuple, ib_list_list, ib_list_dict, ib_dict_NoneType, ib_dict_bool, ib_dict_int, ib_dict_str, ib_dict_tuple, ib_dict_list, ib_dict_dict, true_and, and_true, if_true, if_false, Bool.not_true, Bool.not_false, List.map_cons, List.map_nil, List.length_cons, List.length_nil, List.replicate, List.cons_append, List.nil_append, List.getElem?_cons_succ, List.getElem?_cons_zero, List.set_cons_succ, List.set_cons_zero, ite_true_eq, ite_false_eq, ite_nt_eq, ite_nf_eq, dec_true, dec_not, bxor_f, bxor_t]
  refine ⟨cm_of hx.1 hy.1 (by omega), cm_of (nd_lt hx) (nd_lt hy) (by omega), _, _, rfl, den_ne, pow_le_8999 (hx.n_dd hy) (by omega), m, _, .refl, ?_⟩
  rw [← mul_divInt]; exact q
theorem div_divInt (x y : Rat) : x / y = Rat.divInt (x.num * (y.den : Int)) ((x.den : Int) * y.num) := by
  rw [Rat.div_def, Rat.inv_def]
  conv => lhs; rw [← Rat.num_divInt_den x]
  rw [Rat.divInt_mul_divInt]
def S_divided : DS := fun ds m Q X => ∃ (x y : Rat) (a b : Nat), ds = [enc x, enc y] ∧ y ≠ 0 ∧ Sm a x ∧ Sm b y ∧ a + b ≤ 8990 ∧ Q (enc (x / y)) m
def T_divided : DSt := (dRet (dCall S_fraction (dCons (dOp gMul (dOp gIt (dVar 0) (dC (.int 0))) (dOp gIt (dVar 1) (dC (.int 1)))) (dCons (dOp gMul (dOp gIt (dVar 0) (dC (.int 1))) (dOp gIt (dVar 1) (dC (.int 0)))) dNil))))
theorem H_divided (ds : List D) (m : MM) (Q : D → MM → Prop) (Px : XC) (h : S_divided ds m Q Px) : ds.length = 2 ∧ T_divided (endD Q Px) (startD ["x", "y"] ds) m := by
  obtain ⟨x, y, a, b, rfl, h0, hx, hy, hl, q⟩ := h
  refine ⟨rfl, ?_⟩
  simp only [T_divided, enc, startD, dSeq, dNext, dBreak, dCont, dSet, dIfE, dIfS, dB, dOp, dVar, dC, dCB, dCons, dNil, dUn, dRet, dRetN, dTup, dLst, dLstM, dCall, dDrop, dAsg, dT, Tg.d, Tgs.d, dNotT, dAndT, dOrT, dAndV, dOrV, dNotV, dPar, dFor, dSeqI, dRng1, dRng2, dZip2, dZip3, dEnum, dLC, dLCr, dLCM, finM, gII0, gII, onII, onI, gGcd, gNeg, gAdd, gIt, gIx, gLen, gTupC, gLstC, gLstCM, gAll, gAny, gBls, gSum, gIsi, gAbs, gInt, gStr, gEqB, gIsN, isNon, gRep, dRepM, dSl, dPart, dNoPart, gSl, dRev, dRevM, dM, dM0, gAppend, gPop, dFld, dSetF, dMeth, dMake, dPut, dDict, dPairs, dJoin, dJoined, dJs, dFmt, gIn, exOf, endD, on1, on2, ev_it0, ev_it1, ev_it2, ev_itn1, ev_itn, ev_len_t, ev_len_l, ev_sq_t, ev_sq_l, ev_lst_l, ev_so_t, ev_so_l, ev_so_k, ev_si_t, ev_si_l, ev_si_k, ev_ty_i, ev_ty_b, ev_ty_n, ev_ty_s, ev_ty_t, ev_ty_l, ev_eq_ii, ev_shp_i, ev_shp_b, ev_shp_n, ev_key_i, ev_key_s, kd_NoneType, kd_bool, kd_int, kd_str, kd_tuple, kd_list, kd_dict, ib_NoneType_NoneType, ib_NoneType_bool, ib_NoneType_int, ib_NoneType_str, ib_NoneType_tuple, ib_NoneType_list, ib_NoneType_dict, ib_bool_NoneType, ib_bool_bool, ib_bool_int, ib_bool_str, ib_bool_tuple, ib_bool_list, ib_bool_dict, ib_int_NoneType, ib_int_bool, ib_int_int, ib_int_str, ib_int_tuple, ib_int_list, ib_int_dict, ib_str_NoneType, ib_str_bool, ib_str_int, ib_str_str, ib_str_tuple, ib_str_list, ib_str_dict, ib_tuple_NoneType, ib_tuple_bool, ib_tuple_int, ib_tuple_str, ib_tuple_tuple, ib_tuple_list, ib_tuple_dict, ib_list_NoneType, ib_list_bool, ib_list_int, ib_list_str, ib_list_tuple, ib_list_list, ib_list_dict, ib_dict_NoneType, ib_dict_bool, ib_dict_int, ib_dict_str, ib_dict_tuple, ib_dict_list, ib_dict_dict, true_and, and_true, if_true, if_false, Bool.not_true, Bool.not_false, List.map_cons, List.map_nil, List.length_cons, List.length_nil, List.replicate, List.cons_append, List.nil_append, List.getElem?_cons_succ, List.getElem?_cons_zero, List.set_cons_succ, List.set_cons_zero, ite_true_eq, ite_false_eq, ite_nt_eq, ite_nf_eq, dec_true, dec_not, bxor_f, bxor_t]
  have hn : ((x.den : Nat) : Int) * y.num ≠ 0 := Int.mul_ne_zero (by have := x.den_pos; omega) (fun e => h0 (Rat.num_eq_zero.mp e))
  have hd : (((x.den : Nat) : Int) * y.num).natAbs < 2 ^ (a + b) := by rw [Int.natAbs_mul]; exact mul_lt2 (by simpa using hx.2) hy.1
  refine ⟨cm_of hx.1 (nd_lt hy) (by omega), cm_of (nd_lt hx) hy.1 (by omega), _, _, rfl, hn, pow_le_8999 hd (by omega), m, _, .refl, ?_⟩
  rw [← div_divInt]; exact q
def S_is_less : DS := fun ds m Q X => ∃ (x y : Rat) (a b : Nat), ds = [enc x, enc y] ∧ Sm a x ∧ Sm b y ∧ a + b ≤ 8990 ∧ Q (.bl (decide (x < y))) m
def T_is_less : DSt := (dRet (dOp gLt (dOp gMul (dOp gIt (dVar 0) (dC (.int 0))) (dOp gIt (dVar 1) (dC (.int 1)))) (dOp gMul (dOp gIt (dVar 1) (dC (.int 0))) (dOp gIt (dVar 0) (dC (.int 1))))))
theorem H_is_less (ds : List D) (m : MM) (Q : D → MM → Prop) (Px : XC) (h : S_is_less ds m Q Px) : ds.length = 2 ∧ T_is_less (endD Q Px) (startD ["x", "y"] ds) m := by
  obtain ⟨x, y, a, b, rfl, hx, hy, hl, q⟩ := h
  refine ⟨rfl, ?_⟩
  simp only [T_is_less, enc, startD, dSeq, dNext, dBreak, dCont, dSet, dIfE, dIfS, dB, dOp, dVar, dC, dCB, dCons, dNil, dUn, dRet, dRetN, dTup, dLst, dLstM, dCall, dDrop, dAsg, dT, Tg.d, Tgs.d, dNotT, dAndT, dOrT, dAndV, dOrV, dNotV, dPar, dFor, dSeqI, dRng1, dRng2, dZip2, dZip3, dEnum, dLC, dLCr, dLCM, finM, gII0, gII, onII, onI, gGcd, gNeg, gAdd, gIt, gIx, gLen, gTupC, gLstC, gLstCM, gAll, gAny, gBls, gSum, gIsi, gAbs, gInt, gStr, gEqB, gIsN, isNon, gRep, dRepM, dSl, dPart, dNoPart, gSl, dRev, dRevM, dM, dM0, gAppend, gPop, dFld, dSetF, dMeth, dMake, dPut, dDict, dPairs, dJoin, dJoined, dJs, dFmt, gIn, exOf, endD, on1, on2, ev_it0, ev_it1, ev_it2, ev_itn1, ev_itn, ev_len_t, ev_len_l, ev_sq_t, ev_sq_l, ev_lst_l, ev_so_t, ev_so_l, ev_so_k, ev_si_t, ev_si_l, ev_si_k, ev_ty_i, ev_ty_b, ev_ty_n, ev_ty_s, ev_ty_t, ev_ty_l, ev_eq_ii, ev_shp_i, ev_shp_b, ev_shp_n, ev_key_i, ev_key_s, kd_NoneType, kd_bool, kd_int, kd_str, kd_tuple, kd_list, kd_dict, ib_NoneType_NoneType, ib_NoneType_bool, ib_NoneType_int, ib_NoneType_str, ib_NoneType_tuple, ib_NoneType_list, ib_NoneType_dict, ib_bool_NoneType, ib_bool_bool, ib_bool_int, ib_bool_str, ib_bool_tuple, ib_bool_list, ib_bool_dict, ib_int_NoneType, ib_int_bool, ib_int_int, ib_int_str, ib_int_tuple, ib_int_list, ib_int_dict, ib_str_NoneType, ib_str_bool, ib_str_int, ib_str_str, ib_str_tuple, ib_str_list, ib_str_dict, ib_tuple_NoneType, ib_tuple_bool, ib_tuple_int, ib_tuple_str, ib_tuple_tuple, ib_tuple_list, ib_tuple_dict, ib_list_NoneType, ib_list_bool, ib_list_int, ib_list_str, ib_list_tuple, ib_list_list, ib_list_dict, ib_dict_NoneType, ib_dict_bool, ib_dict_int, ib_dict_str, ib_dict_tuple, ib_dict_list, ib_dict_dict, true_and, and_true, if_true, if_false, Bool.not_true, Bool.not_false, List.map_cons, List.map_nil, List.length_cons, List.length_nil, List.replicate, List.cons_append, List.nil_append, List.getElem?_cons_succ, List.getElem?_cons_zero, List.set_cons_succ, List.set_cons_zero, ite_true_eq, ite_false_eq, ite_nt_eq, ite_nf_eq, dec_true, dec_not, bxor_f, bxor_t]
  refine ⟨cm_of hx.1 (nd_lt hy) (by omega), cm_of hy.1 (nd_lt hx) (by omega), m, _, .refl, ?_⟩
  have e : decide (x < y) = decide (x.num * (y.den : Int) < y.num * (x.den : Int)) := decide_eq_decide.mpr (Rat.lt_iff x y)
  rw [← e]; exact q
/-- the size of a fraction -/
def rab (x : Rat) : Rat := if x.num < 0 then -x else x
theorem enc_rab (x : Rat) : enc (rab x) = .tup [.int (if x.num < 0 then -x.num else x.num), .int (x.den : Int)] := by
  unfold rab enc
  split
  · rw [Rat.neg_num, Rat.neg_den]
  · rfl
theorem Sm.rab {a : Nat} {x : Rat} (h : Sm a x) : Sm a (rab x) := by
  unfold Y.rab
  split
  · exact h.neg
  · exact h
def S_size_of : DS := fun ds m Q X => ∃ x : Rat, ds = [enc x] ∧ Q (enc (rab x)) m
def T_size_of : DSt := (dRet (dTup (dCons (dCB gAbs (dCons (dOp gIt (dVar 0) (dC (.int 0))) dNil)) (dCons (dOp gIt (dVar 0) (dC (.int 1))) dNil))))
theorem H_size_of (ds : List D) (m : MM) (Q : D → MM → Prop) (Px : XC) (h : S_size_of ds m Q Px) : ds.length = 1 ∧ T_size_of (endD Q Px) (startD ["x"] ds) m := by
  obtain ⟨x, rfl, q⟩ := h
  refine ⟨rfl, ?_⟩
  rw [enc_rab] at q
  simp only [T_size_of, enc, startD, dSeq, dNext, dBreak, dCont, dSet, dIfE, dIfS, dB, dOp, dVar, dC, dCB, dCons, dNil, dUn, dRet, dRetN, dTup, dLst, dLstM, dCall, dDrop, dAsg, dT, Tg.d, Tgs.d, dNotT, dAndT, dOrT, dAndV, dOrV, dNotV, dPar, dFor, dSeqI, dRng1, dRng2, dZip2, dZip3, dEnum, dLC, dLCr, dLCM, finM, gII0, gII, onII, onI, gGcd, gNeg, gAdd, gIt, gIx, gLen, gTupC, gLstC, gLstCM, gAll, gAny, gBls, gSum, gIsi, gAbs, gInt, gStr, gEqB, gIsN, isNon, gRep, dRepM, dSl, dPart, dNoPart, gSl, dRev, dRevM, dM, dM0, gAppend, gPop, dFld, dSetF, dMeth, dMake, dPut, dDict, dPairs, dJoin, dJoined, dJs, dFmt, gIn, exOf, endD, on1, on2, ev_it0, ev_it1, ev_it2, ev_itn1, ev_itn, ev_len_t, ev_len_l, ev_sq_t, ev_sq_l, ev_lst_l, ev_so_t, ev_so_l, ev_so_k, ev_si_t, ev_si_l, ev_si_k, ev_ty_i, ev_ty_b, ev_ty_n, ev_ty_s, ev_ty_t, ev_ty_l, ev_eq_ii, ev_shp_i, ev_shp_b, ev_shp_n, ev_key_i, ev_key_s, kd_NoneType, kd_bool, kd_int, kd_str, kd_tuple, kd_list, kd_dict, ib_NoneType_NoneType, ib_NoneType_bool, ib_NoneType_int, ib_NoneType_str, ib_NoneType_tuple, ib_NoneType_list, ib_NoneType_dict, ib_bool_NoneType, ib_bool_bool, ib_bool_int, ib_bool_str, ib_bool_tuple, ib_bool_list, ib_bool_dict, ib_int_NoneType, ib_int_bool, ib_int_int, ib_int_str, ib_int_tuple, ib_int_list, ib_int_dict, ib_str_NoneType, ib_str_bool, ib_str_int, ib_str_str, ib_str_tuple, ib_str_list, ib_str_dict, ib_tuple_NoneType, ib_tuple_bool, ib_tuple_int, ib_tuple_str, ib_tuple_tuple, ib_tuple_list, ib_tuple_dict, ib_list_NoneType, ib_list_bool, ib_list_int, ib_list_str, ib_list_tuple, ib_list_list, ib_list_dict, ib_dict_NoneType, ib_dict_bool, ib_dict_int, ib_dict_str, ib_dict_tuple, ib_dict_list, ib_dict_dict, true_and, and_true, if_true, if_false, Bool.not_true, Bool.not_false, List.map_cons, List.map_nil, List.length_cons, List.length_nil, List.replicate, List.cons_append, List.nil_append, List.getElem?_cons_succ, List.getElem?_cons_zero, List.set_cons_succ, List.set_cons_zero, ite_true_eq, ite_false_eq, ite_nt_eq, ite_nf_eq, dec_true, dec_not, bxor_f, bxor_t]
  exact ⟨two_le, m, _, .refl, q⟩
/-- the sum, from the left -/
def rsum (r : List Rat) : Rat := r.foldl (· + ·) 0
def S_summed : DS := fun ds m Q X => ∃ (r : List Rat) (a : Nat), ds = [.lst (r.map enc)] ∧ (∀ x ∈ r, Sm a x) ∧ r.length * (a + 1) + a + 2 ≤ 8990 ∧ Q (enc (rsum r)) m
def T_summed : DSt := (dSeq (dSet 1 (dC c_ZERO))
  (dSeq (dFor (dSeqI (dVar 0)) (dT (.nm 2))
  (dSet 1 (dCall S_plus (dCons (dVar 1) (dCons (dVar 2) dNil)))))
  (dRet (dVar 1))))
theorem H_summed (ds : List D) (m : MM) (Q : D → MM → Prop) (Px : XC) (h : S_summed ds m Q Px) : ds.length = 1 ∧ T_summed (endD Q Px) (startD ["fractions", "found", "one"] ds) m := by
  obtain ⟨r, a, rfl, hr, hl, q⟩ := h
  refine ⟨rfl, ?_⟩
  simp only [T_summed, startD, dSeq, dNext, dBreak, dCont, dSet, dIfE, dIfS, dB, dOp, dVar, dC, dCB, dCons, dNil, dUn, dRet, dRetN, dTup, dLst, dLstM, dCall, dDrop, dAsg, dT, Tg.d, Tgs.d, dNotT, dAndT, dOrT, dAndV, dOrV, dNotV, dPar, dFor, dSeqI, dRng1, dRng2, dZip2, dZip3, dEnum, dLC, dLCr, dLCM, finM, gII0, gII, onII, onI, gGcd, gNeg, gAdd, gIt, gIx, gLen, gTupC, gLstC, gLstCM, gAll, gAny, gBls, gSum, gIsi, gAbs, gInt, gStr, gEqB, gIsN, isNon, gRep, dRepM, dSl, dPart, dNoPart, gSl, dRev, dRevM, dM, dM0, gAppend, gPop, dFld, dSetF, dMeth, dMake, dPut, dDict, dPairs, dJoin, dJoined, dJs, dFmt, gIn, exOf, endD, on1, on2, ev_it0, ev_it1, ev_it2, ev_itn1, ev_itn, ev_len_t, ev_len_l, ev_sq_t, ev_sq_l, ev_lst_l, ev_so_t, ev_so_l, ev_so_k, ev_si_t, ev_si_l, ev_si_k, ev_ty_i, ev_ty_b, ev_ty_n, ev_ty_s, ev_ty_t, ev_ty_l, ev_eq_ii, ev_shp_i, ev_shp_b, ev_shp_n, ev_key_i, ev_key_s, kd_NoneType, kd_bool, kd_int, kd_str, kd_tuple, kd_list, kd_dict, ib_NoneType_NoneType, ib_NoneType_bool, ib_NoneType_int, ib_NoneType_str, ib_NoneType_tuple, ib_NoneType_list, ib_NoneType_dict, ib_bool_NoneType, ib_bool_bool, ib_bool_int, ib_bool_str, ib_bool_tuple, ib_bool_list, ib_bool_dict, ib_int_NoneType, ib_int_bool, ib_int_int, ib_int_str, ib_int_tuple, ib_int_list, ib_int_dict, ib_str_NoneType, ib_str_bool, ib_str_int, ib_str_str, ib_str_tuple, ib_str_list, ib_str_dict, ib_tuple_NoneType, ib_tuple_bool, ib_tuple_int, ib_tuple_str, ib_tuple_tuple, ib_tuple_list, ib_tuple_dict, ib_list_NoneType, ib_list_bool, ib_list_int, ib_list_str, ib_list_tuple, ib_list_list, ib_list_dict, ib_dict_NoneType, ib_dict_bool, ib_dict_int, ib_dict_str, ib_dict_tuple, ib_dict_list, ib_dict_dict, true_and, and_true, if_true, if_false, Bool.not_true, Bool.not_false, List.map_cons, List.map_nil, List.length_cons, List.length_nil, List.replicate, List.cons_append, List.nil_append, List.getElem?_cons_succ, List.getElem?_cons_zero, List.set_cons_succ, List.set_cons_zero, ite_true_eq, ite_false_eq, ite_nt_eq, ite_nf_eq, dec_true, dec_not, bxor_f, bxor_t]
  refine for_ind (fun items ρ m' => m' = m ∧ ∃ (r' : List Rat) (f : Rat) (b : Nat) (o : Option D), items = r'.map enc ∧ ρ = [some (.lst (r.map enc)), some (enc f), o] ∧ (∀ x ∈ r', Sm a x) ∧ Sm b f ∧ b + r'.length * (a + 1) + a + 1 ≤ 8990 ∧ r'.foldl (· + ·) f = rsum r) ?_ ?_ _ _ _ ⟨rfl, r, 0, 1, none, rfl, rfl, hr, Sm.zero, by omega, rfl⟩
  · rintro d t ρ m' N hN ⟨rfl, r', f, b, o, e1, rfl, h1, h2, h3, h4⟩
    cases r' with
    | nil => cases e1
    | cons x r' =>
      cases e1
      refine ⟨trivial, ?_⟩
      simp only [startD, dSeq, dNext, dBreak, dCont, dSet, dIfE, dIfS, dB, dOp, dVar, dC, dCB, dCons, dNil, dUn, dRet, dRetN, dTup, dLst, dLstM, dCall, dDrop, dAsg, dT, Tg.d, Tgs.d, dNotT, dAndT, dOrT, dAndV, dOrV, dNotV, dPar, dFor, dSeqI, dRng1, dRng2, dZip2, dZip3, dEnum, dLC, dLCr, dLCM, finM, gII0, gII, onII, onI, gGcd, gNeg, gAdd, gIt, gIx, gLen, gTupC, gLstC, gLstCM, gAll, gAny, gBls, gSum, gIsi, gAbs, gInt, gStr, gEqB, gIsN, isNon, gRep, dRepM, dSl, dPart, dNoPart, gSl, dRev, dRevM, dM, dM0, gAppend, gPop, dFld, dSetF, dMeth, dMake, dPut, dDict, dPairs, dJoin, dJoined, dJs, dFmt, gIn, exOf, endD, on1, on2, ev_it0, ev_it1, ev_it2, ev_itn1, ev_itn, ev_len_t, ev_len_l, ev_sq_t, ev_sq_l, ev_lst_l, ev_so_t, ev_so_l, ev_so_k, ev_si_t, ev_si_l, ev_si_k, ev_ty_i, ev_ty_b, ev_ty_n, ev_ty_s, ev_ty_t, ev_ty_l, ev_eq_ii, ev_shp_i, ev_shp_b, ev_shp_n, ev_key_i, ev_key_s, kd_NoneType, kd_bool, kd_int, kd_str, kd_tuple, kd_list, kd_dict, ib_NoneType_NoneType, ib_NoneType_bool, ib_NoneType_int, ib_NoneType_str, ib_NoneType_tuple, ib_NoneType_list, ib_NoneType_dict, ib_bool_NoneType, ib_bool_bool, ib_bool_int, ib_bool_str, ib_bool_tuple, ib_bool_list, ib_bool_dict, ib_int_NoneType, ib_int_bool, ib_int_int, ib_int_str, ib_int_tuple, ib_int_list, ib_int_dict, ib_str_NoneType, ib_str_bool, ib_str_int, ib_str_str, ib_str_tuple, ib_str_list, ib_str_dict, ib_tuple_NoneType, ib_tuple_bool, ib_tuple_int, ib_tuple_str, ib_tuple_tuple, ib_tuple_list, ib_tuple_dict, ib_list_NoneType, ib_list_bool, ib_list_int, ib_list_str, ib_list_tuple, ib_list_list, ib_list_dict, ib_dict_NoneType, ib_dict_bool, ib_dict_int, ib_dict_str, ib_dict_tuple, ib_dict_list, ib_dict_dict, true_and, and_true, if_true, if_false, Bool.not_true, Bool.not_false, List.map_cons, List.map_nil, List.length_cons, List.length_nil, List.replicate, List.cons_append, List.nil_append, List.getElem?_cons_succ, List.getElem?_cons_zero, List.set_cons_succ, List.set_cons_zero, ite_true_eq, ite_false_eq, ite_nt_eq, ite_nf_eq, dec_true, dec_not, bxor_f, bxor_t]
      refine ⟨f, x, b, a, rfl, h2, h1 x List.mem_cons_self, ?_, hN _ _ ⟨rfl, r', f + x, b + a + 1, _, rfl, rfl, fun y hy => h1 y (List.mem_cons_of_mem _ hy), h2.add (h1 x List.mem_cons_self), ?_, h4⟩⟩
      · simp only [List.length_cons, Nat.add_mul, Nat.one_mul] at h3; omega
      · simp only [List.length_cons, Nat.add_mul, Nat.one_mul] at h3; omega
  · rintro ρ m' ⟨rfl, r', f, b, o, e1, rfl, h1, h2, h3, h4⟩
    cases r' with
    | cons x r' => cases e1
    | nil =>
      refine ⟨trivial, ?_⟩
      simp only [startD, dSeq, dNext, dBreak, dCont, dSet, dIfE, dIfS, dB, dOp, dVar, dC, dCB, dCons, dNil, dUn, dRet, dRetN, dTup, dLst, dLstM, dCall, dDrop, dAsg, dT, Tg.d, Tgs.d, dNotT, dAndT, dOrT, dAndV, dOrV, dNotV, dPar, dFor, dSeqI, dRng1, dRng2, dZip2, dZip3, dEnum, dLC, dLCr, dLCM, finM, gII0, gII, onII, onI, gGcd, gNeg, gAdd, gIt, gIx, gLen, gTupC, gLstC, gLstCM, gAll, gAny, gBls, gSum, gIsi, gAbs, gInt, gStr, gEqB, gIsN, isNon, gRep, dRepM, dSl, dPart, dNoPart, gSl, dRev, dRevM, dM, dM0, gAppend, gPop, dFld, dSetF, dMeth, dMake, dPut, dDict, dPairs, dJoin, dJoined, dJs, dFmt, gIn, exOf, endD, on1, on2, ev_it0, ev_it1, ev_it2, ev_itn1, ev_itn, ev_len_t, ev_len_l, ev_sq_t, ev_sq_l, ev_lst_l, ev_so_t, ev_so_l, ev_so_k, ev_si_t, ev_si_l, ev_si_k, ev_ty_i, ev_ty_b, ev_ty_n, ev_ty_s, ev_ty_t, ev_ty_l, ev_eq_ii, ev_shp_i, ev_shp_b, ev_shp_n, ev_key_i, ev_key_s, kd_NoneType, kd_bool, kd_int, kd_str, kd_tuple, kd_list, kd_dict, ib_NoneType_NoneType, ib_NoneType_bool, ib_NoneType_int, ib_NoneType_str, ib_NoneType_tuple, ib_NoneType_list, ib_NoneType_dict, ib_bool_NoneType, ib_bool_bool, ib_bool_int, ib_bool_str, ib_bool_tuple, ib_bool_list, ib_bool_dict, ib_int_NoneType, ib_int_bool, ib_int_int, ib_int_str, ib_int_tuple, ib_int_list, ib_int_dict, ib_str_NoneType, ib_str_bool, ib_str_int, ib_str_str, ib_str_tuple, ib_str_list, ib_str_dict, ib_tuple_NoneType, ib_tuple_bool, ib_tuple_int, ib_tuple_str, ib_tuple_tuple, ib_tuple_list, ib_tuple_dict, ib_list_NoneType, ib_list_bool, ib_list_int, ib_list_str, ib_list_tuple, ib_list_list, ib_list_dict, ib_dict_NoneType, ib_dict_bool, ib_dict_int, ib_dict_str, ib_dict_tuple, ib_dict_list, ib_dict_dict, true_and, and_true, if_true, if_false, Bool.not_true, Bool.not_false, List.map_cons, List.map_nil, List.length_cons, List.length_nil, List.replicate, List.cons_append, List.nil_append, List.getElem?_cons_succ, List.getElem?_cons_zero, List.set_cons_succ, List.set_cons_zero, ite_true_eq, ite_false_eq, ite_nt_eq, ite_nf_eq, dec_true, dec_not, bxor_f, bxor_t]
      refine ⟨m', _, .refl, ?_⟩
      rw [← h4] at q; exact q
end Y
set_option exponentiation.threshold 20000
/-! M3: rows. -/
namespace Y
open PySem PySem.Spec PyProof.Rows L2
def SmR (a : Nat) (r : List Rat) : Prop := ∀ x ∈ r, Sm a x
theorem SmR.mono {a b : Nat} {r : List Rat} (h : SmR a r) (k : a ≤ b) : SmR b r := fun x hx => (h x hx).mono k
theorem big_of {n : Nat} (h : n ≤ 1000000) : n ≤ sizeLine := by rw [PySem.sizeLine_eq]; omega
theorem zipE (r s : List Rat) : zip2D (r.map enc) (s.map enc) = (r.zip s).map fun p => .tup [enc p.1, enc p.2] := by
  unfold zip2D
  induction r generalizing s with
  | nil => rfl
  | cons x r ih =>
    cases s with
    | nil => rfl
    | cons y s => simp [ih]
/-- a row by two rows -/
theorem rows2 {r s : List Rat} {op : Rat → Rat → Rat} {S : DS} {a b : Nat} (hS : ∀ x ∈ r, ∀ y ∈ s, ∀ (m : MM) (Q : D → MM → Prop) (X : XC), Q (enc (op x y)) m → S [enc x, enc y] m Q X) (hl : r.length ≤ 1000000) {m : MM} {ρ : Env} {p : Addr} {i j : Nat} {Q : D → MM → Prop} (hp : m p = none) (hij : i ≠ j) (hi : i < ρ.length) (hj : j < ρ.length)
    (q : Q (.lst ((List.zipWith op r s).map enc)) m) : lcRec (.tp [.nm i, .nm j]) dYes (dCall S (dCons (dVar i) (dCons (dVar j) dNil))) ρ p (fun m' => True) (fun acc m2 => finF p acc m2 Q) (zip2D (r.map enc) (s.map enc)) [] (mset m p (.lst [])) := by
  have hlen : (zip2D (r.map enc) (s.map enc)).length ≤ sizeLine := by
    unfold zip2D
    rw [List.length_zipWith, List.length_map]
    exact big_of (Nat.le_trans (Nat.min_le_left _ _) hl)
  have e : (zip2D (r.map enc) (s.map enc)).map (fun d => match d with
      | .tup [.tup [.int a, .int b], .tup [.int c, .int e]] => enc (op (Rat.divInt a b) (Rat.divInt c e))
      | _ => .non) = (List.zipWith op r s).map enc := by
    rw [zipE, List.map_map, ← List.map_uncurry_zip_eq_zipWith, List.map_map]
    apply List.map_congr_left
    rintro ⟨x, y⟩ _
    show enc (op (Rat.divInt x.num x.den) (Rat.divInt y.num y.den)) = _
    rw [Rat.num_divInt_den, Rat.num_divInt_den]; rfl
  refine lc_pure _ _ hp (fun _ => trivial) (fun d hd acc Q1 q1 => ?_) hlen (by rw [e]; exact q)
  rw [zipE] at hd
  obtain ⟨⟨x, y⟩, h1, rfl⟩ := List.mem_map.mp hd
  obtain ⟨h2, h3⟩ := List.of_mem_zip h1
  refine ⟨_, rfl, ?_⟩
  simp only [dCall, dCons, dVar, dNil]
  rw [List.getElem?_set_ne (Ne.symm hij), List.getElem?_set_self hi, List.getElem?_set_self (by simpa using hj)]
  refine hS x h2 y h3 _ _ _ ?_
  have q2 : Q1 (enc (op (Rat.divInt x.num x.den) (Rat.divInt y.num y.den))) (mset m p (.lst acc)) := q1
  rw [Rat.num_divInt_den, Rat.num_divInt_den] at q2
  exact q2
/-- a row by one -/
theorem rows1 {r : List Rat} {op : Rat → Rat} {te : DE} {m : MM} {ρ : Env} {p : Addr} {i : Nat} {Q : D → MM → Prop} (hte : ∀ x ∈ r, ∀ (m : MM) (Q : D → MM → Prop), Q (enc (op x)) m → te (ρ.set i (some (enc x))) m Q xF) (hl : r.length ≤ 1000000) (hp : m p = none)
    (q : Q (.lst ((r.map op).map enc)) m) : lcRec (.nm i) dYes te ρ p (fun m' => True) (fun acc m2 => finF p acc m2 Q) (r.map enc) [] (mset m p (.lst [])) := by
  have e : (r.map enc).map (fun d => match d with
      | .tup [.int a, .int b] => enc (op (Rat.divInt a b))
      | _ => .non) = (r.map op).map enc := by
    rw [List.map_map, List.map_map]
    apply List.map_congr_left
    intro x _
    show enc (op (Rat.divInt x.num x.den)) = _
    rw [Rat.num_divInt_den]; rfl
  refine lc_pure _ _ hp (fun _ => trivial) (fun d hd acc Q1 q1 => ?_) (by rw [List.length_map]; exact big_of hl) (by rw [e]; exact q)
  obtain ⟨x, h1, rfl⟩ := List.mem_map.mp hd
  refine ⟨_, rfl, hte x h1 _ _ ?_⟩
  have q2 : Q1 (enc (op (Rat.divInt x.num x.den))) (mset m p (.lst acc)) := q1
  rw [Rat.num_divInt_den] at q2
  exact q2
def S_added : DS := fun ds m Q X => ∃ (r s : List Rat) (a b : Nat), ds = [encR r, encR s] ∧ SmR a r ∧ SmR b s ∧ a + b ≤ 8990 ∧ r.length ≤ 1000000 ∧ Q (encR (List.zipWith (· + ·) r s)) m
def T_added : DSt := (dRet (dCB gTupC (dCons (dLC (dZip2 (dCons (dVar 0) (dCons (dVar 1) dNil))) (.tp [(.nm 2), (.nm 3)]) dYes (dCall S_plus (dCons (dVar 2) (dCons (dVar 3) dNil))) [2, 3]) dNil)))
theorem H_added (ds : List D) (m : MM) (Q : D → MM → Prop) (Px : XC) (h : S_added ds m Q Px) : ds.length = 2 ∧ T_added (endD Q Px) (startD ["one", "other", "x", "y"] ds) m := by
  obtain ⟨r, s, a, b, rfl, hr, hs, hl, hz, q⟩ := h
  refine ⟨rfl, ?_⟩
  unfold encR
  simp only [T_added, seqF, startD, dSeq, dNext, dBreak, dCont, dSet, dIfE, dIfS, dB, dOp, dVar, dC, dCB, dCons, dNil, dUn, dRet, dRetN, dTup, dLst, dLstM, dCall, dDrop, dAsg, dT, Tg.d, Tgs.d, dNotT, dAndT, dOrT, dAndV, dOrV, dNotV, dPar, dFor, dSeqI, dRng1, dRng2, dZip2, dZip3, dEnum, dLC, dLCr, dLCM, finM, gII0, gII, onII, onI, gGcd, gNeg, gAdd, gIt, gIx, gLen, gTupC, gLstC, gLstCM, gAll, gAny, gBls, gSum, gIsi, gAbs, gInt, gStr, gEqB, gIsN, isNon, gRep, dRepM, dSl, dPart, dNoPart, gSl, dRev, dRevM, dM, dM0, gAppend, gPop, dFld, dSetF, dMeth, dMake, dPut, dDict, dPairs, dJoin, dJoined, dJs, dFmt, gIn, exOf, endD, on1, on2, ev_it0, ev_it1, ev_it2, ev_itn1, ev_itn, ev_len_t, ev_len_l, ev_sq_t, ev_sq_l, ev_lst_l, ev_so_t, ev_so_l, ev_so_k, ev_si_t, ev_si_l, ev_si_k, ev_ty_i, ev_ty_b, ev_ty_n, ev_ty_s, ev_ty_t, ev_ty_l, ev_eq_ii, ev_shp_i, ev_shp_b, ev_shp_n, ev_key_i, ev_key_s, kd_NoneType, kd_bool, kd_int, kd_str, kd_tuple, kd_list, kd_dict, ib_NoneType_NoneType, ib_NoneType_bool, ib_NoneType_int, ib_NoneType_str, ib_NoneType_tuple, ib_NoneType_list, ib_NoneType_dict, ib_bool_NoneType, ib_bool_bool, ib_bool_int, ib_bool_str, ib_bool_tuple, ib_bool_list, ib_bool_dict, ib_int_NoneType, ib_int_bool, ib_int_int, ib_int_str, ib_int_tuple, ib_int_list, ib_int_dict, ib_str_NoneType, ib_str_bool, ib_str_int, ib_str_str, ib_str_tuple, ib_str_list, ib_str_dict, ib_tuple_NoneType, ib_tuple_bool, ib_tuple_int, ib_tuple_str, ib_tuple_tuple, ib_tuple_list, ib_tuple_dict, ib_list_NoneType, ib_list_bool, ib_list_int, ib_list_str, ib_list_tuple, ib_list_list, ib_list_dict, ib_dict_NoneType, ib_dict_bool, ib_dict_int, ib_dict_str, ib_dict_tuple, ib_dict_list, ib_dict_dict, true_and, and_true, if_true, if_false, Bool.not_true, Bool.not_false, List.map_cons, List.map_nil, List.length_cons, List.length_nil, List.replicate, List.cons_append, List.nil_append, List.getElem?_cons_succ, List.getElem?_cons_zero, List.set_cons_succ, List.set_cons_zero, ite_true_eq, ite_false_eq, ite_nt_eq, ite_nf_eq, dec_true, dec_not, bxor_f, bxor_t]
  intro p hp
  refine rows2 (op := (· + ·)) (a := a) (b := b) (fun x hx y hy m Q X q => ⟨x, y, a, b, rfl, hr x hx, hs y hy, hl, q⟩) hz hp (by decide) (by simp [wipeD]) (by simp [wipeD]) ?_
  simp only [startD, dSeq, dNext, dBreak, dCont, dSet, dIfE, dIfS, dB, dOp, dVar, dC, dCB, dCons, dNil, dUn, dRet, dRetN, dTup, dLst, dLstM, dCall, dDrop, dAsg, dT, Tg.d, Tgs.d, dNotT, dAndT, dOrT, dAndV, dOrV, dNotV, dPar, dFor, dSeqI, dRng1, dRng2, dZip2, dZip3, dEnum, dLC, dLCr, dLCM, finM, gII0, gII, onII, onI, gGcd, gNeg, gAdd, gIt, gIx, gLen, gTupC, gLstC, gLstCM, gAll, gAny, gBls, gSum, gIsi, gAbs, gInt, gStr, gEqB, gIsN, isNon, gRep, dRepM, dSl, dPart, dNoPart, gSl, dRev, dRevM, dM, dM0, gAppend, gPop, dFld, dSetF, dMeth, dMake, dPut, dDict, dPairs, dJoin, dJoined, dJs, dFmt, gIn, exOf, endD, on1, on2, ev_it0, ev_it1, ev_it2, ev_itn1, ev_itn, ev_len_t, ev_len_l, ev_sq_t, ev_sq_l, ev_lst_l, ev_so_t, ev_so_l, ev_so_k, ev_si_t, ev_si_l, ev_si_k, ev_ty_i, ev_ty_b, ev_ty_n, ev_ty_s, ev_ty_t, ev_ty_l, ev_eq_ii, ev_shp_i, ev_shp_b, ev_shp_n, ev_key_i, ev_key_s, kd_NoneType, kd_bool, kd_int, kd_str, kd_tuple, kd_list, kd_dict, ib_NoneType_NoneType, ib_NoneType_bool, ib_NoneType_int, ib_NoneType_str, ib_NoneType_tuple, ib_NoneType_list, ib_NoneType_dict, ib_bool_NoneType, ib_bool_bool, ib_bool_int, ib_bool_str, ib_bool_tuple, ib_bool_list, ib_bool_dict, ib_int_NoneType, ib_int_bool, ib_int_int, ib_int_str, ib_int_tuple, ib_int_list, ib_int_dict, ib_str_NoneType, ib_str_bool, ib_str_int, ib_str_str, ib_str_tuple, ib_str_list, ib_str_dict, ib_tuple_NoneType, ib_tuple_bool, ib_tuple_int, ib_tuple_str, ib_tuple_tuple, ib_tuple_list, ib_tuple_dict, ib_list_NoneType, ib_list_bool, ib_list_int, ib_list_str, ib_list_tuple, ib_list_list, ib_list_dict, ib_dict_NoneType, ib_dict_bool, ib_dict_int, ib_dict_str, ib_dict_tuple, ib_dict_list, ib_dict_dict, true_and, and_true, if_true, if_false, Bool.not_true, Bool.not_false, List.map_cons, List.map_nil, List.length_cons, List.length_nil, List.replicate, List.cons_append, List.nil_append, List.getElem?_cons_succ, List.getElem?_cons_zero, List.set_cons_succ, List.set_cons_zero, ite_true_eq, ite_false_eq, ite_nt_eq, ite_nf_eq, dec_true, dec_not, bxor_f, bxor_t]
  exact ⟨m, _, .refl, q⟩
def S_taken : DS := fun ds m Q X => ∃ (r s : List Rat) (a b : Nat), ds = [encR r, encR s] ∧ SmR a r ∧ SmR b s ∧ a + b ≤ 8990 ∧ r.length ≤ 1000000 ∧ Q (encR (List.zipWith (· - ·) r s)) m
def T_taken : DSt := (dRet (dCB gTupC (dCons (dLC (dZip2 (dCons (dVar 0) (dCons (dVar 1) dNil))) (.tp [(.nm 2), (.nm 3)]) dYes (dCall S_minus (dCons (dVar 2) (dCons (dVar 3) dNil))) [2, 3]) dNil)))
theorem H_taken (ds : List D) (m : MM) (Q : D → MM → Prop) (Px : XC) (h : S_taken ds m Q Px) : ds.length = 2 ∧ T_taken (endD Q Px) (startD ["one", "other", "x", "y"] ds) m := by
  obtain ⟨r, s, a, b, rfl, hr, hs, hl, hz, q⟩ := h
  refine ⟨rfl, ?_⟩
  unfold encR
  simp only [T_taken, seqF, startD, dSeq, dNext, dBreak, dCont, dSet, dIfE, dIfS, dB, dOp, dVar, dC, dCB, dCons, dNil, dUn, dRet, dRetN, dTup, dLst, dLstM, dCall, dDrop, dAsg, dT, Tg.d, Tgs.d, dNotT, dAndT, dOrT, dAndV, dOrV, dNotV, dPar, dFor, dSeqI, dRng1, dRng2, dZip2, dZip3, dEnum, dLC, dLCr, dLCM, finM, gII0, gII, onII, onI, gGcd, gNeg, gAdd, gIt, gIx, gLen, gTupC, gLstC, gLstCM, gAll, gAny, gBls, gSum, gIsi, gAbs, gInt, gStr, gEqB, gIsN, isNon, gRep, dRepM, dSl, dPart, dNoPart, gSl, dRev, dRevM, dM, dM0, gAppend, gPop, dFld, dSetF, dMeth, dMake, dPut, dDict, dPairs, dJoin, dJoined, dJs, dFmt, gIn, exOf, endD, on1, on2, ev_it0, ev_it1, ev_it2, ev_itn1, ev_itn, ev_len_t, ev_len_l, ev_sq_t, ev_sq_l, ev_lst_l, ev_so_t, ev_so_l, ev_so_k, ev_si_t, ev_si_l, ev_si_k, ev_ty_i, ev_ty_b, ev_ty_n, ev_ty_s, ev_ty_t, ev_ty_l, ev_eq_ii, ev_shp_i, ev_shp_b, ev_shp_n, ev_key_i, ev_key_s, kd_NoneType, kd_bool, kd_int, kd_str, kd_tuple, kd_list, kd_dict, ib_NoneType_NoneType, ib_NoneType_bool, ib_NoneType_int, ib_NoneType_str, ib_NoneType_tuple, ib_NoneType_list, ib_NoneType_dict, ib_bool_NoneType, ib_bool_bool, ib_bool_int, ib_bool_str, ib_bool_tuple, ib_bool_list, ib_bool_dict, ib_int_NoneType, ib_int_bool, ib_int_int, ib_int_str, ib_int_tuple, ib_int_list, ib_int_dict, ib_str_NoneType, ib_str_bool, ib_str_int, ib_str_str, ib_str_tuple, ib_str_list, ib_str_dict, ib_tuple_NoneType, ib_tuple_bool, ib_tuple_int, ib_tuple_str, ib_tuple_tuple, ib_tuple_list, ib_tuple_dict, ib_list_NoneType, ib_list_bool, ib_list_int, ib_list_str, ib_list_tuple, ib_list_list, ib_list_dict, ib_dict_NoneType, ib_dict_bool, ib_dict_int, ib_dict_str, ib_dict_tuple, ib_dict_list, ib_dict_dict, true_and, and_true, if_true, if_false, Bool.not_true, Bool.not_false, List.map_cons, List.map_nil, List.length_cons, List.length_nil, List.replicate, List.cons_append, List.nil_append, List.getElem?_cons_succ, List.getElem?_cons_zero, List.set_cons_succ, List.set_cons_zero, ite_true_eq, ite_false_eq, ite_nt_eq, ite_nf_eq, dec_true, dec_not, bxor_f, bxor_t]
  intro p hp
  refine rows2 (op := (· - ·)) (a := a) (b := b) (fun x hx y hy m Q X q => ⟨x, y, a, b, rfl, hr x hx, hs y hy, hl, q⟩) hz hp (by decide) (by simp [wipeD]) (by simp [wipeD]) ?_
  simp only [startD, dSeq, dNext, dBreak, dCont, dSet, dIfE, dIfS, dB, dOp, dVar, dC, dCB, dCons, dNil, dUn, dRet, dRetN, dTup, dLst, dLstM, dCall, dDrop, dAsg, dT, Tg.d, Tgs.d, dNotT, dAndT, dOrT, dAndV, dOrV, dNotV, dPar, dFor, dSeqI, dRng1, dRng2, dZip2, dZip3, dEnum, dLC, dLCr, dLCM, finM, gII0, gII, onII, onI, gGcd, gNeg, gAdd, gIt, gIx, gLen, gTupC, gLstC, gLstCM, gAll, gAny, gBls, gSum, gIsi, gAbs, gInt, gStr, gEqB, gIsN, isNon, gRep, dRepM, dSl, dPart, dNoPart, gSl, dRev, dRevM, dM, dM0, gAppend, gPop, dFld, dSetF, dMeth, dMake, dPut, dDict, dPairs, dJoin, dJoined, dJs, dFmt, gIn, exOf, endD, on1, on2, ev_it0, ev_it1, ev_it2, ev_itn1, ev_itn, ev_len_t, ev_len_l, ev_sq_t, ev_sq_l, ev_lst_l, ev_so_t, ev_so_l, ev_so_k, ev_si_t, ev_si_l, ev_si_k, ev_ty_i, ev_ty_b, ev_ty_n, ev_ty_s, ev_ty_t, ev_ty_l, ev_eq_ii, ev_shp_i, ev_shp_b, ev_shp_n, ev_key_i, ev_key_s, kd_NoneType, kd_bool, kd_int, kd_str, kd_tuple, kd_list, kd_dict, ib_NoneType_NoneType, ib_NoneType_bool, ib_NoneType_int, ib_NoneType_str, ib_NoneType_tuple, ib_NoneType_list, ib_NoneType_dict, ib_bool_NoneType, ib_bool_bool, ib_bool_int, ib_bool_str, ib_bool_tuple, ib_bool_list, ib_bool_dict, ib_int_NoneType, ib_int_bool, ib_int_int, ib_int_str, ib_int_tuple, ib_int_list, ib_int_dict, ib_str_NoneType, ib_str_bool, ib_str_int, ib_str_str, ib_str_tuple, ib_str_list, ib_str_dict, ib_tuple_NoneType, ib_tuple_bool, ib_tuple_int, ib_tuple_str, ib_tuple_tuple, ib_tuple_list, ib_tuple_dict, ib_list_NoneType, ib_list_bool, ib_list_int, ib_list_str, ib_list_tuple, ib_list_list, ib_list_dict, ib_dict_NoneType, ib_dict_bool, ib_dict_int, ib_dict_str, ib_dict_tuple, ib_dict_list, ib_dict_dict, true_and, and_true, if_true, if_false, Bool.not_true, Bool.not_false, List.map_cons, List.map_nil, List.length_cons, List.length_nil, List.replicate, List.cons_append, List.nil_append, List.getElem?_cons_succ, List.getElem?_cons_zero, List.set_cons_succ, List.set_cons_zero, ite_true_eq, ite_false_eq, ite_nt_eq, ite_nf_eq, dec_true, dec_not, bxor_f, bxor_t]
  exact ⟨m, _, .refl, q⟩
def S_scaled : DS := fun ds m Q X => ∃ (r : List Rat) (x : Rat) (a b : Nat), ds = [encR r, enc x] ∧ SmR a r ∧ Sm b x ∧ a + b ≤ 8990 ∧ r.length ≤ 1000000 ∧ Q (encR (r.map (· * x))) m
def T_scaled : DSt := (dRet (dCB gTupC (dCons (dLC (dSeqI (dVar 0)) (.nm 2) dYes (dCall S_times_of (dCons (dVar 2) (dCons (dVar 1) dNil))) [2]) dNil)))
theorem H_scaled (ds : List D) (m : MM) (Q : D → MM → Prop) (Px : XC) (h : S_scaled ds m Q Px) : ds.length = 2 ∧ T_scaled (endD Q Px) (startD ["row", "x", "one"] ds) m := by
  obtain ⟨r, x, a, b, rfl, hr, hx, hl, hz, q⟩ := h
  refine ⟨rfl, ?_⟩
  unfold encR
  simp only [T_scaled, startD, dSeq, dNext, dBreak, dCont, dSet, dIfE, dIfS, dB, dOp, dVar, dC, dCB, dCons, dNil, dUn, dRet, dRetN, dTup, dLst, dLstM, dCall, dDrop, dAsg, dT, Tg.d, Tgs.d, dNotT, dAndT, dOrT, dAndV, dOrV, dNotV, dPar, dFor, dSeqI, dRng1, dRng2, dZip2, dZip3, dEnum, dLC, dLCr, dLCM, finM, gII0, gII, onII, onI, gGcd, gNeg, gAdd, gIt, gIx, gLen, gTupC, gLstC, gLstCM, gAll, gAny, gBls, gSum, gIsi, gAbs, gInt, gStr, gEqB, gIsN, isNon, gRep, dRepM, dSl, dPart, dNoPart, gSl, dRev, dRevM, dM, dM0, gAppend, gPop, dFld, dSetF, dMeth, dMake, dPut, dDict, dPairs, dJoin, dJoined, dJs, dFmt, gIn, exOf, endD, on1, on2, ev_it0, ev_it1, ev_it2, ev_itn1, ev_itn, ev_len_t, ev_len_l, ev_sq_t, ev_sq_l, ev_lst_l, ev_so_t, ev_so_l, ev_so_k, ev_si_t, ev_si_l, ev_si_k, ev_ty_i, ev_ty_b, ev_ty_n, ev_ty_s, ev_ty_t, ev_ty_l, ev_eq_ii, ev_shp_i, ev_shp_b, ev_shp_n, ev_key_i, ev_key_s, kd_NoneType, kd_bool, kd_int, kd_str, kd_tuple, kd_list, kd_dict, ib_NoneType_NoneType, ib_NoneType_bool, ib_NoneType_int, ib_NoneType_str, ib_NoneType_tuple, ib_NoneType_list, ib_NoneType_dict, ib_bool_NoneType, ib_bool_bool, ib_bool_int, ib_bool_str, ib_bool_tuple, ib_bool_list, ib_bool_dict, ib_int_NoneType, ib_int_bool, ib_int_int, ib_int_str, ib_int_tuple, ib_int_list, ib_int_dict, ib_str_NoneType, ib_str_bool, ib_str_int, ib_str_str, ib_str_tuple, ib_str_list, ib_str_dict, ib_tuple_NoneType, ib_tuple_bool, ib_tuple_int, ib_tuple_str, ib_tuple_tuple, ib_tuple_list, ib_tuple_dict, ib_list_NoneType, ib_list_bool, ib_list_int, ib_list_str, ib_list_tuple, ib_list_list, ib_list_dict, ib_dict_NoneType, ib_dict_bool, ib_dict_int, ib_dict_str, ib_dict_tuple, ib_dict_list, ib_dict_dict, true_and, and_true, if_true, if_false, Bool.not_true, Bool.not_false, List.map_cons, List.map_nil, List.length_cons, List.length_nil, List.replicate, List.cons_append, List.nil_append, List.getElem?_cons_succ, List.getElem?_cons_zero, List.set_cons_succ, List.set_cons_zero, ite_true_eq, ite_false_eq, ite_nt_eq, ite_nf_eq, dec_true, dec_not, bxor_f, bxor_t]
  intro p hp
  refine rows1 (op := (· * x)) (fun y hy m Q q => ?_) hz hp ?_
  · simp only [wipeD, startD, dSeq, dNext, dBreak, dCont, dSet, dIfE, dIfS, dB, dOp, dVar, dC, dCB, dCons, dNil, dUn, dRet, dRetN, dTup, dLst, dLstM, dCall, dDrop, dAsg, dT, Tg.d, Tgs.d, dNotT, dAndT, dOrT, dAndV, dOrV, dNotV, dPar, dFor, dSeqI, dRng1, dRng2, dZip2, dZip3, dEnum, dLC, dLCr, dLCM, finM, gII0, gII, onII, onI, gGcd, gNeg, gAdd, gIt, gIx, gLen, gTupC, gLstC, gLstCM, gAll, gAny, gBls, gSum, gIsi, gAbs, gInt, gStr, gEqB, gIsN, isNon, gRep, dRepM, dSl, dPart, dNoPart, gSl, dRev, dRevM, dM, dM0, gAppend, gPop, dFld, dSetF, dMeth, dMake, dPut, dDict, dPairs, dJoin, dJoined, dJs, dFmt, gIn, exOf, endD, on1, on2, ev_it0, ev_it1, ev_it2, ev_itn1, ev_itn, ev_len_t, ev_len_l, ev_sq_t, ev_sq_l, ev_lst_l, ev_so_t, ev_so_l, ev_so_k, ev_si_t, ev_si_l, ev_si_k, ev_ty_i, ev_ty_b, ev_ty_n, ev_ty_s, ev_ty_t, ev_ty_l, ev_eq_ii, ev_shp_i, ev_shp_b, ev_shp_n, ev_key_i, ev_key_s, kd_NoneType, kd_bool, kd_int, kd_str, kd_tuple, kd_list, kd_dict, ib_NoneType_NoneType, ib_NoneType_bool, ib_NoneType_int, ib_NoneType_str, ib_NoneType_tuple, ib_NoneType_list, ib_NoneType_dict, ib_bool_NoneType, ib_bool_bool, ib_bool_int, ib_bool_str, ib_bool_tuple, ib_bool_list, ib_bool_dict, ib_int_NoneType, ib_int_bool, ib_int_int, ib_int_str, ib_int_tuple, ib_int_list, ib_int_dict, ib_str_NoneType, ib_str_bool, ib_str_int, ib_str_str, ib_str_tuple, ib_str_list, ib_str_dict, ib_tuple_NoneType, ib_tuple_bool, ib_tuple_int, ib_tuple_str, ib_tuple_tuple, ib_tuple_list, ib_tuple_dict, ib_list_NoneType, ib_list_bool, ib_list_int, ib_list_str, ib_list_tuple, ib_list_list, ib_list_dict, ib_dict_NoneType, ib_dict_bool, ib_dict_int, ib_dict_str, ib_dict_tuple, ib_dict_list, ib_dict_dict, true_and, and_true, if_true, if_false, Bool.not_true, Bool.not_false, List.map_cons, List.map_nil, List.length_cons, List.length_nil, List.replicate, List.cons_append, List.nil_append, List.getElem?_cons_succ, List.getElem?_cons_zero, List.set_cons_succ, List.set_cons_zero, ite_true_eq, ite_false_eq, ite_nt_eq, ite_nf_eq, dec_true, dec_not, bxor_f, bxor_t]
    exact ⟨y, x, a, b, rfl, hr y hy, hx, hl, q⟩
  · simp only [startD, dSeq, dNext, dBreak, dCont, dSet, dIfE, dIfS, dB, dOp, dVar, dC, dCB, dCons, dNil, dUn, dRet, dRetN, dTup, dLst, dLstM, dCall, dDrop, dAsg, dT, Tg.d, Tgs.d, dNotT, dAndT, dOrT, dAndV, dOrV, dNotV, dPar, dFor, dSeqI, dRng1, dRng2, dZip2, dZip3, dEnum, dLC, dLCr, dLCM, finM, gII0, gII, onII, onI, gGcd, gNeg, gAdd, gIt, gIx, gLen, gTupC, gLstC, gLstCM, gAll, gAny, gBls, gSum, gIsi, gAbs, gInt, gStr, gEqB, gIsN, isNon, gRep, dRepM, dSl, dPart, dNoPart, gSl, dRev, dRevM, dM, dM0, gAppend, gPop, dFld, dSetF, dMeth, dMake, dPut, dDict, dPairs, dJoin, dJoined, dJs, dFmt, gIn, exOf, endD, on1, on2, ev_it0, ev_it1, ev_it2, ev_itn1, ev_itn, ev_len_t, ev_len_l, ev_sq_t, ev_sq_l, ev_lst_l, ev_so_t, ev_so_l, ev_so_k, ev_si_t, ev_si_l, ev_si_k, ev_ty_i, ev_ty_b, ev_ty_n, ev_ty_s, ev_ty_t, ev_ty_l, ev_eq_ii, ev_shp_i, ev_shp_b, ev_shp_n, ev_key_i, ev_key_s, kd_NoneType, kd_bool, kd_int, kd_str, kd_tuple, kd_list, kd_dict, ib_NoneType_NoneType, ib_NoneType_bool, ib_NoneType_int, ib_NoneType_str, ib_NoneType_tuple, ib_NoneType_list, ib_NoneType_dict, ib_bool_NoneType, ib_bool_bool, ib_bool_int, ib_bool_str, ib_bool_tuple, ib_bool_list, ib_bool_dict, ib_int_NoneType, ib_int_bool, ib_int_int, ib_int_str, ib_int_tuple, ib_int_list, ib_int_dict, ib_str_NoneType, ib_str_bool, ib_str_int, ib_str_str, ib_str_tuple, ib_str_list, ib_str_dict, ib_tuple_NoneType, ib_tuple_bool, ib_tuple_int, ib_tuple_str, ib_tuple_tuple, ib_tuple_list, ib_tuple_dict, ib_list_NoneType, ib_list_bool, ib_list_int, ib_list_str, ib_list_tuple, ib_list_list, ib_list_dict, ib_dict_NoneType, ib_dict_bool, ib_dict_int, ib_dict_str, ib_dict_tuple, ib_dict_list, ib_dict_dict, true_and, and_true, if_true, if_false, Bool.not_true, Bool.not_false, List.map_cons, List.map_nil, List.length_cons, List.length_nil, List.replicate, List.cons_append, List.nil_append, List.getElem?_cons_succ, List.getElem?_cons_zero, List.set_cons_succ, List.set_cons_zero, ite_true_eq, ite_false_eq, ite_nt_eq, ite_nf_eq, dec_true, dec_not, bxor_f, bxor_t]
    exact ⟨m, _, .refl, q⟩
theorem encN (x : Rat) : enc (-x) = .tup [.int (-x.num), .int (x.den : Int)] := by
  unfold enc
  rw [Rat.neg_num, Rat.neg_den]
def S_back : DS := fun ds m Q X => ∃ r : List Rat, ds = [encR r] ∧ r.length ≤ 1000000 ∧ Q (encR (r.map (- ·))) m
def T_back : DSt := (dRet (dCB gTupC (dCons (dLC (dSeqI (dVar 0)) (.tp [(.nm 1), (.nm 2)]) dYes (dTup (dCons (dUn gNeg (dVar 1)) (dCons (dVar 2) dNil))) [1, 2]) dNil)))
theorem H_back (ds : List D) (m : MM) (Q : D → MM → Prop) (Px : XC) (h : S_back ds m Q Px) : ds.length = 1 ∧ T_back (endD Q Px) (startD ["row", "n", "d"] ds) m := by
  obtain ⟨r, rfl, hz, q⟩ := h
  refine ⟨rfl, ?_⟩
  unfold encR
  simp only [T_back, startD, dSeq, dNext, dBreak, dCont, dSet, dIfE, dIfS, dB, dOp, dVar, dC, dCB, dCons, dNil, dUn, dRet, dRetN, dTup, dLst, dLstM, dCall, dDrop, dAsg, dT, Tg.d, Tgs.d, dNotT, dAndT, dOrT, dAndV, dOrV, dNotV, dPar, dFor, dSeqI, dRng1, dRng2, dZip2, dZip3, dEnum, dLC, dLCr, dLCM, finM, gII0, gII, onII, onI, gGcd, gNeg, gAdd, gIt, gIx, gLen, gTupC, gLstC, gLstCM, gAll, gAny, gBls, gSum, gIsi, gAbs, gInt, gStr, gEqB, gIsN, isNon, gRep, dRepM, dSl, dPart, dNoPart, gSl, dRev, dRevM, dM, dM0, gAppend, gPop, dFld, dSetF, dMeth, dMake, dPut, dDict, dPairs, dJoin, dJoined, dJs, dFmt, gIn, exOf, endD, on1, on2, ev_it0, ev_it1, ev_it2, ev_itn1, ev_itn, ev_len_t, ev_len_l, ev_sq_t, ev_sq_l, ev_lst_l, ev_so_t, ev_so_l, ev_so_k, ev_si_t, ev_si_l, ev_si_k, ev_ty_i, ev_ty_b, ev_ty_n, ev_ty_s, ev_ty_t, ev_ty_l, ev_eq_ii, ev_shp_i, ev_shp_b, ev_shp_n, ev_key_i, ev_key_s, kd_NoneType, kd_bool, kd_int, kd_str, kd_tuple, kd_list, kd_dict, ib_NoneType_NoneType, ib_NoneType_bool, ib_NoneType_int, ib_NoneType_str, ib_NoneType_tuple, ib_NoneType_list, ib_NoneType_dict, ib_bool_NoneType, ib_bool_bool, ib_bool_int, ib_bool_str, ib_bool_tuple, ib_bool_list, ib_bool_dict, ib_int_NoneType, ib_int_bool, ib_int_int, ib_int_str, ib_int_tuple, ib_int_list, ib_int_dict, ib_str_NoneType, ib_str_bool, ib_str_int, ib_str_str, ib_str_tuple, ib_str_list, ib_str_dict, ib_tuple_NoneType, ib_tuple_bool, ib_tuple_int, ib_tuple_str, ib_tuple_tuple, ib_tuple_list, ib_tuple_dict, ib_list_NoneType, ib_list_bool, ib_list_int, ib_list_str, ib_list_tuple, ib_list_list, ib_list_dict, ib_dict_NoneType, ib_dict_bool, ib_dict_int, ib_dict_str, ib_dict_tuple, ib_dict_list, ib_dict_dict, true_and, and_true, if_true, if_false, Bool.not_true, Bool.not_false, List.map_cons, List.map_nil, List.length_cons, List.length_nil, List.replicate, List.cons_append, List.nil_append, List.getElem?_cons_succ, List.getElem?_cons_zero, List.set_cons_succ, List.set_cons_zero, ite_true_eq, ite_false_eq, ite_nt_eq, ite_nf_eq, dec_true, dec_not, bxor_f, bxor_t]
  intro p hp
  have e : (r.map enc).map (fun d => match d with
      | .tup [.int a, .int b] => .tup [.int (-a), .int b]
      | _ => .non) = (r.map (- ·)).map enc := by
    rw [List.map_map, List.map_map]
    apply List.map_congr_left
    intro x _
    show D.tup [.int (-x.num), .int (x.den : Int)] = _
    rw [← encN]; rfl
  refine lc_pure _ _ hp (fun _ => trivial) (fun d hd acc Q1 q1 => ?_) (by rw [List.length_map]; exact big_of hz) (by rw [e]; simp only [startD, dSeq, dNext, dBreak, dCont, dSet, dIfE, dIfS, dB, dOp, dVar, dC, dCB, dCons, dNil, dUn, dRet, dRetN, dTup, dLst, dLstM, dCall, dDrop, dAsg, dT, Tg.d, Tgs.d, dNotT, dAndT, dOrT, dAndV, dOrV, dNotV, dPar, dFor, dSeqI, dRng1, dRng2, dZip2, dZip3, dEnum, dLC, dLCr, dLCM, finM, gII0, gII, onII, onI, gGcd, gNeg, gAdd, gIt, gIx, gLen, gTupC, gLstC, gLstCM, gAll, gAny, gBls, gSum, gIsi, gAbs, gInt, gStr, gEqB, gIsN, isNon, gRep, dRepM, dSl, dPart, dNoPart, gSl, dRev, dRevM, dM, dM0, gAppend, gPop, dFld, dSetF, dMeth, dMake, dPut, dDict, dPairs, dJoin, dJoined, dJs, dFmt, gIn, exOf, endD, on1, on2, ev_it0, ev_it1, ev_it2, ev_itn1, ev_itn, ev_len_t, ev_len_l, ev_sq_t, ev_sq_l, ev_lst_l, ev_so_t, ev_so_l, ev_so_k, ev_si_t, ev_si_l, ev_si_k, ev_ty_i, ev_ty_b, ev_ty_n, ev_ty_s, ev_ty_t, ev_ty_l, ev_eq_ii, ev_shp_i, ev_shp_b, ev_shp_n, ev_key_i, ev_key_s, kd_NoneType, kd_bool, kd_int, kd_str, kd_tuple, kd_list, kd_dict, ib_NoneType_NoneType, ib_NoneType_bool, ib_NoneType_int, ib_NoneType_str, ib_NoneType_tuple, ib_NoneType_list, ib_NoneType_dict, ib_bool_NoneType, ib_bool_bool, ib_bool_int, ib_bool_str, ib_bool_tuple, ib_bool_list, ib_bool_dict, ib_int_NoneType, ib_int_bool, ib_int_int, ib_int_str, ib_int_tuple, ib_int_list, ib_int_dict, ib_str_NoneType, ib_str_bool, ib_str_int, ib_str_str, ib_str_tuple, ib_str_list, ib_str_dict, ib_tuple_NoneType, ib_tuple_bool, ib_tuple_int, ib_tuple_str, ib_tuple_tuple, ib_tuple_list, ib_tuple_dict, ib_list_NoneType, ib_list_bool, ib_list_int, ib_list_str, ib_list_tuple, ib_list_list, ib_list_dict, ib_dict_NoneType, ib_dict_bool, ib_dict_int, ib_dict_str, ib_dict_tuple, ib_dict_list, ib_dict_dict, true_and, and_true, if_true, if_false, Bool.not_true, Bool.not_false, List.map_cons, List.map_nil, List.length_cons, List.length_nil, List.replicate, List.cons_append, List.nil_append, List.getElem?_cons_succ, List.getElem?_cons_zero, List.set_cons_succ, List.set_cons_zero, ite_true_eq, ite_false_eq, ite_nt_eq, ite_nf_eq, dec_true, dec_not, bxor_f, bxor_t]; exact ⟨m, _, .refl, q⟩)
  obtain ⟨x, h1, rfl⟩ := List.mem_map.mp hd
  refine ⟨_, rfl, ?_⟩
  simp only [wipeD, startD, dSeq, dNext, dBreak, dCont, dSet, dIfE, dIfS, dB, dOp, dVar, dC, dCB, dCons, dNil, dUn, dRet, dRetN, dTup, dLst, dLstM, dCall, dDrop, dAsg, dT, Tg.d, Tgs.d, dNotT, dAndT, dOrT, dAndV, dOrV, dNotV, dPar, dFor, dSeqI, dRng1, dRng2, dZip2, dZip3, dEnum, dLC, dLCr, dLCM, finM, gII0, gII, onII, onI, gGcd, gNeg, gAdd, gIt, gIx, gLen, gTupC, gLstC, gLstCM, gAll, gAny, gBls, gSum, gIsi, gAbs, gInt, gStr, gEqB, gIsN, isNon, gRep, dRepM, dSl, dPart, dNoPart, gSl, dRev, dRevM, dM, dM0, gAppend, gPop, dFld, dSetF, dMeth, dMake, dPut, dDict, dPairs, dJoin, dJoined, dJs, dFmt, gIn, exOf, endD, on1, on2, ev_it0, ev_it1, ev_it2, ev_itn1, ev_itn, ev_len_t, ev_len_l, ev_sq_t, ev_sq_l, ev_lst_l, ev_so_t, ev_so_l, ev_so_k, ev_si_t, ev_si_l, ev_si_k, ev_ty_i, ev_ty_b, ev_ty_n, ev_ty_s, ev_ty_t, ev_ty_l, ev_eq_ii, ev_shp_i, ev_shp_b, ev_shp_n, ev_key_i, ev_key_s, kd_NoneType, kd_bool, kd_int, kd_str, kd_tuple, kd_list, kd_dict, ib_NoneType_NoneType, ib_NoneType_bool, ib_NoneType_int, ib_NoneType_str, ib_NoneType_tuple, ib_NoneType_list, ib_NoneType_dict, ib_bool_NoneType, ib_bool_bool, ib_bool_int, ib_bool_str, ib_bool_tuple, ib_bool_list, ib_bool_dict, ib_int_NoneType, ib_int_bool, ib_int_int, ib_int_str, ib_int_tuple, ib_int_list, ib_int_dict, ib_str_NoneType, ib_str_bool, ib_str_int, ib_str_str, ib_str_tuple, ib_str_list, ib_str_dict, ib_tuple_NoneType, ib_tuple_bool, ib_tuple_int, ib_tuple_str, ib_tuple_tuple, ib_tuple_list, ib_tuple_dict, ib_list_NoneType, ib_list_bool, ib_list_int, ib_list_str, ib_list_tuple, ib_list_list, ib_list_dict, ib_dict_NoneType, ib_dict_bool, ib_dict_int, ib_dict_str, ib_dict_tuple, ib_dict_list, ib_dict_dict, true_and, and_true, if_true, if_false, Bool.not_true, Bool.not_false, List.map_cons, List.map_nil, List.length_cons, List.length_nil, List.replicate, List.cons_append, List.nil_append, List.getElem?_cons_succ, List.getElem?_cons_zero, List.set_cons_succ, List.set_cons_zero, ite_true_eq, ite_false_eq, ite_nt_eq, ite_nf_eq, dec_true, dec_not, bxor_f, bxor_t]
  exact ⟨two_le, q1⟩
def S_nought : DS := fun ds m Q X => ∃ n : Nat, ds = [.int (n : Int)] ∧ 1 ≤ n ∧ n ≤ 1000 ∧ Q (encR (List.replicate n 0)) m
def T_nought : DSt := (dRet (dOp gRep (dTup (dCons (dC c_ZERO) dNil)) (dVar 0)))
theorem H_nought (ds : List D) (m : MM) (Q : D → MM → Prop) (Px : XC) (h : S_nought ds m Q Px) : ds.length = 1 ∧ T_nought (endD Q Px) (startD ["many"] ds) m := by
  obtain ⟨n, rfl, h1, h2, q⟩ := h
  refine ⟨rfl, ?_⟩
  simp only [T_nought, c_ZERO, startD, dSeq, dNext, dBreak, dCont, dSet, dIfE, dIfS, dB, dOp, dVar, dC, dCB, dCons, dNil, dUn, dRet, dRetN, dTup, dLst, dLstM, dCall, dDrop, dAsg, dT, Tg.d, Tgs.d, dNotT, dAndT, dOrT, dAndV, dOrV, dNotV, dPar, dFor, dSeqI, dRng1, dRng2, dZip2, dZip3, dEnum, dLC, dLCr, dLCM, finM, gII0, gII, onII, onI, gGcd, gNeg, gAdd, gIt, gIx, gLen, gTupC, gLstC, gLstCM, gAll, gAny, gBls, gSum, gIsi, gAbs, gInt, gStr, gEqB, gIsN, isNon, gRep, dRepM, dSl, dPart, dNoPart, gSl, dRev, dRevM, dM, dM0, gAppend, gPop, dFld, dSetF, dMeth, dMake, dPut, dDict, dPairs, dJoin, dJoined, dJs, dFmt, gIn, exOf, endD, on1, on2, ev_it0, ev_it1, ev_it2, ev_itn1, ev_itn, ev_len_t, ev_len_l, ev_sq_t, ev_sq_l, ev_lst_l, ev_so_t, ev_so_l, ev_so_k, ev_si_t, ev_si_l, ev_si_k, ev_ty_i, ev_ty_b, ev_ty_n, ev_ty_s, ev_ty_t, ev_ty_l, ev_eq_ii, ev_shp_i, ev_shp_b, ev_shp_n, ev_key_i, ev_key_s, kd_NoneType, kd_bool, kd_int, kd_str, kd_tuple, kd_list, kd_dict, ib_NoneType_NoneType, ib_NoneType_bool, ib_NoneType_int, ib_NoneType_str, ib_NoneType_tuple, ib_NoneType_list, ib_NoneType_dict, ib_bool_NoneType, ib_bool_bool, ib_bool_int, ib_bool_str, ib_bool_tuple, ib_bool_list, ib_bool_dict, ib_int_NoneType, ib_int_bool, ib_int_int, ib_int_str, ib_int_tuple, ib_int_list, ib_int_dict, ib_str_NoneType, ib_str_bool, ib_str_int, ib_str_str, ib_str_tuple, ib_str_list, ib_str_dict, ib_tuple_NoneType, ib_tuple_bool, ib_tuple_int, ib_tuple_str, ib_tuple_tuple, ib_tuple_list, ib_tuple_dict, ib_list_NoneType, ib_list_bool, ib_list_int, ib_list_str, ib_list_tuple, ib_list_list, ib_list_dict, ib_dict_NoneType, ib_dict_bool, ib_dict_int, ib_dict_str, ib_dict_tuple, ib_dict_list, ib_dict_dict, true_and, and_true, if_true, if_false, Bool.not_true, Bool.not_false, List.map_cons, List.map_nil, List.length_cons, List.length_nil, List.replicate, List.cons_append, List.nil_append, List.getElem?_cons_succ, List.getElem?_cons_zero, List.set_cons_succ, List.set_cons_zero, ite_true_eq, ite_false_eq, ite_nt_eq, ite_nf_eq, dec_true, dec_not, bxor_f, bxor_t]
  refine ⟨Nat.le_of_lt two_le, by simp, by omega, by omega, by omega, m, _, .refl, ?_⟩
  have e : (List.replicate ((n : Int)).toNat [D.tup [.int 0, .int 1]]).flatten = (List.replicate n (0 : Rat)).map enc := by
    rw [Int.toNat_natCast]
    clear h1 h2 q
    induction n with
    | zero => rfl
    | succ n ih => rw [List.replicate_succ, List.flatten_cons, ih, List.replicate_succ, List.map_cons]; rfl
  rw [e]; exact q
def dot (r s : List Rat) : Rat := rsum (List.zipWith (· * ·) r s)
def S_product : DS := fun ds m Q X => ∃ (r s : List Rat) (a b : Nat), ds = [encR r, encR s] ∧ SmR a r ∧ SmR b s ∧ r.length * (a + b + 2) + a + b + 3 ≤ 8990 ∧ Q (enc (dot r s)) m
def T_product : DSt := (dRet (dCall S_summed (dCons (dLC (dZip2 (dCons (dVar 0) (dCons (dVar 1) dNil))) (.tp [(.nm 2), (.nm 3)]) dYes (dCall S_times_of (dCons (dVar 2) (dCons (dVar 3) dNil))) [2, 3]) dNil)))
theorem mem_zipWith {op : Rat → Rat → Rat} {r s : List Rat} {z : Rat} (h : z ∈ List.zipWith op r s) : ∃ x ∈ r, ∃ y ∈ s, z = op x y := by
  rw [← List.map_uncurry_zip_eq_zipWith] at h
  obtain ⟨⟨x, y⟩, h1, rfl⟩ := List.mem_map.mp h
  obtain ⟨h2, h3⟩ := List.of_mem_zip h1
  exact ⟨x, h2, y, h3, rfl⟩
theorem H_product (ds : List D) (m : MM) (Q : D → MM → Prop) (Px : XC) (h : S_product ds m Q Px) : ds.length = 2 ∧ T_product (endD Q Px) (startD ["one", "other", "x", "y"] ds) m := by
  obtain ⟨r, s, a, b, rfl, hr, hs, hl, q⟩ := h
  refine ⟨rfl, ?_⟩
  unfold encR
  simp only [T_product, seqF, startD, dSeq, dNext, dBreak, dCont, dSet, dIfE, dIfS, dB, dOp, dVar, dC, dCB, dCons, dNil, dUn, dRet, dRetN, dTup, dLst, dLstM, dCall, dDrop, dAsg, dT, Tg.d, Tgs.d, dNotT, dAndT, dOrT, dAndV, dOrV, dNotV, dPar, dFor, dSeqI, dRng1, dRng2, dZip2, dZip3, dEnum, dLC, dLCr, dLCM, finM, gII0, gII, onII, onI, gGcd, gNeg, gAdd, gIt, gIx, gLen, gTupC, gLstC, gLstCM, gAll, gAny, gBls, gSum, gIsi, gAbs, gInt, gStr, gEqB, gIsN, isNon, gRep, dRepM, dSl, dPart, dNoPart, gSl, dRev, dRevM, dM, dM0, gAppend, gPop, dFld, dSetF, dMeth, dMake, dPut, dDict, dPairs, dJoin, dJoined, dJs, dFmt, gIn, exOf, endD, on1, on2, ev_it0, ev_it1, ev_it2, ev_itn1, ev_itn, ev_len_t, ev_len_l, ev_sq_t, ev_sq_l, ev_lst_l, ev_so_t, ev_so_l, ev_so_k, ev_si_t, ev_si_l, ev_si_k, ev_ty_i, ev_ty_b, ev_ty_n, ev_ty_s, ev_ty_t, ev_ty_l, ev_eq_ii, ev_shp_i, ev_shp_b, ev_shp_n, ev_key_i, ev_key_s, kd_NoneType, kd_bool, kd_int, kd_str, kd_tuple, kd_list, kd_dict, ib_NoneType_NoneType, ib_NoneType_bool, ib_NoneType_int, ib_NoneType_str, ib_NoneType_tuple, ib_NoneType_list, ib_NoneType_dict, ib_bool_NoneType, ib_bool_bool, ib_bool_int, ib_bool_str, ib_bool_tuple, ib_bool_list, ib_bool_dict, ib_int_NoneType, ib_int_bool, ib_int_int, ib_int_str, ib_int_tuple, ib_int_list, ib_int_dict, ib_str_NoneType, ib_str_bool, ib_str_int, ib_str_str, ib_str_tuple, ib_str_list, ib_str_dict, ib_tuple_NoneType, ib_tuple_bool, ib_tuple_int, ib_tuple_str, ib_tuple_tuple, ib_tuple_list, ib_tuple_dict, ib_list_NoneType, ib_list_bool, ib_list_int, ib_list_str, ib_list_tuple, ib_list_list, ib_list_dict, ib_dict_NoneType, ib_dict_bool, ib_dict_int, ib_dict_str, ib_dict_tuple, ib_dict_list, ib_dict_dict, true_and, and_true, if_true, if_false, Bool.not_true, Bool.not_false, List.map_cons, List.map_nil, List.length_cons, List.length_nil, List.replicate, List.cons_append, List.nil_append, List.getElem?_cons_succ, List.getElem?_cons_zero, List.set_cons_succ, List.set_cons_zero, ite_true_eq, ite_false_eq, ite_nt_eq, ite_nf_eq, dec_true, dec_not, bxor_f, bxor_t]
  intro p hp
  have hz : r.length ≤ 1000000 := by
    have : r.length * 1 ≤ r.length * (a + b + 2) := Nat.mul_le_mul_left _ (by omega)
    omega
  refine rows2 (op := (· * ·)) (a := a) (b := b) (fun x hx y hy m Q X q => ⟨x, y, a, b, rfl, hr x hx, hs y hy, by omega, q⟩) hz hp (by decide) (by simp [wipeD]) (by simp [wipeD]) ?_
  refine ⟨_, a + b + 1, rfl, fun z hz => ?_, ?_, m, _, .refl, q⟩
  · obtain ⟨x, hx, y, hy, rfl⟩ := mem_zipWith hz
    exact (hr x hx).mul (hs y hy)
  · rw [List.length_zipWith]
    have : min r.length s.length * (a + b + 1 + 1) ≤ r.length * (a + b + 2) := Nat.mul_le_mul_right _ (Nat.min_le_left _ _)
    omega
def S_sizes : DS := fun ds m Q X => ∃ (r : List Rat) (a : Nat), ds = [encR r] ∧ SmR a r ∧ r.length * (a + 1) + a + 2 ≤ 8990 ∧ Q (enc (rsum (r.map rab))) m
def T_sizes : DSt := (dRet (dCall S_summed (dCons (dLC (dSeqI (dVar 0)) (.nm 1) dYes (dCall S_size_of (dCons (dVar 1) dNil)) [1]) dNil)))
theorem H_sizes (ds : List D) (m : MM) (Q : D → MM → Prop) (Px : XC) (h : S_sizes ds m Q Px) : ds.length = 1 ∧ T_sizes (endD Q Px) (startD ["row", "one"] ds) m := by
  obtain ⟨r, a, rfl, hr, hl, q⟩ := h
  refine ⟨rfl, ?_⟩
  unfold encR
  simp only [T_sizes, startD, dSeq, dNext, dBreak, dCont, dSet, dIfE, dIfS, dB, dOp, dVar, dC, dCB, dCons, dNil, dUn, dRet, dRetN, dTup, dLst, dLstM, dCall, dDrop, dAsg, dT, Tg.d, Tgs.d, dNotT, dAndT, dOrT, dAndV, dOrV, dNotV, dPar, dFor, dSeqI, dRng1, dRng2, dZip2, dZip3, dEnum, dLC, dLCr, dLCM, finM, gII0, gII, onII, onI, gGcd, gNeg, gAdd, gIt, gIx, gLen, gTupC, gLstC, gLstCM, gAll, gAny, gBls, gSum, gIsi, gAbs, gInt, gStr, gEqB, gIsN, isNon, gRep, dRepM, dSl, dPart, dNoPart, gSl, dRev, dRevM, dM, dM0, gAppend, gPop, dFld, dSetF, dMeth, dMake, dPut, dDict, dPairs, dJoin, dJoined, dJs, dFmt, gIn, exOf, endD, on1, on2, ev_it0, ev_it1, ev_it2, ev_itn1, ev_itn, ev_len_t, ev_len_l, ev_sq_t, ev_sq_l, ev_lst_l, ev_so_t, ev_so_l, ev_so_k, ev_si_t, ev_si_l, ev_si_k, ev_ty_i, ev_ty_b, ev_ty_n, ev_ty_s, ev_ty_t, ev_ty_l, ev_eq_ii, ev_shp_i, ev_shp_b, ev_shp_n, ev_key_i, ev_key_s, kd_NoneType, kd_bool, kd_int, kd_str, kd_tuple, kd_list, kd_dict, ib_NoneType_NoneType, ib_NoneType_bool, ib_NoneType_int, ib_NoneType_str, ib_NoneType_tuple, ib_NoneType_list, ib_NoneType_dict, ib_bool_NoneType, ib_bool_bool, ib_bool_int, ib_bool_str, ib_bool_tuple, ib_bool_list, ib_bool_dict, ib_int_NoneType, ib_int_bool, ib_int_int, ib_int_str, ib_int_tuple, ib_int_list, ib_int_dict, ib_str_NoneType, ib_str_bool, ib_str_int, ib_str_str, ib_str_tuple, ib_str_list, ib_str_dict, ib_tuple_NoneType, ib_tuple_bool, ib_tuple_int, ib_tuple_str, ib_tuple_tuple, ib_tuple_list, ib_tuple_dict, ib_list_NoneType, ib_list_bool, ib_list_int, ib_list_str, ib_list_tuple, ib_list_list, ib_list_dict, ib_dict_NoneType, ib_dict_bool, ib_dict_int, ib_dict_str, ib_dict_tuple, ib_dict_list, ib_dict_dict, true_and, and_true, if_true, if_false, Bool.not_true, Bool.not_false, List.map_cons, List.map_nil, List.length_cons, List.length_nil, List.replicate, List.cons_append, List.nil_append, List.getElem?_cons_succ, List.getElem?_cons_zero, List.set_cons_succ, List.set_cons_zero, ite_true_eq, ite_false_eq, ite_nt_eq, ite_nf_eq, dec_true, dec_not, bxor_f, bxor_t]
  intro p hp
  have hz : r.length ≤ 1000000 := by
    have : r.length * 1 ≤ r.length * (a + 1) := Nat.mul_le_mul_left _ (by omega)
    omega
  refine rows1 (op := rab) (fun y hy m Q q => ?_) hz hp ?_
  · simp only [wipeD, startD, dSeq, dNext, dBreak, dCont, dSet, dIfE, dIfS, dB, dOp, dVar, dC, dCB, dCons, dNil, dUn, dRet, dRetN, dTup, dLst, dLstM, dCall, dDrop, dAsg, dT, Tg.d, Tgs.d, dNotT, dAndT, dOrT, dAndV, dOrV, dNotV, dPar, dFor, dSeqI, dRng1, dRng2, dZip2, dZip3, dEnum, dLC, dLCr, dLCM, finM, gII0, gII, onII, onI, gGcd, gNeg, gAdd, gIt, gIx, gLen, gTupC, gLstC, gLstCM, gAll, gAny, gBls, gSum, gIsi, gAbs, gInt, gStr, gEqB, gIsN, isNon, gRep, dRepM, dSl, dPart, dNoPart, gSl, dRev, dRevM, dM, dM0, gAppend, gPop, dFld, dSetF, dMeth, dMake, dPut, dDict, dPairs, dJoin, dJoined, dJs, dFmt, gIn, exOf, endD, on1, on2, ev_it0, ev_it1, ev_it2, ev_itn1, ev_itn, ev_len_t, ev_len_l, ev_sq_t, ev_sq_l, ev_lst_l, ev_so_t, ev_so_l, ev_so_k, ev_si_t, ev_si_l, ev_si_k, ev_ty_i, ev_ty_b, ev_ty_n, ev_ty_s, ev_ty_t, ev_ty_l, ev_eq_ii, ev_shp_i, ev_shp_b, ev_shp_n, ev_key_i, ev_key_s, kd_NoneType, kd_bool, kd_int, kd_str, kd_tuple, kd_list, kd_dict, ib_NoneType_NoneType, ib_NoneType_bool, ib_NoneType_int, ib_NoneType_str, ib_NoneType_tuple, ib_NoneType_list, ib_NoneType_dict, ib_bool_NoneType, ib_bool_bool, ib_bool_int, ib_bool_str, ib_bool_tuple, ib_bool_list, ib_bool_dict, ib_int_NoneType, ib_int_bool, ib_int_int, ib_int_str, ib_int_tuple, ib_int_list, ib_int_dict, ib_str_NoneType, ib_str_bool, ib_str_int, ib_str_str, ib_str_tuple, ib_str_list, ib_str_dict, ib_tuple_NoneType, ib_tuple_bool, ib_tuple_int, ib_tuple_str, ib_tuple_tuple, ib_tuple_list, ib_tuple_dict, ib_list_NoneType, ib_list_bool, ib_list_int, ib_list_str, ib_list_tuple, ib_list_list, ib_list_dict, ib_dict_NoneType, ib_dict_bool, ib_dict_int, ib_dict_str, ib_dict_tuple, ib_dict_list, ib_dict_dict, true_and, and_true, if_true, if_false, Bool.not_true, Bool.not_false, List.map_cons, List.map_nil, List.length_cons, List.length_nil, List.replicate, List.cons_append, List.nil_append, List.getElem?_cons_succ, List.getElem?_cons_zero, List.set_cons_succ, List.set_cons_zero, ite_true_eq, ite_false_eq, ite_nt_eq, ite_nf_eq, dec_true, dec_not, bxor_f, bxor_t]
    exact ⟨y, rfl, q⟩
  · refine ⟨_, a, rfl, fun z hz => ?_, by rw [List.length_map]; exact hl, m, _, .refl, q⟩
    obtain ⟨x, hx, rfl⟩ := List.mem_map.mp hz
    exact (hr x hx).rab
def S_is_row : DS := fun ds m Q X => ∃ (r : List Rat) (n : Int), ds = [encR r, .int n] ∧ r.length ≤ 1000000 ∧ Q (.bl (decide ((r.length : Int) = n))) m
def T_is_row : DSt := (dRet (dAndV (dCB gIsi (dCons (dVar 0) (dCons (dC (.ty "tuple")) dNil))) (dAndV (dOp gEq (dCB gLen (dCons (dVar 0) dNil)) (dVar 1)) (dCB gAll (dCons (dLC (dSeqI (dVar 0)) (.nm 2) dYes (dCall S_is_fraction (dCons (dVar 2) dNil)) [2]) dNil)))))
theorem H_is_row (ds : List D) (m : MM) (Q : D → MM → Prop) (Px : XC) (h : S_is_row ds m Q Px) : ds.length = 2 ∧ T_is_row (endD Q Px) (startD ["value", "many", "one"] ds) m := by
  obtain ⟨r, n, rfl, hz, q⟩ := h
  refine ⟨rfl, ?_⟩
  unfold encR
  simp only [T_is_row, List.length_map, startD, dSeq, dNext, dBreak, dCont, dSet, dIfE, dIfS, dB, dOp, dVar, dC, dCB, dCons, dNil, dUn, dRet, dRetN, dTup, dLst, dLstM, dCall, dDrop, dAsg, dT, Tg.d, Tgs.d, dNotT, dAndT, dOrT, dAndV, dOrV, dNotV, dPar, dFor, dSeqI, dRng1, dRng2, dZip2, dZip3, dEnum, dLC, dLCr, dLCM, finM, gII0, gII, onII, onI, gGcd, gNeg, gAdd, gIt, gIx, gLen, gTupC, gLstC, gLstCM, gAll, gAny, gBls, gSum, gIsi, gAbs, gInt, gStr, gEqB, gIsN, isNon, gRep, dRepM, dSl, dPart, dNoPart, gSl, dRev, dRevM, dM, dM0, gAppend, gPop, dFld, dSetF, dMeth, dMake, dPut, dDict, dPairs, dJoin, dJoined, dJs, dFmt, gIn, exOf, endD, on1, on2, ev_it0, ev_it1, ev_it2, ev_itn1, ev_itn, ev_len_t, ev_len_l, ev_sq_t, ev_sq_l, ev_lst_l, ev_so_t, ev_so_l, ev_so_k, ev_si_t, ev_si_l, ev_si_k, ev_ty_i, ev_ty_b, ev_ty_n, ev_ty_s, ev_ty_t, ev_ty_l, ev_eq_ii, ev_shp_i, ev_shp_b, ev_shp_n, ev_key_i, ev_key_s, kd_NoneType, kd_bool, kd_int, kd_str, kd_tuple, kd_list, kd_dict, ib_NoneType_NoneType, ib_NoneType_bool, ib_NoneType_int, ib_NoneType_str, ib_NoneType_tuple, ib_NoneType_list, ib_NoneType_dict, ib_bool_NoneType, ib_bool_bool, ib_bool_int, ib_bool_str, ib_bool_tuple, ib_bool_list, ib_bool_dict, ib_int_NoneType, ib_int_bool, ib_int_int, ib_int_str, ib_int_tuple, ib_int_list, ib_int_dict, ib_str_NoneType, ib_str_bool, ib_str_int, ib_str_str, ib_str_tuple, ib_str_list, ib_str_dict, ib_tuple_NoneType, ib_tuple_bool, ib_tuple_int, ib_tuple_str, ib_tuple_tuple, ib_tuple_list, ib_tuple_dict, ib_list_NoneType, ib_list_bool, ib_list_int, ib_list_str, ib_list_tuple, ib_list_list, ib_list_dict, ib_dict_NoneType, ib_dict_bool, ib_dict_int, ib_dict_str, ib_dict_tuple, ib_dict_list, ib_dict_dict, true_and, and_true, if_true, if_false, Bool.not_true, Bool.not_false, List.map_cons, List.map_nil, List.length_cons, List.length_nil, List.replicate, List.cons_append, List.nil_append, List.getElem?_cons_succ, List.getElem?_cons_zero, List.set_cons_succ, List.set_cons_zero, ite_true_eq, ite_false_eq, ite_nt_eq, ite_nf_eq, dec_true, dec_not, bxor_f, bxor_t]
  by_cases hn : (r.length : Int) = n
  · rw [decide_eq_true hn] at q ⊢
    simp only [startD, dSeq, dNext, dBreak, dCont, dSet, dIfE, dIfS, dB, dOp, dVar, dC, dCB, dCons, dNil, dUn, dRet, dRetN, dTup, dLst, dLstM, dCall, dDrop, dAsg, dT, Tg.d, Tgs.d, dNotT, dAndT, dOrT, dAndV, dOrV, dNotV, dPar, dFor, dSeqI, dRng1, dRng2, dZip2, dZip3, dEnum, dLC, dLCr, dLCM, finM, gII0, gII, onII, onI, gGcd, gNeg, gAdd, gIt, gIx, gLen, gTupC, gLstC, gLstCM, gAll, gAny, gBls, gSum, gIsi, gAbs, gInt, gStr, gEqB, gIsN, isNon, gRep, dRepM, dSl, dPart, dNoPart, gSl, dRev, dRevM, dM, dM0, gAppend, gPop, dFld, dSetF, dMeth, dMake, dPut, dDict, dPairs, dJoin, dJoined, dJs, dFmt, gIn, exOf, endD, on1, on2, ev_it0, ev_it1, ev_it2, ev_itn1, ev_itn, ev_len_t, ev_len_l, ev_sq_t, ev_sq_l, ev_lst_l, ev_so_t, ev_so_l, ev_so_k, ev_si_t, ev_si_l, ev_si_k, ev_ty_i, ev_ty_b, ev_ty_n, ev_ty_s, ev_ty_t, ev_ty_l, ev_eq_ii, ev_shp_i, ev_shp_b, ev_shp_n, ev_key_i, ev_key_s, kd_NoneType, kd_bool, kd_int, kd_str, kd_tuple, kd_list, kd_dict, ib_NoneType_NoneType, ib_NoneType_bool, ib_NoneType_int, ib_NoneType_str, ib_NoneType_tuple, ib_NoneType_list, ib_NoneType_dict, ib_bool_NoneType, ib_bool_bool, ib_bool_int, ib_bool_str, ib_bool_tuple, ib_bool_list, ib_bool_dict, ib_int_NoneType, ib_int_bool, ib_int_int, ib_int_str, ib_int_tuple, ib_int_list, ib_int_dict, ib_str_NoneType, ib_str_bool, ib_str_int, ib_str_str, ib_str_tuple, ib_str_list, ib_str_dict, ib_tuple_NoneType, ib_tuple_bool, ib_tuple_int, ib_tuple_str, ib_tuple_tuple, ib_tuple_list, ib_tuple_dict, ib_list_NoneType, ib_list_bool, ib_list_int, ib_list_str, ib_list_tuple, ib_list_list, ib_list_dict, ib_dict_NoneType, ib_dict_bool, ib_dict_int, ib_dict_str, ib_dict_tuple, ib_dict_list, ib_dict_dict, true_and, and_true, if_true, if_false, Bool.not_true, Bool.not_false, List.map_cons, List.map_nil, List.length_cons, List.length_nil, List.replicate, List.cons_append, List.nil_append, List.getElem?_cons_succ, List.getElem?_cons_zero, List.set_cons_succ, List.set_cons_zero, ite_true_eq, ite_false_eq, ite_nt_eq, ite_nf_eq, dec_true, dec_not, bxor_f, bxor_t]
    intro p hp
    refine lc_pure (fun _ => .bl true) _ hp (fun _ => trivial) (fun d hd acc Q1 q1 => ?_) (by rw [List.length_map]; exact big_of hz) ?_
    · obtain ⟨x, h1, rfl⟩ := List.mem_map.mp hd
      refine ⟨_, rfl, ?_⟩
      simp only [wipeD, startD, dSeq, dNext, dBreak, dCont, dSet, dIfE, dIfS, dB, dOp, dVar, dC, dCB, dCons, dNil, dUn, dRet, dRetN, dTup, dLst, dLstM, dCall, dDrop, dAsg, dT, Tg.d, Tgs.d, dNotT, dAndT, dOrT, dAndV, dOrV, dNotV, dPar, dFor, dSeqI, dRng1, dRng2, dZip2, dZip3, dEnum, dLC, dLCr, dLCM, finM, gII0, gII, onII, onI, gGcd, gNeg, gAdd, gIt, gIx, gLen, gTupC, gLstC, gLstCM, gAll, gAny, gBls, gSum, gIsi, gAbs, gInt, gStr, gEqB, gIsN, isNon, gRep, dRepM, dSl, dPart, dNoPart, gSl, dRev, dRevM, dM, dM0, gAppend, gPop, dFld, dSetF, dMeth, dMake, dPut, dDict, dPairs, dJoin, dJoined, dJs, dFmt, gIn, exOf, endD, on1, on2, ev_it0, ev_it1, ev_it2, ev_itn1, ev_itn, ev_len_t, ev_len_l, ev_sq_t, ev_sq_l, ev_lst_l, ev_so_t, ev_so_l, ev_so_k, ev_si_t, ev_si_l, ev_si_k, ev_ty_i, ev_ty_b, ev_ty_n, ev_ty_s, ev_ty_t, ev_ty_l, ev_eq_ii, ev_shp_i, ev_shp_b, ev_shp_n, ev_key_i, ev_key_s, kd_NoneType, kd_bool, kd_int, kd_str, kd_tuple, kd_list, kd_dict, ib_NoneType_NoneType, ib_NoneType_bool, ib_NoneType_int, ib_NoneType_str, ib_NoneType_tuple, ib_NoneType_list, ib_NoneType_dict, ib_bool_NoneType, ib_bool_bool, ib_bool_int, ib_bool_str, ib_bool_tuple, ib_bool_list, ib_bool_dict, ib_int_NoneType, ib_int_bool, ib_int_int, ib_int_str, ib_int_tuple, ib_int_list, ib_int_dict, ib_str_NoneType, ib_str_bool, ib_str_int, ib_str_str, ib_str_tuple, ib_str_list, ib_str_dict, ib_tuple_NoneType, ib_tuple_bool, ib_tuple_int, ib_tuple_str, ib_tuple_tuple, ib_tuple_list, ib_tuple_dict, ib_list_NoneType, ib_list_bool, ib_list_int, ib_list_str, ib_list_tuple, ib_list_list, ib_list_dict, ib_dict_NoneType, ib_dict_bool, ib_dict_int, ib_dict_str, ib_dict_tuple, ib_dict_list, ib_dict_dict, true_and, and_true, if_true, if_false, Bool.not_true, Bool.not_false, List.map_cons, List.map_nil, List.length_cons, List.length_nil, List.replicate, List.cons_append, List.nil_append, List.getElem?_cons_succ, List.getElem?_cons_zero, List.set_cons_succ, List.set_cons_zero, ite_true_eq, ite_false_eq, ite_nt_eq, ite_nf_eq, dec_true, dec_not, bxor_f, bxor_t]
      refine ⟨_, rfl, .enc, ?_⟩
      rw [isFrac_enc]; exact q1
    · have e : (lstOf m (.lst ((r.map enc).map fun _ => D.bl true))).bind blsD = some (r.map fun _ => true) := by
        show blsD ((r.map enc).map fun _ => D.bl true) = _
        rw [← blsD_map, List.map_map, List.map_map]; rfl
      rw [e]
      simp only [startD, dSeq, dNext, dBreak, dCont, dSet, dIfE, dIfS, dB, dOp, dVar, dC, dCB, dCons, dNil, dUn, dRet, dRetN, dTup, dLst, dLstM, dCall, dDrop, dAsg, dT, Tg.d, Tgs.d, dNotT, dAndT, dOrT, dAndV, dOrV, dNotV, dPar, dFor, dSeqI, dRng1, dRng2, dZip2, dZip3, dEnum, dLC, dLCr, dLCM, finM, gII0, gII, onII, onI, gGcd, gNeg, gAdd, gIt, gIx, gLen, gTupC, gLstC, gLstCM, gAll, gAny, gBls, gSum, gIsi, gAbs, gInt, gStr, gEqB, gIsN, isNon, gRep, dRepM, dSl, dPart, dNoPart, gSl, dRev, dRevM, dM, dM0, gAppend, gPop, dFld, dSetF, dMeth, dMake, dPut, dDict, dPairs, dJoin, dJoined, dJs, dFmt, gIn, exOf, endD, on1, on2, ev_it0, ev_it1, ev_it2, ev_itn1, ev_itn, ev_len_t, ev_len_l, ev_sq_t, ev_sq_l, ev_lst_l, ev_so_t, ev_so_l, ev_so_k, ev_si_t, ev_si_l, ev_si_k, ev_ty_i, ev_ty_b, ev_ty_n, ev_ty_s, ev_ty_t, ev_ty_l, ev_eq_ii, ev_shp_i, ev_shp_b, ev_shp_n, ev_key_i, ev_key_s, kd_NoneType, kd_bool, kd_int, kd_str, kd_tuple, kd_list, kd_dict, ib_NoneType_NoneType, ib_NoneType_bool, ib_NoneType_int, ib_NoneType_str, ib_NoneType_tuple, ib_NoneType_list, ib_NoneType_dict, ib_bool_NoneType, ib_bool_bool, ib_bool_int, ib_bool_str, ib_bool_tuple, ib_bool_list, ib_bool_dict, ib_int_NoneType, ib_int_bool, ib_int_int, ib_int_str, ib_int_tuple, ib_int_list, ib_int_dict, ib_str_NoneType, ib_str_bool, ib_str_int, ib_str_str, ib_str_tuple, ib_str_list, ib_str_dict, ib_tuple_NoneType, ib_tuple_bool, ib_tuple_int, ib_tuple_str, ib_tuple_tuple, ib_tuple_list, ib_tuple_dict, ib_list_NoneType, ib_list_bool, ib_list_int, ib_list_str, ib_list_tuple, ib_list_list, ib_list_dict, ib_dict_NoneType, ib_dict_bool, ib_dict_int, ib_dict_str, ib_dict_tuple, ib_dict_list, ib_dict_dict, true_and, and_true, if_true, if_false, Bool.not_true, Bool.not_false, List.map_cons, List.map_nil, List.length_cons, List.length_nil, List.replicate, List.cons_append, List.nil_append, List.getElem?_cons_succ, List.getElem?_cons_zero, List.set_cons_succ, List.set_cons_zero, ite_true_eq, ite_false_eq, ite_nt_eq, ite_nf_eq, dec_true, dec_not, bxor_f, bxor_t]
      refine ⟨m, _, .refl, ?_⟩
      have : (r.map fun _ => true).all id = true := by simp
      rw [this]; exact q
  · rw [decide_eq_false hn] at q ⊢
    exact ⟨m, _, .refl, q⟩
end Y
/-! M4: texts and what reads them. -/
namespace Y
open PySem PySem.Spec PyProof.Rows L2
structure Cs where
  Signs : Addr
def tx (l : List Nat) : Str := ⟨l.toArray⟩
theorem tx_tl (l : List Nat) : (tx l).cps.toList = l := rfl
theorem tx_of (z : Str) : z = tx z.cps.toList := rfl
theorem tx_len (l : List Nat) : (tx l).length = l.length := by
  show l.toArray.size = _
  simp
theorem tx_app (a b : List Nat) : tx a ++ tx b = tx (a ++ b) := by
  show Str.mk (a.toArray ++ b.toArray) = Str.mk (a ++ b).toArray
  simp
theorem tx_inj {a b : List Nat} (h : tx a = tx b) : a = b := by
  have := congrArg (fun z : Str => z.cps.toList) h
  exact this
theorem tx_eq (a b : List Nat) : (tx a == tx b) = decide (a = b) := by
  by_cases h : a = b
  · subst h; simp
  · rw [decide_eq_false h]
    exact beq_eq_false_iff_ne.mpr fun e => h (tx_inj e)
def okL (l : List Nat) : Prop := ∀ c ∈ l, c < 0x110000
theorem strOk_tx {l : List Nat} (h : okL l) : PyData.strOk (tx l) = true := by
  show l.toArray.all (fun c => decide (c < 0x110000)) = true
  rw [List.all_toArray, List.all_eq_true]
  intro c hc
  exact decide_eq_true (h c hc)
theorem cut_tx (l : List Nat) (a b : Nat) : cutS (tx l) (some (a : Int)) (some (b : Int)) = tx ((l.take b).drop a) := by
  unfold cutS
  rw [tx_tl, tx_len, HT.sIx_nat, HT.sIx_nat]
  show tx _ = tx _
  congr 1
  rw [List.drop_take]
  by_cases h : a ≤ l.length
  · rw [Nat.min_eq_left h]
    by_cases h2 : b ≤ l.length
    · rw [Nat.min_eq_left h2]
    · rw [Nat.min_eq_right (by omega), List.take_of_length_le (by rw [List.length_drop]; omega), List.take_of_length_le (by rw [List.length_drop]; omega)]
  · have e : min a l.length = l.length := Nat.min_eq_right (by omega)
    rw [e, List.drop_of_length_le (Nat.le_refl _), List.drop_of_length_le (show l.length ≤ a by omega)]
    simp
theorem one_tx (l : List Nat) (p : Nat) : (l.take (p + 1)).drop p = (l.drop p).take 1 := by
  rw [List.drop_take]; congr 1; omega
/-- the sign at the place -/
theorem take1 (l : List Nat) (p c : Nat) : decide ((l.drop p).take 1 = [c]) = decide ((l.drop p).head? = some c) := by
  cases l.drop p with
  | nil => simp
  | cons a r => simp
def Sg (c : Cs) (m : MM) (a : Addr) (l : List Nat) (p : Nat) : Prop := m a = some (.ins c.Signs [(("signs" : Str), .str (tx l)), (("place" : Str), .int (p : Int))])
def Lg (l : List Nat) : Prop := l.length ≤ 1000000 ∧ okL l
theorem Lg.z {l : List Nat} (h : Lg l) : (tx l).length ≤ sizeLine := by rw [tx_len]; exact big_of h.1
theorem insD_at {m : MM} {C a : Addr} {fs : List (Str × D)} (h : m a = some (.ins C fs)) : insD m C (.adr a) = some (a, fs) := by
  simp only [insD, h, if_true]
theorem lk_signs {x y : D} : List.lookup ("signs" : Str) [(("signs" : Str), x), (("place" : Str), y)] = some x := rfl
theorem lk_place {x y : D} : List.lookup ("place" : Str) [(("signs" : Str), x), (("place" : Str), y)] = some y := rfl
theorem pf_place {x y z : D} : putFD ("place" : Str) z [(("signs" : Str), x), (("place" : Str), y)] = [(("signs" : Str), x), (("place" : Str), z)] := rfl
theorem okL.sub {l l' : List Nat} (h : okL l) (s : ∀ c ∈ l', c ∈ l) : okL l' := fun c hc => h c (s c hc)
theorem okL.dt {l : List Nat} (h : okL l) (a b : Nat) : okL ((l.take b).drop a) := h.sub fun c hc => List.mem_of_mem_take (List.mem_of_mem_drop hc)
theorem shp_tx {l : List Nat} {n : Nat} (h : okL l) : shp n (.str (tx l)) = true := by unfold shp; exact strOk_tx h
theorem eqD_tx {a b : List Nat} : eqD (.str (tx a)) (.str (tx b)) = decide (a = b) := by unfold eqD; exact tx_eq a b
theorem cast1 (p : Nat) : (p : Int) + 1 = ((p + 1 : Nat) : Int) := by omega
def S_Signs_is_at (c : Cs) : DS := fun ds m Q X => ∃ (a : Addr) (l : List Nat) (p ch : Nat), ds = [.adr a, .str (tx [ch])] ∧ Sg c m a l p ∧ Lg l ∧ ch < 0x110000 ∧ Q (.bl (decide ((l.drop p).head? = some ch))) m
def T_Signs_is_at (c : Cs) : DSt := (dRet (dOp gEq (dSl (dFld c.Signs ("signs" : PySem.Str) (dVar 0)) (dPart (dFld c.Signs ("place" : PySem.Str) (dVar 0))) (dPart (dOp gAdd (dFld c.Signs ("place" : PySem.Str) (dVar 0)) (dC (.int 1))))) (dVar 1)))
theorem H_Signs_is_at (c : Cs) (ds : List D) (m : MM) (Q : D → MM → Prop) (Px : XC) (h : S_Signs_is_at c ds m Q Px) : ds.length = 2 ∧ T_Signs_is_at c (endD Q Px) (startD ["self", "sign"] ds) m := by
  obtain ⟨a, l, p, ch, rfl, hs, hl, hc, q⟩ := h
  refine ⟨rfl, ?_⟩
  unfold Sg at hs
  simp only [T_Signs_is_at, insD_at hs, lk_signs, lk_place, cast1, cut_tx, one_tx, startD, dSeq, dNext, dBreak, dCont, dSet, dIfE, dIfS, dB, dOp, dVar, dC, dCB, dCons, dNil, dUn, dRet, dRetN, dTup, dLst, dLstM, dCall, dDrop, dAsg, dT, Tg.d, Tgs.d, dNotT, dAndT, dOrT, dAndV, dOrV, dNotV, dPar, dFor, dSeqI, dRng1, dRng2, dZip2, dZip3, dEnum, dLC, dLCr, dLCM, finM, gII0, gII, onII, onI, gGcd, gNeg, gAdd, gIt, gIx, gLen, gTupC, gLstC, gLstCM, gAll, gAny, gBls, gSum, gIsi, gAbs, gInt, gStr, gEqB, gIsN, isNon, gRep, dRepM, dSl, dPart, dNoPart, gSl, dRev, dRevM, dM, dM0, gAppend, gPop, dFld, dSetF, dMeth, dMake, dPut, dDict, dPairs, dJoin, dJoined, dJs, dFmt, gIn, exOf, endD, on1, on2, ev_it0, ev_it1, ev_it2, ev_itn1, ev_itn, ev_len_t, ev_len_l, ev_sq_t, ev_sq_l, ev_lst_l, ev_so_t, ev_so_l, ev_so_k, ev_si_t, ev_si_l, ev_si_k, ev_ty_i, ev_ty_b, ev_ty_n, ev_ty_s, ev_ty_t, ev_ty_l, ev_eq_ii, ev_shp_i, ev_shp_b, ev_shp_n, ev_key_i, ev_key_s, kd_NoneType, kd_bool, kd_int, kd_str, kd_tuple, kd_list, kd_dict, ib_NoneType_NoneType, ib_NoneType_bool, ib_NoneType_int, ib_NoneType_str, ib_NoneType_tuple, ib_NoneType_list, ib_NoneType_dict, ib_bool_NoneType, ib_bool_bool, ib_bool_int, ib_bool_str, ib_bool_tuple, ib_bool_list, ib_bool_dict, ib_int_NoneType, ib_int_bool, ib_int_int, ib_int_str, ib_int_tuple, ib_int_list, ib_int_dict, ib_str_NoneType, ib_str_bool, ib_str_int, ib_str_str, ib_str_tuple, ib_str_list, ib_str_dict, ib_tuple_NoneType, ib_tuple_bool, ib_tuple_int, ib_tuple_str, ib_tuple_tuple, ib_tuple_list, ib_tuple_dict, ib_list_NoneType, ib_list_bool, ib_list_int, ib_list_str, ib_list_tuple, ib_list_list, ib_list_dict, ib_dict_NoneType, ib_dict_bool, ib_dict_int, ib_dict_str, ib_dict_tuple, ib_dict_list, ib_dict_dict, true_and, and_true, if_true, if_false, Bool.not_true, Bool.not_false, List.map_cons, List.map_nil, List.length_cons, List.length_nil, List.replicate, List.cons_append, List.nil_append, List.getElem?_cons_succ, List.getElem?_cons_zero, List.set_cons_succ, List.set_cons_zero, ite_true_eq, ite_false_eq, ite_nt_eq, ite_nf_eq, dec_true, dec_not, bxor_f, bxor_t]
  refine ⟨hl.z, ?_⟩
  refine ⟨shp_tx (by rw [← one_tx]; exact hl.2.dt _ _), shp_tx (fun x hx => by simp at hx; omega), m, _, .refl, ?_⟩
  rw [eqD_tx, take1]; exact q
def isFig (c : Nat) : Bool := decide (48 ≤ c) && decide (c ≤ 57)
def figAt (l : List Nat) (p : Nat) : Bool := match (l.drop p).head? with
  | some c => isFig c
  | none => false
def c_FIGURES : D := .str (tx [48, 49, 50, 51, 52, 53, 54, 55, 56, 57])
theorem fig_mem (c : Nat) : decide (c ∈ ([48, 49, 50, 51, 52, 53, 54, 55, 56, 57] : List Nat)) = isFig c := by
  unfold isFig
  rw [← Bool.decide_and]
  apply decide_eq_decide.mpr
  simp only [List.mem_cons, List.not_mem_nil, or_false]
  omega
def S_Signs_is_figure (c : Cs) : DS := fun ds m Q X => ∃ (a : Addr) (l : List Nat) (p : Nat), ds = [.adr a] ∧ Sg c m a l p ∧ Lg l ∧ Q (.bl (figAt l p)) m
def T_Signs_is_figure (c : Cs) : DSt := (dSeq (dSet 1 (dSl (dFld c.Signs ("signs" : PySem.Str) (dVar 0)) (dPart (dFld c.Signs ("place" : PySem.Str) (dVar 0))) (dPart (dOp gAdd (dFld c.Signs ("place" : PySem.Str) (dVar 0)) (dC (.int 1))))))
  (dRet (dAndV (dOp gNe (dVar 1) (dC (.str ("" : PySem.Str)))) (dOp (gIn false) (dVar 1) (dC c_FIGURES)))))
theorem H_Signs_is_figure (c : Cs) (ds : List D) (m : MM) (Q : D → MM → Prop) (Px : XC) (h : S_Signs_is_figure c ds m Q Px) : ds.length = 1 ∧ T_Signs_is_figure c (endD Q Px) (startD ["self", "here"] ds) m := by
  obtain ⟨a, l, p, rfl, hs, hl, q⟩ := h
  refine ⟨rfl, ?_⟩
  unfold Sg at hs
  simp only [T_Signs_is_figure, insD_at hs, lk_signs, lk_place, cast1, cut_tx, one_tx, startD, dSeq, dNext, dBreak, dCont, dSet, dIfE, dIfS, dB, dOp, dVar, dC, dCB, dCons, dNil, dUn, dRet, dRetN, dTup, dLst, dLstM, dCall, dDrop, dAsg, dT, Tg.d, Tgs.d, dNotT, dAndT, dOrT, dAndV, dOrV, dNotV, dPar, dFor, dSeqI, dRng1, dRng2, dZip2, dZip3, dEnum, dLC, dLCr, dLCM, finM, gII0, gII, onII, onI, gGcd, gNeg, gAdd, gIt, gIx, gLen, gTupC, gLstC, gLstCM, gAll, gAny, gBls, gSum, gIsi, gAbs, gInt, gStr, gEqB, gIsN, isNon, gRep, dRepM, dSl, dPart, dNoPart, gSl, dRev, dRevM, dM, dM0, gAppend, gPop, dFld, dSetF, dMeth, dMake, dPut, dDict, dPairs, dJoin, dJoined, dJs, dFmt, gIn, exOf, endD, on1, on2, ev_it0, ev_it1, ev_it2, ev_itn1, ev_itn, ev_len_t, ev_len_l, ev_sq_t, ev_sq_l, ev_lst_l, ev_so_t, ev_so_l, ev_so_k, ev_si_t, ev_si_l, ev_si_k, ev_ty_i, ev_ty_b, ev_ty_n, ev_ty_s, ev_ty_t, ev_ty_l, ev_eq_ii, ev_shp_i, ev_shp_b, ev_shp_n, ev_key_i, ev_key_s, kd_NoneType, kd_bool, kd_int, kd_str, kd_tuple, kd_list, kd_dict, ib_NoneType_NoneType, ib_NoneType_bool, ib_NoneType_int, ib_NoneType_str, ib_NoneType_tuple, ib_NoneType_list, ib_NoneType_dict, ib_bool_NoneType, ib_bool_bool, ib_bool_int, ib_bool_str, ib_bool_tuple, ib_bool_list, ib_bool_dict, ib_int_NoneType, ib_int_bool, ib_int_int, ib_int_str, ib_int_tuple, ib_int_list, ib_int_dict, ib_str_NoneType, ib_str_bool, ib_str_int, ib_str_str, ib_str_tuple, ib_str_list, ib_str_dict, ib_tuple_NoneType, ib_tuple_bool, ib_tuple_int, ib_tuple_str, ib_tuple_tuple, ib_tuple_list, ib_tuple_dict, ib_list_NoneType, ib_list_bool, ib_list_int, ib_list_str, ib_list_tuple, ib_list_list, ib_list_dict, ib_dict_NoneType, ib_dict_bool, ib_dict_int, ib_dict_str, ib_dict_tuple, ib_dict_list, ib_dict_dict, true_and, and_true, if_true, if_false, Bool.not_true, Bool.not_false, List.map_cons, List.map_nil, List.length_cons, List.length_nil, List.replicate, List.cons_append, List.nil_append, List.getElem?_cons_succ, List.getElem?_cons_zero, List.set_cons_succ, List.set_cons_zero, ite_true_eq, ite_false_eq, ite_nt_eq, ite_nf_eq, dec_true, dec_not, bxor_f, bxor_t]
  refine ⟨hl.z, ?_⟩
  have e0 : ("" : Str) = tx [] := rfl
  have ok1 : okL ((l.drop p).take 1) := by rw [← one_tx]; exact hl.2.dt _ _
  rw [e0]
  refine ⟨shp_tx ok1, shp_tx (fun x hx => by simp at hx), ?_⟩
  rw [eqD_tx]
  unfold figAt at q
  cases hd : l.drop p with
  | nil =>
    rw [hd] at q
    exact ⟨m, _, .refl, q⟩
  | cons x r =>
    rw [hd] at q
    have e1 : decide (List.take 1 (x :: r) = []) = false := by simp
    rw [e1]
    simp only [c_FIGURES, startD, dSeq, dNext, dBreak, dCont, dSet, dIfE, dIfS, dB, dOp, dVar, dC, dCB, dCons, dNil, dUn, dRet, dRetN, dTup, dLst, dLstM, dCall, dDrop, dAsg, dT, Tg.d, Tgs.d, dNotT, dAndT, dOrT, dAndV, dOrV, dNotV, dPar, dFor, dSeqI, dRng1, dRng2, dZip2, dZip3, dEnum, dLC, dLCr, dLCM, finM, gII0, gII, onII, onI, gGcd, gNeg, gAdd, gIt, gIx, gLen, gTupC, gLstC, gLstCM, gAll, gAny, gBls, gSum, gIsi, gAbs, gInt, gStr, gEqB, gIsN, isNon, gRep, dRepM, dSl, dPart, dNoPart, gSl, dRev, dRevM, dM, dM0, gAppend, gPop, dFld, dSetF, dMeth, dMake, dPut, dDict, dPairs, dJoin, dJoined, dJs, dFmt, gIn, exOf, endD, on1, on2, ev_it0, ev_it1, ev_it2, ev_itn1, ev_itn, ev_len_t, ev_len_l, ev_sq_t, ev_sq_l, ev_lst_l, ev_so_t, ev_so_l, ev_so_k, ev_si_t, ev_si_l, ev_si_k, ev_ty_i, ev_ty_b, ev_ty_n, ev_ty_s, ev_ty_t, ev_ty_l, ev_eq_ii, ev_shp_i, ev_shp_b, ev_shp_n, ev_key_i, ev_key_s, kd_NoneType, kd_bool, kd_int, kd_str, kd_tuple, kd_list, kd_dict, ib_NoneType_NoneType, ib_NoneType_bool, ib_NoneType_int, ib_NoneType_str, ib_NoneType_tuple, ib_NoneType_list, ib_NoneType_dict, ib_bool_NoneType, ib_bool_bool, ib_bool_int, ib_bool_str, ib_bool_tuple, ib_bool_list, ib_bool_dict, ib_int_NoneType, ib_int_bool, ib_int_int, ib_int_str, ib_int_tuple, ib_int_list, ib_int_dict, ib_str_NoneType, ib_str_bool, ib_str_int, ib_str_str, ib_str_tuple, ib_str_list, ib_str_dict, ib_tuple_NoneType, ib_tuple_bool, ib_tuple_int, ib_tuple_str, ib_tuple_tuple, ib_tuple_list, ib_tuple_dict, ib_list_NoneType, ib_list_bool, ib_list_int, ib_list_str, ib_list_tuple, ib_list_list, ib_list_dict, ib_dict_NoneType, ib_dict_bool, ib_dict_int, ib_dict_str, ib_dict_tuple, ib_dict_list, ib_dict_dict, true_and, and_true, if_true, if_false, Bool.not_true, Bool.not_false, List.map_cons, List.map_nil, List.length_cons, List.length_nil, List.replicate, List.cons_append, List.nil_append, List.getElem?_cons_succ, List.getElem?_cons_zero, List.set_cons_succ, List.set_cons_zero, ite_true_eq, ite_false_eq, ite_nt_eq, ite_nf_eq, dec_true, dec_not, bxor_f, bxor_t]
    refine ⟨x, rfl, m, _, .refl, ?_⟩
    rw [tx_tl, fig_mem]
    exact q
def S_Signs_is_end (c : Cs) : DS := fun ds m Q X => ∃ (a : Addr) (l : List Nat) (p : Nat), ds = [.adr a] ∧ Sg c m a l p ∧ Lg l ∧ Q (.bl (decide (p = l.length))) m
def T_Signs_is_end (c : Cs) : DSt := (dRet (dOp gEq (dFld c.Signs ("place" : PySem.Str) (dVar 0)) (dCB gLen (dCons (dFld c.Signs ("signs" : PySem.Str) (dVar 0)) dNil))))
theorem lenD_tx {m : MM} {l : List Nat} (h : Lg l) : lenD m (.str (tx l)) = some l.length := by
  simp only [lenD]
  rw [if_pos h.z, tx_len]
theorem H_Signs_is_end (c : Cs) (ds : List D) (m : MM) (Q : D → MM → Prop) (Px : XC) (h : S_Signs_is_end c ds m Q Px) : ds.length = 1 ∧ T_Signs_is_end c (endD Q Px) (startD ["self"] ds) m := by
  obtain ⟨a, l, p, rfl, hs, hl, q⟩ := h
  refine ⟨rfl, ?_⟩
  unfold Sg at hs
  simp only [T_Signs_is_end, insD_at hs, lk_signs, lk_place, lenD_tx hl, startD, dSeq, dNext, dBreak, dCont, dSet, dIfE, dIfS, dB, dOp, dVar, dC, dCB, dCons, dNil, dUn, dRet, dRetN, dTup, dLst, dLstM, dCall, dDrop, dAsg, dT, Tg.d, Tgs.d, dNotT, dAndT, dOrT, dAndV, dOrV, dNotV, dPar, dFor, dSeqI, dRng1, dRng2, dZip2, dZip3, dEnum, dLC, dLCr, dLCM, finM, gII0, gII, onII, onI, gGcd, gNeg, gAdd, gIt, gIx, gLen, gTupC, gLstC, gLstCM, gAll, gAny, gBls, gSum, gIsi, gAbs, gInt, gStr, gEqB, gIsN, isNon, gRep, dRepM, dSl, dPart, dNoPart, gSl, dRev, dRevM, dM, dM0, gAppend, gPop, dFld, dSetF, dMeth, dMake, dPut, dDict, dPairs, dJoin, dJoined, dJs, dFmt, gIn, exOf, endD, on1, on2, ev_it0, ev_it1, ev_it2, ev_itn1, ev_itn, ev_len_t, ev_len_l, ev_sq_t, ev_sq_l, ev_lst_l, ev_so_t, ev_so_l, ev_so_k, ev_si_t, ev_si_l, ev_si_k, ev_ty_i, ev_ty_b, ev_ty_n, ev_ty_s, ev_ty_t, ev_ty_l, ev_eq_ii, ev_shp_i, ev_shp_b, ev_shp_n, ev_key_i, ev_key_s, kd_NoneType, kd_bool, kd_int, kd_str, kd_tuple, kd_list, kd_dict, ib_NoneType_NoneType, ib_NoneType_bool, ib_NoneType_int, ib_NoneType_str, ib_NoneType_tuple, ib_NoneType_list, ib_NoneType_dict, ib_bool_NoneType, ib_bool_bool, ib_bool_int, ib_bool_str, ib_bool_tuple, ib_bool_list, ib_bool_dict, ib_int_NoneType, ib_int_bool, ib_int_int, ib_int_str, ib_int_tuple, ib_int_list, ib_int_dict, ib_str_NoneType, ib_str_bool, ib_str_int, ib_str_str, ib_str_tuple, ib_str_list, ib_str_dict, ib_tuple_NoneType, ib_tuple_bool, ib_tuple_int, ib_tuple_str, ib_tuple_tuple, ib_tuple_list, ib_tuple_dict, ib_list_NoneType, ib_list_bool, ib_list_int, ib_list_str, ib_list_tuple, ib_list_list, ib_list_dict, ib_dict_NoneType, ib_dict_bool, ib_dict_int, ib_dict_str, ib_dict_tuple, ib_dict_list, ib_dict_dict, true_and, and_true, if_true, if_false, Bool.not_true, Bool.not_false, List.map_cons, List.map_nil, List.length_cons, List.length_nil, List.replicate, List.cons_append, List.nil_append, List.getElem?_cons_succ, List.getElem?_cons_zero, List.set_cons_succ, List.set_cons_zero, ite_true_eq, ite_false_eq, ite_nt_eq, ite_nf_eq, dec_true, dec_not, bxor_f, bxor_t]
  refine ⟨m, _, .refl, ?_⟩
  rw [show decide ((p : Int) = ((l.length : Nat) : Int)) = decide (p = l.length) from decide_eq_decide.mpr (by omega)]
  exact q
def S_Signs_step (c : Cs) : DS := fun ds m Q X => ∃ (a : Addr) (l : List Nat) (p : Nat), ds = [.adr a] ∧ Sg c m a l p ∧ ∀ m', Sg c m' a l (p + 1) → (∀ b, b ≠ a → m' b = m b) → Q .non m'
def T_Signs_step (c : Cs) : DSt := (dSetF c.Signs ("place" : PySem.Str) (dVar 0) (dOp gAdd (dFld c.Signs ("place" : PySem.Str) (dVar 0)) (dC (.int 1))))
theorem H_Signs_step (c : Cs) (ds : List D) (m : MM) (Q : D → MM → Prop) (Px : XC) (h : S_Signs_step c ds m Q Px) : ds.length = 1 ∧ T_Signs_step c (endD Q Px) (startD ["self"] ds) m := by
  obtain ⟨a, l, p, rfl, hs, q⟩ := h
  refine ⟨rfl, ?_⟩
  unfold Sg at hs
  simp only [T_Signs_step, insD_at hs, lk_signs, lk_place, pf_place, cast1, startD, dSeq, dNext, dBreak, dCont, dSet, dIfE, dIfS, dB, dOp, dVar, dC, dCB, dCons, dNil, dUn, dRet, dRetN, dTup, dLst, dLstM, dCall, dDrop, dAsg, dT, Tg.d, Tgs.d, dNotT, dAndT, dOrT, dAndV, dOrV, dNotV, dPar, dFor, dSeqI, dRng1, dRng2, dZip2, dZip3, dEnum, dLC, dLCr, dLCM, finM, gII0, gII, onII, onI, gGcd, gNeg, gAdd, gIt, gIx, gLen, gTupC, gLstC, gLstCM, gAll, gAny, gBls, gSum, gIsi, gAbs, gInt, gStr, gEqB, gIsN, isNon, gRep, dRepM, dSl, dPart, dNoPart, gSl, dRev, dRevM, dM, dM0, gAppend, gPop, dFld, dSetF, dMeth, dMake, dPut, dDict, dPairs, dJoin, dJoined, dJs, dFmt, gIn, exOf, endD, on1, on2, ev_it0, ev_it1, ev_it2, ev_itn1, ev_itn, ev_len_t, ev_len_l, ev_sq_t, ev_sq_l, ev_lst_l, ev_so_t, ev_so_l, ev_so_k, ev_si_t, ev_si_l, ev_si_k, ev_ty_i, ev_ty_b, ev_ty_n, ev_ty_s, ev_ty_t, ev_ty_l, ev_eq_ii, ev_shp_i, ev_shp_b, ev_shp_n, ev_key_i, ev_key_s, kd_NoneType, kd_bool, kd_int, kd_str, kd_tuple, kd_list, kd_dict, ib_NoneType_NoneType, ib_NoneType_bool, ib_NoneType_int, ib_NoneType_str, ib_NoneType_tuple, ib_NoneType_list, ib_NoneType_dict, ib_bool_NoneType, ib_bool_bool, ib_bool_int, ib_bool_str, ib_bool_tuple, ib_bool_list, ib_bool_dict, ib_int_NoneType, ib_int_bool, ib_int_int, ib_int_str, ib_int_tuple, ib_int_list, ib_int_dict, ib_str_NoneType, ib_str_bool, ib_str_int, ib_str_str, ib_str_tuple, ib_str_list, ib_str_dict, ib_tuple_NoneType, ib_tuple_bool, ib_tuple_int, ib_tuple_str, ib_tuple_tuple, ib_tuple_list, ib_tuple_dict, ib_list_NoneType, ib_list_bool, ib_list_int, ib_list_str, ib_list_tuple, ib_list_list, ib_list_dict, ib_dict_NoneType, ib_dict_bool, ib_dict_int, ib_dict_str, ib_dict_tuple, ib_dict_list, ib_dict_dict, true_and, and_true, if_true, if_false, Bool.not_true, Bool.not_false, List.map_cons, List.map_nil, List.length_cons, List.length_nil, List.replicate, List.cons_append, List.nil_append, List.getElem?_cons_succ, List.getElem?_cons_zero, List.set_cons_succ, List.set_cons_zero, ite_true_eq, ite_false_eq, ite_nt_eq, ite_nf_eq, dec_true, dec_not, bxor_f, bxor_t]
  exact ⟨by decide, _, Less.refl _, q _ mset_same fun b hb => mset_ne hb⟩
def S_Signs_told (c : Cs) : DS := fun ds m Q X => ∃ (a : Addr) (l : List Nat) (p b : Nat), ds = [.adr a, .int (b : Int)] ∧ Sg c m a l p ∧ Lg l ∧ Q (.str (tx ((l.take p).drop b))) m
def T_Signs_told (c : Cs) : DSt := (dRet (dSl (dFld c.Signs ("signs" : PySem.Str) (dVar 0)) (dPart (dVar 1)) (dPart (dFld c.Signs ("place" : PySem.Str) (dVar 0)))))
theorem H_Signs_told (c : Cs) (ds : List D) (m : MM) (Q : D → MM → Prop) (Px : XC) (h : S_Signs_told c ds m Q Px) : ds.length = 2 ∧ T_Signs_told c (endD Q Px) (startD ["self", "begin"] ds) m := by
  obtain ⟨a, l, p, b, rfl, hs, hl, q⟩ := h
  refine ⟨rfl, ?_⟩
  unfold Sg at hs
  simp only [T_Signs_told, insD_at hs, lk_signs, lk_place, cut_tx, startD, dSeq, dNext, dBreak, dCont, dSet, dIfE, dIfS, dB, dOp, dVar, dC, dCB, dCons, dNil, dUn, dRet, dRetN, dTup, dLst, dLstM, dCall, dDrop, dAsg, dT, Tg.d, Tgs.d, dNotT, dAndT, dOrT, dAndV, dOrV, dNotV, dPar, dFor, dSeqI, dRng1, dRng2, dZip2, dZip3, dEnum, dLC, dLCr, dLCM, finM, gII0, gII, onII, onI, gGcd, gNeg, gAdd, gIt, gIx, gLen, gTupC, gLstC, gLstCM, gAll, gAny, gBls, gSum, gIsi, gAbs, gInt, gStr, gEqB, gIsN, isNon, gRep, dRepM, dSl, dPart, dNoPart, gSl, dRev, dRevM, dM, dM0, gAppend, gPop, dFld, dSetF, dMeth, dMake, dPut, dDict, dPairs, dJoin, dJoined, dJs, dFmt, gIn, exOf, endD, on1, on2, ev_it0, ev_it1, ev_it2, ev_itn1, ev_itn, ev_len_t, ev_len_l, ev_sq_t, ev_sq_l, ev_lst_l, ev_so_t, ev_so_l, ev_so_k, ev_si_t, ev_si_l, ev_si_k, ev_ty_i, ev_ty_b, ev_ty_n, ev_ty_s, ev_ty_t, ev_ty_l, ev_eq_ii, ev_shp_i, ev_shp_b, ev_shp_n, ev_key_i, ev_key_s, kd_NoneType, kd_bool, kd_int, kd_str, kd_tuple, kd_list, kd_dict, ib_NoneType_NoneType, ib_NoneType_bool, ib_NoneType_int, ib_NoneType_str, ib_NoneType_tuple, ib_NoneType_list, ib_NoneType_dict, ib_bool_NoneType, ib_bool_bool, ib_bool_int, ib_bool_str, ib_bool_tuple, ib_bool_list, ib_bool_dict, ib_int_NoneType, ib_int_bool, ib_int_int, ib_int_str, ib_int_tuple, ib_int_list, ib_int_dict, ib_str_NoneType, ib_str_bool, ib_str_int, ib_str_str, ib_str_tuple, ib_str_list, ib_str_dict, ib_tuple_NoneType, ib_tuple_bool, ib_tuple_int, ib_tuple_str, ib_tuple_tuple, ib_tuple_list, ib_tuple_dict, ib_list_NoneType, ib_list_bool, ib_list_int, ib_list_str, ib_list_tuple, ib_list_list, ib_list_dict, ib_dict_NoneType, ib_dict_bool, ib_dict_int, ib_dict_str, ib_dict_tuple, ib_dict_list, ib_dict_dict, true_and, and_true, if_true, if_false, Bool.not_true, Bool.not_false, List.map_cons, List.map_nil, List.length_cons, List.length_nil, List.replicate, List.cons_append, List.nil_append, List.getElem?_cons_succ, List.getElem?_cons_zero, List.set_cons_succ, List.set_cons_zero, ite_true_eq, ite_false_eq, ite_nt_eq, ite_nf_eq, dec_true, dec_not, bxor_f, bxor_t]
  exact ⟨hl.z, m, _, .refl, q⟩
def S_Signs___init__ (c : Cs) : DS := fun ds m Q X => ∃ (a : Addr) (l : List Nat), ds = [.adr a, .str (tx l)] ∧ m a = some (.ins c.Signs []) ∧ ∀ m', Sg c m' a l 0 → (∀ b, b ≠ a → m' b = m b) → Q .non m'
def T_Signs___init__ (c : Cs) : DSt := (dSeq (dSetF c.Signs ("signs" : PySem.Str) (dVar 0) (dVar 1))
  (dSetF c.Signs ("place" : PySem.Str) (dVar 0) (dC (.int 0))))
theorem H_Signs___init__ (c : Cs) (ds : List D) (m : MM) (Q : D → MM → Prop) (Px : XC) (h : S_Signs___init__ c ds m Q Px) : ds.length = 2 ∧ T_Signs___init__ c (endD Q Px) (startD ["self", "signs"] ds) m := by
  obtain ⟨a, l, rfl, hs, q⟩ := h
  refine ⟨rfl, ?_⟩
  simp only [T_Signs___init__, insD_at hs, startD, dSeq, dNext, dBreak, dCont, dSet, dIfE, dIfS, dB, dOp, dVar, dC, dCB, dCons, dNil, dUn, dRet, dRetN, dTup, dLst, dLstM, dCall, dDrop, dAsg, dT, Tg.d, Tgs.d, dNotT, dAndT, dOrT, dAndV, dOrV, dNotV, dPar, dFor, dSeqI, dRng1, dRng2, dZip2, dZip3, dEnum, dLC, dLCr, dLCM, finM, gII0, gII, onII, onI, gGcd, gNeg, gAdd, gIt, gIx, gLen, gTupC, gLstC, gLstCM, gAll, gAny, gBls, gSum, gIsi, gAbs, gInt, gStr, gEqB, gIsN, isNon, gRep, dRepM, dSl, dPart, dNoPart, gSl, dRev, dRevM, dM, dM0, gAppend, gPop, dFld, dSetF, dMeth, dMake, dPut, dDict, dPairs, dJoin, dJoined, dJs, dFmt, gIn, exOf, endD, on1, on2, ev_it0, ev_it1, ev_it2, ev_itn1, ev_itn, ev_len_t, ev_len_l, ev_sq_t, ev_sq_l, ev_lst_l, ev_so_t, ev_so_l, ev_so_k, ev_si_t, ev_si_l, ev_si_k, ev_ty_i, ev_ty_b, ev_ty_n, ev_ty_s, ev_ty_t, ev_ty_l, ev_eq_ii, ev_shp_i, ev_shp_b, ev_shp_n, ev_key_i, ev_key_s, kd_NoneType, kd_bool, kd_int, kd_str, kd_tuple, kd_list, kd_dict, ib_NoneType_NoneType, ib_NoneType_bool, ib_NoneType_int, ib_NoneType_str, ib_NoneType_tuple, ib_NoneType_list, ib_NoneType_dict, ib_bool_NoneType, ib_bool_bool, ib_bool_int, ib_bool_str, ib_bool_tuple, ib_bool_list, ib_bool_dict, ib_int_NoneType, ib_int_bool, ib_int_int, ib_int_str, ib_int_tuple, ib_int_list, ib_int_dict, ib_str_NoneType, ib_str_bool, ib_str_int, ib_str_str, ib_str_tuple, ib_str_list, ib_str_dict, ib_tuple_NoneType, ib_tuple_bool, ib_tuple_int, ib_tuple_str, ib_tuple_tuple, ib_tuple_list, ib_tuple_dict, ib_list_NoneType, ib_list_bool, ib_list_int, ib_list_str, ib_list_tuple, ib_list_list, ib_list_dict, ib_dict_NoneType, ib_dict_bool, ib_dict_int, ib_dict_str, ib_dict_tuple, ib_dict_list, ib_dict_dict, true_and, and_true, if_true, if_false, Bool.not_true, Bool.not_false, List.map_cons, List.map_nil, List.length_cons, List.length_nil, List.replicate, List.cons_append, List.nil_append, List.getElem?_cons_succ, List.getElem?_cons_zero, List.set_cons_succ, List.set_cons_zero, ite_true_eq, ite_false_eq, ite_nt_eq, ite_nf_eq, dec_true, dec_not, bxor_f, bxor_t]
  refine ⟨by decide, ?_⟩
  have h1 : (mset m a (.ins c.Signs (putFD ("signs" : Str) (.str (tx l)) []))) a = some (.ins c.Signs [(("signs" : Str), .str (tx l))]) := mset_same
  simp only [insD_at h1, startD, dSeq, dNext, dBreak, dCont, dSet, dIfE, dIfS, dB, dOp, dVar, dC, dCB, dCons, dNil, dUn, dRet, dRetN, dTup, dLst, dLstM, dCall, dDrop, dAsg, dT, Tg.d, Tgs.d, dNotT, dAndT, dOrT, dAndV, dOrV, dNotV, dPar, dFor, dSeqI, dRng1, dRng2, dZip2, dZip3, dEnum, dLC, dLCr, dLCM, finM, gII0, gII, onII, onI, gGcd, gNeg, gAdd, gIt, gIx, gLen, gTupC, gLstC, gLstCM, gAll, gAny, gBls, gSum, gIsi, gAbs, gInt, gStr, gEqB, gIsN, isNon, gRep, dRepM, dSl, dPart, dNoPart, gSl, dRev, dRevM, dM, dM0, gAppend, gPop, dFld, dSetF, dMeth, dMake, dPut, dDict, dPairs, dJoin, dJoined, dJs, dFmt, gIn, exOf, endD, on1, on2, ev_it0, ev_it1, ev_it2, ev_itn1, ev_itn, ev_len_t, ev_len_l, ev_sq_t, ev_sq_l, ev_lst_l, ev_so_t, ev_so_l, ev_so_k, ev_si_t, ev_si_l, ev_si_k, ev_ty_i, ev_ty_b, ev_ty_n, ev_ty_s, ev_ty_t, ev_ty_l, ev_eq_ii, ev_shp_i, ev_shp_b, ev_shp_n, ev_key_i, ev_key_s, kd_NoneType, kd_bool, kd_int, kd_str, kd_tuple, kd_list, kd_dict, ib_NoneType_NoneType, ib_NoneType_bool, ib_NoneType_int, ib_NoneType_str, ib_NoneType_tuple, ib_NoneType_list, ib_NoneType_dict, ib_bool_NoneType, ib_bool_bool, ib_bool_int, ib_bool_str, ib_bool_tuple, ib_bool_list, ib_bool_dict, ib_int_NoneType, ib_int_bool, ib_int_int, ib_int_str, ib_int_tuple, ib_int_list, ib_int_dict, ib_str_NoneType, ib_str_bool, ib_str_int, ib_str_str, ib_str_tuple, ib_str_list, ib_str_dict, ib_tuple_NoneType, ib_tuple_bool, ib_tuple_int, ib_tuple_str, ib_tuple_tuple, ib_tuple_list, ib_tuple_dict, ib_list_NoneType, ib_list_bool, ib_list_int, ib_list_str, ib_list_tuple, ib_list_list, ib_list_dict, ib_dict_NoneType, ib_dict_bool, ib_dict_int, ib_dict_str, ib_dict_tuple, ib_dict_list, ib_dict_dict, true_and, and_true, if_true, if_false, Bool.not_true, Bool.not_false, List.map_cons, List.map_nil, List.length_cons, List.length_nil, List.replicate, List.cons_append, List.nil_append, List.getElem?_cons_succ, List.getElem?_cons_zero, List.set_cons_succ, List.set_cons_zero, ite_true_eq, ite_false_eq, ite_nt_eq, ite_nf_eq, dec_true, dec_not, bxor_f, bxor_t]
  refine ⟨by decide, _, Less.refl _, q _ ?_ fun b hb => by rw [mset_ne hb, mset_ne hb]⟩
  exact mset_same
end Y
/-! M5: texts of fractions and rows, written and read. -/
namespace Y
open PySem PySem.Spec PyProof.Rows L2
def Fr (a : Addr) (m m' : MM) : Prop := ∀ b, b ≠ a → m' b = m b
theorem Fr.refl {a : Addr} {m : MM} : Fr a m m := fun _ _ => rfl
theorem Fr.trans {a : Addr} {m m1 m2 : MM} (h : Fr a m m1) (k : Fr a m1 m2) : Fr a m m2 := fun b hb => (k b hb).trans (h b hb)
theorem lk_at {x y : D} : List.lookup ("is_at" : Str) [(("signs" : Str), x), (("place" : Str), y)] = none := rfl
theorem lk_fig {x y : D} : List.lookup ("is_figure" : Str) [(("signs" : Str), x), (("place" : Str), y)] = none := rfl
theorem lk_end {x y : D} : List.lookup ("is_end" : Str) [(("signs" : Str), x), (("place" : Str), y)] = none := rfl
theorem lk_step {x y : D} : List.lookup ("step" : Str) [(("signs" : Str), x), (("place" : Str), y)] = none := rfl
theorem lk_told {x y : D} : List.lookup ("told" : Str) [(("signs" : Str), x), (("place" : Str), y)] = none := rfl
theorem Sg.ins {c : Cs} {m : MM} {a : Addr} {l : List Nat} {p : Nat} (h : Sg c m a l p) : insD m c.Signs (.adr a) = some (a, [(("signs" : Str), .str (tx l)), (("place" : Str), .int (p : Int))]) := insD_at h
def S_fail (c : Cs) : DS := fun _ _ _ _ => False
def S_take (c : Cs) : DS := fun ds m Q X => ∃ (a : Addr) (l : List Nat) (p ch : Nat), ds = [.adr a, .str (tx [ch])] ∧ Sg c m a l p ∧ Lg l ∧ ch < 0x110000 ∧ (l.drop p).head? = some ch ∧ ∀ m', Sg c m' a l (p + 1) → Fr a m m' → Q .non m'
def T_take (c : Cs) : DSt := (dSeq (dIfS (dNotT (dB (dMeth c.Signs ("is_at" : PySem.Str) (S_Signs_is_at c) (dVar 0) (dCons (dVar 1) dNil)))) (dDrop (dCall (S_fail c) (dCons (dVar 0) dNil))) dNext)
  (dDrop (dMeth c.Signs ("step" : PySem.Str) (S_Signs_step c) (dVar 0) dNil)))
theorem H_take (c : Cs) (ds : List D) (m : MM) (Q : D → MM → Prop) (Px : XC) (h : S_take c ds m Q Px) : ds.length = 2 ∧ T_take c (endD Q Px) (startD ["signs", "sign"] ds) m := by
  obtain ⟨a, l, p, ch, rfl, hs, hl, hc, hh, q⟩ := h
  refine ⟨rfl, ?_⟩
  simp only [T_take, hs.ins, lk_at, startD, dSeq, dNext, dBreak, dCont, dSet, dIfE, dIfS, dB, dOp, dVar, dC, dCB, dCons, dNil, dUn, dRet, dRetN, dTup, dLst, dLstM, dCall, dDrop, dAsg, dT, Tg.d, Tgs.d, dNotT, dAndT, dOrT, dAndV, dOrV, dNotV, dPar, dFor, dSeqI, dRng1, dRng2, dZip2, dZip3, dEnum, dLC, dLCr, dLCM, finM, gII0, gII, onII, onI, gGcd, gNeg, gAdd, gIt, gIx, gLen, gTupC, gLstC, gLstCM, gAll, gAny, gBls, gSum, gIsi, gAbs, gInt, gStr, gEqB, gIsN, isNon, gRep, dRepM, dSl, dPart, dNoPart, gSl, dRev, dRevM, dM, dM0, gAppend, gPop, dFld, dSetF, dMeth, dMake, dPut, dDict, dPairs, dJoin, dJoined, dJs, dFmt, gIn, exOf, endD, on1, on2, ev_it0, ev_it1, ev_it2, ev_itn1, ev_itn, ev_len_t, ev_len_l, ev_sq_t, ev_sq_l, ev_lst_l, ev_so_t, ev_so_l, ev_so_k, ev_si_t, ev_si_l, ev_si_k, ev_ty_i, ev_ty_b, ev_ty_n, ev_ty_s, ev_ty_t, ev_ty_l, ev_eq_ii, ev_shp_i, ev_shp_b, ev_shp_n, ev_key_i, ev_key_s, kd_NoneType, kd_bool, kd_int, kd_str, kd_tuple, kd_list, kd_dict, ib_NoneType_NoneType, ib_NoneType_bool, ib_NoneType_int, ib_NoneType_str, ib_NoneType_tuple, ib_NoneType_list, ib_NoneType_dict, ib_bool_NoneType, ib_bool_bool, ib_bool_int, ib_bool_str, ib_bool_tuple, ib_bool_list, ib_bool_dict, ib_int_NoneType, ib_int_bool, ib_int_int, ib_int_str, ib_int_tuple, ib_int_list, ib_int_dict, ib_str_NoneType, ib_str_bool, ib_str_int, ib_str_str, ib_str_tuple, ib_str_list, ib_str_dict, ib_tuple_NoneType, ib_tuple_bool, ib_tuple_int, ib_tuple_str, ib_tuple_tuple, ib_tuple_list, ib_tuple_dict, ib_list_NoneType, ib_list_bool, ib_list_int, ib_list_str, ib_list_tuple, ib_list_list, ib_list_dict, ib_dict_NoneType, ib_dict_bool, ib_dict_int, ib_dict_str, ib_dict_tuple, ib_dict_list, ib_dict_dict, true_and, and_true, if_true, if_false, Bool.not_true, Bool.not_false, List.map_cons, List.map_nil, List.length_cons, List.length_nil, List.replicate, List.cons_append, List.nil_append, List.getElem?_cons_succ, List.getElem?_cons_zero, List.set_cons_succ, List.set_cons_zero, ite_true_eq, ite_false_eq, ite_nt_eq, ite_nf_eq, dec_true, dec_not, bxor_f, bxor_t]
  refine ⟨a, l, p, ch, rfl, hs, hl, hc, ?_⟩
  rw [hh]
  simp only [lk_step, decide_true, hs.ins, startD, dSeq, dNext, dBreak, dCont, dSet, dIfE, dIfS, dB, dOp, dVar, dC, dCB, dCons, dNil, dUn, dRet, dRetN, dTup, dLst, dLstM, dCall, dDrop, dAsg, dT, Tg.d, Tgs.d, dNotT, dAndT, dOrT, dAndV, dOrV, dNotV, dPar, dFor, dSeqI, dRng1, dRng2, dZip2, dZip3, dEnum, dLC, dLCr, dLCM, finM, gII0, gII, onII, onI, gGcd, gNeg, gAdd, gIt, gIx, gLen, gTupC, gLstC, gLstCM, gAll, gAny, gBls, gSum, gIsi, gAbs, gInt, gStr, gEqB, gIsN, isNon, gRep, dRepM, dSl, dPart, dNoPart, gSl, dRev, dRevM, dM, dM0, gAppend, gPop, dFld, dSetF, dMeth, dMake, dPut, dDict, dPairs, dJoin, dJoined, dJs, dFmt, gIn, exOf, endD, on1, on2, ev_it0, ev_it1, ev_it2, ev_itn1, ev_itn, ev_len_t, ev_len_l, ev_sq_t, ev_sq_l, ev_lst_l, ev_so_t, ev_so_l, ev_so_k, ev_si_t, ev_si_l, ev_si_k, ev_ty_i, ev_ty_b, ev_ty_n, ev_ty_s, ev_ty_t, ev_ty_l, ev_eq_ii, ev_shp_i, ev_shp_b, ev_shp_n, ev_key_i, ev_key_s, kd_NoneType, kd_bool, kd_int, kd_str, kd_tuple, kd_list, kd_dict, ib_NoneType_NoneType, ib_NoneType_bool, ib_NoneType_int, ib_NoneType_str, ib_NoneType_tuple, ib_NoneType_list, ib_NoneType_dict, ib_bool_NoneType, ib_bool_bool, ib_bool_int, ib_bool_str, ib_bool_tuple, ib_bool_list, ib_bool_dict, ib_int_NoneType, ib_int_bool, ib_int_int, ib_int_str, ib_int_tuple, ib_int_list, ib_int_dict, ib_str_NoneType, ib_str_bool, ib_str_int, ib_str_str, ib_str_tuple, ib_str_list, ib_str_dict, ib_tuple_NoneType, ib_tuple_bool, ib_tuple_int, ib_tuple_str, ib_tuple_tuple, ib_tuple_list, ib_tuple_dict, ib_list_NoneType, ib_list_bool, ib_list_int, ib_list_str, ib_list_tuple, ib_list_list, ib_list_dict, ib_dict_NoneType, ib_dict_bool, ib_dict_int, ib_dict_str, ib_dict_tuple, ib_dict_list, ib_dict_dict, true_and, and_true, if_true, if_false, Bool.not_true, Bool.not_false, List.map_cons, List.map_nil, List.length_cons, List.length_nil, List.replicate, List.cons_append, List.nil_append, List.getElem?_cons_succ, List.getElem?_cons_zero, List.set_cons_succ, List.set_cons_zero, ite_true_eq, ite_false_eq, ite_nt_eq, ite_nf_eq, dec_true, dec_not, bxor_f, bxor_t]
  exact ⟨a, l, p, rfl, hs, fun m' h1 h2 => ⟨m', Less.refl _, q m' h1 h2⟩⟩
/-! ### numbers -/
theorem numL_head {n : Nat} (h : 0 < n) : (TL.numL n).head? ≠ some 48 := by
  induction n using Nat.strongRecOn with
  | _ n ih =>
    by_cases h10 : n < 10
    · rw [TL.numL_lt h10]
      simp; omega
    · rw [TL.numL_step (by omega), List.head?_append]
      have := ih (n / 10) (by omega) (by omega)
      cases e : (TL.numL (n / 10)).head? with
      | none => rw [List.head?_eq_none_iff] at e; exact absurd e (TL.numL_ne _)
      | some x => rw [e] at this; simpa using this
theorem numL_zero : TL.numL 0 = [48] := TL.numL_lt (by decide)
/-- behind a number -/
def NoFig (t : List Nat) : Prop := ∀ x, t.head? = some x → isFig x = false
theorem figAt_in {l : List Nat} {p k : Nat} {d t : List Nat} (h : l.drop p = d ++ t) (hd : NumText.AllDigits d) (hk : k < d.length) : figAt l (p + k) = true := by
  unfold figAt
  have e : l.drop (p + k) = d.drop k ++ t := by
    rw [← List.drop_drop, h, List.drop_append_of_le_length (Nat.le_of_lt hk)]
  rw [e, List.drop_eq_getElem_cons hk]
  have := hd d[k] (List.getElem_mem hk)
  show isFig d[k] = true
  unfold isFig
  rw [decide_eq_true this.1, decide_eq_true this.2]; rfl
theorem figAt_out {l : List Nat} {p : Nat} {d t : List Nat} (h : l.drop p = d ++ t) (ht : NoFig t) : figAt l (p + d.length) = false := by
  unfold figAt
  have e : l.drop (p + d.length) = t := by
    rw [← List.drop_drop, h, List.drop_append_of_le_length (Nat.le_refl _), List.drop_length, List.nil_append]
  rw [e]
  cases hh : t.head? with
  | none => rfl
  | some x => exact ht x hh
theorem told_in {l : List Nat} {p : Nat} {d t : List Nat} (h : l.drop p = d ++ t) : (l.take (p + d.length)).drop p = d := by
  rw [List.drop_take, h, show p + d.length - p = d.length by omega, List.take_left]
def c_MOST_FIGURES : D := .int 200
def c_MOST_LEVELS : D := .int 4
theorem s0 : ("0" : Str) = tx [48] := rfl
theorem sMin : ("-" : Str) = tx [45] := rfl
theorem sSl : ("/" : Str) = tx [47] := rfl
theorem sSp : (" " : Str) = tx [32] := rfl
theorem sOp : ("(" : Str) = tx [40] := rfl
theorem sCl : (")" : Str) = tx [41] := rfl
theorem intText_numL {n : Nat} (h : (TL.numL n).length ≤ 200) : PySem.intText? (tx (TL.numL n)) = some (n : Int) := by
  have e : Str.ofString (toString ((n : Nat) : Int)) = tx (TL.numL n) := TL.ext_tl (TL.tl_num n)
  rw [← e]
  exact TL.int_num (by omega)
def S_number_at (c : Cs) : DS := fun ds m Q X => ∃ (a : Addr) (l : List Nat) (p n : Nat) (t : List Nat), ds = [.adr a] ∧ Sg c m a l p ∧ Lg l ∧ l.drop p = TL.numL n ++ t ∧ (TL.numL n).length ≤ 200 ∧ NoFig t ∧ ∀ m', Sg c m' a l (p + (TL.numL n).length) → Fr a m m' → Q (.int (n : Int)) m'
def T_number_at (c : Cs) : DSt := (dSeq (dSet 1 (dFld c.Signs ("place" : PySem.Str) (dVar 0)))
  (dSeq (dIfS (dNotT (dB (dMeth c.Signs ("is_figure" : PySem.Str) (S_Signs_is_figure c) (dVar 0) dNil))) (dDrop (dCall (S_fail c) (dCons (dVar 0) dNil))) dNext)
  (dSeq (dIfS (dB (dMeth c.Signs ("is_at" : PySem.Str) (S_Signs_is_at c) (dVar 0) (dCons (dC (.str ("0" : PySem.Str))) dNil))) (dSeq (dDrop (dMeth c.Signs ("step" : PySem.Str) (S_Signs_step c) (dVar 0) dNil))
  (dRet (dC (.int 0)))) dNext)
  (dSeq (dWhile (dAndT (dB (dMeth c.Signs ("is_figure" : PySem.Str) (S_Signs_is_figure c) (dVar 0) dNil)) (dB (dOp gLt (dOp gSub (dFld c.Signs ("place" : PySem.Str) (dVar 0)) (dVar 1)) (dC c_MOST_FIGURES))))
  (dDrop (dMeth c.Signs ("step" : PySem.Str) (S_Signs_step c) (dVar 0) dNil)))
  (dRet (dCB gIntT (dCons (dMeth c.Signs ("told" : PySem.Str) (S_Signs_told c) (dVar 0) (dCons (dVar 1) dNil)) dNil)))))))
theorem H_number_at (c : Cs) (ds : List D) (m : MM) (Q : D → MM → Prop) (Px : XC) (h : S_number_at c ds m Q Px) : ds.length = 1 ∧ T_number_at c (endD Q Px) (startD ["signs", "begin"] ds) m := by
  obtain ⟨a, l, p, n, t, rfl, hs, hl, hd, hn, ht, q⟩ := h
  refine ⟨rfl, ?_⟩
  simp only [T_number_at, hs.ins, lk_place, lk_fig, lk_at, startD, dSeq, dNext, dBreak, dCont, dSet, dIfE, dIfS, dB, dOp, dVar, dC, dCB, dCons, dNil, dUn, dRet, dRetN, dTup, dLst, dLstM, dCall, dDrop, dAsg, dT, Tg.d, Tgs.d, dNotT, dAndT, dOrT, dAndV, dOrV, dNotV, dPar, dFor, dSeqI, dRng1, dRng2, dZip2, dZip3, dEnum, dLC, dLCr, dLCM, finM, gII0, gII, onII, onI, gGcd, gNeg, gAdd, gIt, gIx, gLen, gTupC, gLstC, gLstCM, gAll, gAny, gBls, gSum, gIsi, gAbs, gInt, gStr, gEqB, gIsN, isNon, gRep, dRepM, dSl, dPart, dNoPart, gSl, dRev, dRevM, dM, dM0, gAppend, gPop, dFld, dSetF, dMeth, dMake, dPut, dDict, dPairs, dJoin, dJoined, dJs, dFmt, gIn, exOf, endD, on1, on2, ev_it0, ev_it1, ev_it2, ev_itn1, ev_itn, ev_len_t, ev_len_l, ev_sq_t, ev_sq_l, ev_lst_l, ev_so_t, ev_so_l, ev_so_k, ev_si_t, ev_si_l, ev_si_k, ev_ty_i, ev_ty_b, ev_ty_n, ev_ty_s, ev_ty_t, ev_ty_l, ev_eq_ii, ev_shp_i, ev_shp_b, ev_shp_n, ev_key_i, ev_key_s, kd_NoneType, kd_bool, kd_int, kd_str, kd_tuple, kd_list, kd_dict, ib_NoneType_NoneType, ib_NoneType_bool, ib_NoneType_int, ib_NoneType_str, ib_NoneType_tuple, ib_NoneType_list, ib_NoneType_dict, ib_bool_NoneType, ib_bool_bool, ib_bool_int, ib_bool_str, ib_bool_tuple, ib_bool_list, ib_bool_dict, ib_int_NoneType, ib_int_bool, ib_int_int, ib_int_str, ib_int_tuple, ib_int_list, ib_int_dict, ib_str_NoneType, ib_str_bool, ib_str_int, ib_str_str, ib_str_tuple, ib_str_list, ib_str_dict, ib_tuple_NoneType, ib_tuple_bool, ib_tuple_int, ib_tuple_str, ib_tuple_tuple, ib_tuple_list, ib_tuple_dict, ib_list_NoneType, ib_list_bool, ib_list_int, ib_list_str, ib_list_tuple, ib_list_list, ib_list_dict, ib_dict_NoneType, ib_dict_bool, ib_dict_int, ib_dict_str, ib_dict_tuple, ib_dict_list, ib_dict_dict, true_and, and_true, if_true, if_false, Bool.not_true, Bool.not_false, List.map_cons, List.map_nil, List.length_cons, List.length_nil, List.replicate, List.cons_append, List.nil_append, List.getElem?_cons_succ, List.getElem?_cons_zero, List.set_cons_succ, List.set_cons_zero, ite_true_eq, ite_false_eq, ite_nt_eq, ite_nf_eq, dec_true, dec_not, bxor_f, bxor_t]
  refine ⟨a, l, p, rfl, hs, hl, ?_⟩
  have hne : 0 < (TL.numL n).length := List.length_pos_iff.mpr (TL.numL_ne n)
  have f0 : figAt l p = true := figAt_in (k := 0) hd (TL.numL_digits n) hne
  rw [f0]
  simp only [hs.ins, lk_at, startD, dSeq, dNext, dBreak, dCont, dSet, dIfE, dIfS, dB, dOp, dVar, dC, dCB, dCons, dNil, dUn, dRet, dRetN, dTup, dLst, dLstM, dCall, dDrop, dAsg, dT, Tg.d, Tgs.d, dNotT, dAndT, dOrT, dAndV, dOrV, dNotV, dPar, dFor, dSeqI, dRng1, dRng2, dZip2, dZip3, dEnum, dLC, dLCr, dLCM, finM, gII0, gII, onII, onI, gGcd, gNeg, gAdd, gIt, gIx, gLen, gTupC, gLstC, gLstCM, gAll, gAny, gBls, gSum, gIsi, gAbs, gInt, gStr, gEqB, gIsN, isNon, gRep, dRepM, dSl, dPart, dNoPart, gSl, dRev, dRevM, dM, dM0, gAppend, gPop, dFld, dSetF, dMeth, dMake, dPut, dDict, dPairs, dJoin, dJoined, dJs, dFmt, gIn, exOf, endD, on1, on2, ev_it0, ev_it1, ev_it2, ev_itn1, ev_itn, ev_len_t, ev_len_l, ev_sq_t, ev_sq_l, ev_lst_l, ev_so_t, ev_so_l, ev_so_k, ev_si_t, ev_si_l, ev_si_k, ev_ty_i, ev_ty_b, ev_ty_n, ev_ty_s, ev_ty_t, ev_ty_l, ev_eq_ii, ev_shp_i, ev_shp_b, ev_shp_n, ev_key_i, ev_key_s, kd_NoneType, kd_bool, kd_int, kd_str, kd_tuple, kd_list, kd_dict, ib_NoneType_NoneType, ib_NoneType_bool, ib_NoneType_int, ib_NoneType_str, ib_NoneType_tuple, ib_NoneType_list, ib_NoneType_dict, ib_bool_NoneType, ib_bool_bool, ib_bool_int, ib_bool_str, ib_bool_tuple, ib_bool_list, ib_bool_dict, ib_int_NoneType, ib_int_bool, ib_int_int, ib_int_str, ib_int_tuple, ib_int_list, ib_int_dict, ib_str_NoneType, ib_str_bool, ib_str_int, ib_str_str, ib_str_tuple, ib_str_list, ib_str_dict, ib_tuple_NoneType, ib_tuple_bool, ib_tuple_int, ib_tuple_str, ib_tuple_tuple, ib_tuple_list, ib_tuple_dict, ib_list_NoneType, ib_list_bool, ib_list_int, ib_list_str, ib_list_tuple, ib_list_list, ib_list_dict, ib_dict_NoneType, ib_dict_bool, ib_dict_int, ib_dict_str, ib_dict_tuple, ib_dict_list, ib_dict_dict, true_and, and_true, if_true, if_false, Bool.not_true, Bool.not_false, List.map_cons, List.map_nil, List.length_cons, List.length_nil, List.replicate, List.cons_append, List.nil_append, List.getElem?_cons_succ, List.getElem?_cons_zero, List.set_cons_succ, List.set_cons_zero, ite_true_eq, ite_false_eq, ite_nt_eq, ite_nf_eq, dec_true, dec_not, bxor_f, bxor_t]
  refine ⟨a, l, p, 48, rfl, hs, hl, by decide, ?_⟩
  by_cases h0 : n = 0
  · subst h0
    rw [numL_zero] at hd q
    have : (l.drop p).head? = some 48 := by rw [hd]; rfl
    rw [this]
    simp only [decide_true, hs.ins, lk_step, startD, dSeq, dNext, dBreak, dCont, dSet, dIfE, dIfS, dB, dOp, dVar, dC, dCB, dCons, dNil, dUn, dRet, dRetN, dTup, dLst, dLstM, dCall, dDrop, dAsg, dT, Tg.d, Tgs.d, dNotT, dAndT, dOrT, dAndV, dOrV, dNotV, dPar, dFor, dSeqI, dRng1, dRng2, dZip2, dZip3, dEnum, dLC, dLCr, dLCM, finM, gII0, gII, onII, onI, gGcd, gNeg, gAdd, gIt, gIx, gLen, gTupC, gLstC, gLstCM, gAll, gAny, gBls, gSum, gIsi, gAbs, gInt, gStr, gEqB, gIsN, isNon, gRep, dRepM, dSl, dPart, dNoPart, gSl, dRev, dRevM, dM, dM0, gAppend, gPop, dFld, dSetF, dMeth, dMake, dPut, dDict, dPairs, dJoin, dJoined, dJs, dFmt, gIn, exOf, endD, on1, on2, ev_it0, ev_it1, ev_it2, ev_itn1, ev_itn, ev_len_t, ev_len_l, ev_sq_t, ev_sq_l, ev_lst_l, ev_so_t, ev_so_l, ev_so_k, ev_si_t, ev_si_l, ev_si_k, ev_ty_i, ev_ty_b, ev_ty_n, ev_ty_s, ev_ty_t, ev_ty_l, ev_eq_ii, ev_shp_i, ev_shp_b, ev_shp_n, ev_key_i, ev_key_s, kd_NoneType, kd_bool, kd_int, kd_str, kd_tuple, kd_list, kd_dict, ib_NoneType_NoneType, ib_NoneType_bool, ib_NoneType_int, ib_NoneType_str, ib_NoneType_tuple, ib_NoneType_list, ib_NoneType_dict, ib_bool_NoneType, ib_bool_bool, ib_bool_int, ib_bool_str, ib_bool_tuple, ib_bool_list, ib_bool_dict, ib_int_NoneType, ib_int_bool, ib_int_int, ib_int_str, ib_int_tuple, ib_int_list, ib_int_dict, ib_str_NoneType, ib_str_bool, ib_str_int, ib_str_str, ib_str_tuple, ib_str_list, ib_str_dict, ib_tuple_NoneType, ib_tuple_bool, ib_tuple_int, ib_tuple_str, ib_tuple_tuple, ib_tuple_list, ib_tuple_dict, ib_list_NoneType, ib_list_bool, ib_list_int, ib_list_str, ib_list_tuple, ib_list_list, ib_list_dict, ib_dict_NoneType, ib_dict_bool, ib_dict_int, ib_dict_str, ib_dict_tuple, ib_dict_list, ib_dict_dict, true_and, and_true, if_true, if_false, Bool.not_true, Bool.not_false, List.map_cons, List.map_nil, List.length_cons, List.length_nil, List.replicate, List.cons_append, List.nil_append, List.getElem?_cons_succ, List.getElem?_cons_zero, List.set_cons_succ, List.set_cons_zero, ite_true_eq, ite_false_eq, ite_nt_eq, ite_nf_eq, dec_true, dec_not, bxor_f, bxor_t]
    exact ⟨a, l, p, rfl, hs, fun m' h1 h2 => ⟨m', _, .refl, q m' h1 h2⟩⟩
  · have : (l.drop p).head? ≠ some 48 := by
      rw [hd, List.head?_append]
      have := numL_head (n := n) (by omega)
      cases e : (TL.numL n).head? with
      | none => rw [List.head?_eq_none_iff] at e; exact absurd e (TL.numL_ne _)
      | some x => rw [e] at this; simpa using this
    rw [decide_eq_false this]
    simp only [startD, dSeq, dNext, dBreak, dCont, dSet, dIfE, dIfS, dB, dOp, dVar, dC, dCB, dCons, dNil, dUn, dRet, dRetN, dTup, dLst, dLstM, dCall, dDrop, dAsg, dT, Tg.d, Tgs.d, dNotT, dAndT, dOrT, dAndV, dOrV, dNotV, dPar, dFor, dSeqI, dRng1, dRng2, dZip2, dZip3, dEnum, dLC, dLCr, dLCM, finM, gII0, gII, onII, onI, gGcd, gNeg, gAdd, gIt, gIx, gLen, gTupC, gLstC, gLstCM, gAll, gAny, gBls, gSum, gIsi, gAbs, gInt, gStr, gEqB, gIsN, isNon, gRep, dRepM, dSl, dPart, dNoPart, gSl, dRev, dRevM, dM, dM0, gAppend, gPop, dFld, dSetF, dMeth, dMake, dPut, dDict, dPairs, dJoin, dJoined, dJs, dFmt, gIn, exOf, endD, on1, on2, ev_it0, ev_it1, ev_it2, ev_itn1, ev_itn, ev_len_t, ev_len_l, ev_sq_t, ev_sq_l, ev_lst_l, ev_so_t, ev_so_l, ev_so_k, ev_si_t, ev_si_l, ev_si_k, ev_ty_i, ev_ty_b, ev_ty_n, ev_ty_s, ev_ty_t, ev_ty_l, ev_eq_ii, ev_shp_i, ev_shp_b, ev_shp_n, ev_key_i, ev_key_s, kd_NoneType, kd_bool, kd_int, kd_str, kd_tuple, kd_list, kd_dict, ib_NoneType_NoneType, ib_NoneType_bool, ib_NoneType_int, ib_NoneType_str, ib_NoneType_tuple, ib_NoneType_list, ib_NoneType_dict, ib_bool_NoneType, ib_bool_bool, ib_bool_int, ib_bool_str, ib_bool_tuple, ib_bool_list, ib_bool_dict, ib_int_NoneType, ib_int_bool, ib_int_int, ib_int_str, ib_int_tuple, ib_int_list, ib_int_dict, ib_str_NoneType, ib_str_bool, ib_str_int, ib_str_str, ib_str_tuple, ib_str_list, ib_str_dict, ib_tuple_NoneType, ib_tuple_bool, ib_tuple_int, ib_tuple_str, ib_tuple_tuple, ib_tuple_list, ib_tuple_dict, ib_list_NoneType, ib_list_bool, ib_list_int, ib_list_str, ib_list_tuple, ib_list_list, ib_list_dict, ib_dict_NoneType, ib_dict_bool, ib_dict_int, ib_dict_str, ib_dict_tuple, ib_dict_list, ib_dict_dict, true_and, and_true, if_true, if_false, Bool.not_true, Bool.not_false, List.map_cons, List.map_nil, List.length_cons, List.length_nil, List.replicate, List.cons_append, List.nil_append, List.getElem?_cons_succ, List.getElem?_cons_zero, List.set_cons_succ, List.set_cons_zero, ite_true_eq, ite_false_eq, ite_nt_eq, ite_nf_eq, dec_true, dec_not, bxor_f, bxor_t]
    refine ⟨fun k ρ m' => ∃ j, k = (TL.numL n).length - j ∧ j ≤ (TL.numL n).length ∧ 0 ≤ j ∧ ρ = [some (.adr a), some (.int (p : Int))] ∧ Sg c m' a l (p + j) ∧ Fr a m m', ⟨_, 0, rfl, by omega, by omega, rfl, hs, Fr.refl⟩, ?_⟩
    rintro k ρ m' ⟨j, rfl, hj, _, rfl, s', f'⟩
    simp only [s'.ins, lk_fig, lk_place, startD, dSeq, dNext, dBreak, dCont, dSet, dIfE, dIfS, dB, dOp, dVar, dC, dCB, dCons, dNil, dUn, dRet, dRetN, dTup, dLst, dLstM, dCall, dDrop, dAsg, dT, Tg.d, Tgs.d, dNotT, dAndT, dOrT, dAndV, dOrV, dNotV, dPar, dFor, dSeqI, dRng1, dRng2, dZip2, dZip3, dEnum, dLC, dLCr, dLCM, finM, gII0, gII, onII, onI, gGcd, gNeg, gAdd, gIt, gIx, gLen, gTupC, gLstC, gLstCM, gAll, gAny, gBls, gSum, gIsi, gAbs, gInt, gStr, gEqB, gIsN, isNon, gRep, dRepM, dSl, dPart, dNoPart, gSl, dRev, dRevM, dM, dM0, gAppend, gPop, dFld, dSetF, dMeth, dMake, dPut, dDict, dPairs, dJoin, dJoined, dJs, dFmt, gIn, exOf, endD, on1, on2, ev_it0, ev_it1, ev_it2, ev_itn1, ev_itn, ev_len_t, ev_len_l, ev_sq_t, ev_sq_l, ev_lst_l, ev_so_t, ev_so_l, ev_so_k, ev_si_t, ev_si_l, ev_si_k, ev_ty_i, ev_ty_b, ev_ty_n, ev_ty_s, ev_ty_t, ev_ty_l, ev_eq_ii, ev_shp_i, ev_shp_b, ev_shp_n, ev_key_i, ev_key_s, kd_NoneType, kd_bool, kd_int, kd_str, kd_tuple, kd_list, kd_dict, ib_NoneType_NoneType, ib_NoneType_bool, ib_NoneType_int, ib_NoneType_str, ib_NoneType_tuple, ib_NoneType_list, ib_NoneType_dict, ib_bool_NoneType, ib_bool_bool, ib_bool_int, ib_bool_str, ib_bool_tuple, ib_bool_list, ib_bool_dict, ib_int_NoneType, ib_int_bool, ib_int_int, ib_int_str, ib_int_tuple, ib_int_list, ib_int_dict, ib_str_NoneType, ib_str_bool, ib_str_int, ib_str_str, ib_str_tuple, ib_str_list, ib_str_dict, ib_tuple_NoneType, ib_tuple_bool, ib_tuple_int, ib_tuple_str, ib_tuple_tuple, ib_tuple_list, ib_tuple_dict, ib_list_NoneType, ib_list_bool, ib_list_int, ib_list_str, ib_list_tuple, ib_list_list, ib_list_dict, ib_dict_NoneType, ib_dict_bool, ib_dict_int, ib_dict_str, ib_dict_tuple, ib_dict_list, ib_dict_dict, true_and, and_true, if_true, if_false, Bool.not_true, Bool.not_false, List.map_cons, List.map_nil, List.length_cons, List.length_nil, List.replicate, List.cons_append, List.nil_append, List.getElem?_cons_succ, List.getElem?_cons_zero, List.set_cons_succ, List.set_cons_zero, ite_true_eq, ite_false_eq, ite_nt_eq, ite_nf_eq, dec_true, dec_not, bxor_f, bxor_t]
    refine ⟨a, l, p + j, rfl, s', hl, ?_⟩
    by_cases hlt : j < (TL.numL n).length
    · rw [figAt_in hd (TL.numL_digits n) hlt]
      simp only [c_MOST_FIGURES, s'.ins, lk_place, lk_step, startD, dSeq, dNext, dBreak, dCont, dSet, dIfE, dIfS, dB, dOp, dVar, dC, dCB, dCons, dNil, dUn, dRet, dRetN, dTup, dLst, dLstM, dCall, dDrop, dAsg, dT, Tg.d, Tgs.d, dNotT, dAndT, dOrT, dAndV, dOrV, dNotV, dPar, dFor, dSeqI, dRng1, dRng2, dZip2, dZip3, dEnum, dLC, dLCr, dLCM, finM, gII0, gII, onII, onI, gGcd, gNeg, gAdd, gIt, gIx, gLen, gTupC, gLstC, gLstCM, gAll, gAny, gBls, gSum, gIsi, gAbs, gInt, gStr, gEqB, gIsN, isNon, gRep, dRepM, dSl, dPart, dNoPart, gSl, dRev, dRevM, dM, dM0, gAppend, gPop, dFld, dSetF, dMeth, dMake, dPut, dDict, dPairs, dJoin, dJoined, dJs, dFmt, gIn, exOf, endD, on1, on2, ev_it0, ev_it1, ev_it2, ev_itn1, ev_itn, ev_len_t, ev_len_l, ev_sq_t, ev_sq_l, ev_lst_l, ev_so_t, ev_so_l, ev_so_k, ev_si_t, ev_si_l, ev_si_k, ev_ty_i, ev_ty_b, ev_ty_n, ev_ty_s, ev_ty_t, ev_ty_l, ev_eq_ii, ev_shp_i, ev_shp_b, ev_shp_n, ev_key_i, ev_key_s, kd_NoneType, kd_bool, kd_int, kd_str, kd_tuple, kd_list, kd_dict, ib_NoneType_NoneType, ib_NoneType_bool, ib_NoneType_int, ib_NoneType_str, ib_NoneType_tuple, ib_NoneType_list, ib_NoneType_dict, ib_bool_NoneType, ib_bool_bool, ib_bool_int, ib_bool_str, ib_bool_tuple, ib_bool_list, ib_bool_dict, ib_int_NoneType, ib_int_bool, ib_int_int, ib_int_str, ib_int_tuple, ib_int_list, ib_int_dict, ib_str_NoneType, ib_str_bool, ib_str_int, ib_str_str, ib_str_tuple, ib_str_list, ib_str_dict, ib_tuple_NoneType, ib_tuple_bool, ib_tuple_int, ib_tuple_str, ib_tuple_tuple, ib_tuple_list, ib_tuple_dict, ib_list_NoneType, ib_list_bool, ib_list_int, ib_list_str, ib_list_tuple, ib_list_list, ib_list_dict, ib_dict_NoneType, ib_dict_bool, ib_dict_int, ib_dict_str, ib_dict_tuple, ib_dict_list, ib_dict_dict, true_and, and_true, if_true, if_false, Bool.not_true, Bool.not_false, List.map_cons, List.map_nil, List.length_cons, List.length_nil, List.replicate, List.cons_append, List.nil_append, List.getElem?_cons_succ, List.getElem?_cons_zero, List.set_cons_succ, List.set_cons_zero, ite_true_eq, ite_false_eq, ite_nt_eq, ite_nf_eq, dec_true, dec_not, bxor_f, bxor_t]
      have : ((p + j : Nat) : Int) - (p : Int) < 200 := by omega
      rw [if_pos this]
      exact ⟨a, l, p + j, rfl, s', fun m2 h1 h2 => ⟨_, by omega, j + 1, rfl, by omega, by omega, h1, Fr.trans f' h2⟩⟩
    · obtain rfl : j = (TL.numL n).length := by omega
      rw [figAt_out hd ht]
      simp only [s'.ins, lk_told, startD, dSeq, dNext, dBreak, dCont, dSet, dIfE, dIfS, dB, dOp, dVar, dC, dCB, dCons, dNil, dUn, dRet, dRetN, dTup, dLst, dLstM, dCall, dDrop, dAsg, dT, Tg.d, Tgs.d, dNotT, dAndT, dOrT, dAndV, dOrV, dNotV, dPar, dFor, dSeqI, dRng1, dRng2, dZip2, dZip3, dEnum, dLC, dLCr, dLCM, finM, gII0, gII, onII, onI, gGcd, gNeg, gAdd, gIt, gIx, gLen, gTupC, gLstC, gLstCM, gAll, gAny, gBls, gSum, gIsi, gAbs, gInt, gStr, gEqB, gIsN, isNon, gRep, dRepM, dSl, dPart, dNoPart, gSl, dRev, dRevM, dM, dM0, gAppend, gPop, dFld, dSetF, dMeth, dMake, dPut, dDict, dPairs, dJoin, dJoined, dJs, dFmt, gIn, exOf, endD, on1, on2, ev_it0, ev_it1, ev_it2, ev_itn1, ev_itn, ev_len_t, ev_len_l, ev_sq_t, ev_sq_l, ev_lst_l, ev_so_t, ev_so_l, ev_so_k, ev_si_t, ev_si_l, ev_si_k, ev_ty_i, ev_ty_b, ev_ty_n, ev_ty_s, ev_ty_t, ev_ty_l, ev_eq_ii, ev_shp_i, ev_shp_b, ev_shp_n, ev_key_i, ev_key_s, kd_NoneType, kd_bool, kd_int, kd_str, kd_tuple, kd_list, kd_dict, ib_NoneType_NoneType, ib_NoneType_bool, ib_NoneType_int, ib_NoneType_str, ib_NoneType_tuple, ib_NoneType_list, ib_NoneType_dict, ib_bool_NoneType, ib_bool_bool, ib_bool_int, ib_bool_str, ib_bool_tuple, ib_bool_list, ib_bool_dict, ib_int_NoneType, ib_int_bool, ib_int_int, ib_int_str, ib_int_tuple, ib_int_list, ib_int_dict, ib_str_NoneType, ib_str_bool, ib_str_int, ib_str_str, ib_str_tuple, ib_str_list, ib_str_dict, ib_tuple_NoneType, ib_tuple_bool, ib_tuple_int, ib_tuple_str, ib_tuple_tuple, ib_tuple_list, ib_tuple_dict, ib_list_NoneType, ib_list_bool, ib_list_int, ib_list_str, ib_list_tuple, ib_list_list, ib_list_dict, ib_dict_NoneType, ib_dict_bool, ib_dict_int, ib_dict_str, ib_dict_tuple, ib_dict_list, ib_dict_dict, true_and, and_true, if_true, if_false, Bool.not_true, Bool.not_false, List.map_cons, List.map_nil, List.length_cons, List.length_nil, List.replicate, List.cons_append, List.nil_append, List.getElem?_cons_succ, List.getElem?_cons_zero, List.set_cons_succ, List.set_cons_zero, ite_true_eq, ite_false_eq, ite_nt_eq, ite_nf_eq, dec_true, dec_not, bxor_f, bxor_t]
      refine ⟨a, l, _, p, rfl, s', hl, ?_⟩
      rw [told_in hd]
      simp only [gIntT, startD, dSeq, dNext, dBreak, dCont, dSet, dIfE, dIfS, dB, dOp, dVar, dC, dCB, dCons, dNil, dUn, dRet, dRetN, dTup, dLst, dLstM, dCall, dDrop, dAsg, dT, Tg.d, Tgs.d, dNotT, dAndT, dOrT, dAndV, dOrV, dNotV, dPar, dFor, dSeqI, dRng1, dRng2, dZip2, dZip3, dEnum, dLC, dLCr, dLCM, finM, gII0, gII, onII, onI, gGcd, gNeg, gAdd, gIt, gIx, gLen, gTupC, gLstC, gLstCM, gAll, gAny, gBls, gSum, gIsi, gAbs, gInt, gStr, gEqB, gIsN, isNon, gRep, dRepM, dSl, dPart, dNoPart, gSl, dRev, dRevM, dM, dM0, gAppend, gPop, dFld, dSetF, dMeth, dMake, dPut, dDict, dPairs, dJoin, dJoined, dJs, dFmt, gIn, exOf, endD, on1, on2, ev_it0, ev_it1, ev_it2, ev_itn1, ev_itn, ev_len_t, ev_len_l, ev_sq_t, ev_sq_l, ev_lst_l, ev_so_t, ev_so_l, ev_so_k, ev_si_t, ev_si_l, ev_si_k, ev_ty_i, ev_ty_b, ev_ty_n, ev_ty_s, ev_ty_t, ev_ty_l, ev_eq_ii, ev_shp_i, ev_shp_b, ev_shp_n, ev_key_i, ev_key_s, kd_NoneType, kd_bool, kd_int, kd_str, kd_tuple, kd_list, kd_dict, ib_NoneType_NoneType, ib_NoneType_bool, ib_NoneType_int, ib_NoneType_str, ib_NoneType_tuple, ib_NoneType_list, ib_NoneType_dict, ib_bool_NoneType, ib_bool_bool, ib_bool_int, ib_bool_str, ib_bool_tuple, ib_bool_list, ib_bool_dict, ib_int_NoneType, ib_int_bool, ib_int_int, ib_int_str, ib_int_tuple, ib_int_list, ib_int_dict, ib_str_NoneType, ib_str_bool, ib_str_int, ib_str_str, ib_str_tuple, ib_str_list, ib_str_dict, ib_tuple_NoneType, ib_tuple_bool, ib_tuple_int, ib_tuple_str, ib_tuple_tuple, ib_tuple_list, ib_tuple_dict, ib_list_NoneType, ib_list_bool, ib_list_int, ib_list_str, ib_list_tuple, ib_list_list, ib_list_dict, ib_dict_NoneType, ib_dict_bool, ib_dict_int, ib_dict_str, ib_dict_tuple, ib_dict_list, ib_dict_dict, true_and, and_true, if_true, if_false, Bool.not_true, Bool.not_false, List.map_cons, List.map_nil, List.length_cons, List.length_nil, List.replicate, List.cons_append, List.nil_append, List.getElem?_cons_succ, List.getElem?_cons_zero, List.set_cons_succ, List.set_cons_zero, ite_true_eq, ite_false_eq, ite_nt_eq, ite_nf_eq, dec_true, dec_not, bxor_f, bxor_t]
      refine ⟨_, intText_numL hn, by rw [tx_len]; omega, m', _, .refl, q m' s' f'⟩
def intL (i : Int) : List Nat := if i < 0 then 45 :: TL.numL i.natAbs else TL.numL i.natAbs
theorem intL_ne (i : Int) : intL i ≠ [] := by
  unfold intL
  split
  · simp
  · exact TL.numL_ne _
def S_integer_at (c : Cs) : DS := fun ds m Q X => ∃ (a : Addr) (l : List Nat) (p : Nat) (i : Int) (t : List Nat), ds = [.adr a] ∧ Sg c m a l p ∧ Lg l ∧ l.drop p = intL i ++ t ∧ (TL.numL i.natAbs).length ≤ 200 ∧ NoFig t ∧ ∀ m', Sg c m' a l (p + (intL i).length) → Fr a m m' → Q (.int i) m'
def T_integer_at (c : Cs) : DSt := (dSeq (dIfS (dNotT (dB (dMeth c.Signs ("is_at" : PySem.Str) (S_Signs_is_at c) (dVar 0) (dCons (dC (.str ("-" : PySem.Str))) dNil)))) (dRet (dCall (S_number_at c) (dCons (dVar 0) dNil))) dNext)
  (dSeq (dDrop (dMeth c.Signs ("step" : PySem.Str) (S_Signs_step c) (dVar 0) dNil))
  (dSeq (dIfS (dB (dMeth c.Signs ("is_at" : PySem.Str) (S_Signs_is_at c) (dVar 0) (dCons (dC (.str ("0" : PySem.Str))) dNil))) (dDrop (dCall (S_fail c) (dCons (dVar 0) dNil))) dNext)
  (dRet (dUn gNeg (dCall (S_number_at c) (dCons (dVar 0) dNil)))))))
theorem H_integer_at (c : Cs) (ds : List D) (m : MM) (Q : D → MM → Prop) (Px : XC) (h : S_integer_at c ds m Q Px) : ds.length = 1 ∧ T_integer_at c (endD Q Px) (startD ["signs"] ds) m := by
  obtain ⟨a, l, p, i, t, rfl, hs, hl, hd, hn, ht, q⟩ := h
  refine ⟨rfl, ?_⟩
  simp only [T_integer_at, hs.ins, lk_at, startD, dSeq, dNext, dBreak, dCont, dSet, dIfE, dIfS, dB, dOp, dVar, dC, dCB, dCons, dNil, dUn, dRet, dRetN, dTup, dLst, dLstM, dCall, dDrop, dAsg, dT, Tg.d, Tgs.d, dNotT, dAndT, dOrT, dAndV, dOrV, dNotV, dPar, dFor, dSeqI, dRng1, dRng2, dZip2, dZip3, dEnum, dLC, dLCr, dLCM, finM, gII0, gII, onII, onI, gGcd, gNeg, gAdd, gIt, gIx, gLen, gTupC, gLstC, gLstCM, gAll, gAny, gBls, gSum, gIsi, gAbs, gInt, gStr, gEqB, gIsN, isNon, gRep, dRepM, dSl, dPart, dNoPart, gSl, dRev, dRevM, dM, dM0, gAppend, gPop, dFld, dSetF, dMeth, dMake, dPut, dDict, dPairs, dJoin, dJoined, dJs, dFmt, gIn, exOf, endD, on1, on2, ev_it0, ev_it1, ev_it2, ev_itn1, ev_itn, ev_len_t, ev_len_l, ev_sq_t, ev_sq_l, ev_lst_l, ev_so_t, ev_so_l, ev_so_k, ev_si_t, ev_si_l, ev_si_k, ev_ty_i, ev_ty_b, ev_ty_n, ev_ty_s, ev_ty_t, ev_ty_l, ev_eq_ii, ev_shp_i, ev_shp_b, ev_shp_n, ev_key_i, ev_key_s, kd_NoneType, kd_bool, kd_int, kd_str, kd_tuple, kd_list, kd_dict, ib_NoneType_NoneType, ib_NoneType_bool, ib_NoneType_int, ib_NoneType_str, ib_NoneType_tuple, ib_NoneType_list, ib_NoneType_dict, ib_bool_NoneType, ib_bool_bool, ib_bool_int, ib_bool_str, ib_bool_tuple, ib_bool_list, ib_bool_dict, ib_int_NoneType, ib_int_bool, ib_int_int, ib_int_str, ib_int_tuple, ib_int_list, ib_int_dict, ib_str_NoneType, ib_str_bool, ib_str_int, ib_str_str, ib_str_tuple, ib_str_list, ib_str_dict, ib_tuple_NoneType, ib_tuple_bool, ib_tuple_int, ib_tuple_str, ib_tuple_tuple, ib_tuple_list, ib_tuple_dict, ib_list_NoneType, ib_list_bool, ib_list_int, ib_list_str, ib_list_tuple, ib_list_list, ib_list_dict, ib_dict_NoneType, ib_dict_bool, ib_dict_int, ib_dict_str, ib_dict_tuple, ib_dict_list, ib_dict_dict, true_and, and_true, if_true, if_false, Bool.not_true, Bool.not_false, List.map_cons, List.map_nil, List.length_cons, List.length_nil, List.replicate, List.cons_append, List.nil_append, List.getElem?_cons_succ, List.getElem?_cons_zero, List.set_cons_succ, List.set_cons_zero, ite_true_eq, ite_false_eq, ite_nt_eq, ite_nf_eq, dec_true, dec_not, bxor_f, bxor_t]
  refine ⟨a, l, p, 45, rfl, hs, hl, by decide, ?_⟩
  by_cases h0 : i < 0
  · have ei : intL i = 45 :: TL.numL i.natAbs := if_pos h0
    rw [ei] at hd q
    have h1 : (l.drop p).head? = some 45 := by rw [hd]; rfl
    rw [h1]
    simp only [decide_true, hs.ins, lk_step, startD, dSeq, dNext, dBreak, dCont, dSet, dIfE, dIfS, dB, dOp, dVar, dC, dCB, dCons, dNil, dUn, dRet, dRetN, dTup, dLst, dLstM, dCall, dDrop, dAsg, dT, Tg.d, Tgs.d, dNotT, dAndT, dOrT, dAndV, dOrV, dNotV, dPar, dFor, dSeqI, dRng1, dRng2, dZip2, dZip3, dEnum, dLC, dLCr, dLCM, finM, gII0, gII, onII, onI, gGcd, gNeg, gAdd, gIt, gIx, gLen, gTupC, gLstC, gLstCM, gAll, gAny, gBls, gSum, gIsi, gAbs, gInt, gStr, gEqB, gIsN, isNon, gRep, dRepM, dSl, dPart, dNoPart, gSl, dRev, dRevM, dM, dM0, gAppend, gPop, dFld, dSetF, dMeth, dMake, dPut, dDict, dPairs, dJoin, dJoined, dJs, dFmt, gIn, exOf, endD, on1, on2, ev_it0, ev_it1, ev_it2, ev_itn1, ev_itn, ev_len_t, ev_len_l, ev_sq_t, ev_sq_l, ev_lst_l, ev_so_t, ev_so_l, ev_so_k, ev_si_t, ev_si_l, ev_si_k, ev_ty_i, ev_ty_b, ev_ty_n, ev_ty_s, ev_ty_t, ev_ty_l, ev_eq_ii, ev_shp_i, ev_shp_b, ev_shp_n, ev_key_i, ev_key_s, kd_NoneType, kd_bool, kd_int, kd_str, kd_tuple, kd_list, kd_dict, ib_NoneType_NoneType, ib_NoneType_bool, ib_NoneType_int, ib_NoneType_str, ib_NoneType_tuple, ib_NoneType_list, ib_NoneType_dict, ib_bool_NoneType, ib_bool_bool, ib_bool_int, ib_bool_str, ib_bool_tuple, ib_bool_list, ib_bool_dict, ib_int_NoneType, ib_int_bool, ib_int_int, ib_int_str, ib_int_tuple, ib_int_list, ib_int_dict, ib_str_NoneType, ib_str_bool, ib_str_int, ib_str_str, ib_str_tuple, ib_str_list, ib_str_dict, ib_tuple_NoneType, ib_tuple_bool, ib_tuple_int, ib_tuple_str, ib_tuple_tuple, ib_tuple_list, ib_tuple_dict, ib_list_NoneType, ib_list_bool, ib_list_int, ib_list_str, ib_list_tuple, ib_list_list, ib_list_dict, ib_dict_NoneType, ib_dict_bool, ib_dict_int, ib_dict_str, ib_dict_tuple, ib_dict_list, ib_dict_dict, true_and, and_true, if_true, if_false, Bool.not_true, Bool.not_false, List.map_cons, List.map_nil, List.length_cons, List.length_nil, List.replicate, List.cons_append, List.nil_append, List.getElem?_cons_succ, List.getElem?_cons_zero, List.set_cons_succ, List.set_cons_zero, ite_true_eq, ite_false_eq, ite_nt_eq, ite_nf_eq, dec_true, dec_not, bxor_f, bxor_t]
    refine ⟨a, l, p, rfl, hs, fun m1 s1 f1 => ?_⟩
    simp only [s1.ins, lk_at, startD, dSeq, dNext, dBreak, dCont, dSet, dIfE, dIfS, dB, dOp, dVar, dC, dCB, dCons, dNil, dUn, dRet, dRetN, dTup, dLst, dLstM, dCall, dDrop, dAsg, dT, Tg.d, Tgs.d, dNotT, dAndT, dOrT, dAndV, dOrV, dNotV, dPar, dFor, dSeqI, dRng1, dRng2, dZip2, dZip3, dEnum, dLC, dLCr, dLCM, finM, gII0, gII, onII, onI, gGcd, gNeg, gAdd, gIt, gIx, gLen, gTupC, gLstC, gLstCM, gAll, gAny, gBls, gSum, gIsi, gAbs, gInt, gStr, gEqB, gIsN, isNon, gRep, dRepM, dSl, dPart, dNoPart, gSl, dRev, dRevM, dM, dM0, gAppend, gPop, dFld, dSetF, dMeth, dMake, dPut, dDict, dPairs, dJoin, dJoined, dJs, dFmt, gIn, exOf, endD, on1, on2, ev_it0, ev_it1, ev_it2, ev_itn1, ev_itn, ev_len_t, ev_len_l, ev_sq_t, ev_sq_l, ev_lst_l, ev_so_t, ev_so_l, ev_so_k, ev_si_t, ev_si_l, ev_si_k, ev_ty_i, ev_ty_b, ev_ty_n, ev_ty_s, ev_ty_t, ev_ty_l, ev_eq_ii, ev_shp_i, ev_shp_b, ev_shp_n, ev_key_i, ev_key_s, kd_NoneType, kd_bool, kd_int, kd_str, kd_tuple, kd_list, kd_dict, ib_NoneType_NoneType, ib_NoneType_bool, ib_NoneType_int, ib_NoneType_str, ib_NoneType_tuple, ib_NoneType_list, ib_NoneType_dict, ib_bool_NoneType, ib_bool_bool, ib_bool_int, ib_bool_str, ib_bool_tuple, ib_bool_list, ib_bool_dict, ib_int_NoneType, ib_int_bool, ib_int_int, ib_int_str, ib_int_tuple, ib_int_list, ib_int_dict, ib_str_NoneType, ib_str_bool, ib_str_int, ib_str_str, ib_str_tuple, ib_str_list, ib_str_dict, ib_tuple_NoneType, ib_tuple_bool, ib_tuple_int, ib_tuple_str, ib_tuple_tuple, ib_tuple_list, ib_tuple_dict, ib_list_NoneType, ib_list_bool, ib_list_int, ib_list_str, ib_list_tuple, ib_list_list, ib_list_dict, ib_dict_NoneType, ib_dict_bool, ib_dict_int, ib_dict_str, ib_dict_tuple, ib_dict_list, ib_dict_dict, true_and, and_true, if_true, if_false, Bool.not_true, Bool.not_false, List.map_cons, List.map_nil, List.length_cons, List.length_nil, List.replicate, List.cons_append, List.nil_append, List.getElem?_cons_succ, List.getElem?_cons_zero, List.set_cons_succ, List.set_cons_zero, ite_true_eq, ite_false_eq, ite_nt_eq, ite_nf_eq, dec_true, dec_not, bxor_f, bxor_t]
    have hd1 : l.drop (p + 1) = TL.numL i.natAbs ++ t := by
      rw [← List.drop_drop, hd]; rfl
    refine ⟨a, l, p + 1, 48, rfl, s1, hl, by decide, ?_⟩
    have : (l.drop (p + 1)).head? ≠ some 48 := by
      rw [hd1, List.head?_append]
      have := numL_head (n := i.natAbs) (by omega)
      cases e : (TL.numL i.natAbs).head? with
      | none => rw [List.head?_eq_none_iff] at e; exact absurd e (TL.numL_ne _)
      | some x => rw [e] at this; simpa using this
    rw [decide_eq_false this]
    simp only [startD, dSeq, dNext, dBreak, dCont, dSet, dIfE, dIfS, dB, dOp, dVar, dC, dCB, dCons, dNil, dUn, dRet, dRetN, dTup, dLst, dLstM, dCall, dDrop, dAsg, dT, Tg.d, Tgs.d, dNotT, dAndT, dOrT, dAndV, dOrV, dNotV, dPar, dFor, dSeqI, dRng1, dRng2, dZip2, dZip3, dEnum, dLC, dLCr, dLCM, finM, gII0, gII, onII, onI, gGcd, gNeg, gAdd, gIt, gIx, gLen, gTupC, gLstC, gLstCM, gAll, gAny, gBls, gSum, gIsi, gAbs, gInt, gStr, gEqB, gIsN, isNon, gRep, dRepM, dSl, dPart, dNoPart, gSl, dRev, dRevM, dM, dM0, gAppend, gPop, dFld, dSetF, dMeth, dMake, dPut, dDict, dPairs, dJoin, dJoined, dJs, dFmt, gIn, exOf, endD, on1, on2, ev_it0, ev_it1, ev_it2, ev_itn1, ev_itn, ev_len_t, ev_len_l, ev_sq_t, ev_sq_l, ev_lst_l, ev_so_t, ev_so_l, ev_so_k, ev_si_t, ev_si_l, ev_si_k, ev_ty_i, ev_ty_b, ev_ty_n, ev_ty_s, ev_ty_t, ev_ty_l, ev_eq_ii, ev_shp_i, ev_shp_b, ev_shp_n, ev_key_i, ev_key_s, kd_NoneType, kd_bool, kd_int, kd_str, kd_tuple, kd_list, kd_dict, ib_NoneType_NoneType, ib_NoneType_bool, ib_NoneType_int, ib_NoneType_str, ib_NoneType_tuple, ib_NoneType_list, ib_NoneType_dict, ib_bool_NoneType, ib_bool_bool, ib_bool_int, ib_bool_str, ib_bool_tuple, ib_bool_list, ib_bool_dict, ib_int_NoneType, ib_int_bool, ib_int_int, ib_int_str, ib_int_tuple, ib_int_list, ib_int_dict, ib_str_NoneType, ib_str_bool, ib_str_int, ib_str_str, ib_str_tuple, ib_str_list, ib_str_dict, ib_tuple_NoneType, ib_tuple_bool, ib_tuple_int, ib_tuple_str, ib_tuple_tuple, ib_tuple_list, ib_tuple_dict, ib_list_NoneType, ib_list_bool, ib_list_int, ib_list_str, ib_list_tuple, ib_list_list, ib_list_dict, ib_dict_NoneType, ib_dict_bool, ib_dict_int, ib_dict_str, ib_dict_tuple, ib_dict_list, ib_dict_dict, true_and, and_true, if_true, if_false, Bool.not_true, Bool.not_false, List.map_cons, List.map_nil, List.length_cons, List.length_nil, List.replicate, List.cons_append, List.nil_append, List.getElem?_cons_succ, List.getElem?_cons_zero, List.set_cons_succ, List.set_cons_zero, ite_true_eq, ite_false_eq, ite_nt_eq, ite_nf_eq, dec_true, dec_not, bxor_f, bxor_t]
    refine ⟨a, l, p + 1, i.natAbs, t, rfl, s1, hl, hd1, hn, ht, fun m2 s2 f2 => ?_⟩
    simp only [startD, dSeq, dNext, dBreak, dCont, dSet, dIfE, dIfS, dB, dOp, dVar, dC, dCB, dCons, dNil, dUn, dRet, dRetN, dTup, dLst, dLstM, dCall, dDrop, dAsg, dT, Tg.d, Tgs.d, dNotT, dAndT, dOrT, dAndV, dOrV, dNotV, dPar, dFor, dSeqI, dRng1, dRng2, dZip2, dZip3, dEnum, dLC, dLCr, dLCM, finM, gII0, gII, onII, onI, gGcd, gNeg, gAdd, gIt, gIx, gLen, gTupC, gLstC, gLstCM, gAll, gAny, gBls, gSum, gIsi, gAbs, gInt, gStr, gEqB, gIsN, isNon, gRep, dRepM, dSl, dPart, dNoPart, gSl, dRev, dRevM, dM, dM0, gAppend, gPop, dFld, dSetF, dMeth, dMake, dPut, dDict, dPairs, dJoin, dJoined, dJs, dFmt, gIn, exOf, endD, on1, on2, ev_it0, ev_it1, ev_it2, ev_itn1, ev_itn, ev_len_t, ev_len_l, ev_sq_t, ev_sq_l, ev_lst_l, ev_so_t, ev_so_l, ev_so_k, ev_si_t, ev_si_l, ev_si_k, ev_ty_i, ev_ty_b, ev_ty_n, ev_ty_s, ev_ty_t, ev_ty_l, ev_eq_ii, ev_shp_i, ev_shp_b, ev_shp_n, ev_key_i, ev_key_s, kd_NoneType, kd_bool, kd_int, kd_str, kd_tuple, kd_list, kd_dict, ib_NoneType_NoneType, ib_NoneType_bool, ib_NoneType_int, ib_NoneType_str, ib_NoneType_tuple, ib_NoneType_list, ib_NoneType_dict, ib_bool_NoneType, ib_bool_bool, ib_bool_int, ib_bool_str, ib_bool_tuple, ib_bool_list, ib_bool_dict, ib_int_NoneType, ib_int_bool, ib_int_int, ib_int_str, ib_int_tuple, ib_int_list, ib_int_dict, ib_str_NoneType, ib_str_bool, ib_str_int, ib_str_str, ib_str_tuple, ib_str_list, ib_str_dict, ib_tuple_NoneType, ib_tuple_bool, ib_tuple_int, ib_tuple_str, ib_tuple_tuple, ib_tuple_list, ib_tuple_dict, ib_list_NoneType, ib_list_bool, ib_list_int, ib_list_str, ib_list_tuple, ib_list_list, ib_list_dict, ib_dict_NoneType, ib_dict_bool, ib_dict_int, ib_dict_str, ib_dict_tuple, ib_dict_list, ib_dict_dict, true_and, and_true, if_true, if_false, Bool.not_true, Bool.not_false, List.map_cons, List.map_nil, List.length_cons, List.length_nil, List.replicate, List.cons_append, List.nil_append, List.getElem?_cons_succ, List.getElem?_cons_zero, List.set_cons_succ, List.set_cons_zero, ite_true_eq, ite_false_eq, ite_nt_eq, ite_nf_eq, dec_true, dec_not, bxor_f, bxor_t]
    refine ⟨m2, _, .refl, ?_⟩
    have e2 : -((i.natAbs : Nat) : Int) = i := by omega
    rw [e2]
    refine q m2 ?_ (Fr.trans f1 f2)
    rw [show p + (45 :: TL.numL i.natAbs).length = p + 1 + (TL.numL i.natAbs).length by simp; omega]
    exact s2
  · have ei : intL i = TL.numL i.natAbs := if_neg h0
    rw [ei] at hd q
    have h1 : (l.drop p).head? ≠ some 45 := by
      rw [hd, List.head?_append]
      cases e : (TL.numL i.natAbs).head? with
      | none => rw [List.head?_eq_none_iff] at e; exact absurd e (TL.numL_ne _)
      | some x =>
        have := TL.numL_digits i.natAbs x (List.mem_of_head? e)
        simp; omega
    rw [decide_eq_false h1]
    simp only [startD, dSeq, dNext, dBreak, dCont, dSet, dIfE, dIfS, dB, dOp, dVar, dC, dCB, dCons, dNil, dUn, dRet, dRetN, dTup, dLst, dLstM, dCall, dDrop, dAsg, dT, Tg.d, Tgs.d, dNotT, dAndT, dOrT, dAndV, dOrV, dNotV, dPar, dFor, dSeqI, dRng1, dRng2, dZip2, dZip3, dEnum, dLC, dLCr, dLCM, finM, gII0, gII, onII, onI, gGcd, gNeg, gAdd, gIt, gIx, gLen, gTupC, gLstC, gLstCM, gAll, gAny, gBls, gSum, gIsi, gAbs, gInt, gStr, gEqB, gIsN, isNon, gRep, dRepM, dSl, dPart, dNoPart, gSl, dRev, dRevM, dM, dM0, gAppend, gPop, dFld, dSetF, dMeth, dMake, dPut, dDict, dPairs, dJoin, dJoined, dJs, dFmt, gIn, exOf, endD, on1, on2, ev_it0, ev_it1, ev_it2, ev_itn1, ev_itn, ev_len_t, ev_len_l, ev_sq_t, ev_sq_l, ev_lst_l, ev_so_t, ev_so_l, ev_so_k, ev_si_t, ev_si_l, ev_si_k, ev_ty_i, ev_ty_b, ev_ty_n, ev_ty_s, ev_ty_t, ev_ty_l, ev_eq_ii, ev_shp_i, ev_shp_b, ev_shp_n, ev_key_i, ev_key_s, kd_NoneType, kd_bool, kd_int, kd_str, kd_tuple, kd_list, kd_dict, ib_NoneType_NoneType, ib_NoneType_bool, ib_NoneType_int, ib_NoneType_str, ib_NoneType_tuple, ib_NoneType_list, ib_NoneType_dict, ib_bool_NoneType, ib_bool_bool, ib_bool_int, ib_bool_str, ib_bool_tuple, ib_bool_list, ib_bool_dict, ib_int_NoneType, ib_int_bool, ib_int_int, ib_int_str, ib_int_tuple, ib_int_list, ib_int_dict, ib_str_NoneType, ib_str_bool, ib_str_int, ib_str_str, ib_str_tuple, ib_str_list, ib_str_dict, ib_tuple_NoneType, ib_tuple_bool, ib_tuple_int, ib_tuple_str, ib_tuple_tuple, ib_tuple_list, ib_tuple_dict, ib_list_NoneType, ib_list_bool, ib_list_int, ib_list_str, ib_list_tuple, ib_list_list, ib_list_dict, ib_dict_NoneType, ib_dict_bool, ib_dict_int, ib_dict_str, ib_dict_tuple, ib_dict_list, ib_dict_dict, true_and, and_true, if_true, if_false, Bool.not_true, Bool.not_false, List.map_cons, List.map_nil, List.length_cons, List.length_nil, List.replicate, List.cons_append, List.nil_append, List.getElem?_cons_succ, List.getElem?_cons_zero, List.set_cons_succ, List.set_cons_zero, ite_true_eq, ite_false_eq, ite_nt_eq, ite_nf_eq, dec_true, dec_not, bxor_f, bxor_t]
    refine ⟨a, l, p, i.natAbs, t, rfl, hs, hl, hd, hn, ht, fun m2 s2 f2 => ⟨m2, _, .refl, ?_⟩⟩
    have e2 : ((i.natAbs : Nat) : Int) = i := by omega
    rw [e2]
    exact q m2 s2 f2
def lowL (q : Rat) : List Nat := if q.den = 1 then [] else 47 :: TL.numL q.den
def fracL (q : Rat) : List Nat := intL q.num ++ lowL q
/-- behind a fraction -/
def NoMore (t : List Nat) : Prop := NoFig t ∧ t.head? ≠ some 47
def Fit (q : Rat) : Prop := (TL.numL q.num.natAbs).length ≤ 200 ∧ (TL.numL q.den).length ≤ 200
def S_lower_at (c : Cs) : DS := fun ds m Q X => ∃ (a : Addr) (l : List Nat) (p : Nat) (x : Rat) (t : List Nat), ds = [.adr a, .int x.num] ∧ Sg c m a l p ∧ Lg l ∧ l.drop p = lowL x ++ t ∧ Fit x ∧ NoMore t ∧ ∀ m', Sg c m' a l (p + (lowL x).length) → Fr a m m' → Q (enc x) m'
def T_lower_at (c : Cs) : DSt := (dSeq (dIfS (dNotT (dB (dMeth c.Signs ("is_at" : PySem.Str) (S_Signs_is_at c) (dVar 0) (dCons (dC (.str ("/" : PySem.Str))) dNil)))) (dRet (dTup (dCons (dVar 1) (dCons (dC (.int 1)) dNil)))) dNext)
  (dSeq (dDrop (dMeth c.Signs ("step" : PySem.Str) (S_Signs_step c) (dVar 0) dNil))
  (dSeq (dSet 2 (dTup (dCons (dVar 1) (dCons (dCall (S_number_at c) (dCons (dVar 0) dNil)) dNil))))
  (dSeq (dIfS (dOrT (dB (dOp gEq (dOp gIt (dVar 2) (dC (.int 1))) (dC (.int 1)))) (dNotT (dB (dCall S_is_fraction (dCons (dVar 2) dNil))))) (dDrop (dCall (S_fail c) (dCons (dVar 0) dNil))) dNext)
  (dRet (dVar 2))))))
theorem H_lower_at (c : Cs) (ds : List D) (m : MM) (Q : D → MM → Prop) (Px : XC) (h : S_lower_at c ds m Q Px) : ds.length = 2 ∧ T_lower_at c (endD Q Px) (startD ["signs", "upper", "found"] ds) m := by
  obtain ⟨a, l, p, x, t, rfl, hs, hl, hd, hn, ht, q⟩ := h
  refine ⟨rfl, ?_⟩
  simp only [T_lower_at, hs.ins, lk_at, startD, dSeq, dNext, dBreak, dCont, dSet, dIfE, dIfS, dB, dOp, dVar, dC, dCB, dCons, dNil, dUn, dRet, dRetN, dTup, dLst, dLstM, dCall, dDrop, dAsg, dT, Tg.d, Tgs.d, dNotT, dAndT, dOrT, dAndV, dOrV, dNotV, dPar, dFor, dSeqI, dRng1, dRng2, dZip2, dZip3, dEnum, dLC, dLCr, dLCM, finM, gII0, gII, onII, onI, gGcd, gNeg, gAdd, gIt, gIx, gLen, gTupC, gLstC, gLstCM, gAll, gAny, gBls, gSum, gIsi, gAbs, gInt, gStr, gEqB, gIsN, isNon, gRep, dRepM, dSl, dPart, dNoPart, gSl, dRev, dRevM, dM, dM0, gAppend, gPop, dFld, dSetF, dMeth, dMake, dPut, dDict, dPairs, dJoin, dJoined, dJs, dFmt, gIn, exOf, endD, on1, on2, ev_it0, ev_it1, ev_it2, ev_itn1, ev_itn, ev_len_t, ev_len_l, ev_sq_t, ev_sq_l, ev_lst_l, ev_so_t, ev_so_l, ev_so_k, ev_si_t, ev_si_l, ev_si_k, ev_ty_i, ev_ty_b, ev_ty_n, ev_ty_s, ev_ty_t, ev_ty_l, ev_eq_ii, ev_shp_i, ev_shp_b, ev_shp_n, ev_key_i, ev_key_s, kd_NoneType, kd_bool, kd_int, kd_str, kd_tuple, kd_list, kd_dict, ib_NoneType_NoneType, ib_NoneType_bool, ib_NoneType_int, ib_NoneType_str, ib_NoneType_tuple, ib_NoneType_list, ib_NoneType_dict, ib_bool_NoneType, ib_bool_bool, ib_bool_int, ib_bool_str, ib_bool_tuple, ib_bool_list, ib_bool_dict, ib_int_NoneType, ib_int_bool, ib_int_int, ib_int_str, ib_int_tuple, ib_int_list, ib_int_dict, ib_str_NoneType, ib_str_bool, ib_str_int, ib_str_str, ib_str_tuple, ib_str_list, ib_str_dict, ib_tuple_NoneType, ib_tuple_bool, ib_tuple_int, ib_tuple_str, ib_tuple_tuple, ib_tuple_list, ib_tuple_dict, ib_list_NoneType, ib_list_bool, ib_list_int, ib_list_str, ib_list_tuple, ib_list_list, ib_list_dict, ib_dict_NoneType, ib_dict_bool, ib_dict_int, ib_dict_str, ib_dict_tuple, ib_dict_list, ib_dict_dict, true_and, and_true, if_true, if_false, Bool.not_true, Bool.not_false, List.map_cons, List.map_nil, List.length_cons, List.length_nil, List.replicate, List.cons_append, List.nil_append, List.getElem?_cons_succ, List.getElem?_cons_zero, List.set_cons_succ, List.set_cons_zero, ite_true_eq, ite_false_eq, ite_nt_eq, ite_nf_eq, dec_true, dec_not, bxor_f, bxor_t]
  refine ⟨a, l, p, 47, rfl, hs, hl, by decide, ?_⟩
  by_cases h0 : x.den = 1
  · have ei : lowL x = [] := if_pos h0
    rw [ei] at hd q
    have h1 : (l.drop p).head? ≠ some 47 := by rw [hd]; exact ht.2
    rw [decide_eq_false h1]
    simp only [startD, dSeq, dNext, dBreak, dCont, dSet, dIfE, dIfS, dB, dOp, dVar, dC, dCB, dCons, dNil, dUn, dRet, dRetN, dTup, dLst, dLstM, dCall, dDrop, dAsg, dT, Tg.d, Tgs.d, dNotT, dAndT, dOrT, dAndV, dOrV, dNotV, dPar, dFor, dSeqI, dRng1, dRng2, dZip2, dZip3, dEnum, dLC, dLCr, dLCM, finM, gII0, gII, onII, onI, gGcd, gNeg, gAdd, gIt, gIx, gLen, gTupC, gLstC, gLstCM, gAll, gAny, gBls, gSum, gIsi, gAbs, gInt, gStr, gEqB, gIsN, isNon, gRep, dRepM, dSl, dPart, dNoPart, gSl, dRev, dRevM, dM, dM0, gAppend, gPop, dFld, dSetF, dMeth, dMake, dPut, dDict, dPairs, dJoin, dJoined, dJs, dFmt, gIn, exOf, endD, on1, on2, ev_it0, ev_it1, ev_it2, ev_itn1, ev_itn, ev_len_t, ev_len_l, ev_sq_t, ev_sq_l, ev_lst_l, ev_so_t, ev_so_l, ev_so_k, ev_si_t, ev_si_l, ev_si_k, ev_ty_i, ev_ty_b, ev_ty_n, ev_ty_s, ev_ty_t, ev_ty_l, ev_eq_ii, ev_shp_i, ev_shp_b, ev_shp_n, ev_key_i, ev_key_s, kd_NoneType, kd_bool, kd_int, kd_str, kd_tuple, kd_list, kd_dict, ib_NoneType_NoneType, ib_NoneType_bool, ib_NoneType_int, ib_NoneType_str, ib_NoneType_tuple, ib_NoneType_list, ib_NoneType_dict, ib_bool_NoneType, ib_bool_bool, ib_bool_int, ib_bool_str, ib_bool_tuple, ib_bool_list, ib_bool_dict, ib_int_NoneType, ib_int_bool, ib_int_int, ib_int_str, ib_int_tuple, ib_int_list, ib_int_dict, ib_str_NoneType, ib_str_bool, ib_str_int, ib_str_str, ib_str_tuple, ib_str_list, ib_str_dict, ib_tuple_NoneType, ib_tuple_bool, ib_tuple_int, ib_tuple_str, ib_tuple_tuple, ib_tuple_list, ib_tuple_dict, ib_list_NoneType, ib_list_bool, ib_list_int, ib_list_str, ib_list_tuple, ib_list_list, ib_list_dict, ib_dict_NoneType, ib_dict_bool, ib_dict_int, ib_dict_str, ib_dict_tuple, ib_dict_list, ib_dict_dict, true_and, and_true, if_true, if_false, Bool.not_true, Bool.not_false, List.map_cons, List.map_nil, List.length_cons, List.length_nil, List.replicate, List.cons_append, List.nil_append, List.getElem?_cons_succ, List.getElem?_cons_zero, List.set_cons_succ, List.set_cons_zero, ite_true_eq, ite_false_eq, ite_nt_eq, ite_nf_eq, dec_true, dec_not, bxor_f, bxor_t]
    refine ⟨two_le, m, _, .refl, ?_⟩
    have := q m hs Fr.refl
    unfold enc at this
    rw [h0] at this
    exact this
  · have ei : lowL x = 47 :: TL.numL x.den := if_neg h0
    rw [ei] at hd q
    have h1 : (l.drop p).head? = some 47 := by rw [hd]; rfl
    rw [h1]
    simp only [decide_true, hs.ins, lk_step, startD, dSeq, dNext, dBreak, dCont, dSet, dIfE, dIfS, dB, dOp, dVar, dC, dCB, dCons, dNil, dUn, dRet, dRetN, dTup, dLst, dLstM, dCall, dDrop, dAsg, dT, Tg.d, Tgs.d, dNotT, dAndT, dOrT, dAndV, dOrV, dNotV, dPar, dFor, dSeqI, dRng1, dRng2, dZip2, dZip3, dEnum, dLC, dLCr, dLCM, finM, gII0, gII, onII, onI, gGcd, gNeg, gAdd, gIt, gIx, gLen, gTupC, gLstC, gLstCM, gAll, gAny, gBls, gSum, gIsi, gAbs, gInt, gStr, gEqB, gIsN, isNon, gRep, dRepM, dSl, dPart, dNoPart, gSl, dRev, dRevM, dM, dM0, gAppend, gPop, dFld, dSetF, dMeth, dMake, dPut, dDict, dPairs, dJoin, dJoined, dJs, dFmt, gIn, exOf, endD, on1, on2, ev_it0, ev_it1, ev_it2, ev_itn1, ev_itn, ev_len_t, ev_len_l, ev_sq_t, ev_sq_l, ev_lst_l, ev_so_t, ev_so_l, ev_so_k, ev_si_t, ev_si_l, ev_si_k, ev_ty_i, ev_ty_b, ev_ty_n, ev_ty_s, ev_ty_t, ev_ty_l, ev_eq_ii, ev_shp_i, ev_shp_b, ev_shp_n, ev_key_i, ev_key_s, kd_NoneType, kd_bool, kd_int, kd_str, kd_tuple, kd_list, kd_dict, ib_NoneType_NoneType, ib_NoneType_bool, ib_NoneType_int, ib_NoneType_str, ib_NoneType_tuple, ib_NoneType_list, ib_NoneType_dict, ib_bool_NoneType, ib_bool_bool, ib_bool_int, ib_bool_str, ib_bool_tuple, ib_bool_list, ib_bool_dict, ib_int_NoneType, ib_int_bool, ib_int_int, ib_int_str, ib_int_tuple, ib_int_list, ib_int_dict, ib_str_NoneType, ib_str_bool, ib_str_int, ib_str_str, ib_str_tuple, ib_str_list, ib_str_dict, ib_tuple_NoneType, ib_tuple_bool, ib_tuple_int, ib_tuple_str, ib_tuple_tuple, ib_tuple_list, ib_tuple_dict, ib_list_NoneType, ib_list_bool, ib_list_int, ib_list_str, ib_list_tuple, ib_list_list, ib_list_dict, ib_dict_NoneType, ib_dict_bool, ib_dict_int, ib_dict_str, ib_dict_tuple, ib_dict_list, ib_dict_dict, true_and, and_true, if_true, if_false, Bool.not_true, Bool.not_false, List.map_cons, List.map_nil, List.length_cons, List.length_nil, List.replicate, List.cons_append, List.nil_append, List.getElem?_cons_succ, List.getElem?_cons_zero, List.set_cons_succ, List.set_cons_zero, ite_true_eq, ite_false_eq, ite_nt_eq, ite_nf_eq, dec_true, dec_not, bxor_f, bxor_t]
    refine ⟨a, l, p, rfl, hs, fun m1 s1 f1 => ?_⟩
    simp only [startD, dSeq, dNext, dBreak, dCont, dSet, dIfE, dIfS, dB, dOp, dVar, dC, dCB, dCons, dNil, dUn, dRet, dRetN, dTup, dLst, dLstM, dCall, dDrop, dAsg, dT, Tg.d, Tgs.d, dNotT, dAndT, dOrT, dAndV, dOrV, dNotV, dPar, dFor, dSeqI, dRng1, dRng2, dZip2, dZip3, dEnum, dLC, dLCr, dLCM, finM, gII0, gII, onII, onI, gGcd, gNeg, gAdd, gIt, gIx, gLen, gTupC, gLstC, gLstCM, gAll, gAny, gBls, gSum, gIsi, gAbs, gInt, gStr, gEqB, gIsN, isNon, gRep, dRepM, dSl, dPart, dNoPart, gSl, dRev, dRevM, dM, dM0, gAppend, gPop, dFld, dSetF, dMeth, dMake, dPut, dDict, dPairs, dJoin, dJoined, dJs, dFmt, gIn, exOf, endD, on1, on2, ev_it0, ev_it1, ev_it2, ev_itn1, ev_itn, ev_len_t, ev_len_l, ev_sq_t, ev_sq_l, ev_lst_l, ev_so_t, ev_so_l, ev_so_k, ev_si_t, ev_si_l, ev_si_k, ev_ty_i, ev_ty_b, ev_ty_n, ev_ty_s, ev_ty_t, ev_ty_l, ev_eq_ii, ev_shp_i, ev_shp_b, ev_shp_n, ev_key_i, ev_key_s, kd_NoneType, kd_bool, kd_int, kd_str, kd_tuple, kd_list, kd_dict, ib_NoneType_NoneType, ib_NoneType_bool, ib_NoneType_int, ib_NoneType_str, ib_NoneType_tuple, ib_NoneType_list, ib_NoneType_dict, ib_bool_NoneType, ib_bool_bool, ib_bool_int, ib_bool_str, ib_bool_tuple, ib_bool_list, ib_bool_dict, ib_int_NoneType, ib_int_bool, ib_int_int, ib_int_str, ib_int_tuple, ib_int_list, ib_int_dict, ib_str_NoneType, ib_str_bool, ib_str_int, ib_str_str, ib_str_tuple, ib_str_list, ib_str_dict, ib_tuple_NoneType, ib_tuple_bool, ib_tuple_int, ib_tuple_str, ib_tuple_tuple, ib_tuple_list, ib_tuple_dict, ib_list_NoneType, ib_list_bool, ib_list_int, ib_list_str, ib_list_tuple, ib_list_list, ib_list_dict, ib_dict_NoneType, ib_dict_bool, ib_dict_int, ib_dict_str, ib_dict_tuple, ib_dict_list, ib_dict_dict, true_and, and_true, if_true, if_false, Bool.not_true, Bool.not_false, List.map_cons, List.map_nil, List.length_cons, List.length_nil, List.replicate, List.cons_append, List.nil_append, List.getElem?_cons_succ, List.getElem?_cons_zero, List.set_cons_succ, List.set_cons_zero, ite_true_eq, ite_false_eq, ite_nt_eq, ite_nf_eq, dec_true, dec_not, bxor_f, bxor_t]
    have hd1 : l.drop (p + 1) = TL.numL x.den ++ t := by
      rw [← List.drop_drop, hd]; rfl
    refine ⟨a, l, p + 1, x.den, t, rfl, s1, hl, hd1, hn.2, ht.1, fun m2 s2 f2 => ?_⟩
    simp only [startD, dSeq, dNext, dBreak, dCont, dSet, dIfE, dIfS, dB, dOp, dVar, dC, dCB, dCons, dNil, dUn, dRet, dRetN, dTup, dLst, dLstM, dCall, dDrop, dAsg, dT, Tg.d, Tgs.d, dNotT, dAndT, dOrT, dAndV, dOrV, dNotV, dPar, dFor, dSeqI, dRng1, dRng2, dZip2, dZip3, dEnum, dLC, dLCr, dLCM, finM, gII0, gII, onII, onI, gGcd, gNeg, gAdd, gIt, gIx, gLen, gTupC, gLstC, gLstCM, gAll, gAny, gBls, gSum, gIsi, gAbs, gInt, gStr, gEqB, gIsN, isNon, gRep, dRepM, dSl, dPart, dNoPart, gSl, dRev, dRevM, dM, dM0, gAppend, gPop, dFld, dSetF, dMeth, dMake, dPut, dDict, dPairs, dJoin, dJoined, dJs, dFmt, gIn, exOf, endD, on1, on2, ev_it0, ev_it1, ev_it2, ev_itn1, ev_itn, ev_len_t, ev_len_l, ev_sq_t, ev_sq_l, ev_lst_l, ev_so_t, ev_so_l, ev_so_k, ev_si_t, ev_si_l, ev_si_k, ev_ty_i, ev_ty_b, ev_ty_n, ev_ty_s, ev_ty_t, ev_ty_l, ev_eq_ii, ev_shp_i, ev_shp_b, ev_shp_n, ev_key_i, ev_key_s, kd_NoneType, kd_bool, kd_int, kd_str, kd_tuple, kd_list, kd_dict, ib_NoneType_NoneType, ib_NoneType_bool, ib_NoneType_int, ib_NoneType_str, ib_NoneType_tuple, ib_NoneType_list, ib_NoneType_dict, ib_bool_NoneType, ib_bool_bool, ib_bool_int, ib_bool_str, ib_bool_tuple, ib_bool_list, ib_bool_dict, ib_int_NoneType, ib_int_bool, ib_int_int, ib_int_str, ib_int_tuple, ib_int_list, ib_int_dict, ib_str_NoneType, ib_str_bool, ib_str_int, ib_str_str, ib_str_tuple, ib_str_list, ib_str_dict, ib_tuple_NoneType, ib_tuple_bool, ib_tuple_int, ib_tuple_str, ib_tuple_tuple, ib_tuple_list, ib_tuple_dict, ib_list_NoneType, ib_list_bool, ib_list_int, ib_list_str, ib_list_tuple, ib_list_list, ib_list_dict, ib_dict_NoneType, ib_dict_bool, ib_dict_int, ib_dict_str, ib_dict_tuple, ib_dict_list, ib_dict_dict, true_and, and_true, if_true, if_false, Bool.not_true, Bool.not_false, List.map_cons, List.map_nil, List.length_cons, List.length_nil, List.replicate, List.cons_append, List.nil_append, List.getElem?_cons_succ, List.getElem?_cons_zero, List.set_cons_succ, List.set_cons_zero, ite_true_eq, ite_false_eq, ite_nt_eq, ite_nf_eq, dec_true, dec_not, bxor_f, bxor_t]
    refine ⟨two_le, ?_⟩
    rw [if_neg (show ¬ ((x.den : Nat) : Int) = 1 by omega)]
    refine ⟨enc x, rfl, .enc, ?_⟩
    rw [isFrac_enc]
    simp only [startD, dSeq, dNext, dBreak, dCont, dSet, dIfE, dIfS, dB, dOp, dVar, dC, dCB, dCons, dNil, dUn, dRet, dRetN, dTup, dLst, dLstM, dCall, dDrop, dAsg, dT, Tg.d, Tgs.d, dNotT, dAndT, dOrT, dAndV, dOrV, dNotV, dPar, dFor, dSeqI, dRng1, dRng2, dZip2, dZip3, dEnum, dLC, dLCr, dLCM, finM, gII0, gII, onII, onI, gGcd, gNeg, gAdd, gIt, gIx, gLen, gTupC, gLstC, gLstCM, gAll, gAny, gBls, gSum, gIsi, gAbs, gInt, gStr, gEqB, gIsN, isNon, gRep, dRepM, dSl, dPart, dNoPart, gSl, dRev, dRevM, dM, dM0, gAppend, gPop, dFld, dSetF, dMeth, dMake, dPut, dDict, dPairs, dJoin, dJoined, dJs, dFmt, gIn, exOf, endD, on1, on2, ev_it0, ev_it1, ev_it2, ev_itn1, ev_itn, ev_len_t, ev_len_l, ev_sq_t, ev_sq_l, ev_lst_l, ev_so_t, ev_so_l, ev_so_k, ev_si_t, ev_si_l, ev_si_k, ev_ty_i, ev_ty_b, ev_ty_n, ev_ty_s, ev_ty_t, ev_ty_l, ev_eq_ii, ev_shp_i, ev_shp_b, ev_shp_n, ev_key_i, ev_key_s, kd_NoneType, kd_bool, kd_int, kd_str, kd_tuple, kd_list, kd_dict, ib_NoneType_NoneType, ib_NoneType_bool, ib_NoneType_int, ib_NoneType_str, ib_NoneType_tuple, ib_NoneType_list, ib_NoneType_dict, ib_bool_NoneType, ib_bool_bool, ib_bool_int, ib_bool_str, ib_bool_tuple, ib_bool_list, ib_bool_dict, ib_int_NoneType, ib_int_bool, ib_int_int, ib_int_str, ib_int_tuple, ib_int_list, ib_int_dict, ib_str_NoneType, ib_str_bool, ib_str_int, ib_str_str, ib_str_tuple, ib_str_list, ib_str_dict, ib_tuple_NoneType, ib_tuple_bool, ib_tuple_int, ib_tuple_str, ib_tuple_tuple, ib_tuple_list, ib_tuple_dict, ib_list_NoneType, ib_list_bool, ib_list_int, ib_list_str, ib_list_tuple, ib_list_list, ib_list_dict, ib_dict_NoneType, ib_dict_bool, ib_dict_int, ib_dict_str, ib_dict_tuple, ib_dict_list, ib_dict_dict, true_and, and_true, if_true, if_false, Bool.not_true, Bool.not_false, List.map_cons, List.map_nil, List.length_cons, List.length_nil, List.replicate, List.cons_append, List.nil_append, List.getElem?_cons_succ, List.getElem?_cons_zero, List.set_cons_succ, List.set_cons_zero, ite_true_eq, ite_false_eq, ite_nt_eq, ite_nf_eq, dec_true, dec_not, bxor_f, bxor_t]
    refine ⟨m2, _, .refl, q m2 ?_ (Fr.trans f1 f2)⟩
    rw [show p + (47 :: TL.numL x.den).length = p + 1 + (TL.numL x.den).length by simp; omega]
    exact s2
theorem lowL_nofig {x : Rat} {t : List Nat} (h : NoMore t) : NoFig (lowL x ++ t) := by
  unfold lowL
  split
  · exact h.1
  · intro y hy
    simp at hy
    subst hy
    decide
def S_fraction_at (c : Cs) : DS := fun ds m Q X => ∃ (a : Addr) (l : List Nat) (p : Nat) (x : Rat) (t : List Nat), ds = [.adr a] ∧ Sg c m a l p ∧ Lg l ∧ l.drop p = fracL x ++ t ∧ Fit x ∧ NoMore t ∧ ∀ m', Sg c m' a l (p + (fracL x).length) → Fr a m m' → Q (enc x) m'
def T_fraction_at (c : Cs) : DSt := (dRet (dCall (S_lower_at c) (dCons (dVar 0) (dCons (dCall (S_integer_at c) (dCons (dVar 0) dNil)) dNil))))
theorem H_fraction_at (c : Cs) (ds : List D) (m : MM) (Q : D → MM → Prop) (Px : XC) (h : S_fraction_at c ds m Q Px) : ds.length = 1 ∧ T_fraction_at c (endD Q Px) (startD ["signs"] ds) m := by
  obtain ⟨a, l, p, x, t, rfl, hs, hl, hd, hn, ht, q⟩ := h
  refine ⟨rfl, ?_⟩
  simp only [T_fraction_at, startD, dSeq, dNext, dBreak, dCont, dSet, dIfE, dIfS, dB, dOp, dVar, dC, dCB, dCons, dNil, dUn, dRet, dRetN, dTup, dLst, dLstM, dCall, dDrop, dAsg, dT, Tg.d, Tgs.d, dNotT, dAndT, dOrT, dAndV, dOrV, dNotV, dPar, dFor, dSeqI, dRng1, dRng2, dZip2, dZip3, dEnum, dLC, dLCr, dLCM, finM, gII0, gII, onII, onI, gGcd, gNeg, gAdd, gIt, gIx, gLen, gTupC, gLstC, gLstCM, gAll, gAny, gBls, gSum, gIsi, gAbs, gInt, gStr, gEqB, gIsN, isNon, gRep, dRepM, dSl, dPart, dNoPart, gSl, dRev, dRevM, dM, dM0, gAppend, gPop, dFld, dSetF, dMeth, dMake, dPut, dDict, dPairs, dJoin, dJoined, dJs, dFmt, gIn, exOf, endD, on1, on2, ev_it0, ev_it1, ev_it2, ev_itn1, ev_itn, ev_len_t, ev_len_l, ev_sq_t, ev_sq_l, ev_lst_l, ev_so_t, ev_so_l, ev_so_k, ev_si_t, ev_si_l, ev_si_k, ev_ty_i, ev_ty_b, ev_ty_n, ev_ty_s, ev_ty_t, ev_ty_l, ev_eq_ii, ev_shp_i, ev_shp_b, ev_shp_n, ev_key_i, ev_key_s, kd_NoneType, kd_bool, kd_int, kd_str, kd_tuple, kd_list, kd_dict, ib_NoneType_NoneType, ib_NoneType_bool, ib_NoneType_int, ib_NoneType_str, ib_NoneType_tuple, ib_NoneType_list, ib_NoneType_dict, ib_bool_NoneType, ib_bool_bool, ib_bool_int, ib_bool_str, ib_bool_tuple, ib_bool_list, ib_bool_dict, ib_int_NoneType, ib_int_bool, ib_int_int, ib_int_str, ib_int_tuple, ib_int_list, ib_int_dict, ib_str_NoneType, ib_str_bool, ib_str_int, ib_str_str, ib_str_tuple, ib_str_list, ib_str_dict, ib_tuple_NoneType, ib_tuple_bool, ib_tuple_int, ib_tuple_str, ib_tuple_tuple, ib_tuple_list, ib_tuple_dict, ib_list_NoneType, ib_list_bool, ib_list_int, ib_list_str, ib_list_tuple, ib_list_list, ib_list_dict, ib_dict_NoneType, ib_dict_bool, ib_dict_int, ib_dict_str, ib_dict_tuple, ib_dict_list, ib_dict_dict, true_and, and_true, if_true, if_false, Bool.not_true, Bool.not_false, List.map_cons, List.map_nil, List.length_cons, List.length_nil, List.replicate, List.cons_append, List.nil_append, List.getElem?_cons_succ, List.getElem?_cons_zero, List.set_cons_succ, List.set_cons_zero, ite_true_eq, ite_false_eq, ite_nt_eq, ite_nf_eq, dec_true, dec_not, bxor_f, bxor_t]
  unfold fracL at hd q
  rw [List.append_assoc] at hd
  refine ⟨a, l, p, x.num, _, rfl, hs, hl, hd, hn.1, lowL_nofig ht, fun m1 s1 f1 => ?_⟩
  simp only [startD, dSeq, dNext, dBreak, dCont, dSet, dIfE, dIfS, dB, dOp, dVar, dC, dCB, dCons, dNil, dUn, dRet, dRetN, dTup, dLst, dLstM, dCall, dDrop, dAsg, dT, Tg.d, Tgs.d, dNotT, dAndT, dOrT, dAndV, dOrV, dNotV, dPar, dFor, dSeqI, dRng1, dRng2, dZip2, dZip3, dEnum, dLC, dLCr, dLCM, finM, gII0, gII, onII, onI, gGcd, gNeg, gAdd, gIt, gIx, gLen, gTupC, gLstC, gLstCM, gAll, gAny, gBls, gSum, gIsi, gAbs, gInt, gStr, gEqB, gIsN, isNon, gRep, dRepM, dSl, dPart, dNoPart, gSl, dRev, dRevM, dM, dM0, gAppend, gPop, dFld, dSetF, dMeth, dMake, dPut, dDict, dPairs, dJoin, dJoined, dJs, dFmt, gIn, exOf, endD, on1, on2, ev_it0, ev_it1, ev_it2, ev_itn1, ev_itn, ev_len_t, ev_len_l, ev_sq_t, ev_sq_l, ev_lst_l, ev_so_t, ev_so_l, ev_so_k, ev_si_t, ev_si_l, ev_si_k, ev_ty_i, ev_ty_b, ev_ty_n, ev_ty_s, ev_ty_t, ev_ty_l, ev_eq_ii, ev_shp_i, ev_shp_b, ev_shp_n, ev_key_i, ev_key_s, kd_NoneType, kd_bool, kd_int, kd_str, kd_tuple, kd_list, kd_dict, ib_NoneType_NoneType, ib_NoneType_bool, ib_NoneType_int, ib_NoneType_str, ib_NoneType_tuple, ib_NoneType_list, ib_NoneType_dict, ib_bool_NoneType, ib_bool_bool, ib_bool_int, ib_bool_str, ib_bool_tuple, ib_bool_list, ib_bool_dict, ib_int_NoneType, ib_int_bool, ib_int_int, ib_int_str, ib_int_tuple, ib_int_list, ib_int_dict, ib_str_NoneType, ib_str_bool, ib_str_int, ib_str_str, ib_str_tuple, ib_str_list, ib_str_dict, ib_tuple_NoneType, ib_tuple_bool, ib_tuple_int, ib_tuple_str, ib_tuple_tuple, ib_tuple_list, ib_tuple_dict, ib_list_NoneType, ib_list_bool, ib_list_int, ib_list_str, ib_list_tuple, ib_list_list, ib_list_dict, ib_dict_NoneType, ib_dict_bool, ib_dict_int, ib_dict_str, ib_dict_tuple, ib_dict_list, ib_dict_dict, true_and, and_true, if_true, if_false, Bool.not_true, Bool.not_false, List.map_cons, List.map_nil, List.length_cons, List.length_nil, List.replicate, List.cons_append, List.nil_append, List.getElem?_cons_succ, List.getElem?_cons_zero, List.set_cons_succ, List.set_cons_zero, ite_true_eq, ite_false_eq, ite_nt_eq, ite_nf_eq, dec_true, dec_not, bxor_f, bxor_t]
  have hd1 : l.drop (p + (intL x.num).length) = lowL x ++ t := by
    rw [← List.drop_drop, hd, List.drop_append_of_le_length (Nat.le_refl _), List.drop_length, List.nil_append]
  refine ⟨a, l, _, x, t, rfl, s1, hl, hd1, hn, ht, fun m2 s2 f2 => ⟨m2, _, .refl, q m2 ?_ (Fr.trans f1 f2)⟩⟩
  rw [List.length_append, ← Nat.add_assoc]; exact s2
/-- fractions behind one another, each with a blank ahead -/
def moreL : List Rat → List Nat
  | [] => []
  | x :: r => 32 :: (fracL x ++ moreL r)
def rowL : List Rat → List Nat
  | [] => [40, 41]
  | x :: r => 40 :: (fracL x ++ (moreL r ++ [41]))
theorem moreL_no (r : List Rat) (t : List Nat) (ht : ∃ y, t.head? = some y ∧ isFig y = false ∧ y ≠ 47) : NoMore (moreL r ++ t) := by
  cases r with
  | nil =>
    obtain ⟨y, h1, h2, h3⟩ := ht
    refine ⟨fun x hx => ?_, ?_⟩
    · have hx : t.head? = some x := hx
      rw [h1] at hx; cases hx; exact h2
    · show t.head? ≠ _
      rw [h1]; simpa using h3
  | cons x r =>
    refine ⟨fun y hy => ?_, ?_⟩
    · have : some 32 = some y := hy
      cases this; rfl
    · show some 32 ≠ some 47
      decide
theorem isL_at {m : MM} {p : Addr} {ds : List D} (h : m p = some (.lst ds)) : isL m (.adr p) := by
  unfold isL lstOf
  simp only [h]; rfl
theorem mlst_at {m : MM} {p : Addr} {ds : List D} (h : m p = some (.lst ds)) : mlst m (.adr p) = some (p, ds) := by
  simp only [mlst, h]
theorem lstOf_at {m : MM} {p : Addr} {ds : List D} (h : m p = some (.lst ds)) : lstOf m (.adr p) = some ds := by
  simp only [lstOf, h]
theorem sqOf_at {m : MM} {p : Addr} {ds : List D} (h : m p = some (.lst ds)) : sqOf m (.adr p) = some ds := by
  simp only [sqOf, lstOf, h]
theorem lenD_at {m : MM} {p : Addr} {ds : List D} (h : m p = some (.lst ds)) : lenD m (.adr p) = some ds.length := by
  simp only [lenD, sqOf, lstOf, h]; rfl
def S_row_at (c : Cs) : DS := fun ds m Q X => ∃ (a : Addr) (l : List Nat) (p : Nat) (x : Rat) (r : List Rat) (t : List Nat), ds = [.adr a] ∧ Sg c m a l p ∧ Lg l ∧ l.drop p = rowL (x :: r) ++ t ∧ (∀ y ∈ x :: r, Fit y) ∧ r.length ≤ 3 ∧ ∀ m', Sg c m' a l (p + (rowL (x :: r)).length) → Fr a m m' → Q (encR (x :: r)) m'
def T_row_at (c : Cs) : DSt := (dSeq (dDrop (dCall (S_take c) (dCons (dVar 0) (dCons (dC (.str ("(" : PySem.Str))) dNil))))
  (dSeq (dSet 1 (dLstM (dCons (dCall (S_fraction_at c) (dCons (dVar 0) dNil)) dNil)))
  (dSeq (dWhile (dAndT (dB (dMeth c.Signs ("is_at" : PySem.Str) (S_Signs_is_at c) (dVar 0) (dCons (dC (.str (" " : PySem.Str))) dNil))) (dB (dOp gLt (dCB gLen (dCons (dVar 1) dNil)) (dC c_MOST_LEVELS))))
  (dSeq (dDrop (dMeth c.Signs ("step" : PySem.Str) (S_Signs_step c) (dVar 0) dNil))
  (dDrop (dM gAppend (dVar 1) (dCons (dCall (S_fraction_at c) (dCons (dVar 0) dNil)) dNil)))))
  (dSeq (dDrop (dCall (S_take c) (dCons (dVar 0) (dCons (dC (.str (")" : PySem.Str))) dNil))))
  (dRet (dCB gTupC (dCons (dVar 1) dNil)))))))
theorem Sg.ne {c : Cs} {m : MM} {a b : Addr} {l : List Nat} {p : Nat} {ds : List D} (h : Sg c m a l p) (k : m b = some (.lst ds)) : b ≠ a := fun e => by
  subst e
  unfold Sg at h
  rw [h] at k; cases k
theorem Sg.of {c : Cs} {m m' : MM} {a : Addr} {l : List Nat} {p : Nat} (h : Sg c m a l p) (e : m' a = m a) : Sg c m' a l p := by
  unfold Sg at h ⊢
  rw [e]; exact h
theorem H_row_at (c : Cs) (ds : List D) (m : MM) (Q : D → MM → Prop) (Px : XC) (h : S_row_at c ds m Q Px) : ds.length = 1 ∧ T_row_at c (endD Q Px) (startD ["signs", "found"] ds) m := by
  obtain ⟨a, l, p, x, r, t, rfl, hs, hl, hd, hn, hr, q⟩ := h
  refine ⟨rfl, ?_⟩
  have hd : l.drop p = 40 :: (fracL x ++ (moreL r ++ 41 :: t)) := by rw [hd]; simp [rowL]
  simp only [T_row_at, startD, dSeq, dNext, dBreak, dCont, dSet, dIfE, dIfS, dB, dOp, dVar, dC, dCB, dCons, dNil, dUn, dRet, dRetN, dTup, dLst, dLstM, dCall, dDrop, dAsg, dT, Tg.d, Tgs.d, dNotT, dAndT, dOrT, dAndV, dOrV, dNotV, dPar, dFor, dSeqI, dRng1, dRng2, dZip2, dZip3, dEnum, dLC, dLCr, dLCM, finM, gII0, gII, onII, onI, gGcd, gNeg, gAdd, gIt, gIx, gLen, gTupC, gLstC, gLstCM, gAll, gAny, gBls, gSum, gIsi, gAbs, gInt, gStr, gEqB, gIsN, isNon, gRep, dRepM, dSl, dPart, dNoPart, gSl, dRev, dRevM, dM, dM0, gAppend, gPop, dFld, dSetF, dMeth, dMake, dPut, dDict, dPairs, dJoin, dJoined, dJs, dFmt, gIn, exOf, endD, on1, on2, ev_it0, ev_it1, ev_it2, ev_itn1, ev_itn, ev_len_t, ev_len_l, ev_sq_t, ev_sq_l, ev_lst_l, ev_so_t, ev_so_l, ev_so_k, ev_si_t, ev_si_l, ev_si_k, ev_ty_i, ev_ty_b, ev_ty_n, ev_ty_s, ev_ty_t, ev_ty_l, ev_eq_ii, ev_shp_i, ev_shp_b, ev_shp_n, ev_key_i, ev_key_s, kd_NoneType, kd_bool, kd_int, kd_str, kd_tuple, kd_list, kd_dict, ib_NoneType_NoneType, ib_NoneType_bool, ib_NoneType_int, ib_NoneType_str, ib_NoneType_tuple, ib_NoneType_list, ib_NoneType_dict, ib_bool_NoneType, ib_bool_bool, ib_bool_int, ib_bool_str, ib_bool_tuple, ib_bool_list, ib_bool_dict, ib_int_NoneType, ib_int_bool, ib_int_int, ib_int_str, ib_int_tuple, ib_int_list, ib_int_dict, ib_str_NoneType, ib_str_bool, ib_str_int, ib_str_str, ib_str_tuple, ib_str_list, ib_str_dict, ib_tuple_NoneType, ib_tuple_bool, ib_tuple_int, ib_tuple_str, ib_tuple_tuple, ib_tuple_list, ib_tuple_dict, ib_list_NoneType, ib_list_bool, ib_list_int, ib_list_str, ib_list_tuple, ib_list_list, ib_list_dict, ib_dict_NoneType, ib_dict_bool, ib_dict_int, ib_dict_str, ib_dict_tuple, ib_dict_list, ib_dict_dict, true_and, and_true, if_true, if_false, Bool.not_true, Bool.not_false, List.map_cons, List.map_nil, List.length_cons, List.length_nil, List.replicate, List.cons_append, List.nil_append, List.getElem?_cons_succ, List.getElem?_cons_zero, List.set_cons_succ, List.set_cons_zero, ite_true_eq, ite_false_eq, ite_nt_eq, ite_nf_eq, dec_true, dec_not, bxor_f, bxor_t]
  refine ⟨a, l, p, 40, rfl, hs, hl, by decide, by rw [hd]; rfl, fun m1 s1 f1 => ?_⟩
  have hd1 : l.drop (p + 1) = fracL x ++ (moreL r ++ 41 :: t) := by rw [← List.drop_drop, hd]; rfl
  refine ⟨a, l, p + 1, x, _, rfl, s1, hl, hd1, hn x List.mem_cons_self, moreL_no r _ ⟨41, rfl, rfl, by decide⟩, fun m2 s2 f2 => ?_⟩
  refine ⟨Nat.le_of_lt two_le, fun p0 hp0 => ?_⟩
  have hd2 : l.drop (p + 1 + (fracL x).length) = moreL r ++ 41 :: t := by
    rw [← List.drop_drop, hd1, List.drop_append_of_le_length (Nat.le_refl _), List.drop_length, List.nil_append]
  have hne : p0 ≠ a := fun e => by subst e; unfold Sg at s2; rw [s2] at hp0; cases hp0
  refine ⟨fun k ρ m' => ∃ (dn td : List Rat) (p' : Nat), k = td.length ∧ x :: r = dn ++ td ∧ dn ≠ [] ∧ ρ = [some (.adr a), some (.adr p0)] ∧ Sg c m' a l p' ∧ l.drop p' = moreL td ++ 41 :: t ∧ p' + (moreL td).length + 1 = p + (rowL (x :: r)).length ∧ m' p0 = some (.lst (dn.map enc)) ∧ ∀ b, b ≠ a → b ≠ p0 → m' b = m b,
    ⟨_, [x], r, _, rfl, rfl, by simp, rfl, s2.of (mset_ne (Ne.symm hne)), hd2, ?_, mset_same, fun b hb h0 => by rw [mset_ne h0, f2 b hb, f1 b hb]⟩, ?_⟩
  · simp [rowL]; omega
  rintro k ρ m' ⟨dn, td, p', rfl, he, hdn, rfl, s', hd', hp', h0', f'⟩
  have hlen : dn.length + td.length = r.length + 1 := by
    have := congrArg List.length he
    simp at this; omega
  simp only [s'.ins, lk_at, startD, dSeq, dNext, dBreak, dCont, dSet, dIfE, dIfS, dB, dOp, dVar, dC, dCB, dCons, dNil, dUn, dRet, dRetN, dTup, dLst, dLstM, dCall, dDrop, dAsg, dT, Tg.d, Tgs.d, dNotT, dAndT, dOrT, dAndV, dOrV, dNotV, dPar, dFor, dSeqI, dRng1, dRng2, dZip2, dZip3, dEnum, dLC, dLCr, dLCM, finM, gII0, gII, onII, onI, gGcd, gNeg, gAdd, gIt, gIx, gLen, gTupC, gLstC, gLstCM, gAll, gAny, gBls, gSum, gIsi, gAbs, gInt, gStr, gEqB, gIsN, isNon, gRep, dRepM, dSl, dPart, dNoPart, gSl, dRev, dRevM, dM, dM0, gAppend, gPop, dFld, dSetF, dMeth, dMake, dPut, dDict, dPairs, dJoin, dJoined, dJs, dFmt, gIn, exOf, endD, on1, on2, ev_it0, ev_it1, ev_it2, ev_itn1, ev_itn, ev_len_t, ev_len_l, ev_sq_t, ev_sq_l, ev_lst_l, ev_so_t, ev_so_l, ev_so_k, ev_si_t, ev_si_l, ev_si_k, ev_ty_i, ev_ty_b, ev_ty_n, ev_ty_s, ev_ty_t, ev_ty_l, ev_eq_ii, ev_shp_i, ev_shp_b, ev_shp_n, ev_key_i, ev_key_s, kd_NoneType, kd_bool, kd_int, kd_str, kd_tuple, kd_list, kd_dict, ib_NoneType_NoneType, ib_NoneType_bool, ib_NoneType_int, ib_NoneType_str, ib_NoneType_tuple, ib_NoneType_list, ib_NoneType_dict, ib_bool_NoneType, ib_bool_bool, ib_bool_int, ib_bool_str, ib_bool_tuple, ib_bool_list, ib_bool_dict, ib_int_NoneType, ib_int_bool, ib_int_int, ib_int_str, ib_int_tuple, ib_int_list, ib_int_dict, ib_str_NoneType, ib_str_bool, ib_str_int, ib_str_str, ib_str_tuple, ib_str_list, ib_str_dict, ib_tuple_NoneType, ib_tuple_bool, ib_tuple_int, ib_tuple_str, ib_tuple_tuple, ib_tuple_list, ib_tuple_dict, ib_list_NoneType, ib_list_bool, ib_list_int, ib_list_str, ib_list_tuple, ib_list_list, ib_list_dict, ib_dict_NoneType, ib_dict_bool, ib_dict_int, ib_dict_str, ib_dict_tuple, ib_dict_list, ib_dict_dict, true_and, and_true, if_true, if_false, Bool.not_true, Bool.not_false, List.map_cons, List.map_nil, List.length_cons, List.length_nil, List.replicate, List.cons_append, List.nil_append, List.getElem?_cons_succ, List.getElem?_cons_zero, List.set_cons_succ, List.set_cons_zero, ite_true_eq, ite_false_eq, ite_nt_eq, ite_nf_eq, dec_true, dec_not, bxor_f, bxor_t]
  refine ⟨a, l, p', 32, rfl, s', hl, by decide, ?_⟩
  cases td with
  | nil =>
    have : (l.drop p').head? ≠ some 32 := by rw [hd']; show some 41 ≠ some 32; decide
    rw [decide_eq_false this]
    simp only [startD, dSeq, dNext, dBreak, dCont, dSet, dIfE, dIfS, dB, dOp, dVar, dC, dCB, dCons, dNil, dUn, dRet, dRetN, dTup, dLst, dLstM, dCall, dDrop, dAsg, dT, Tg.d, Tgs.d, dNotT, dAndT, dOrT, dAndV, dOrV, dNotV, dPar, dFor, dSeqI, dRng1, dRng2, dZip2, dZip3, dEnum, dLC, dLCr, dLCM, finM, gII0, gII, onII, onI, gGcd, gNeg, gAdd, gIt, gIx, gLen, gTupC, gLstC, gLstCM, gAll, gAny, gBls, gSum, gIsi, gAbs, gInt, gStr, gEqB, gIsN, isNon, gRep, dRepM, dSl, dPart, dNoPart, gSl, dRev, dRevM, dM, dM0, gAppend, gPop, dFld, dSetF, dMeth, dMake, dPut, dDict, dPairs, dJoin, dJoined, dJs, dFmt, gIn, exOf, endD, on1, on2, ev_it0, ev_it1, ev_it2, ev_itn1, ev_itn, ev_len_t, ev_len_l, ev_sq_t, ev_sq_l, ev_lst_l, ev_so_t, ev_so_l, ev_so_k, ev_si_t, ev_si_l, ev_si_k, ev_ty_i, ev_ty_b, ev_ty_n, ev_ty_s, ev_ty_t, ev_ty_l, ev_eq_ii, ev_shp_i, ev_shp_b, ev_shp_n, ev_key_i, ev_key_s, kd_NoneType, kd_bool, kd_int, kd_str, kd_tuple, kd_list, kd_dict, ib_NoneType_NoneType, ib_NoneType_bool, ib_NoneType_int, ib_NoneType_str, ib_NoneType_tuple, ib_NoneType_list, ib_NoneType_dict, ib_bool_NoneType, ib_bool_bool, ib_bool_int, ib_bool_str, ib_bool_tuple, ib_bool_list, ib_bool_dict, ib_int_NoneType, ib_int_bool, ib_int_int, ib_int_str, ib_int_tuple, ib_int_list, ib_int_dict, ib_str_NoneType, ib_str_bool, ib_str_int, ib_str_str, ib_str_tuple, ib_str_list, ib_str_dict, ib_tuple_NoneType, ib_tuple_bool, ib_tuple_int, ib_tuple_str, ib_tuple_tuple, ib_tuple_list, ib_tuple_dict, ib_list_NoneType, ib_list_bool, ib_list_int, ib_list_str, ib_list_tuple, ib_list_list, ib_list_dict, ib_dict_NoneType, ib_dict_bool, ib_dict_int, ib_dict_str, ib_dict_tuple, ib_dict_list, ib_dict_dict, true_and, and_true, if_true, if_false, Bool.not_true, Bool.not_false, List.map_cons, List.map_nil, List.length_cons, List.length_nil, List.replicate, List.cons_append, List.nil_append, List.getElem?_cons_succ, List.getElem?_cons_zero, List.set_cons_succ, List.set_cons_zero, ite_true_eq, ite_false_eq, ite_nt_eq, ite_nf_eq, dec_true, dec_not, bxor_f, bxor_t]
    have hd3 : l.drop p' = 41 :: t := hd'
    refine ⟨a, l, p', 41, rfl, s', hl, by decide, by rw [hd3]; rfl, fun m3 s3 f3 => ?_⟩
    have h3 : m3 p0 = some (.lst (dn.map enc)) := by rw [f3 p0 hne]; exact h0'
    simp only [sqOf_at h3, startD, dSeq, dNext, dBreak, dCont, dSet, dIfE, dIfS, dB, dOp, dVar, dC, dCB, dCons, dNil, dUn, dRet, dRetN, dTup, dLst, dLstM, dCall, dDrop, dAsg, dT, Tg.d, Tgs.d, dNotT, dAndT, dOrT, dAndV, dOrV, dNotV, dPar, dFor, dSeqI, dRng1, dRng2, dZip2, dZip3, dEnum, dLC, dLCr, dLCM, finM, gII0, gII, onII, onI, gGcd, gNeg, gAdd, gIt, gIx, gLen, gTupC, gLstC, gLstCM, gAll, gAny, gBls, gSum, gIsi, gAbs, gInt, gStr, gEqB, gIsN, isNon, gRep, dRepM, dSl, dPart, dNoPart, gSl, dRev, dRevM, dM, dM0, gAppend, gPop, dFld, dSetF, dMeth, dMake, dPut, dDict, dPairs, dJoin, dJoined, dJs, dFmt, gIn, exOf, endD, on1, on2, ev_it0, ev_it1, ev_it2, ev_itn1, ev_itn, ev_len_t, ev_len_l, ev_sq_t, ev_sq_l, ev_lst_l, ev_so_t, ev_so_l, ev_so_k, ev_si_t, ev_si_l, ev_si_k, ev_ty_i, ev_ty_b, ev_ty_n, ev_ty_s, ev_ty_t, ev_ty_l, ev_eq_ii, ev_shp_i, ev_shp_b, ev_shp_n, ev_key_i, ev_key_s, kd_NoneType, kd_bool, kd_int, kd_str, kd_tuple, kd_list, kd_dict, ib_NoneType_NoneType, ib_NoneType_bool, ib_NoneType_int, ib_NoneType_str, ib_NoneType_tuple, ib_NoneType_list, ib_NoneType_dict, ib_bool_NoneType, ib_bool_bool, ib_bool_int, ib_bool_str, ib_bool_tuple, ib_bool_list, ib_bool_dict, ib_int_NoneType, ib_int_bool, ib_int_int, ib_int_str, ib_int_tuple, ib_int_list, ib_int_dict, ib_str_NoneType, ib_str_bool, ib_str_int, ib_str_str, ib_str_tuple, ib_str_list, ib_str_dict, ib_tuple_NoneType, ib_tuple_bool, ib_tuple_int, ib_tuple_str, ib_tuple_tuple, ib_tuple_list, ib_tuple_dict, ib_list_NoneType, ib_list_bool, ib_list_int, ib_list_str, ib_list_tuple, ib_list_list, ib_list_dict, ib_dict_NoneType, ib_dict_bool, ib_dict_int, ib_dict_str, ib_dict_tuple, ib_dict_list, ib_dict_dict, true_and, and_true, if_true, if_false, Bool.not_true, Bool.not_false, List.map_cons, List.map_nil, List.length_cons, List.length_nil, List.replicate, List.cons_append, List.nil_append, List.getElem?_cons_succ, List.getElem?_cons_zero, List.set_cons_succ, List.set_cons_zero, ite_true_eq, ite_false_eq, ite_nt_eq, ite_nf_eq, dec_true, dec_not, bxor_f, bxor_t]
    refine ⟨mdel m3 p0, _, .of (Less.del m3 p0), ?_⟩
    rw [List.append_nil] at he
    rw [← he]
    refine q _ (s3.of (mdel_ne (Ne.symm hne)) |> fun z => ?_) fun b hb => ?_
    · rw [← hp']; exact z
    · by_cases e : b = p0
      · subst e
        have hm : m b = none := by rw [← f1 b hb, ← f2 b hb]; exact hp0
        rw [mdel_same, hm]
      · rw [mdel_ne e, f3 b hb]; exact f' b hb e
  | cons y td =>
    have hd3 : l.drop p' = 32 :: (fracL y ++ (moreL td ++ 41 :: t)) := by rw [hd']; simp [moreL]
    have : (l.drop p').head? = some 32 := by rw [hd3]; rfl
    rw [this]
    simp only [decide_true, lenD_at h0', c_MOST_LEVELS, List.length_map, startD, dSeq, dNext, dBreak, dCont, dSet, dIfE, dIfS, dB, dOp, dVar, dC, dCB, dCons, dNil, dUn, dRet, dRetN, dTup, dLst, dLstM, dCall, dDrop, dAsg, dT, Tg.d, Tgs.d, dNotT, dAndT, dOrT, dAndV, dOrV, dNotV, dPar, dFor, dSeqI, dRng1, dRng2, dZip2, dZip3, dEnum, dLC, dLCr, dLCM, finM, gII0, gII, onII, onI, gGcd, gNeg, gAdd, gIt, gIx, gLen, gTupC, gLstC, gLstCM, gAll, gAny, gBls, gSum, gIsi, gAbs, gInt, gStr, gEqB, gIsN, isNon, gRep, dRepM, dSl, dPart, dNoPart, gSl, dRev, dRevM, dM, dM0, gAppend, gPop, dFld, dSetF, dMeth, dMake, dPut, dDict, dPairs, dJoin, dJoined, dJs, dFmt, gIn, exOf, endD, on1, on2, ev_it0, ev_it1, ev_it2, ev_itn1, ev_itn, ev_len_t, ev_len_l, ev_sq_t, ev_sq_l, ev_lst_l, ev_so_t, ev_so_l, ev_so_k, ev_si_t, ev_si_l, ev_si_k, ev_ty_i, ev_ty_b, ev_ty_n, ev_ty_s, ev_ty_t, ev_ty_l, ev_eq_ii, ev_shp_i, ev_shp_b, ev_shp_n, ev_key_i, ev_key_s, kd_NoneType, kd_bool, kd_int, kd_str, kd_tuple, kd_list, kd_dict, ib_NoneType_NoneType, ib_NoneType_bool, ib_NoneType_int, ib_NoneType_str, ib_NoneType_tuple, ib_NoneType_list, ib_NoneType_dict, ib_bool_NoneType, ib_bool_bool, ib_bool_int, ib_bool_str, ib_bool_tuple, ib_bool_list, ib_bool_dict, ib_int_NoneType, ib_int_bool, ib_int_int, ib_int_str, ib_int_tuple, ib_int_list, ib_int_dict, ib_str_NoneType, ib_str_bool, ib_str_int, ib_str_str, ib_str_tuple, ib_str_list, ib_str_dict, ib_tuple_NoneType, ib_tuple_bool, ib_tuple_int, ib_tuple_str, ib_tuple_tuple, ib_tuple_list, ib_tuple_dict, ib_list_NoneType, ib_list_bool, ib_list_int, ib_list_str, ib_list_tuple, ib_list_list, ib_list_dict, ib_dict_NoneType, ib_dict_bool, ib_dict_int, ib_dict_str, ib_dict_tuple, ib_dict_list, ib_dict_dict, true_and, and_true, if_true, if_false, Bool.not_true, Bool.not_false, List.map_cons, List.map_nil, List.length_cons, List.length_nil, List.replicate, List.cons_append, List.nil_append, List.getElem?_cons_succ, List.getElem?_cons_zero, List.set_cons_succ, List.set_cons_zero, ite_true_eq, ite_false_eq, ite_nt_eq, ite_nf_eq, dec_true, dec_not, bxor_f, bxor_t]
    have hl4 : ((dn.length : Nat) : Int) < 4 := by simp at hlen; omega
    rw [if_pos hl4]
    simp only [s'.ins, lk_step, startD, dSeq, dNext, dBreak, dCont, dSet, dIfE, dIfS, dB, dOp, dVar, dC, dCB, dCons, dNil, dUn, dRet, dRetN, dTup, dLst, dLstM, dCall, dDrop, dAsg, dT, Tg.d, Tgs.d, dNotT, dAndT, dOrT, dAndV, dOrV, dNotV, dPar, dFor, dSeqI, dRng1, dRng2, dZip2, dZip3, dEnum, dLC, dLCr, dLCM, finM, gII0, gII, onII, onI, gGcd, gNeg, gAdd, gIt, gIx, gLen, gTupC, gLstC, gLstCM, gAll, gAny, gBls, gSum, gIsi, gAbs, gInt, gStr, gEqB, gIsN, isNon, gRep, dRepM, dSl, dPart, dNoPart, gSl, dRev, dRevM, dM, dM0, gAppend, gPop, dFld, dSetF, dMeth, dMake, dPut, dDict, dPairs, dJoin, dJoined, dJs, dFmt, gIn, exOf, endD, on1, on2, ev_it0, ev_it1, ev_it2, ev_itn1, ev_itn, ev_len_t, ev_len_l, ev_sq_t, ev_sq_l, ev_lst_l, ev_so_t, ev_so_l, ev_so_k, ev_si_t, ev_si_l, ev_si_k, ev_ty_i, ev_ty_b, ev_ty_n, ev_ty_s, ev_ty_t, ev_ty_l, ev_eq_ii, ev_shp_i, ev_shp_b, ev_shp_n, ev_key_i, ev_key_s, kd_NoneType, kd_bool, kd_int, kd_str, kd_tuple, kd_list, kd_dict, ib_NoneType_NoneType, ib_NoneType_bool, ib_NoneType_int, ib_NoneType_str, ib_NoneType_tuple, ib_NoneType_list, ib_NoneType_dict, ib_bool_NoneType, ib_bool_bool, ib_bool_int, ib_bool_str, ib_bool_tuple, ib_bool_list, ib_bool_dict, ib_int_NoneType, ib_int_bool, ib_int_int, ib_int_str, ib_int_tuple, ib_int_list, ib_int_dict, ib_str_NoneType, ib_str_bool, ib_str_int, ib_str_str, ib_str_tuple, ib_str_list, ib_str_dict, ib_tuple_NoneType, ib_tuple_bool, ib_tuple_int, ib_tuple_str, ib_tuple_tuple, ib_tuple_list, ib_tuple_dict, ib_list_NoneType, ib_list_bool, ib_list_int, ib_list_str, ib_list_tuple, ib_list_list, ib_list_dict, ib_dict_NoneType, ib_dict_bool, ib_dict_int, ib_dict_str, ib_dict_tuple, ib_dict_list, ib_dict_dict, true_and, and_true, if_true, if_false, Bool.not_true, Bool.not_false, List.map_cons, List.map_nil, List.length_cons, List.length_nil, List.replicate, List.cons_append, List.nil_append, List.getElem?_cons_succ, List.getElem?_cons_zero, List.set_cons_succ, List.set_cons_zero, ite_true_eq, ite_false_eq, ite_nt_eq, ite_nf_eq, dec_true, dec_not, bxor_f, bxor_t]
    refine ⟨a, l, p', rfl, s', fun m3 s3 f3 => ?_⟩
    have h3 : m3 p0 = some (.lst (dn.map enc)) := by rw [f3 p0 hne]; exact h0'
    have hd4 : l.drop (p' + 1) = fracL y ++ (moreL td ++ 41 :: t) := by rw [← List.drop_drop, hd3]; rfl
    refine ⟨isL_at h3, ?_⟩
    refine ⟨a, l, p' + 1, y, _, rfl, s3, hl, hd4, hn y (by rw [he]; simp), moreL_no td _ ⟨41, rfl, rfl, by decide⟩, fun m4 s4 f4 => ?_⟩
    have h4 : m4 p0 = some (.lst (dn.map enc)) := by rw [f4 p0 hne]; exact h3
    simp only [mlst_at h4, List.length_map, startD, dSeq, dNext, dBreak, dCont, dSet, dIfE, dIfS, dB, dOp, dVar, dC, dCB, dCons, dNil, dUn, dRet, dRetN, dTup, dLst, dLstM, dCall, dDrop, dAsg, dT, Tg.d, Tgs.d, dNotT, dAndT, dOrT, dAndV, dOrV, dNotV, dPar, dFor, dSeqI, dRng1, dRng2, dZip2, dZip3, dEnum, dLC, dLCr, dLCM, finM, gII0, gII, onII, onI, gGcd, gNeg, gAdd, gIt, gIx, gLen, gTupC, gLstC, gLstCM, gAll, gAny, gBls, gSum, gIsi, gAbs, gInt, gStr, gEqB, gIsN, isNon, gRep, dRepM, dSl, dPart, dNoPart, gSl, dRev, dRevM, dM, dM0, gAppend, gPop, dFld, dSetF, dMeth, dMake, dPut, dDict, dPairs, dJoin, dJoined, dJs, dFmt, gIn, exOf, endD, on1, on2, ev_it0, ev_it1, ev_it2, ev_itn1, ev_itn, ev_len_t, ev_len_l, ev_sq_t, ev_sq_l, ev_lst_l, ev_so_t, ev_so_l, ev_so_k, ev_si_t, ev_si_l, ev_si_k, ev_ty_i, ev_ty_b, ev_ty_n, ev_ty_s, ev_ty_t, ev_ty_l, ev_eq_ii, ev_shp_i, ev_shp_b, ev_shp_n, ev_key_i, ev_key_s, kd_NoneType, kd_bool, kd_int, kd_str, kd_tuple, kd_list, kd_dict, ib_NoneType_NoneType, ib_NoneType_bool, ib_NoneType_int, ib_NoneType_str, ib_NoneType_tuple, ib_NoneType_list, ib_NoneType_dict, ib_bool_NoneType, ib_bool_bool, ib_bool_int, ib_bool_str, ib_bool_tuple, ib_bool_list, ib_bool_dict, ib_int_NoneType, ib_int_bool, ib_int_int, ib_int_str, ib_int_tuple, ib_int_list, ib_int_dict, ib_str_NoneType, ib_str_bool, ib_str_int, ib_str_str, ib_str_tuple, ib_str_list, ib_str_dict, ib_tuple_NoneType, ib_tuple_bool, ib_tuple_int, ib_tuple_str, ib_tuple_tuple, ib_tuple_list, ib_tuple_dict, ib_list_NoneType, ib_list_bool, ib_list_int, ib_list_str, ib_list_tuple, ib_list_list, ib_list_dict, ib_dict_NoneType, ib_dict_bool, ib_dict_int, ib_dict_str, ib_dict_tuple, ib_dict_list, ib_dict_dict, true_and, and_true, if_true, if_false, Bool.not_true, Bool.not_false, List.map_cons, List.map_nil, List.length_cons, List.length_nil, List.replicate, List.cons_append, List.nil_append, List.getElem?_cons_succ, List.getElem?_cons_zero, List.set_cons_succ, List.set_cons_zero, ite_true_eq, ite_false_eq, ite_nt_eq, ite_nf_eq, dec_true, dec_not, bxor_f, bxor_t]
    refine ⟨Nat.lt_of_lt_of_le (show dn.length < 4 by omega) (big_of (by omega)), td.length, by simp, dn ++ [y], td, p' + 1 + (fracL y).length, rfl, by rw [he]; simp, by simp, s4.of (mset_ne (Ne.symm hne)), ?_, ?_, ?_, fun b hb e => ?_⟩
    · rw [← List.drop_drop, hd4, List.drop_append_of_le_length (Nat.le_refl _), List.drop_length, List.nil_append]
    · rw [← hp']; simp [moreL]; omega
    · rw [mset_same, List.map_append]; rfl
    · rw [mset_ne e, f4 b hb, f3 b hb]; exact f' b hb e
def S_signs_of (c : Cs) : DS := fun ds m Q X => ∃ l : List Nat, ds = [.str (tx l)] ∧ ∀ a m', m a = none → Sg c m' a l 0 → Fr a m m' → Q (.adr a) m'
def T_signs_of (c : Cs) : DSt := (dSeq (dIfS (dNotT (dB (dCB gIsi (dCons (dVar 0) (dCons (dC (.ty "str")) dNil))))) dNever dNext)
  (dRet (dMake c.Signs (S_Signs___init__ c) (dCons (dVar 0) dNil))))
theorem H_signs_of (c : Cs) (ds : List D) (m : MM) (Q : D → MM → Prop) (Px : XC) (h : S_signs_of c ds m Q Px) : ds.length = 1 ∧ T_signs_of c (endD Q Px) (startD ["text"] ds) m := by
  obtain ⟨l, rfl, q⟩ := h
  refine ⟨rfl, ?_⟩
  simp only [T_signs_of, startD, dSeq, dNext, dBreak, dCont, dSet, dIfE, dIfS, dB, dOp, dVar, dC, dCB, dCons, dNil, dUn, dRet, dRetN, dTup, dLst, dLstM, dCall, dDrop, dAsg, dT, Tg.d, Tgs.d, dNotT, dAndT, dOrT, dAndV, dOrV, dNotV, dPar, dFor, dSeqI, dRng1, dRng2, dZip2, dZip3, dEnum, dLC, dLCr, dLCM, finM, gII0, gII, onII, onI, gGcd, gNeg, gAdd, gIt, gIx, gLen, gTupC, gLstC, gLstCM, gAll, gAny, gBls, gSum, gIsi, gAbs, gInt, gStr, gEqB, gIsN, isNon, gRep, dRepM, dSl, dPart, dNoPart, gSl, dRev, dRevM, dM, dM0, gAppend, gPop, dFld, dSetF, dMeth, dMake, dPut, dDict, dPairs, dJoin, dJoined, dJs, dFmt, gIn, exOf, endD, on1, on2, ev_it0, ev_it1, ev_it2, ev_itn1, ev_itn, ev_len_t, ev_len_l, ev_sq_t, ev_sq_l, ev_lst_l, ev_so_t, ev_so_l, ev_so_k, ev_si_t, ev_si_l, ev_si_k, ev_ty_i, ev_ty_b, ev_ty_n, ev_ty_s, ev_ty_t, ev_ty_l, ev_eq_ii, ev_shp_i, ev_shp_b, ev_shp_n, ev_key_i, ev_key_s, kd_NoneType, kd_bool, kd_int, kd_str, kd_tuple, kd_list, kd_dict, ib_NoneType_NoneType, ib_NoneType_bool, ib_NoneType_int, ib_NoneType_str, ib_NoneType_tuple, ib_NoneType_list, ib_NoneType_dict, ib_bool_NoneType, ib_bool_bool, ib_bool_int, ib_bool_str, ib_bool_tuple, ib_bool_list, ib_bool_dict, ib_int_NoneType, ib_int_bool, ib_int_int, ib_int_str, ib_int_tuple, ib_int_list, ib_int_dict, ib_str_NoneType, ib_str_bool, ib_str_int, ib_str_str, ib_str_tuple, ib_str_list, ib_str_dict, ib_tuple_NoneType, ib_tuple_bool, ib_tuple_int, ib_tuple_str, ib_tuple_tuple, ib_tuple_list, ib_tuple_dict, ib_list_NoneType, ib_list_bool, ib_list_int, ib_list_str, ib_list_tuple, ib_list_list, ib_list_dict, ib_dict_NoneType, ib_dict_bool, ib_dict_int, ib_dict_str, ib_dict_tuple, ib_dict_list, ib_dict_dict, true_and, and_true, if_true, if_false, Bool.not_true, Bool.not_false, List.map_cons, List.map_nil, List.length_cons, List.length_nil, List.replicate, List.cons_append, List.nil_append, List.getElem?_cons_succ, List.getElem?_cons_zero, List.set_cons_succ, List.set_cons_zero, ite_true_eq, ite_false_eq, ite_nt_eq, ite_nf_eq, dec_true, dec_not, bxor_f, bxor_t]
  intro a ha
  refine ⟨a, l, rfl, mset_same, fun m' s' f' => ⟨rfl, m', _, .refl, q a m' ha s' fun b hb => ?_⟩⟩
  rw [f' b hb, mset_ne hb]
def S_ended (c : Cs) : DS := fun ds m Q X => ∃ (a : Addr) (l : List Nat) (d : D), ds = [.adr a, d] ∧ Sg c m a l l.length ∧ Lg l ∧ Q d m
def T_ended (c : Cs) : DSt := (dSeq (dIfS (dNotT (dB (dMeth c.Signs ("is_end" : PySem.Str) (S_Signs_is_end c) (dVar 0) dNil))) (dDrop (dCall (S_fail c) (dCons (dVar 0) dNil))) dNext)
  (dRet (dVar 1)))
theorem H_ended (c : Cs) (ds : List D) (m : MM) (Q : D → MM → Prop) (Px : XC) (h : S_ended c ds m Q Px) : ds.length = 2 ∧ T_ended c (endD Q Px) (startD ["signs", "found"] ds) m := by
  obtain ⟨a, l, d, rfl, hs, hl, q⟩ := h
  refine ⟨rfl, ?_⟩
  simp only [T_ended, hs.ins, lk_end, startD, dSeq, dNext, dBreak, dCont, dSet, dIfE, dIfS, dB, dOp, dVar, dC, dCB, dCons, dNil, dUn, dRet, dRetN, dTup, dLst, dLstM, dCall, dDrop, dAsg, dT, Tg.d, Tgs.d, dNotT, dAndT, dOrT, dAndV, dOrV, dNotV, dPar, dFor, dSeqI, dRng1, dRng2, dZip2, dZip3, dEnum, dLC, dLCr, dLCM, finM, gII0, gII, onII, onI, gGcd, gNeg, gAdd, gIt, gIx, gLen, gTupC, gLstC, gLstCM, gAll, gAny, gBls, gSum, gIsi, gAbs, gInt, gStr, gEqB, gIsN, isNon, gRep, dRepM, dSl, dPart, dNoPart, gSl, dRev, dRevM, dM, dM0, gAppend, gPop, dFld, dSetF, dMeth, dMake, dPut, dDict, dPairs, dJoin, dJoined, dJs, dFmt, gIn, exOf, endD, on1, on2, ev_it0, ev_it1, ev_it2, ev_itn1, ev_itn, ev_len_t, ev_len_l, ev_sq_t, ev_sq_l, ev_lst_l, ev_so_t, ev_so_l, ev_so_k, ev_si_t, ev_si_l, ev_si_k, ev_ty_i, ev_ty_b, ev_ty_n, ev_ty_s, ev_ty_t, ev_ty_l, ev_eq_ii, ev_shp_i, ev_shp_b, ev_shp_n, ev_key_i, ev_key_s, kd_NoneType, kd_bool, kd_int, kd_str, kd_tuple, kd_list, kd_dict, ib_NoneType_NoneType, ib_NoneType_bool, ib_NoneType_int, ib_NoneType_str, ib_NoneType_tuple, ib_NoneType_list, ib_NoneType_dict, ib_bool_NoneType, ib_bool_bool, ib_bool_int, ib_bool_str, ib_bool_tuple, ib_bool_list, ib_bool_dict, ib_int_NoneType, ib_int_bool, ib_int_int, ib_int_str, ib_int_tuple, ib_int_list, ib_int_dict, ib_str_NoneType, ib_str_bool, ib_str_int, ib_str_str, ib_str_tuple, ib_str_list, ib_str_dict, ib_tuple_NoneType, ib_tuple_bool, ib_tuple_int, ib_tuple_str, ib_tuple_tuple, ib_tuple_list, ib_tuple_dict, ib_list_NoneType, ib_list_bool, ib_list_int, ib_list_str, ib_list_tuple, ib_list_list, ib_list_dict, ib_dict_NoneType, ib_dict_bool, ib_dict_int, ib_dict_str, ib_dict_tuple, ib_dict_list, ib_dict_dict, true_and, and_true, if_true, if_false, Bool.not_true, Bool.not_false, List.map_cons, List.map_nil, List.length_cons, List.length_nil, List.replicate, List.cons_append, List.nil_append, List.getElem?_cons_succ, List.getElem?_cons_zero, List.set_cons_succ, List.set_cons_zero, ite_true_eq, ite_false_eq, ite_nt_eq, ite_nf_eq, dec_true, dec_not, bxor_f, bxor_t]
  refine ⟨a, l, _, rfl, hs, hl, ?_⟩
  rw [decide_eq_true rfl]
  simp only [startD, dSeq, dNext, dBreak, dCont, dSet, dIfE, dIfS, dB, dOp, dVar, dC, dCB, dCons, dNil, dUn, dRet, dRetN, dTup, dLst, dLstM, dCall, dDrop, dAsg, dT, Tg.d, Tgs.d, dNotT, dAndT, dOrT, dAndV, dOrV, dNotV, dPar, dFor, dSeqI, dRng1, dRng2, dZip2, dZip3, dEnum, dLC, dLCr, dLCM, finM, gII0, gII, onII, onI, gGcd, gNeg, gAdd, gIt, gIx, gLen, gTupC, gLstC, gLstCM, gAll, gAny, gBls, gSum, gIsi, gAbs, gInt, gStr, gEqB, gIsN, isNon, gRep, dRepM, dSl, dPart, dNoPart, gSl, dRev, dRevM, dM, dM0, gAppend, gPop, dFld, dSetF, dMeth, dMake, dPut, dDict, dPairs, dJoin, dJoined, dJs, dFmt, gIn, exOf, endD, on1, on2, ev_it0, ev_it1, ev_it2, ev_itn1, ev_itn, ev_len_t, ev_len_l, ev_sq_t, ev_sq_l, ev_lst_l, ev_so_t, ev_so_l, ev_so_k, ev_si_t, ev_si_l, ev_si_k, ev_ty_i, ev_ty_b, ev_ty_n, ev_ty_s, ev_ty_t, ev_ty_l, ev_eq_ii, ev_shp_i, ev_shp_b, ev_shp_n, ev_key_i, ev_key_s, kd_NoneType, kd_bool, kd_int, kd_str, kd_tuple, kd_list, kd_dict, ib_NoneType_NoneType, ib_NoneType_bool, ib_NoneType_int, ib_NoneType_str, ib_NoneType_tuple, ib_NoneType_list, ib_NoneType_dict, ib_bool_NoneType, ib_bool_bool, ib_bool_int, ib_bool_str, ib_bool_tuple, ib_bool_list, ib_bool_dict, ib_int_NoneType, ib_int_bool, ib_int_int, ib_int_str, ib_int_tuple, ib_int_list, ib_int_dict, ib_str_NoneType, ib_str_bool, ib_str_int, ib_str_str, ib_str_tuple, ib_str_list, ib_str_dict, ib_tuple_NoneType, ib_tuple_bool, ib_tuple_int, ib_tuple_str, ib_tuple_tuple, ib_tuple_list, ib_tuple_dict, ib_list_NoneType, ib_list_bool, ib_list_int, ib_list_str, ib_list_tuple, ib_list_list, ib_list_dict, ib_dict_NoneType, ib_dict_bool, ib_dict_int, ib_dict_str, ib_dict_tuple, ib_dict_list, ib_dict_dict, true_and, and_true, if_true, if_false, Bool.not_true, Bool.not_false, List.map_cons, List.map_nil, List.length_cons, List.length_nil, List.replicate, List.cons_append, List.nil_append, List.getElem?_cons_succ, List.getElem?_cons_zero, List.set_cons_succ, List.set_cons_zero, ite_true_eq, ite_false_eq, ite_nt_eq, ite_nf_eq, dec_true, dec_not, bxor_f, bxor_t]
  exact ⟨m, _, .refl, q⟩
def S_read_fraction : DS := fun ds m Q X => ∃ x : Rat, ds = [.str (tx (fracL x))] ∧ Fit x ∧ Q (enc x) m
def T_read_fraction (c : Cs) : DSt := (dSeq (dSet 1 (dCall (S_signs_of c) (dCons (dVar 0) dNil)))
  (dRet (dCall (S_ended c) (dCons (dVar 1) (dCons (dCall (S_fraction_at c) (dCons (dVar 1) dNil)) dNil)))))
theorem numL_ok (n : Nat) : okL (TL.numL n) := fun c hc => by have := TL.numL_digits n c hc; omega
theorem okL.app {a b : List Nat} (h : okL a) (k : okL b) : okL (a ++ b) := fun c hc => (List.mem_append.mp hc).elim (h c) (k c)
theorem okL.cons {a : Nat} {b : List Nat} (h : a < 1000) (k : okL b) : okL (a :: b) := fun c hc => by
  rcases List.mem_cons.mp hc with e | e
  · subst e; omega
  · exact k c e
theorem okL.nil : okL [] := fun c hc => by simp at hc
theorem fracL_ok (x : Rat) : okL (fracL x) := by
  unfold fracL intL lowL
  refine .app ?_ ?_
  · split
    · exact .cons (by decide) (numL_ok _)
    · exact numL_ok _
  · split
    · exact .nil
    · exact .cons (by decide) (numL_ok _)
theorem fracL_len {x : Rat} (h : Fit x) : (fracL x).length ≤ 402 := by
  obtain ⟨h1, h2⟩ := h
  unfold fracL intL lowL
  rw [List.length_append]
  split <;> split <;> simp <;> omega
theorem moreL_ok : ∀ r : List Rat, okL (moreL r)
  | [] => .nil
  | x :: r => .cons (by decide) (.app (fracL_ok x) (moreL_ok r))
theorem moreL_len : ∀ {r : List Rat}, (∀ y ∈ r, Fit y) → (moreL r).length ≤ 403 * r.length
  | [], _ => by simp [moreL]
  | x :: r, h => by
    have h1 := fracL_len (h x List.mem_cons_self)
    have h2 := moreL_len (r := r) fun y hy => h y (List.mem_cons_of_mem _ hy)
    unfold moreL
    simp; omega
theorem shed_new {c : Cs} {m m' : MM} {a : Addr} {d : D} (ha : m a = none) (f : Fr a m m') : Shed m' d m d := .of fun b o e => by
  by_cases h : b = a
  · subst h; rw [ha] at e; cases e
  · rw [f b h]; exact e
theorem H_read_fraction (c : Cs) (ds : List D) (m : MM) (Q : D → MM → Prop) (Px : XC) (h : S_read_fraction ds m Q Px) : ds.length = 1 ∧ T_read_fraction c (endD Q Px) (startD ["text", "signs"] ds) m := by
  obtain ⟨x, rfl, hx, q⟩ := h
  refine ⟨rfl, ?_⟩
  have hl : Lg (fracL x) := ⟨by have := fracL_len hx; omega, fracL_ok x⟩
  simp only [T_read_fraction, startD, dSeq, dNext, dBreak, dCont, dSet, dIfE, dIfS, dB, dOp, dVar, dC, dCB, dCons, dNil, dUn, dRet, dRetN, dTup, dLst, dLstM, dCall, dDrop, dAsg, dT, Tg.d, Tgs.d, dNotT, dAndT, dOrT, dAndV, dOrV, dNotV, dPar, dFor, dSeqI, dRng1, dRng2, dZip2, dZip3, dEnum, dLC, dLCr, dLCM, finM, gII0, gII, onII, onI, gGcd, gNeg, gAdd, gIt, gIx, gLen, gTupC, gLstC, gLstCM, gAll, gAny, gBls, gSum, gIsi, gAbs, gInt, gStr, gEqB, gIsN, isNon, gRep, dRepM, dSl, dPart, dNoPart, gSl, dRev, dRevM, dM, dM0, gAppend, gPop, dFld, dSetF, dMeth, dMake, dPut, dDict, dPairs, dJoin, dJoined, dJs, dFmt, gIn, exOf, endD, on1, on2, ev_it0, ev_it1, ev_it2, ev_itn1, ev_itn, ev_len_t, ev_len_l, ev_sq_t, ev_sq_l, ev_lst_l, ev_so_t, ev_so_l, ev_so_k, ev_si_t, ev_si_l, ev_si_k, ev_ty_i, ev_ty_b, ev_ty_n, ev_ty_s, ev_ty_t, ev_ty_l, ev_eq_ii, ev_shp_i, ev_shp_b, ev_shp_n, ev_key_i, ev_key_s, kd_NoneType, kd_bool, kd_int, kd_str, kd_tuple, kd_list, kd_dict, ib_NoneType_NoneType, ib_NoneType_bool, ib_NoneType_int, ib_NoneType_str, ib_NoneType_tuple, ib_NoneType_list, ib_NoneType_dict, ib_bool_NoneType, ib_bool_bool, ib_bool_int, ib_bool_str, ib_bool_tuple, ib_bool_list, ib_bool_dict, ib_int_NoneType, ib_int_bool, ib_int_int, ib_int_str, ib_int_tuple, ib_int_list, ib_int_dict, ib_str_NoneType, ib_str_bool, ib_str_int, ib_str_str, ib_str_tuple, ib_str_list, ib_str_dict, ib_tuple_NoneType, ib_tuple_bool, ib_tuple_int, ib_tuple_str, ib_tuple_tuple, ib_tuple_list, ib_tuple_dict, ib_list_NoneType, ib_list_bool, ib_list_int, ib_list_str, ib_list_tuple, ib_list_list, ib_list_dict, ib_dict_NoneType, ib_dict_bool, ib_dict_int, ib_dict_str, ib_dict_tuple, ib_dict_list, ib_dict_dict, true_and, and_true, if_true, if_false, Bool.not_true, Bool.not_false, List.map_cons, List.map_nil, List.length_cons, List.length_nil, List.replicate, List.cons_append, List.nil_append, List.getElem?_cons_succ, List.getElem?_cons_zero, List.set_cons_succ, List.set_cons_zero, ite_true_eq, ite_false_eq, ite_nt_eq, ite_nf_eq, dec_true, dec_not, bxor_f, bxor_t]
  refine ⟨_, rfl, fun a m1 ha s1 f1 => ?_⟩
  simp only [startD, dSeq, dNext, dBreak, dCont, dSet, dIfE, dIfS, dB, dOp, dVar, dC, dCB, dCons, dNil, dUn, dRet, dRetN, dTup, dLst, dLstM, dCall, dDrop, dAsg, dT, Tg.d, Tgs.d, dNotT, dAndT, dOrT, dAndV, dOrV, dNotV, dPar, dFor, dSeqI, dRng1, dRng2, dZip2, dZip3, dEnum, dLC, dLCr, dLCM, finM, gII0, gII, onII, onI, gGcd, gNeg, gAdd, gIt, gIx, gLen, gTupC, gLstC, gLstCM, gAll, gAny, gBls, gSum, gIsi, gAbs, gInt, gStr, gEqB, gIsN, isNon, gRep, dRepM, dSl, dPart, dNoPart, gSl, dRev, dRevM, dM, dM0, gAppend, gPop, dFld, dSetF, dMeth, dMake, dPut, dDict, dPairs, dJoin, dJoined, dJs, dFmt, gIn, exOf, endD, on1, on2, ev_it0, ev_it1, ev_it2, ev_itn1, ev_itn, ev_len_t, ev_len_l, ev_sq_t, ev_sq_l, ev_lst_l, ev_so_t, ev_so_l, ev_so_k, ev_si_t, ev_si_l, ev_si_k, ev_ty_i, ev_ty_b, ev_ty_n, ev_ty_s, ev_ty_t, ev_ty_l, ev_eq_ii, ev_shp_i, ev_shp_b, ev_shp_n, ev_key_i, ev_key_s, kd_NoneType, kd_bool, kd_int, kd_str, kd_tuple, kd_list, kd_dict, ib_NoneType_NoneType, ib_NoneType_bool, ib_NoneType_int, ib_NoneType_str, ib_NoneType_tuple, ib_NoneType_list, ib_NoneType_dict, ib_bool_NoneType, ib_bool_bool, ib_bool_int, ib_bool_str, ib_bool_tuple, ib_bool_list, ib_bool_dict, ib_int_NoneType, ib_int_bool, ib_int_int, ib_int_str, ib_int_tuple, ib_int_list, ib_int_dict, ib_str_NoneType, ib_str_bool, ib_str_int, ib_str_str, ib_str_tuple, ib_str_list, ib_str_dict, ib_tuple_NoneType, ib_tuple_bool, ib_tuple_int, ib_tuple_str, ib_tuple_tuple, ib_tuple_list, ib_tuple_dict, ib_list_NoneType, ib_list_bool, ib_list_int, ib_list_str, ib_list_tuple, ib_list_list, ib_list_dict, ib_dict_NoneType, ib_dict_bool, ib_dict_int, ib_dict_str, ib_dict_tuple, ib_dict_list, ib_dict_dict, true_and, and_true, if_true, if_false, Bool.not_true, Bool.not_false, List.map_cons, List.map_nil, List.length_cons, List.length_nil, List.replicate, List.cons_append, List.nil_append, List.getElem?_cons_succ, List.getElem?_cons_zero, List.set_cons_succ, List.set_cons_zero, ite_true_eq, ite_false_eq, ite_nt_eq, ite_nf_eq, dec_true, dec_not, bxor_f, bxor_t]
  refine ⟨a, _, 0, x, [], rfl, s1, hl, by simp, hx, ⟨fun y hy => by simp at hy, by simp⟩, fun m2 s2 f2 => ?_⟩
  refine ⟨a, _, enc x, rfl, ?_, hl, m, enc x, shed_new (c := c) ha (Fr.trans f1 f2), q⟩
  rw [Nat.zero_add] at s2; exact s2
def S_read_row : DS := fun ds m Q X => ∃ (x : Rat) (r : List Rat), ds = [.str (tx (rowL (x :: r)))] ∧ (∀ y ∈ x :: r, Fit y) ∧ r.length ≤ 3 ∧ Q (encR (x :: r)) m
def T_read_row (c : Cs) : DSt := (dSeq (dSet 1 (dCall (S_signs_of c) (dCons (dVar 0) dNil)))
  (dRet (dCall (S_ended c) (dCons (dVar 1) (dCons (dCall (S_row_at c) (dCons (dVar 1) dNil)) dNil)))))
theorem rowL_lg {x : Rat} {r : List Rat} (h : ∀ y ∈ x :: r, Fit y) (hr : r.length ≤ 1000) : Lg (rowL (x :: r)) := by
  have h1 := fracL_len (h x List.mem_cons_self)
  have h2 := moreL_len (r := r) fun y hy => h y (List.mem_cons_of_mem _ hy)
  refine ⟨?_, .cons (by decide) (.app (fracL_ok x) (.app (moreL_ok r) (.cons (by decide) .nil)))⟩
  unfold rowL
  simp; omega
theorem H_read_row (c : Cs) (ds : List D) (m : MM) (Q : D → MM → Prop) (Px : XC) (h : S_read_row ds m Q Px) : ds.length = 1 ∧ T_read_row c (endD Q Px) (startD ["text", "signs"] ds) m := by
  obtain ⟨x, r, rfl, hx, hr, q⟩ := h
  refine ⟨rfl, ?_⟩
  have hl := rowL_lg hx (by omega)
  simp only [T_read_row, startD, dSeq, dNext, dBreak, dCont, dSet, dIfE, dIfS, dB, dOp, dVar, dC, dCB, dCons, dNil, dUn, dRet, dRetN, dTup, dLst, dLstM, dCall, dDrop, dAsg, dT, Tg.d, Tgs.d, dNotT, dAndT, dOrT, dAndV, dOrV, dNotV, dPar, dFor, dSeqI, dRng1, dRng2, dZip2, dZip3, dEnum, dLC, dLCr, dLCM, finM, gII0, gII, onII, onI, gGcd, gNeg, gAdd, gIt, gIx, gLen, gTupC, gLstC, gLstCM, gAll, gAny, gBls, gSum, gIsi, gAbs, gInt, gStr, gEqB, gIsN, isNon, gRep, dRepM, dSl, dPart, dNoPart, gSl, dRev, dRevM, dM, dM0, gAppend, gPop, dFld, dSetF, dMeth, dMake, dPut, dDict, dPairs, dJoin, dJoined, dJs, dFmt, gIn, exOf, endD, on1, on2, ev_it0, ev_it1, ev_it2, ev_itn1, ev_itn, ev_len_t, ev_len_l, ev_sq_t, ev_sq_l, ev_lst_l, ev_so_t, ev_so_l, ev_so_k, ev_si_t, ev_si_l, ev_si_k, ev_ty_i, ev_ty_b, ev_ty_n, ev_ty_s, ev_ty_t, ev_ty_l, ev_eq_ii, ev_shp_i, ev_shp_b, ev_shp_n, ev_key_i, ev_key_s, kd_NoneType, kd_bool, kd_int, kd_str, kd_tuple, kd_list, kd_dict, ib_NoneType_NoneType, ib_NoneType_bool, ib_NoneType_int, ib_NoneType_str, ib_NoneType_tuple, ib_NoneType_list, ib_NoneType_dict, ib_bool_NoneType, ib_bool_bool, ib_bool_int, ib_bool_str, ib_bool_tuple, ib_bool_list, ib_bool_dict, ib_int_NoneType, ib_int_bool, ib_int_int, ib_int_str, ib_int_tuple, ib_int_list, ib_int_dict, ib_str_NoneType, ib_str_bool, ib_str_int, ib_str_str, ib_str_tuple, ib_str_list, ib_str_dict, ib_tuple_NoneType, ib_tuple_bool, ib_tuple_int, ib_tuple_str, ib_tuple_tuple, ib_tuple_list, ib_tuple_dict, ib_list_NoneType, ib_list_bool, ib_list_int, ib_list_str, ib_list_tuple, ib_list_list, ib_list_dict, ib_dict_NoneType, ib_dict_bool, ib_dict_int, ib_dict_str, ib_dict_tuple, ib_dict_list, ib_dict_dict, true_and, and_true, if_true, if_false, Bool.not_true, Bool.not_false, List.map_cons, List.map_nil, List.length_cons, List.length_nil, List.replicate, List.cons_append, List.nil_append, List.getElem?_cons_succ, List.getElem?_cons_zero, List.set_cons_succ, List.set_cons_zero, ite_true_eq, ite_false_eq, ite_nt_eq, ite_nf_eq, dec_true, dec_not, bxor_f, bxor_t]
  refine ⟨_, rfl, fun a m1 ha s1 f1 => ?_⟩
  simp only [startD, dSeq, dNext, dBreak, dCont, dSet, dIfE, dIfS, dB, dOp, dVar, dC, dCB, dCons, dNil, dUn, dRet, dRetN, dTup, dLst, dLstM, dCall, dDrop, dAsg, dT, Tg.d, Tgs.d, dNotT, dAndT, dOrT, dAndV, dOrV, dNotV, dPar, dFor, dSeqI, dRng1, dRng2, dZip2, dZip3, dEnum, dLC, dLCr, dLCM, finM, gII0, gII, onII, onI, gGcd, gNeg, gAdd, gIt, gIx, gLen, gTupC, gLstC, gLstCM, gAll, gAny, gBls, gSum, gIsi, gAbs, gInt, gStr, gEqB, gIsN, isNon, gRep, dRepM, dSl, dPart, dNoPart, gSl, dRev, dRevM, dM, dM0, gAppend, gPop, dFld, dSetF, dMeth, dMake, dPut, dDict, dPairs, dJoin, dJoined, dJs, dFmt, gIn, exOf, endD, on1, on2, ev_it0, ev_it1, ev_it2, ev_itn1, ev_itn, ev_len_t, ev_len_l, ev_sq_t, ev_sq_l, ev_lst_l, ev_so_t, ev_so_l, ev_so_k, ev_si_t, ev_si_l, ev_si_k, ev_ty_i, ev_ty_b, ev_ty_n, ev_ty_s, ev_ty_t, ev_ty_l, ev_eq_ii, ev_shp_i, ev_shp_b, ev_shp_n, ev_key_i, ev_key_s, kd_NoneType, kd_bool, kd_int, kd_str, kd_tuple, kd_list, kd_dict, ib_NoneType_NoneType, ib_NoneType_bool, ib_NoneType_int, ib_NoneType_str, ib_NoneType_tuple, ib_NoneType_list, ib_NoneType_dict, ib_bool_NoneType, ib_bool_bool, ib_bool_int, ib_bool_str, ib_bool_tuple, ib_bool_list, ib_bool_dict, ib_int_NoneType, ib_int_bool, ib_int_int, ib_int_str, ib_int_tuple, ib_int_list, ib_int_dict, ib_str_NoneType, ib_str_bool, ib_str_int, ib_str_str, ib_str_tuple, ib_str_list, ib_str_dict, ib_tuple_NoneType, ib_tuple_bool, ib_tuple_int, ib_tuple_str, ib_tuple_tuple, ib_tuple_list, ib_tuple_dict, ib_list_NoneType, ib_list_bool, ib_list_int, ib_list_str, ib_list_tuple, ib_list_list, ib_list_dict, ib_dict_NoneType, ib_dict_bool, ib_dict_int, ib_dict_str, ib_dict_tuple, ib_dict_list, ib_dict_dict, true_and, and_true, if_true, if_false, Bool.not_true, Bool.not_false, List.map_cons, List.map_nil, List.length_cons, List.length_nil, List.replicate, List.cons_append, List.nil_append, List.getElem?_cons_succ, List.getElem?_cons_zero, List.set_cons_succ, List.set_cons_zero, ite_true_eq, ite_false_eq, ite_nt_eq, ite_nf_eq, dec_true, dec_not, bxor_f, bxor_t]
  refine ⟨a, _, 0, x, r, [], rfl, s1, hl, by simp, hx, hr, fun m2 s2 f2 => ?_⟩
  refine ⟨a, _, encR (x :: r), rfl, ?_, hl, m, _, shed_new (c := c) ha (Fr.trans f1 f2), q⟩
  rw [Nat.zero_add] at s2; exact s2
/-! ### written -/
theorem ofs_tl (s : String) : (Str.ofString s).cps.toList = s.toList.map Char.toNat := by
  show (cpsOfBytes 0 0 s.toByteArray.data.toList).toArray.toList = _
  rw [List.toList_toArray, cpsOfBytes_string]
theorem str_int (i : Int) : (Str.ofString (toString i)) = tx (intL i) := by
  unfold intL
  split
  · rename_i h
    have e : toString i = "-" ++ toString ((i.natAbs : Nat) : Int) := by
      cases i with
      | ofNat n => exact absurd h (by simp)
      | negSucc n => rfl
    apply TL.ext_tl
    rw [e]
    show (Str.ofString _).cps.toList = 45 :: TL.numL i.natAbs
    rw [ofs_tl, String.toList_append, List.map_append, ← ofs_tl (toString ((i.natAbs : Nat) : Int))]
    show [45] ++ (Str.ofString (toString ((i.natAbs : Nat) : Int))).cps.toList = _
    rw [show (Str.ofString (toString ((i.natAbs : Nat) : Int))).cps.toList = TL.numL i.natAbs from TL.tl_num _]
    rfl
  · have e : i = ((i.natAbs : Nat) : Int) := by omega
    conv => lhs; rw [e]
    exact TL.ext_tl (TL.tl_num _)
def Small (q : Rat) : Prop := q.num.natAbs < 10 ^ 190 ∧ q.den < 10 ^ 190
theorem Small.fit {q : Rat} (h : Small q) : Fit q := ⟨Nat.le_trans (TL.numL_len (k := 190) (by decide) h.1) (by decide), Nat.le_trans (TL.numL_len (k := 190) (by decide) h.2) (by decide)⟩
theorem log_of {n : Nat} (h : n < 10 ^ 190) : n.log2 < 1920 := by
  refine lg_lt (Nat.lt_of_lt_of_le h ?_) (by decide)
  decide +kernel
def S_fraction_text : DS := fun ds m Q X => ∃ x : Rat, ds = [enc x] ∧ Small x ∧ Q (.str (tx (fracL x))) m
def T_fraction_text : DSt := (dRet (dIfE (dB (dOp gEq (dOp gIt (dVar 0) (dC (.int 1))) (dC (.int 1)))) (dCB gStr (dCons (dOp gIt (dVar 0) (dC (.int 0))) dNil)) (dJoined [(dFmt (dOp gIt (dVar 0) (dC (.int 0)))), (dC (.str ("/" : PySem.Str))), (dFmt (dOp gIt (dVar 0) (dC (.int 1))))])))
theorem H_fraction_text (ds : List D) (m : MM) (Q : D → MM → Prop) (Px : XC) (h : S_fraction_text ds m Q Px) : ds.length = 1 ∧ T_fraction_text (endD Q Px) (startD ["x"] ds) m := by
  obtain ⟨x, rfl, hx, q⟩ := h
  refine ⟨rfl, ?_⟩
  have l1 : x.num.natAbs.log2 < 1920 := log_of hx.1
  have l2 : ((x.den : Nat) : Int).natAbs.log2 < 1920 := by simpa using log_of hx.2
  have f := hx.fit
  simp only [T_fraction_text, enc, startD, dSeq, dNext, dBreak, dCont, dSet, dIfE, dIfS, dB, dOp, dVar, dC, dCB, dCons, dNil, dUn, dRet, dRetN, dTup, dLst, dLstM, dCall, dDrop, dAsg, dT, Tg.d, Tgs.d, dNotT, dAndT, dOrT, dAndV, dOrV, dNotV, dPar, dFor, dSeqI, dRng1, dRng2, dZip2, dZip3, dEnum, dLC, dLCr, dLCM, finM, gII0, gII, onII, onI, gGcd, gNeg, gAdd, gIt, gIx, gLen, gTupC, gLstC, gLstCM, gAll, gAny, gBls, gSum, gIsi, gAbs, gInt, gStr, gEqB, gIsN, isNon, gRep, dRepM, dSl, dPart, dNoPart, gSl, dRev, dRevM, dM, dM0, gAppend, gPop, dFld, dSetF, dMeth, dMake, dPut, dDict, dPairs, dJoin, dJoined, dJs, dFmt, gIn, exOf, endD, on1, on2, ev_it0, ev_it1, ev_it2, ev_itn1, ev_itn, ev_len_t, ev_len_l, ev_sq_t, ev_sq_l, ev_lst_l, ev_so_t, ev_so_l, ev_so_k, ev_si_t, ev_si_l, ev_si_k, ev_ty_i, ev_ty_b, ev_ty_n, ev_ty_s, ev_ty_t, ev_ty_l, ev_eq_ii, ev_shp_i, ev_shp_b, ev_shp_n, ev_key_i, ev_key_s, kd_NoneType, kd_bool, kd_int, kd_str, kd_tuple, kd_list, kd_dict, ib_NoneType_NoneType, ib_NoneType_bool, ib_NoneType_int, ib_NoneType_str, ib_NoneType_tuple, ib_NoneType_list, ib_NoneType_dict, ib_bool_NoneType, ib_bool_bool, ib_bool_int, ib_bool_str, ib_bool_tuple, ib_bool_list, ib_bool_dict, ib_int_NoneType, ib_int_bool, ib_int_int, ib_int_str, ib_int_tuple, ib_int_list, ib_int_dict, ib_str_NoneType, ib_str_bool, ib_str_int, ib_str_str, ib_str_tuple, ib_str_list, ib_str_dict, ib_tuple_NoneType, ib_tuple_bool, ib_tuple_int, ib_tuple_str, ib_tuple_tuple, ib_tuple_list, ib_tuple_dict, ib_list_NoneType, ib_list_bool, ib_list_int, ib_list_str, ib_list_tuple, ib_list_list, ib_list_dict, ib_dict_NoneType, ib_dict_bool, ib_dict_int, ib_dict_str, ib_dict_tuple, ib_dict_list, ib_dict_dict, true_and, and_true, if_true, if_false, Bool.not_true, Bool.not_false, List.map_cons, List.map_nil, List.length_cons, List.length_nil, List.replicate, List.cons_append, List.nil_append, List.getElem?_cons_succ, List.getElem?_cons_zero, List.set_cons_succ, List.set_cons_zero, ite_true_eq, ite_false_eq, ite_nt_eq, ite_nf_eq, dec_true, dec_not, bxor_f, bxor_t]
  by_cases h1 : ((x.den : Nat) : Int) = 1
  · rw [if_pos h1]
    refine ⟨l1, m, _, .refl, ?_⟩
    unfold fracL lowL at q
    rw [if_pos (by omega), List.append_nil] at q
    have e := str_int x.num
    rw [← e] at q
    exact q
  · rw [if_neg h1]
    have e0 : Str.empty = tx [] := rfl
    have e1 : ((toString x.num : String) : Str) = tx (intL x.num) := str_int x.num
    have e2 : ((toString ((x.den : Nat) : Int) : String) : Str) = tx (TL.numL x.den) := TL.ext_tl (TL.tl_num _)
    unfold fracL lowL at q
    rw [if_neg (by omega)] at q
    have hl := fracL_len f
    unfold fracL lowL at hl
    rw [if_neg (show ¬ x.den = 1 by omega)] at hl
    simp only [List.length_append, List.length_cons] at hl
    refine ⟨l1, ?_, ?_, l2, ?_, m, _, .refl, ?_⟩
    · rw [e0, e1, tx_app, tx_len]
      exact big_of (by simp; omega)
    · rw [e0, e1, sSl, tx_app, tx_app, tx_len]
      exact big_of (by simp; omega)
    · rw [e0, e1, e2, sSl, tx_app, tx_app, tx_app, tx_len]
      exact big_of (by simp; omega)
    · rw [e0, e1, e2, sSl, tx_app, tx_app, tx_app]
      rw [show [] ++ intL x.num ++ [47] ++ TL.numL x.den = intL x.num ++ 47 :: TL.numL x.den by simp]
      exact q
theorem tx_join (s : List Nat) (ys : List (List Nat)) : Txt.join (tx s) (ys.map tx) = tx (TL.joinL s ys) := by
  rw [TL.join_eq]
  apply TL.ext_tl
  rw [TL.tl_join]
  show TL.joinL s ((ys.map tx).map TL.tl) = _
  rw [List.map_map]
  show TL.joinL s (ys.map (fun l => (tx l).cps.toList)) = _
  simp only [tx_tl, List.map_id']
theorem join_more (x : Rat) : ∀ r : List Rat, TL.joinL [32] ((x :: r).map fracL) = fracL x ++ moreL r := by
  intro r
  induction r generalizing x with
  | nil => simp [TL.joinL, moreL]
  | cons y r ih =>
    have := ih y
    simp only [List.map_cons] at this ⊢
    unfold TL.joinL moreL
    rw [this]; simp
def S_row_text : DS := fun ds m Q X => ∃ (x : Rat) (r : List Rat), ds = [encR (x :: r)] ∧ (∀ y ∈ x :: r, Small y) ∧ r.length ≤ 1000 ∧ Q (.str (tx (rowL (x :: r)))) m
def T_row_text : DSt := (dRet (dOp gAdd (dOp gAdd (dC (.str ("(" : PySem.Str))) (dJoin (dC (.str (" " : PySem.Str))) (dLC (dSeqI (dVar 0)) (.nm 1) dYes (dCall S_fraction_text (dCons (dVar 1) dNil)) [1]))) (dC (.str (")" : PySem.Str)))))
theorem sum_le {ls : List Nat} {b : Nat} (h : ∀ x ∈ ls, x ≤ b) : ls.sum ≤ b * ls.length := by
  induction ls with
  | nil => simp
  | cons x r ih =>
    have h1 := h x List.mem_cons_self
    have h2 := ih fun y hy => h y (List.mem_cons_of_mem _ hy)
    rw [List.sum_cons, List.length_cons, Nat.mul_add, Nat.mul_one]; omega
def ftx : D → D
  | .tup [.int a, .int b] => .str (tx (fracL (Rat.divInt a b)))
  | _ => .non
theorem ftx_enc (y : Rat) : ftx (enc y) = .str (tx (fracL y)) := by
  show D.str (tx (fracL (Rat.divInt y.num y.den))) = _
  rw [Rat.num_divInt_den]
theorem H_row_text (ds : List D) (m : MM) (Q : D → MM → Prop) (Px : XC) (h : S_row_text ds m Q Px) : ds.length = 1 ∧ T_row_text (endD Q Px) (startD ["row", "one"] ds) m := by
  obtain ⟨x, r, rfl, hx, hr, q⟩ := h
  refine ⟨rfl, ?_⟩
  have hfit : ∀ y ∈ x :: r, Fit y := fun y hy => (hx y hy).fit
  have hl := (rowL_lg hfit hr).1
  have hj : Txt.join (" " : Str) (((x :: r).map fracL).map tx) = tx (fracL x ++ moreL r) := by
    rw [sSp, tx_join, join_more]
  have hrow : rowL (x :: r) = 40 :: ((fracL x ++ moreL r) ++ [41]) := by simp [rowL]
  have hlen : (x :: r).length ≤ 1001 := by simp; omega
  rw [hrow] at q hl
  generalize fracL x ++ moreL r = J at *
  generalize x :: r = L at *
  unfold encR
  simp only [T_row_text, startD, dSeq, dNext, dBreak, dCont, dSet, dIfE, dIfS, dB, dOp, dVar, dC, dCB, dCons, dNil, dUn, dRet, dRetN, dTup, dLst, dLstM, dCall, dDrop, dAsg, dT, Tg.d, Tgs.d, dNotT, dAndT, dOrT, dAndV, dOrV, dNotV, dPar, dFor, dSeqI, dRng1, dRng2, dZip2, dZip3, dEnum, dLC, dLCr, dLCM, finM, gII0, gII, onII, onI, gGcd, gNeg, gAdd, gIt, gIx, gLen, gTupC, gLstC, gLstCM, gAll, gAny, gBls, gSum, gIsi, gAbs, gInt, gStr, gEqB, gIsN, isNon, gRep, dRepM, dSl, dPart, dNoPart, gSl, dRev, dRevM, dM, dM0, gAppend, gPop, dFld, dSetF, dMeth, dMake, dPut, dDict, dPairs, dJoin, dJoined, dJs, dFmt, gIn, exOf, endD, on1, on2, ev_it0, ev_it1, ev_it2, ev_itn1, ev_itn, ev_len_t, ev_len_l, ev_sq_t, ev_sq_l, ev_lst_l, ev_so_t, ev_so_l, ev_so_k, ev_si_t, ev_si_l, ev_si_k, ev_ty_i, ev_ty_b, ev_ty_n, ev_ty_s, ev_ty_t, ev_ty_l, ev_eq_ii, ev_shp_i, ev_shp_b, ev_shp_n, ev_key_i, ev_key_s, kd_NoneType, kd_bool, kd_int, kd_str, kd_tuple, kd_list, kd_dict, ib_NoneType_NoneType, ib_NoneType_bool, ib_NoneType_int, ib_NoneType_str, ib_NoneType_tuple, ib_NoneType_list, ib_NoneType_dict, ib_bool_NoneType, ib_bool_bool, ib_bool_int, ib_bool_str, ib_bool_tuple, ib_bool_list, ib_bool_dict, ib_int_NoneType, ib_int_bool, ib_int_int, ib_int_str, ib_int_tuple, ib_int_list, ib_int_dict, ib_str_NoneType, ib_str_bool, ib_str_int, ib_str_str, ib_str_tuple, ib_str_list, ib_str_dict, ib_tuple_NoneType, ib_tuple_bool, ib_tuple_int, ib_tuple_str, ib_tuple_tuple, ib_tuple_list, ib_tuple_dict, ib_list_NoneType, ib_list_bool, ib_list_int, ib_list_str, ib_list_tuple, ib_list_list, ib_list_dict, ib_dict_NoneType, ib_dict_bool, ib_dict_int, ib_dict_str, ib_dict_tuple, ib_dict_list, ib_dict_dict, true_and, and_true, if_true, if_false, Bool.not_true, Bool.not_false, List.map_cons, List.map_nil, List.length_cons, List.length_nil, List.replicate, List.cons_append, List.nil_append, List.getElem?_cons_succ, List.getElem?_cons_zero, List.set_cons_succ, List.set_cons_zero, ite_true_eq, ite_false_eq, ite_nt_eq, ite_nf_eq, dec_true, dec_not, bxor_f, bxor_t]
  intro p hp
  have hz : (L.map enc).length ≤ sizeLine := by rw [List.length_map]; exact big_of (by omega)
  have e : (L.map enc).map ftx = ((L.map fracL).map tx).map D.str := by
    rw [List.map_map, List.map_map, List.map_map]
    apply List.map_congr_left
    intro y _
    exact ftx_enc y
  refine lc_pure ftx (L.map enc) hp (fun _ => trivial) (fun d hd acc Q1 q1 => ?_) hz ?_
  · obtain ⟨y, h1, rfl⟩ := List.mem_map.mp hd
    refine ⟨_, rfl, ?_⟩
    simp only [wipeD, startD, dSeq, dNext, dBreak, dCont, dSet, dIfE, dIfS, dB, dOp, dVar, dC, dCB, dCons, dNil, dUn, dRet, dRetN, dTup, dLst, dLstM, dCall, dDrop, dAsg, dT, Tg.d, Tgs.d, dNotT, dAndT, dOrT, dAndV, dOrV, dNotV, dPar, dFor, dSeqI, dRng1, dRng2, dZip2, dZip3, dEnum, dLC, dLCr, dLCM, finM, gII0, gII, onII, onI, gGcd, gNeg, gAdd, gIt, gIx, gLen, gTupC, gLstC, gLstCM, gAll, gAny, gBls, gSum, gIsi, gAbs, gInt, gStr, gEqB, gIsN, isNon, gRep, dRepM, dSl, dPart, dNoPart, gSl, dRev, dRevM, dM, dM0, gAppend, gPop, dFld, dSetF, dMeth, dMake, dPut, dDict, dPairs, dJoin, dJoined, dJs, dFmt, gIn, exOf, endD, on1, on2, ev_it0, ev_it1, ev_it2, ev_itn1, ev_itn, ev_len_t, ev_len_l, ev_sq_t, ev_sq_l, ev_lst_l, ev_so_t, ev_so_l, ev_so_k, ev_si_t, ev_si_l, ev_si_k, ev_ty_i, ev_ty_b, ev_ty_n, ev_ty_s, ev_ty_t, ev_ty_l, ev_eq_ii, ev_shp_i, ev_shp_b, ev_shp_n, ev_key_i, ev_key_s, kd_NoneType, kd_bool, kd_int, kd_str, kd_tuple, kd_list, kd_dict, ib_NoneType_NoneType, ib_NoneType_bool, ib_NoneType_int, ib_NoneType_str, ib_NoneType_tuple, ib_NoneType_list, ib_NoneType_dict, ib_bool_NoneType, ib_bool_bool, ib_bool_int, ib_bool_str, ib_bool_tuple, ib_bool_list, ib_bool_dict, ib_int_NoneType, ib_int_bool, ib_int_int, ib_int_str, ib_int_tuple, ib_int_list, ib_int_dict, ib_str_NoneType, ib_str_bool, ib_str_int, ib_str_str, ib_str_tuple, ib_str_list, ib_str_dict, ib_tuple_NoneType, ib_tuple_bool, ib_tuple_int, ib_tuple_str, ib_tuple_tuple, ib_tuple_list, ib_tuple_dict, ib_list_NoneType, ib_list_bool, ib_list_int, ib_list_str, ib_list_tuple, ib_list_list, ib_list_dict, ib_dict_NoneType, ib_dict_bool, ib_dict_int, ib_dict_str, ib_dict_tuple, ib_dict_list, ib_dict_dict, true_and, and_true, if_true, if_false, Bool.not_true, Bool.not_false, List.map_cons, List.map_nil, List.length_cons, List.length_nil, List.replicate, List.cons_append, List.nil_append, List.getElem?_cons_succ, List.getElem?_cons_zero, List.set_cons_succ, List.set_cons_zero, ite_true_eq, ite_false_eq, ite_nt_eq, ite_nf_eq, dec_true, dec_not, bxor_f, bxor_t]
    refine ⟨y, rfl, hx y h1, ?_⟩
    rw [ftx_enc] at q1
    exact q1
  · rw [e]
    have e2 : (sqOf m (.lst (((L.map fracL).map tx).map D.str))).bind strsD = some ((L.map fracL).map tx) := strsD_map _
    rw [e2]
    simp only [hj, startD, dSeq, dNext, dBreak, dCont, dSet, dIfE, dIfS, dB, dOp, dVar, dC, dCB, dCons, dNil, dUn, dRet, dRetN, dTup, dLst, dLstM, dCall, dDrop, dAsg, dT, Tg.d, Tgs.d, dNotT, dAndT, dOrT, dAndV, dOrV, dNotV, dPar, dFor, dSeqI, dRng1, dRng2, dZip2, dZip3, dEnum, dLC, dLCr, dLCM, finM, gII0, gII, onII, onI, gGcd, gNeg, gAdd, gIt, gIx, gLen, gTupC, gLstC, gLstCM, gAll, gAny, gBls, gSum, gIsi, gAbs, gInt, gStr, gEqB, gIsN, isNon, gRep, dRepM, dSl, dPart, dNoPart, gSl, dRev, dRevM, dM, dM0, gAppend, gPop, dFld, dSetF, dMeth, dMake, dPut, dDict, dPairs, dJoin, dJoined, dJs, dFmt, gIn, exOf, endD, on1, on2, ev_it0, ev_it1, ev_it2, ev_itn1, ev_itn, ev_len_t, ev_len_l, ev_sq_t, ev_sq_l, ev_lst_l, ev_so_t, ev_so_l, ev_so_k, ev_si_t, ev_si_l, ev_si_k, ev_ty_i, ev_ty_b, ev_ty_n, ev_ty_s, ev_ty_t, ev_ty_l, ev_eq_ii, ev_shp_i, ev_shp_b, ev_shp_n, ev_key_i, ev_key_s, kd_NoneType, kd_bool, kd_int, kd_str, kd_tuple, kd_list, kd_dict, ib_NoneType_NoneType, ib_NoneType_bool, ib_NoneType_int, ib_NoneType_str, ib_NoneType_tuple, ib_NoneType_list, ib_NoneType_dict, ib_bool_NoneType, ib_bool_bool, ib_bool_int, ib_bool_str, ib_bool_tuple, ib_bool_list, ib_bool_dict, ib_int_NoneType, ib_int_bool, ib_int_int, ib_int_str, ib_int_tuple, ib_int_list, ib_int_dict, ib_str_NoneType, ib_str_bool, ib_str_int, ib_str_str, ib_str_tuple, ib_str_list, ib_str_dict, ib_tuple_NoneType, ib_tuple_bool, ib_tuple_int, ib_tuple_str, ib_tuple_tuple, ib_tuple_list, ib_tuple_dict, ib_list_NoneType, ib_list_bool, ib_list_int, ib_list_str, ib_list_tuple, ib_list_list, ib_list_dict, ib_dict_NoneType, ib_dict_bool, ib_dict_int, ib_dict_str, ib_dict_tuple, ib_dict_list, ib_dict_dict, true_and, and_true, if_true, if_false, Bool.not_true, Bool.not_false, List.map_cons, List.map_nil, List.length_cons, List.length_nil, List.replicate, List.cons_append, List.nil_append, List.getElem?_cons_succ, List.getElem?_cons_zero, List.set_cons_succ, List.set_cons_zero, ite_true_eq, ite_false_eq, ite_nt_eq, ite_nf_eq, dec_true, dec_not, bxor_f, bxor_t]
    simp only [List.length_append, List.length_cons, List.length_nil] at hl
    refine ⟨?_, ?_, ?_, m, _, .refl, ?_⟩
    · have := sum_le (ls := ((L.map fracL).map tx).map fun z : Str => z.length) (b := 402) fun z hz => by
        obtain ⟨w, hw, rfl⟩ := List.mem_map.mp hz
        obtain ⟨v, hv, rfl⟩ := List.mem_map.mp hw
        obtain ⟨y, hy, rfl⟩ := List.mem_map.mp hv
        rw [tx_len]; exact fracL_len (hfit y hy)
      refine Nat.le_trans (Nat.add_le_add_right this _) ?_
      rw [sSp, tx_len]
      simp only [List.length_map, List.length_cons, List.length_nil]
      omega
    · rw [sOp, tx_len, tx_len]
      exact big_of (by simp; omega)
    · rw [sOp, sCl, tx_app, tx_len, tx_len]
      exact big_of (by simp; omega)
    · rw [sOp, sCl, tx_app, tx_app]
      exact q
end Y
/-! M6: what the laws draw. -/
namespace Y
open PySem PySem.Spec PyProof.Rows L2
def LIM : Nat := 2 ^ 1000
def srcO (cs : Addr) (l x t : Int) : MO := .dK [(.inr "cells", .adr cs), (.inr "left", .int l), (.inr "mixed", .int x), (.inr "turn", .int t)]
/-- the source: at a, its cells at cs; f more turns are surely left -/
def Src (m : MM) (a cs : Addr) (f : Nat) : Prop := ∃ (cells : List Int) (l x : Int) (t : Nat), m a = some (srcO cs l x t) ∧ m cs = some (.lst (cells.map .int)) ∧ a ≠ cs ∧ 0 ≤ x ∧ x < 2147483648 ∧ t + f ≤ LIM ∧ cells.length ≤ 1000
def Fr2 (a cs : Addr) (m m' : MM) : Prop := ∀ b, b ≠ a → b ≠ cs → m' b = m b
theorem Fr2.refl {a cs : Addr} {m : MM} : Fr2 a cs m m := fun _ _ _ => rfl
theorem Fr2.trans {a cs : Addr} {m m1 m2 : MM} (h : Fr2 a cs m m1) (k : Fr2 a cs m1 m2) : Fr2 a cs m m2 := fun b h1 h2 => (k b h1 h2).trans (h b h1 h2)
theorem Src.le {m : MM} {a cs : Addr} {f g : Nat} (h : Src m a cs f) (k : g ≤ f) : Src m a cs g := by
  obtain ⟨cells, l, x, t, h1, h2, h3, h4, h5, h6, h7⟩ := h
  exact ⟨cells, l, x, t, h1, h2, h3, h4, h5, by omega, h7⟩
theorem Src.of {m m' : MM} {a cs : Addr} {f : Nat} (h : Src m a cs f) (ea : m' a = m a) (ec : m' cs = m cs) : Src m' a cs f := by
  obtain ⟨cells, l, x, t, h1, h2, h3⟩ := h
  exact ⟨cells, l, x, t, by rw [ea]; exact h1, by rw [ec]; exact h2, h3⟩
theorem Src.some_a {m : MM} {a cs : Addr} {f : Nat} (h : Src m a cs f) : m a ≠ none ∧ m cs ≠ none := by
  obtain ⟨cells, l, x, t, h1, h2, h3⟩ := h
  exact ⟨by rw [h1]; simp, by rw [h2]; simp⟩
theorem Src.mset {m : MM} {a cs p : Addr} {f : Nat} {o : MO} (h : Src m a cs f) (hp : m p = none) : Src (mset m p o) a cs f := by
  obtain ⟨h1, h2⟩ := h.some_a
  exact h.of (mset_ne fun e => h1 (by rw [e]; exact hp)) (mset_ne fun e => h2 (by rw [e]; exact hp))
section
variable {m : MM} {a cs : Addr} {l x t : Int}
theorem it_cells (h : m a = some (srcO cs l x t)) : itD m (.adr a) (.str ("cells" : Str)) = some (.adr cs) := by
  simp only [itD, h, srcO]; rfl
theorem it_left (h : m a = some (srcO cs l x t)) : itD m (.adr a) (.str ("left" : Str)) = some (.int l) := by
  simp only [itD, h, srcO]; rfl
theorem it_mixed (h : m a = some (srcO cs l x t)) : itD m (.adr a) (.str ("mixed" : Str)) = some (.int x) := by
  simp only [itD, h, srcO]; rfl
theorem it_turn (h : m a = some (srcO cs l x t)) : itD m (.adr a) (.str ("turn" : Str)) = some (.int t) := by
  simp only [itD, h, srcO]; rfl
theorem four_lt : 4 < sizeLine := by rw [PySem.sizeLine_eq]; decide
theorem set_left (h : m a = some (srcO cs l x t)) (v : Int) : setD m (.adr a) (.str ("left" : Str)) (.int v) = some (a, srcO cs v x t) := by
  simp only [setD, h, srcO, keyD]
  exact (if_pos four_lt).trans rfl
theorem set_turn (h : m a = some (srcO cs l x t)) (v : Int) : setD m (.adr a) (.str ("turn" : Str)) (.int v) = some (a, srcO cs l x v) := by
  simp only [setD, h, srcO, keyD]
  exact (if_pos four_lt).trans rfl
end
/-- a drawn number -/
def Pk (v most : Int) : Prop := 0 ≤ v ∧ (v < most ∨ v = 0)
def S__law_pick : DS := fun ds m Q X => ∃ (a cs : Addr) (most : Int) (f : Nat), ds = [.adr a, .int most] ∧ Src m a cs (f + 1) ∧ most < 2 ^ 8000 ∧ ∀ v m', Pk v most → Src m' a cs f → Fr2 a cs m m' → Q (.int v) m'
def T__law_pick : DSt := (dSeq (dIfS (dB (dOp gLt (dVar 1) (dC (.int 2)))) (dRet (dC (.int 0))) dNext)
  (dSeq (dSet 2 (dOp gIt (dVar 0) (dC (.str ("cells" : PySem.Str)))))
  (dSeq (dWhile (dAndT (dB (dOp gLt (dOp gIt (dVar 0) (dC (.str ("left" : PySem.Str)))) (dC (.int 2)))) (dB (dOp gGt (dCB gLen (dCons (dVar 2) dNil)) (dC (.int 0)))))
  (dPut (dVar 0) (dC (.str ("left" : PySem.Str))) (dM0 gPop (dVar 2))))
  (dSeq (dSet 3 (dOp gIt (dVar 0) (dC (.str ("left" : PySem.Str)))))
  (dSeq (dIfS (dB (dOp gGt (dVar 3) (dC (.int 1)))) (dSeq (dPut (dVar 0) (dC (.str ("left" : PySem.Str))) (dOp gFdv (dVar 3) (dVar 1)))
  (dRet (dOp gMod (dCB gInt (dCons (dVar 3) dNil)) (dVar 1)))) dNext)
  (dSeq (dPut (dVar 0) (dC (.str ("turn" : PySem.Str))) (dOp gAdd (dOp gIt (dVar 0) (dC (.str ("turn" : PySem.Str)))) (dC (.int 1))))
  (dSeq (dSet 4 (dOp gIt (dVar 0) (dC (.str ("turn" : PySem.Str)))))
  (dSeq (dSet 5 (dOp gMod (dCB gInt (dCons (dOp gAdd (dOp gIt (dVar 0) (dC (.str ("mixed" : PySem.Str)))) (dOp gMul (dVar 4) (dC (.int 104729)))) dNil)) (dC (.int 998244353))))
  (dSeq (dSet 5 (dOp gMod (dCB gInt (dCons (dOp gAdd (dOp gMul (dVar 5) (dVar 5)) (dOp gMul (dVar 4) (dC (.int 17)))) dNil)) (dC (.int 2147483647))))
  (dRet (dOp gMod (dCB gInt (dCons (dOp gFdv (dVar 5) (dC (.int 16))) dNil)) (dVar 1))))))))))))
theorem fmod_in {i j : Int} (h : 0 < j) : 0 ≤ i.fmod j ∧ i.fmod j < j := by
  rw [Int.fmod_eq_emod_of_nonneg i (by omega)]
  exact ⟨Int.emod_nonneg i (by omega), Int.emod_lt_of_pos i h⟩
theorem cm_small {i j : Int} {a b : Nat} (h1 : i.natAbs.log2 ≤ a) (h2 : j.natAbs.log2 ≤ b) (h : a + b ≤ 10000) : CM i j := by unfold CM; omega
theorem cv_small {i j : Int} (h1 : j ≠ 0) (h2 : j.natAbs < 2 ^ 8999) : CV i j := ⟨h1, .inl (Nat.lt_of_le_of_lt (lg_le h2) (by decide))⟩
theorem lg31 {i : Int} (h0 : 0 ≤ i) (h : i < 2147483648) : i.natAbs.log2 ≤ 31 := lg_le (show i.natAbs < 2 ^ 31 by omega)
theorem last_int {cells : List Int} (h : cells ≠ []) : (cells.map D.int)[(cells.map D.int).length - 1]? = some (.int (cells.getLast h)) := by
  rw [List.length_map, List.getElem?_map, ← List.getLast?_eq_getElem?, List.getLast?_eq_some_getLast h]; rfl
theorem H__law_pick (ds : List D) (m : MM) (Q : D → MM → Prop) (Px : XC) (h : S__law_pick ds m Q Px) : ds.length = 2 ∧ T__law_pick (endD Q Px) (startD ["_law_source", "_law_most", "_law_cells", "_law_others", "_law_lap", "_law_stirred"] ds) m := by
  obtain ⟨a, cs, most, f, rfl, hs, hm, q⟩ := h
  refine ⟨rfl, ?_⟩
  simp only [T__law_pick, startD, dSeq, dNext, dBreak, dCont, dSet, dIfE, dIfS, dB, dOp, dVar, dC, dCB, dCons, dNil, dUn, dRet, dRetN, dTup, dLst, dLstM, dCall, dDrop, dAsg, dT, Tg.d, Tgs.d, dNotT, dAndT, dOrT, dAndV, dOrV, dNotV, dPar, dFor, dSeqI, dRng1, dRng2, dZip2, dZip3, dEnum, dLC, dLCr, dLCM, finM, gII0, gII, onII, onI, gGcd, gNeg, gAdd, gIt, gIx, gLen, gTupC, gLstC, gLstCM, gAll, gAny, gBls, gSum, gIsi, gAbs, gInt, gStr, gEqB, gIsN, isNon, gRep, dRepM, dSl, dPart, dNoPart, gSl, dRev, dRevM, dM, dM0, gAppend, gPop, dFld, dSetF, dMeth, dMake, dPut, dDict, dPairs, dJoin, dJoined, dJs, dFmt, gIn, exOf, endD, on1, on2, ev_it0, ev_it1, ev_it2, ev_itn1, ev_itn, ev_len_t, ev_len_l, ev_sq_t, ev_sq_l, ev_lst_l, ev_so_t, ev_so_l, ev_so_k, ev_si_t, ev_si_l, ev_si_k, ev_ty_i, ev_ty_b, ev_ty_n, ev_ty_s, ev_ty_t, ev_ty_l, ev_eq_ii, ev_shp_i, ev_shp_b, ev_shp_n, ev_key_i, ev_key_s, kd_NoneType, kd_bool, kd_int, kd_str, kd_tuple, kd_list, kd_dict, ib_NoneType_NoneType, ib_NoneType_bool, ib_NoneType_int, ib_NoneType_str, ib_NoneType_tuple, ib_NoneType_list, ib_NoneType_dict, ib_bool_NoneType, ib_bool_bool, ib_bool_int, ib_bool_str, ib_bool_tuple, ib_bool_list, ib_bool_dict, ib_int_NoneType, ib_int_bool, ib_int_int, ib_int_str, ib_int_tuple, ib_int_list, ib_int_dict, ib_str_NoneType, ib_str_bool, ib_str_int, ib_str_str, ib_str_tuple, ib_str_list, ib_str_dict, ib_tuple_NoneType, ib_tuple_bool, ib_tuple_int, ib_tuple_str, ib_tuple_tuple, ib_tuple_list, ib_tuple_dict, ib_list_NoneType, ib_list_bool, ib_list_int, ib_list_str, ib_list_tuple, ib_list_list, ib_list_dict, ib_dict_NoneType, ib_dict_bool, ib_dict_int, ib_dict_str, ib_dict_tuple, ib_dict_list, ib_dict_dict, true_and, and_true, if_true, if_false, Bool.not_true, Bool.not_false, List.map_cons, List.map_nil, List.length_cons, List.length_nil, List.replicate, List.cons_append, List.nil_append, List.getElem?_cons_succ, List.getElem?_cons_zero, List.set_cons_succ, List.set_cons_zero, ite_true_eq, ite_false_eq, ite_nt_eq, ite_nf_eq, dec_true, dec_not, bxor_f, bxor_t]
  by_cases h2 : most < 2
  · rw [if_pos h2]
    exact ⟨m, _, .refl, q 0 m ⟨by omega, .inr rfl⟩ (hs.le (by omega)) Fr2.refl⟩
  rw [if_neg h2]
  obtain ⟨cells, l, x, t, g1, g2, g3, g4, g5, g6, g7⟩ := hs
  simp only [it_cells g1, startD, dSeq, dNext, dBreak, dCont, dSet, dIfE, dIfS, dB, dOp, dVar, dC, dCB, dCons, dNil, dUn, dRet, dRetN, dTup, dLst, dLstM, dCall, dDrop, dAsg, dT, Tg.d, Tgs.d, dNotT, dAndT, dOrT, dAndV, dOrV, dNotV, dPar, dFor, dSeqI, dRng1, dRng2, dZip2, dZip3, dEnum, dLC, dLCr, dLCM, finM, gII0, gII, onII, onI, gGcd, gNeg, gAdd, gIt, gIx, gLen, gTupC, gLstC, gLstCM, gAll, gAny, gBls, gSum, gIsi, gAbs, gInt, gStr, gEqB, gIsN, isNon, gRep, dRepM, dSl, dPart, dNoPart, gSl, dRev, dRevM, dM, dM0, gAppend, gPop, dFld, dSetF, dMeth, dMake, dPut, dDict, dPairs, dJoin, dJoined, dJs, dFmt, gIn, exOf, endD, on1, on2, ev_it0, ev_it1, ev_it2, ev_itn1, ev_itn, ev_len_t, ev_len_l, ev_sq_t, ev_sq_l, ev_lst_l, ev_so_t, ev_so_l, ev_so_k, ev_si_t, ev_si_l, ev_si_k, ev_ty_i, ev_ty_b, ev_ty_n, ev_ty_s, ev_ty_t, ev_ty_l, ev_eq_ii, ev_shp_i, ev_shp_b, ev_shp_n, ev_key_i, ev_key_s, kd_NoneType, kd_bool, kd_int, kd_str, kd_tuple, kd_list, kd_dict, ib_NoneType_NoneType, ib_NoneType_bool, ib_NoneType_int, ib_NoneType_str, ib_NoneType_tuple, ib_NoneType_list, ib_NoneType_dict, ib_bool_NoneType, ib_bool_bool, ib_bool_int, ib_bool_str, ib_bool_tuple, ib_bool_list, ib_bool_dict, ib_int_NoneType, ib_int_bool, ib_int_int, ib_int_str, ib_int_tuple, ib_int_list, ib_int_dict, ib_str_NoneType, ib_str_bool, ib_str_int, ib_str_str, ib_str_tuple, ib_str_list, ib_str_dict, ib_tuple_NoneType, ib_tuple_bool, ib_tuple_int, ib_tuple_str, ib_tuple_tuple, ib_tuple_list, ib_tuple_dict, ib_list_NoneType, ib_list_bool, ib_list_int, ib_list_str, ib_list_tuple, ib_list_list, ib_list_dict, ib_dict_NoneType, ib_dict_bool, ib_dict_int, ib_dict_str, ib_dict_tuple, ib_dict_list, ib_dict_dict, true_and, and_true, if_true, if_false, Bool.not_true, Bool.not_false, List.map_cons, List.map_nil, List.length_cons, List.length_nil, List.replicate, List.cons_append, List.nil_append, List.getElem?_cons_succ, List.getElem?_cons_zero, List.set_cons_succ, List.set_cons_zero, ite_true_eq, ite_false_eq, ite_nt_eq, ite_nf_eq, dec_true, dec_not, bxor_f, bxor_t]
  refine ⟨fun k ρ m' => ∃ (cells : List Int) (l : Int), k = cells.length ∧ ρ = [some (.adr a), some (.int most), some (.adr cs), none, none, none] ∧ m' a = some (srcO cs l x t) ∧ m' cs = some (.lst (cells.map .int)) ∧ cells.length ≤ 1000 ∧ Fr2 a cs m m', ⟨_, cells, l, rfl, rfl, g1, g2, g7, Fr2.refl⟩, ?_⟩
  clear g1 g2 g7 cells l
  rintro k ρ m' ⟨cells, l, rfl, rfl, g1, g2, g7, fr⟩
  simp only [it_left g1, lenD_at g2, List.length_map, startD, dSeq, dNext, dBreak, dCont, dSet, dIfE, dIfS, dB, dOp, dVar, dC, dCB, dCons, dNil, dUn, dRet, dRetN, dTup, dLst, dLstM, dCall, dDrop, dAsg, dT, Tg.d, Tgs.d, dNotT, dAndT, dOrT, dAndV, dOrV, dNotV, dPar, dFor, dSeqI, dRng1, dRng2, dZip2, dZip3, dEnum, dLC, dLCr, dLCM, finM, gII0, gII, onII, onI, gGcd, gNeg, gAdd, gIt, gIx, gLen, gTupC, gLstC, gLstCM, gAll, gAny, gBls, gSum, gIsi, gAbs, gInt, gStr, gEqB, gIsN, isNon, gRep, dRepM, dSl, dPart, dNoPart, gSl, dRev, dRevM, dM, dM0, gAppend, gPop, dFld, dSetF, dMeth, dMake, dPut, dDict, dPairs, dJoin, dJoined, dJs, dFmt, gIn, exOf, endD, on1, on2, ev_it0, ev_it1, ev_it2, ev_itn1, ev_itn, ev_len_t, ev_len_l, ev_sq_t, ev_sq_l, ev_lst_l, ev_so_t, ev_so_l, ev_so_k, ev_si_t, ev_si_l, ev_si_k, ev_ty_i, ev_ty_b, ev_ty_n, ev_ty_s, ev_ty_t, ev_ty_l, ev_eq_ii, ev_shp_i, ev_shp_b, ev_shp_n, ev_key_i, ev_key_s, kd_NoneType, kd_bool, kd_int, kd_str, kd_tuple, kd_list, kd_dict, ib_NoneType_NoneType, ib_NoneType_bool, ib_NoneType_int, ib_NoneType_str, ib_NoneType_tuple, ib_NoneType_list, ib_NoneType_dict, ib_bool_NoneType, ib_bool_bool, ib_bool_int, ib_bool_str, ib_bool_tuple, ib_bool_list, ib_bool_dict, ib_int_NoneType, ib_int_bool, ib_int_int, ib_int_str, ib_int_tuple, ib_int_list, ib_int_dict, ib_str_NoneType, ib_str_bool, ib_str_int, ib_str_str, ib_str_tuple, ib_str_list, ib_str_dict, ib_tuple_NoneType, ib_tuple_bool, ib_tuple_int, ib_tuple_str, ib_tuple_tuple, ib_tuple_list, ib_tuple_dict, ib_list_NoneType, ib_list_bool, ib_list_int, ib_list_str, ib_list_tuple, ib_list_list, ib_list_dict, ib_dict_NoneType, ib_dict_bool, ib_dict_int, ib_dict_str, ib_dict_tuple, ib_dict_list, ib_dict_dict, true_and, and_true, if_true, if_false, Bool.not_true, Bool.not_false, List.map_cons, List.map_nil, List.length_cons, List.length_nil, List.replicate, List.cons_append, List.nil_append, List.getElem?_cons_succ, List.getElem?_cons_zero, List.set_cons_succ, List.set_cons_zero, ite_true_eq, ite_false_eq, ite_nt_eq, ite_nf_eq, dec_true, dec_not, bxor_f, bxor_t]
  by_cases hl : l < 2
  · rw [if_pos hl]
    by_cases hc : 0 < cells.length
    · rw [if_pos (show (0 : Int) < ((cells.length : Nat) : Int) by omega)]
      have hne : cells ≠ [] := List.length_pos_iff.mp hc
      simp only [mlst_at g2, last_int hne, and_iff_right (isL_at g2), startD, dSeq, dNext, dBreak, dCont, dSet, dIfE, dIfS, dB, dOp, dVar, dC, dCB, dCons, dNil, dUn, dRet, dRetN, dTup, dLst, dLstM, dCall, dDrop, dAsg, dT, Tg.d, Tgs.d, dNotT, dAndT, dOrT, dAndV, dOrV, dNotV, dPar, dFor, dSeqI, dRng1, dRng2, dZip2, dZip3, dEnum, dLC, dLCr, dLCM, finM, gII0, gII, onII, onI, gGcd, gNeg, gAdd, gIt, gIx, gLen, gTupC, gLstC, gLstCM, gAll, gAny, gBls, gSum, gIsi, gAbs, gInt, gStr, gEqB, gIsN, isNon, gRep, dRepM, dSl, dPart, dNoPart, gSl, dRev, dRevM, dM, dM0, gAppend, gPop, dFld, dSetF, dMeth, dMake, dPut, dDict, dPairs, dJoin, dJoined, dJs, dFmt, gIn, exOf, endD, on1, on2, ev_it0, ev_it1, ev_it2, ev_itn1, ev_itn, ev_len_t, ev_len_l, ev_sq_t, ev_sq_l, ev_lst_l, ev_so_t, ev_so_l, ev_so_k, ev_si_t, ev_si_l, ev_si_k, ev_ty_i, ev_ty_b, ev_ty_n, ev_ty_s, ev_ty_t, ev_ty_l, ev_eq_ii, ev_shp_i, ev_shp_b, ev_shp_n, ev_key_i, ev_key_s, kd_NoneType, kd_bool, kd_int, kd_str, kd_tuple, kd_list, kd_dict, ib_NoneType_NoneType, ib_NoneType_bool, ib_NoneType_int, ib_NoneType_str, ib_NoneType_tuple, ib_NoneType_list, ib_NoneType_dict, ib_bool_NoneType, ib_bool_bool, ib_bool_int, ib_bool_str, ib_bool_tuple, ib_bool_list, ib_bool_dict, ib_int_NoneType, ib_int_bool, ib_int_int, ib_int_str, ib_int_tuple, ib_int_list, ib_int_dict, ib_str_NoneType, ib_str_bool, ib_str_int, ib_str_str, ib_str_tuple, ib_str_list, ib_str_dict, ib_tuple_NoneType, ib_tuple_bool, ib_tuple_int, ib_tuple_str, ib_tuple_tuple, ib_tuple_list, ib_tuple_dict, ib_list_NoneType, ib_list_bool, ib_list_int, ib_list_str, ib_list_tuple, ib_list_list, ib_list_dict, ib_dict_NoneType, ib_dict_bool, ib_dict_int, ib_dict_str, ib_dict_tuple, ib_dict_list, ib_dict_dict, true_and, and_true, if_true, if_false, Bool.not_true, Bool.not_false, List.map_cons, List.map_nil, List.length_cons, List.length_nil, List.replicate, List.cons_append, List.nil_append, List.getElem?_cons_succ, List.getElem?_cons_zero, List.set_cons_succ, List.set_cons_zero, ite_true_eq, ite_false_eq, ite_nt_eq, ite_nf_eq, dec_true, dec_not, bxor_f, bxor_t]
      have g1' : (mset m' cs (.lst (cells.map D.int).dropLast)) a = some (srcO cs l x t) := by rw [mset_ne g3]; exact g1
      simp only [set_left g1', startD, dSeq, dNext, dBreak, dCont, dSet, dIfE, dIfS, dB, dOp, dVar, dC, dCB, dCons, dNil, dUn, dRet, dRetN, dTup, dLst, dLstM, dCall, dDrop, dAsg, dT, Tg.d, Tgs.d, dNotT, dAndT, dOrT, dAndV, dOrV, dNotV, dPar, dFor, dSeqI, dRng1, dRng2, dZip2, dZip3, dEnum, dLC, dLCr, dLCM, finM, gII0, gII, onII, onI, gGcd, gNeg, gAdd, gIt, gIx, gLen, gTupC, gLstC, gLstCM, gAll, gAny, gBls, gSum, gIsi, gAbs, gInt, gStr, gEqB, gIsN, isNon, gRep, dRepM, dSl, dPart, dNoPart, gSl, dRev, dRevM, dM, dM0, gAppend, gPop, dFld, dSetF, dMeth, dMake, dPut, dDict, dPairs, dJoin, dJoined, dJs, dFmt, gIn, exOf, endD, on1, on2, ev_it0, ev_it1, ev_it2, ev_itn1, ev_itn, ev_len_t, ev_len_l, ev_sq_t, ev_sq_l, ev_lst_l, ev_so_t, ev_so_l, ev_so_k, ev_si_t, ev_si_l, ev_si_k, ev_ty_i, ev_ty_b, ev_ty_n, ev_ty_s, ev_ty_t, ev_ty_l, ev_eq_ii, ev_shp_i, ev_shp_b, ev_shp_n, ev_key_i, ev_key_s, kd_NoneType, kd_bool, kd_int, kd_str, kd_tuple, kd_list, kd_dict, ib_NoneType_NoneType, ib_NoneType_bool, ib_NoneType_int, ib_NoneType_str, ib_NoneType_tuple, ib_NoneType_list, ib_NoneType_dict, ib_bool_NoneType, ib_bool_bool, ib_bool_int, ib_bool_str, ib_bool_tuple, ib_bool_list, ib_bool_dict, ib_int_NoneType, ib_int_bool, ib_int_int, ib_int_str, ib_int_tuple, ib_int_list, ib_int_dict, ib_str_NoneType, ib_str_bool, ib_str_int, ib_str_str, ib_str_tuple, ib_str_list, ib_str_dict, ib_tuple_NoneType, ib_tuple_bool, ib_tuple_int, ib_tuple_str, ib_tuple_tuple, ib_tuple_list, ib_tuple_dict, ib_list_NoneType, ib_list_bool, ib_list_int, ib_list_str, ib_list_tuple, ib_list_list, ib_list_dict, ib_dict_NoneType, ib_dict_bool, ib_dict_int, ib_dict_str, ib_dict_tuple, ib_dict_list, ib_dict_dict, true_and, and_true, if_true, if_false, Bool.not_true, Bool.not_false, List.map_cons, List.map_nil, List.length_cons, List.length_nil, List.replicate, List.cons_append, List.nil_append, List.getElem?_cons_succ, List.getElem?_cons_zero, List.set_cons_succ, List.set_cons_zero, ite_true_eq, ite_false_eq, ite_nt_eq, ite_nf_eq, dec_true, dec_not, bxor_f, bxor_t]
      refine ⟨cells.length - 1, by omega, cells.dropLast, _, by simp, mset_same, ?_, by simp; omega, fun b h1 h2 => ?_⟩
      · rw [mset_ne (Ne.symm g3), mset_same, List.map_dropLast]
      · rw [mset_ne h1, mset_ne h2]; exact fr b h1 h2
    · rw [if_neg (show ¬ (0 : Int) < ((cells.length : Nat) : Int) by omega)]
      rw [if_neg (show ¬ 1 < l by omega)]
      simp only [it_turn g1, set_turn g1, startD, dSeq, dNext, dBreak, dCont, dSet, dIfE, dIfS, dB, dOp, dVar, dC, dCB, dCons, dNil, dUn, dRet, dRetN, dTup, dLst, dLstM, dCall, dDrop, dAsg, dT, Tg.d, Tgs.d, dNotT, dAndT, dOrT, dAndV, dOrV, dNotV, dPar, dFor, dSeqI, dRng1, dRng2, dZip2, dZip3, dEnum, dLC, dLCr, dLCM, finM, gII0, gII, onII, onI, gGcd, gNeg, gAdd, gIt, gIx, gLen, gTupC, gLstC, gLstCM, gAll, gAny, gBls, gSum, gIsi, gAbs, gInt, gStr, gEqB, gIsN, isNon, gRep, dRepM, dSl, dPart, dNoPart, gSl, dRev, dRevM, dM, dM0, gAppend, gPop, dFld, dSetF, dMeth, dMake, dPut, dDict, dPairs, dJoin, dJoined, dJs, dFmt, gIn, exOf, endD, on1, on2, ev_it0, ev_it1, ev_it2, ev_itn1, ev_itn, ev_len_t, ev_len_l, ev_sq_t, ev_sq_l, ev_lst_l, ev_so_t, ev_so_l, ev_so_k, ev_si_t, ev_si_l, ev_si_k, ev_ty_i, ev_ty_b, ev_ty_n, ev_ty_s, ev_ty_t, ev_ty_l, ev_eq_ii, ev_shp_i, ev_shp_b, ev_shp_n, ev_key_i, ev_key_s, kd_NoneType, kd_bool, kd_int, kd_str, kd_tuple, kd_list, kd_dict, ib_NoneType_NoneType, ib_NoneType_bool, ib_NoneType_int, ib_NoneType_str, ib_NoneType_tuple, ib_NoneType_list, ib_NoneType_dict, ib_bool_NoneType, ib_bool_bool, ib_bool_int, ib_bool_str, ib_bool_tuple, ib_bool_list, ib_bool_dict, ib_int_NoneType, ib_int_bool, ib_int_int, ib_int_str, ib_int_tuple, ib_int_list, ib_int_dict, ib_str_NoneType, ib_str_bool, ib_str_int, ib_str_str, ib_str_tuple, ib_str_list, ib_str_dict, ib_tuple_NoneType, ib_tuple_bool, ib_tuple_int, ib_tuple_str, ib_tuple_tuple, ib_tuple_list, ib_tuple_dict, ib_list_NoneType, ib_list_bool, ib_list_int, ib_list_str, ib_list_tuple, ib_list_list, ib_list_dict, ib_dict_NoneType, ib_dict_bool, ib_dict_int, ib_dict_str, ib_dict_tuple, ib_dict_list, ib_dict_dict, true_and, and_true, if_true, if_false, Bool.not_true, Bool.not_false, List.map_cons, List.map_nil, List.length_cons, List.length_nil, List.replicate, List.cons_append, List.nil_append, List.getElem?_cons_succ, List.getElem?_cons_zero, List.set_cons_succ, List.set_cons_zero, ite_true_eq, ite_false_eq, ite_nt_eq, ite_nf_eq, dec_true, dec_not, bxor_f, bxor_t]
      have g1' : (mset m' a (srcO cs l x ((t : Int) + 1))) a = some (srcO cs l x ((t : Int) + 1)) := mset_same
      simp only [it_turn g1', it_mixed g1', startD, dSeq, dNext, dBreak, dCont, dSet, dIfE, dIfS, dB, dOp, dVar, dC, dCB, dCons, dNil, dUn, dRet, dRetN, dTup, dLst, dLstM, dCall, dDrop, dAsg, dT, Tg.d, Tgs.d, dNotT, dAndT, dOrT, dAndV, dOrV, dNotV, dPar, dFor, dSeqI, dRng1, dRng2, dZip2, dZip3, dEnum, dLC, dLCr, dLCM, finM, gII0, gII, onII, onI, gGcd, gNeg, gAdd, gIt, gIx, gLen, gTupC, gLstC, gLstCM, gAll, gAny, gBls, gSum, gIsi, gAbs, gInt, gStr, gEqB, gIsN, isNon, gRep, dRepM, dSl, dPart, dNoPart, gSl, dRev, dRevM, dM, dM0, gAppend, gPop, dFld, dSetF, dMeth, dMake, dPut, dDict, dPairs, dJoin, dJoined, dJs, dFmt, gIn, exOf, endD, on1, on2, ev_it0, ev_it1, ev_it2, ev_itn1, ev_itn, ev_len_t, ev_len_l, ev_sq_t, ev_sq_l, ev_lst_l, ev_so_t, ev_so_l, ev_so_k, ev_si_t, ev_si_l, ev_si_k, ev_ty_i, ev_ty_b, ev_ty_n, ev_ty_s, ev_ty_t, ev_ty_l, ev_eq_ii, ev_shp_i, ev_shp_b, ev_shp_n, ev_key_i, ev_key_s, kd_NoneType, kd_bool, kd_int, kd_str, kd_tuple, kd_list, kd_dict, ib_NoneType_NoneType, ib_NoneType_bool, ib_NoneType_int, ib_NoneType_str, ib_NoneType_tuple, ib_NoneType_list, ib_NoneType_dict, ib_bool_NoneType, ib_bool_bool, ib_bool_int, ib_bool_str, ib_bool_tuple, ib_bool_list, ib_bool_dict, ib_int_NoneType, ib_int_bool, ib_int_int, ib_int_str, ib_int_tuple, ib_int_list, ib_int_dict, ib_str_NoneType, ib_str_bool, ib_str_int, ib_str_str, ib_str_tuple, ib_str_list, ib_str_dict, ib_tuple_NoneType, ib_tuple_bool, ib_tuple_int, ib_tuple_str, ib_tuple_tuple, ib_tuple_list, ib_tuple_dict, ib_list_NoneType, ib_list_bool, ib_list_int, ib_list_str, ib_list_tuple, ib_list_list, ib_list_dict, ib_dict_NoneType, ib_dict_bool, ib_dict_int, ib_dict_str, ib_dict_tuple, ib_dict_list, ib_dict_dict, true_and, and_true, if_true, if_false, Bool.not_true, Bool.not_false, List.map_cons, List.map_nil, List.length_cons, List.length_nil, List.replicate, List.cons_append, List.nil_append, List.getElem?_cons_succ, List.getElem?_cons_zero, List.set_cons_succ, List.set_cons_zero, ite_true_eq, ite_false_eq, ite_nt_eq, ite_nf_eq, dec_true, dec_not, bxor_f, bxor_t]
      have ht : t + 1 ≤ LIM := by omega
      have hlog : ((t : Int) + 1).natAbs.log2 ≤ 1000 := by
        have : ((t : Int) + 1).natAbs ≤ 2 ^ 1000 := by unfold LIM at ht; omega
        exact lg_le (k := 1001) (Nat.lt_of_le_of_lt this (Nat.pow_lt_pow_right (by decide) (by decide))) |> fun z => by
          rcases Nat.lt_or_ge ((t : Int) + 1).natAbs (2 ^ 1000) with h | h
          · exact lg_le h
          · have : ((t : Int) + 1).natAbs = 2 ^ 1000 := by omega
            rw [this, Nat.log2_two_pow]; omega
      have hy := fmod_in (i := x + ((t : Int) + 1) * 104729) (j := 998244353) (by decide)
      generalize (x + ((t : Int) + 1) * 104729).fmod 998244353 = y at *
      have hz := fmod_in (i := y * y + ((t : Int) + 1) * 17) (j := 2147483647) (by decide)
      generalize (y * y + ((t : Int) + 1) * 17).fmod 2147483647 = z at *
      have hw := fmod_in (i := z.fdiv 16) (j := most) (by omega)
      generalize (z.fdiv 16).fmod most = v at *
      refine ⟨cm_small hlog (by decide : (104729 : Int).natAbs.log2 ≤ 31) (by omega), by decide, cm_small (lg31 hy.1 (by omega)) (lg31 hy.1 (by omega)) (by omega), cm_small hlog (by decide : (17 : Int).natAbs.log2 ≤ 31) (by omega), by decide, cv_small (by decide) (Nat.lt_trans (show (16 : Int).natAbs < 2 ^ 5 by decide) (Nat.pow_lt_pow_right (by decide) (by decide))), by omega, _, _, .refl, ?_⟩
      refine q v _ ⟨hw.1, .inl hw.2⟩ ⟨cells, l, x, t + 1, ?_, ?_, g3, g4, g5, by omega, g7⟩ fun b h1 h2 => ?_
      · rw [mset_same]; rfl
      · rw [mset_ne (Ne.symm g3)]; exact g2
      · rw [mset_ne h1]; exact fr b h1 h2
  · rw [if_neg hl]
    rw [if_pos (show 1 < l by omega)]
    simp only [set_left g1, startD, dSeq, dNext, dBreak, dCont, dSet, dIfE, dIfS, dB, dOp, dVar, dC, dCB, dCons, dNil, dUn, dRet, dRetN, dTup, dLst, dLstM, dCall, dDrop, dAsg, dT, Tg.d, Tgs.d, dNotT, dAndT, dOrT, dAndV, dOrV, dNotV, dPar, dFor, dSeqI, dRng1, dRng2, dZip2, dZip3, dEnum, dLC, dLCr, dLCM, finM, gII0, gII, onII, onI, gGcd, gNeg, gAdd, gIt, gIx, gLen, gTupC, gLstC, gLstCM, gAll, gAny, gBls, gSum, gIsi, gAbs, gInt, gStr, gEqB, gIsN, isNon, gRep, dRepM, dSl, dPart, dNoPart, gSl, dRev, dRevM, dM, dM0, gAppend, gPop, dFld, dSetF, dMeth, dMake, dPut, dDict, dPairs, dJoin, dJoined, dJs, dFmt, gIn, exOf, endD, on1, on2, ev_it0, ev_it1, ev_it2, ev_itn1, ev_itn, ev_len_t, ev_len_l, ev_sq_t, ev_sq_l, ev_lst_l, ev_so_t, ev_so_l, ev_so_k, ev_si_t, ev_si_l, ev_si_k, ev_ty_i, ev_ty_b, ev_ty_n, ev_ty_s, ev_ty_t, ev_ty_l, ev_eq_ii, ev_shp_i, ev_shp_b, ev_shp_n, ev_key_i, ev_key_s, kd_NoneType, kd_bool, kd_int, kd_str, kd_tuple, kd_list, kd_dict, ib_NoneType_NoneType, ib_NoneType_bool, ib_NoneType_int, ib_NoneType_str, ib_NoneType_tuple, ib_NoneType_list, ib_NoneType_dict, ib_bool_NoneType, ib_bool_bool, ib_bool_int, ib_bool_str, ib_bool_tuple, ib_bool_list, ib_bool_dict, ib_int_NoneType, ib_int_bool, ib_int_int, ib_int_str, ib_int_tuple, ib_int_list, ib_int_dict, ib_str_NoneType, ib_str_bool, ib_str_int, ib_str_str, ib_str_tuple, ib_str_list, ib_str_dict, ib_tuple_NoneType, ib_tuple_bool, ib_tuple_int, ib_tuple_str, ib_tuple_tuple, ib_tuple_list, ib_tuple_dict, ib_list_NoneType, ib_list_bool, ib_list_int, ib_list_str, ib_list_tuple, ib_list_list, ib_list_dict, ib_dict_NoneType, ib_dict_bool, ib_dict_int, ib_dict_str, ib_dict_tuple, ib_dict_list, ib_dict_dict, true_and, and_true, if_true, if_false, Bool.not_true, Bool.not_false, List.map_cons, List.map_nil, List.length_cons, List.length_nil, List.replicate, List.cons_append, List.nil_append, List.getElem?_cons_succ, List.getElem?_cons_zero, List.set_cons_succ, List.set_cons_zero, ite_true_eq, ite_false_eq, ite_nt_eq, ite_nf_eq, dec_true, dec_not, bxor_f, bxor_t]
    have hm' : most.natAbs < 2 ^ 8999 := by
      have : (2 : Int) ^ 8000 = ((2 ^ 8000 : Nat) : Int) := by norm_cast
      have h3 : most.natAbs < 2 ^ 8000 := by omega
      exact Nat.lt_trans h3 (Nat.pow_lt_pow_right (by decide) (by decide))
    have hw := fmod_in (i := l) (j := most) (by omega)
    refine ⟨cv_small (by omega) hm', by omega, _, _, .refl, ?_⟩
    refine q _ _ ⟨hw.1, .inl hw.2⟩ ⟨cells, _, x, t, mset_same, ?_, g3, g4, g5, by omega, g7⟩ fun b h1 h2 => ?_
    · rw [mset_ne (Ne.symm g3)]; exact g2
    · rw [mset_ne h1]; exact fr b h1 h2
end Y
/-! M7: more of what the laws draw. -/
namespace Y
open PySem PySem.Spec PyProof.Rows L2
theorem lc_ind {tg : Tg} {te : DE} {ρ : Env} {p : Addr} {side : MM → Prop} {K : List D → MM → Prop} (J : List D → List D → MM → Prop)
    (step : ∀ d r acc m (N : D → MM → Prop), (∀ e m2, J r (acc ++ [e]) (mset m2 p (.lst (acc ++ [e]))) → N e m2) → J (d :: r) acc m → side m ∧ m p = some (.lst acc) ∧ ∃ ρ1, Tg.d tg d ρ = some ρ1 ∧ te ρ1 m (fun e m2 => m2 p = some (.lst acc) ∧ acc.length < sizeLine ∧ N e m2) xF)
    (done : ∀ acc m, J [] acc m → side m ∧ m p = some (.lst acc) ∧ K acc m) : ∀ items acc m, J items acc m → lcRec tg dYes te ρ p side K items acc m
  | [], acc, m, h => by unfold lcRec; exact done acc m h
  | d :: r, acc, m, h => by
    unfold lcRec
    obtain ⟨h1, h2, ρ1, h3, h4⟩ := step d r acc m _ (fun e m2 h' => lc_ind J step done r (acc ++ [e]) _ h') h
    refine ⟨h1, h2, ?_⟩
    rw [h3]
    exact h4
def S__law_common : DS := fun ds m Q X => ∃ n d : Int, ds = [.int n, .int d] ∧ Q (.int ((Nat.gcd n.natAbs d.natAbs : Nat) : Int)) m
def T__law_common : DSt := (dSeq (dPar 0 1 (dCons (dCB gAbs (dCons (dVar 0) dNil)) (dCons (dCB gAbs (dCons (dVar 1) dNil)) dNil)))
  (dSeq (dWhile (dB (dOp gNe (dVar 1) (dC (.int 0))))
  (dPar 0 1 (dCons (dVar 1) (dCons (dOp gMod (dVar 0) (dVar 1)) dNil))))
  (dRet (dVar 0))))
theorem abs_eq (i : Int) : (if i < 0 then -i else i) = ((i.natAbs : Nat) : Int) := by
  split <;> omega
theorem H__law_common (ds : List D) (m : MM) (Q : D → MM → Prop) (Px : XC) (h : S__law_common ds m Q Px) : ds.length = 2 ∧ T__law_common (endD Q Px) (startD ["_law_a", "_law_b"] ds) m := by
  obtain ⟨n, d, rfl, q⟩ := h
  refine ⟨rfl, ?_⟩
  simp only [T__law_common, abs_eq, startD, dSeq, dNext, dBreak, dCont, dSet, dIfE, dIfS, dB, dOp, dVar, dC, dCB, dCons, dNil, dUn, dRet, dRetN, dTup, dLst, dLstM, dCall, dDrop, dAsg, dT, Tg.d, Tgs.d, dNotT, dAndT, dOrT, dAndV, dOrV, dNotV, dPar, dFor, dSeqI, dRng1, dRng2, dZip2, dZip3, dEnum, dLC, dLCr, dLCM, finM, gII0, gII, onII, onI, gGcd, gNeg, gAdd, gIt, gIx, gLen, gTupC, gLstC, gLstCM, gAll, gAny, gBls, gSum, gIsi, gAbs, gInt, gStr, gEqB, gIsN, isNon, gRep, dRepM, dSl, dPart, dNoPart, gSl, dRev, dRevM, dM, dM0, gAppend, gPop, dFld, dSetF, dMeth, dMake, dPut, dDict, dPairs, dJoin, dJoined, dJs, dFmt, gIn, exOf, endD, on1, on2, ev_it0, ev_it1, ev_it2, ev_itn1, ev_itn, ev_len_t, ev_len_l, ev_sq_t, ev_sq_l, ev_lst_l, ev_so_t, ev_so_l, ev_so_k, ev_si_t, ev_si_l, ev_si_k, ev_ty_i, ev_ty_b, ev_ty_n, ev_ty_s, ev_ty_t, ev_ty_l, ev_eq_ii, ev_shp_i, ev_shp_b, ev_shp_n, ev_key_i, ev_key_s, kd_NoneType, kd_bool, kd_int, kd_str, kd_tuple, kd_list, kd_dict, ib_NoneType_NoneType, ib_NoneType_bool, ib_NoneType_int, ib_NoneType_str, ib_NoneType_tuple, ib_NoneType_list, ib_NoneType_dict, ib_bool_NoneType, ib_bool_bool, ib_bool_int, ib_bool_str, ib_bool_tuple, ib_bool_list, ib_bool_dict, ib_int_NoneType, ib_int_bool, ib_int_int, ib_int_str, ib_int_tuple, ib_int_list, ib_int_dict, ib_str_NoneType, ib_str_bool, ib_str_int, ib_str_str, ib_str_tuple, ib_str_list, ib_str_dict, ib_tuple_NoneType, ib_tuple_bool, ib_tuple_int, ib_tuple_str, ib_tuple_tuple, ib_tuple_list, ib_tuple_dict, ib_list_NoneType, ib_list_bool, ib_list_int, ib_list_str, ib_list_tuple, ib_list_list, ib_list_dict, ib_dict_NoneType, ib_dict_bool, ib_dict_int, ib_dict_str, ib_dict_tuple, ib_dict_list, ib_dict_dict, true_and, and_true, if_true, if_false, Bool.not_true, Bool.not_false, List.map_cons, List.map_nil, List.length_cons, List.length_nil, List.replicate, List.cons_append, List.nil_append, List.getElem?_cons_succ, List.getElem?_cons_zero, List.set_cons_succ, List.set_cons_zero, ite_true_eq, ite_false_eq, ite_nt_eq, ite_nf_eq, dec_true, dec_not, bxor_f, bxor_t]
  refine ⟨fun k ρ m' => ∃ a b : Nat, k = b ∧ ρ = [some (.int (a : Int)), some (.int (b : Int))] ∧ m' = m ∧ Nat.gcd a b = Nat.gcd n.natAbs d.natAbs, ⟨_, n.natAbs, d.natAbs, rfl, rfl, rfl, rfl⟩, ?_⟩
  rintro b ρ m' ⟨a, b', hk, rfl, rfl, hg⟩
  subst hk
  simp only [startD, dSeq, dNext, dBreak, dCont, dSet, dIfE, dIfS, dB, dOp, dVar, dC, dCB, dCons, dNil, dUn, dRet, dRetN, dTup, dLst, dLstM, dCall, dDrop, dAsg, dT, Tg.d, Tgs.d, dNotT, dAndT, dOrT, dAndV, dOrV, dNotV, dPar, dFor, dSeqI, dRng1, dRng2, dZip2, dZip3, dEnum, dLC, dLCr, dLCM, finM, gII0, gII, onII, onI, gGcd, gNeg, gAdd, gIt, gIx, gLen, gTupC, gLstC, gLstCM, gAll, gAny, gBls, gSum, gIsi, gAbs, gInt, gStr, gEqB, gIsN, isNon, gRep, dRepM, dSl, dPart, dNoPart, gSl, dRev, dRevM, dM, dM0, gAppend, gPop, dFld, dSetF, dMeth, dMake, dPut, dDict, dPairs, dJoin, dJoined, dJs, dFmt, gIn, exOf, endD, on1, on2, ev_it0, ev_it1, ev_it2, ev_itn1, ev_itn, ev_len_t, ev_len_l, ev_sq_t, ev_sq_l, ev_lst_l, ev_so_t, ev_so_l, ev_so_k, ev_si_t, ev_si_l, ev_si_k, ev_ty_i, ev_ty_b, ev_ty_n, ev_ty_s, ev_ty_t, ev_ty_l, ev_eq_ii, ev_shp_i, ev_shp_b, ev_shp_n, ev_key_i, ev_key_s, kd_NoneType, kd_bool, kd_int, kd_str, kd_tuple, kd_list, kd_dict, ib_NoneType_NoneType, ib_NoneType_bool, ib_NoneType_int, ib_NoneType_str, ib_NoneType_tuple, ib_NoneType_list, ib_NoneType_dict, ib_bool_NoneType, ib_bool_bool, ib_bool_int, ib_bool_str, ib_bool_tuple, ib_bool_list, ib_bool_dict, ib_int_NoneType, ib_int_bool, ib_int_int, ib_int_str, ib_int_tuple, ib_int_list, ib_int_dict, ib_str_NoneType, ib_str_bool, ib_str_int, ib_str_str, ib_str_tuple, ib_str_list, ib_str_dict, ib_tuple_NoneType, ib_tuple_bool, ib_tuple_int, ib_tuple_str, ib_tuple_tuple, ib_tuple_list, ib_tuple_dict, ib_list_NoneType, ib_list_bool, ib_list_int, ib_list_str, ib_list_tuple, ib_list_list, ib_list_dict, ib_dict_NoneType, ib_dict_bool, ib_dict_int, ib_dict_str, ib_dict_tuple, ib_dict_list, ib_dict_dict, true_and, and_true, if_true, if_false, Bool.not_true, Bool.not_false, List.map_cons, List.map_nil, List.length_cons, List.length_nil, List.replicate, List.cons_append, List.nil_append, List.getElem?_cons_succ, List.getElem?_cons_zero, List.set_cons_succ, List.set_cons_zero, ite_true_eq, ite_false_eq, ite_nt_eq, ite_nf_eq, dec_true, dec_not, bxor_f, bxor_t]
  by_cases hb : ((b : Nat) : Int) = 0
  · rw [if_pos hb]
    obtain rfl : b = 0 := by omega
    rw [Nat.gcd_zero_right] at hg
    subst hg
    exact ⟨m', _, .refl, q⟩
  · rw [if_neg hb]
    refine ⟨hb, a % b, Nat.mod_lt _ (by omega), b, a % b, rfl, ?_, ?_⟩
    · have : ((a : Nat) : Int).fmod (b : Int) = ((a % b : Nat) : Int) := by
        rw [Int.fmod_eq_emod_of_nonneg _ (by omega)]; omega
      rw [this]
    · rw [← hg, Nat.gcd_comm a b, Nat.gcd_rec b a, Nat.gcd_comm]
def S__law_fraction : DS := fun ds m Q X => ∃ n d : Int, ds = [.int n, .int d] ∧ d ≠ 0 ∧ d.natAbs < 2 ^ 8999 ∧ Q (enc (Rat.divInt n d)) m
def T__law_fraction : DSt := (dSeq (dSet 2 (dOp gMul (dCall S__law_common (dCons (dVar 0) (dCons (dVar 1) dNil))) (dIfE (dB (dOp gGt (dVar 1) (dC (.int 0)))) (dC (.int 1)) (dOp gSub (dC (.int 0)) (dC (.int 1))))))
  (dRet (dTup (dCons (dOp gFdv (dVar 0) (dVar 2)) (dCons (dOp gFdv (dVar 1) (dVar 2)) dNil)))))
theorem H__law_fraction (ds : List D) (m : MM) (Q : D → MM → Prop) (Px : XC) (h : S__law_fraction ds m Q Px) : ds.length = 2 ∧ T__law_fraction (endD Q Px) (startD ["_law_n", "_law_d", "_law_unit"] ds) m := by
  obtain ⟨n, d, rfl, hd, hl, q⟩ := h
  refine ⟨rfl, ?_⟩
  obtain ⟨e1, e2⟩ := encDiv (n := n) hd
  simp only [T__law_fraction, startD, dSeq, dNext, dBreak, dCont, dSet, dIfE, dIfS, dB, dOp, dVar, dC, dCB, dCons, dNil, dUn, dRet, dRetN, dTup, dLst, dLstM, dCall, dDrop, dAsg, dT, Tg.d, Tgs.d, dNotT, dAndT, dOrT, dAndV, dOrV, dNotV, dPar, dFor, dSeqI, dRng1, dRng2, dZip2, dZip3, dEnum, dLC, dLCr, dLCM, finM, gII0, gII, onII, onI, gGcd, gNeg, gAdd, gIt, gIx, gLen, gTupC, gLstC, gLstCM, gAll, gAny, gBls, gSum, gIsi, gAbs, gInt, gStr, gEqB, gIsN, isNon, gRep, dRepM, dSl, dPart, dNoPart, gSl, dRev, dRevM, dM, dM0, gAppend, gPop, dFld, dSetF, dMeth, dMake, dPut, dDict, dPairs, dJoin, dJoined, dJs, dFmt, gIn, exOf, endD, on1, on2, ev_it0, ev_it1, ev_it2, ev_itn1, ev_itn, ev_len_t, ev_len_l, ev_sq_t, ev_sq_l, ev_lst_l, ev_so_t, ev_so_l, ev_so_k, ev_si_t, ev_si_l, ev_si_k, ev_ty_i, ev_ty_b, ev_ty_n, ev_ty_s, ev_ty_t, ev_ty_l, ev_eq_ii, ev_shp_i, ev_shp_b, ev_shp_n, ev_key_i, ev_key_s, kd_NoneType, kd_bool, kd_int, kd_str, kd_tuple, kd_list, kd_dict, ib_NoneType_NoneType, ib_NoneType_bool, ib_NoneType_int, ib_NoneType_str, ib_NoneType_tuple, ib_NoneType_list, ib_NoneType_dict, ib_bool_NoneType, ib_bool_bool, ib_bool_int, ib_bool_str, ib_bool_tuple, ib_bool_list, ib_bool_dict, ib_int_NoneType, ib_int_bool, ib_int_int, ib_int_str, ib_int_tuple, ib_int_list, ib_int_dict, ib_str_NoneType, ib_str_bool, ib_str_int, ib_str_str, ib_str_tuple, ib_str_list, ib_str_dict, ib_tuple_NoneType, ib_tuple_bool, ib_tuple_int, ib_tuple_str, ib_tuple_tuple, ib_tuple_list, ib_tuple_dict, ib_list_NoneType, ib_list_bool, ib_list_int, ib_list_str, ib_list_tuple, ib_list_list, ib_list_dict, ib_dict_NoneType, ib_dict_bool, ib_dict_int, ib_dict_str, ib_dict_tuple, ib_dict_list, ib_dict_dict, true_and, and_true, if_true, if_false, Bool.not_true, Bool.not_false, List.map_cons, List.map_nil, List.length_cons, List.length_nil, List.replicate, List.cons_append, List.nil_append, List.getElem?_cons_succ, List.getElem?_cons_zero, List.set_cons_succ, List.set_cons_zero, ite_true_eq, ite_false_eq, ite_nt_eq, ite_nf_eq, dec_true, dec_not, bxor_f, bxor_t]
  refine ⟨n, d, rfl, ?_⟩
  simp only [startD, dSeq, dNext, dBreak, dCont, dSet, dIfE, dIfS, dB, dOp, dVar, dC, dCB, dCons, dNil, dUn, dRet, dRetN, dTup, dLst, dLstM, dCall, dDrop, dAsg, dT, Tg.d, Tgs.d, dNotT, dAndT, dOrT, dAndV, dOrV, dNotV, dPar, dFor, dSeqI, dRng1, dRng2, dZip2, dZip3, dEnum, dLC, dLCr, dLCM, finM, gII0, gII, onII, onI, gGcd, gNeg, gAdd, gIt, gIx, gLen, gTupC, gLstC, gLstCM, gAll, gAny, gBls, gSum, gIsi, gAbs, gInt, gStr, gEqB, gIsN, isNon, gRep, dRepM, dSl, dPart, dNoPart, gSl, dRev, dRevM, dM, dM0, gAppend, gPop, dFld, dSetF, dMeth, dMake, dPut, dDict, dPairs, dJoin, dJoined, dJs, dFmt, gIn, exOf, endD, on1, on2, ev_it0, ev_it1, ev_it2, ev_itn1, ev_itn, ev_len_t, ev_len_l, ev_sq_t, ev_sq_l, ev_lst_l, ev_so_t, ev_so_l, ev_so_k, ev_si_t, ev_si_l, ev_si_k, ev_ty_i, ev_ty_b, ev_ty_n, ev_ty_s, ev_ty_t, ev_ty_l, ev_eq_ii, ev_shp_i, ev_shp_b, ev_shp_n, ev_key_i, ev_key_s, kd_NoneType, kd_bool, kd_int, kd_str, kd_tuple, kd_list, kd_dict, ib_NoneType_NoneType, ib_NoneType_bool, ib_NoneType_int, ib_NoneType_str, ib_NoneType_tuple, ib_NoneType_list, ib_NoneType_dict, ib_bool_NoneType, ib_bool_bool, ib_bool_int, ib_bool_str, ib_bool_tuple, ib_bool_list, ib_bool_dict, ib_int_NoneType, ib_int_bool, ib_int_int, ib_int_str, ib_int_tuple, ib_int_list, ib_int_dict, ib_str_NoneType, ib_str_bool, ib_str_int, ib_str_str, ib_str_tuple, ib_str_list, ib_str_dict, ib_tuple_NoneType, ib_tuple_bool, ib_tuple_int, ib_tuple_str, ib_tuple_tuple, ib_tuple_list, ib_tuple_dict, ib_list_NoneType, ib_list_bool, ib_list_int, ib_list_str, ib_list_tuple, ib_list_list, ib_list_dict, ib_dict_NoneType, ib_dict_bool, ib_dict_int, ib_dict_str, ib_dict_tuple, ib_dict_list, ib_dict_dict, true_and, and_true, if_true, if_false, Bool.not_true, Bool.not_false, List.map_cons, List.map_nil, List.length_cons, List.length_nil, List.replicate, List.cons_append, List.nil_append, List.getElem?_cons_succ, List.getElem?_cons_zero, List.set_cons_succ, List.set_cons_zero, ite_true_eq, ite_false_eq, ite_nt_eq, ite_nf_eq, dec_true, dec_not, bxor_f, bxor_t]
  have hgl : ((Nat.gcd n.natAbs d.natAbs : Nat) : Int).natAbs.log2 ≤ 8999 := by
    have h2 : Nat.gcd n.natAbs d.natAbs ≤ d.natAbs := Nat.gcd_le_right _ (Int.natAbs_pos.mpr hd)
    rw [Int.natAbs_natCast]
    exact lg_le (Nat.lt_of_le_of_lt h2 hl)
  by_cases h : 0 < d
  · rw [if_pos h]
    refine ⟨cm_small hgl (by decide : (1 : Int).natAbs.log2 ≤ 0) (by omega), ?_⟩
    rw [Int.mul_one]
    refine ⟨(cv_gcd hd hl).1, (cv_gcd hd hl).1, two_le, m, _, .refl, ?_⟩
    rw [← e1 h]; exact q
  · rw [if_neg h]
    refine ⟨cm_small hgl (by decide : (0 - 1 : Int).natAbs.log2 ≤ 0) (by omega), ?_⟩
    rw [show ((Nat.gcd n.natAbs d.natAbs : Nat) : Int) * (0 - 1) = -((Nat.gcd n.natAbs d.natAbs : Nat) : Int) by omega]
    refine ⟨(cv_gcd hd hl).2, (cv_gcd hd hl).2, two_le, m, _, .refl, ?_⟩
    rw [← e2 h]; exact q
/-- a fraction of small parts -/
def Bq (n d : Nat) (q : Rat) : Prop := q.num.natAbs ≤ n ∧ q.den ≤ d
theorem divInt_bq {n d : Int} {a b : Nat} (hn : n.natAbs ≤ a) (hd : d.natAbs ≤ b) (h0 : d ≠ 0) : Bq a b (Rat.divInt n d) := by
  constructor
  · rw [Rat.num_divInt, Int.natAbs_ediv_of_dvd (Int.dvd_mul_of_dvd_right (Int.gcd_dvd_right ..))]
    refine Nat.le_trans (Nat.div_le_self _ _) ?_
    rw [Int.natAbs_mul]
    rcases Int.lt_trichotomy d 0 with h | h | h
    · rw [Int.sign_eq_neg_one_of_neg h]; simpa using hn
    · exact absurd h h0
    · rw [Int.sign_eq_one_of_pos h]; simpa using hn
  · rw [Rat.den_divInt, if_neg h0]
    exact Nat.le_trans (Nat.div_le_self _ _) hd
theorem Bq.sm {n d k : Nat} {q : Rat} (h : Bq n d q) (h1 : n < 2 ^ k) (h2 : d < 2 ^ k) : Sm k q := ⟨by have := h.1; omega, by have := h.2; omega⟩
def S__law_draw_fraction : DS := fun ds m Q X => ∃ (a cs : Addr) (w f : Nat), ds = [.adr a, .int (w : Int)] ∧ Src m a cs (f + 2) ∧ w ≤ 1000000 ∧ ∀ q m', Bq (3 * w) 3 q → Src m' a cs f → Fr2 a cs m m' → Q (enc q) m'
def T__law_draw_fraction : DSt := (dSeq (dSet 2 (dOp gIt (dLst (dCons (dC (.int 1)) (dCons (dC (.int 1)) (dCons (dC (.int 1)) (dCons (dC (.int 2)) (dCons (dC (.int 3)) dNil)))))) (dCall S__law_pick (dCons (dVar 0) (dCons (dC (.int 5)) dNil)))))
  (dRet (dCall S__law_fraction (dCons (dOp gSub (dCall S__law_pick (dCons (dVar 0) (dCons (dOp gAdd (dOp gMul (dOp gMul (dC (.int 2)) (dVar 1)) (dVar 2)) (dC (.int 1))) dNil))) (dOp gMul (dVar 1) (dVar 2))) (dCons (dVar 2) dNil)))))
theorem at_pick {l : List D} {v : Int} {n : Int} (h : Pk v n) (hn : n ≤ l.length) (h0 : 0 < l.length) : ∃ d, atI l v = some d ∧ d ∈ l := by
  obtain ⟨h1, h2⟩ := h
  have e : v = ((v.toNat : Nat) : Int) := by omega
  rw [e, at02]
  have hl : v.toNat < l.length := by omega
  exact ⟨l[v.toNat], by rw [List.getElem?_eq_getElem hl], List.getElem_mem hl⟩
theorem it_lst {m : MM} {l : List D} {i : Int} : itD m (.lst l) (.int i) = atI l i := rfl
theorem H__law_draw_fraction (ds : List D) (m : MM) (Q : D → MM → Prop) (Px : XC) (h : S__law_draw_fraction ds m Q Px) : ds.length = 2 ∧ T__law_draw_fraction (endD Q Px) (startD ["_law_source", "_law_wide", "_law_d"] ds) m := by
  obtain ⟨a, cs, w, f, rfl, hs, hw, q⟩ := h
  refine ⟨rfl, ?_⟩
  simp only [T__law_draw_fraction, startD, dSeq, dNext, dBreak, dCont, dSet, dIfE, dIfS, dB, dOp, dVar, dC, dCB, dCons, dNil, dUn, dRet, dRetN, dTup, dLst, dLstM, dCall, dDrop, dAsg, dT, Tg.d, Tgs.d, dNotT, dAndT, dOrT, dAndV, dOrV, dNotV, dPar, dFor, dSeqI, dRng1, dRng2, dZip2, dZip3, dEnum, dLC, dLCr, dLCM, finM, gII0, gII, onII, onI, gGcd, gNeg, gAdd, gIt, gIx, gLen, gTupC, gLstC, gLstCM, gAll, gAny, gBls, gSum, gIsi, gAbs, gInt, gStr, gEqB, gIsN, isNon, gRep, dRepM, dSl, dPart, dNoPart, gSl, dRev, dRevM, dM, dM0, gAppend, gPop, dFld, dSetF, dMeth, dMake, dPut, dDict, dPairs, dJoin, dJoined, dJs, dFmt, gIn, exOf, endD, on1, on2, ev_it0, ev_it1, ev_it2, ev_itn1, ev_itn, ev_len_t, ev_len_l, ev_sq_t, ev_sq_l, ev_lst_l, ev_so_t, ev_so_l, ev_so_k, ev_si_t, ev_si_l, ev_si_k, ev_ty_i, ev_ty_b, ev_ty_n, ev_ty_s, ev_ty_t, ev_ty_l, ev_eq_ii, ev_shp_i, ev_shp_b, ev_shp_n, ev_key_i, ev_key_s, kd_NoneType, kd_bool, kd_int, kd_str, kd_tuple, kd_list, kd_dict, ib_NoneType_NoneType, ib_NoneType_bool, ib_NoneType_int, ib_NoneType_str, ib_NoneType_tuple, ib_NoneType_list, ib_NoneType_dict, ib_bool_NoneType, ib_bool_bool, ib_bool_int, ib_bool_str, ib_bool_tuple, ib_bool_list, ib_bool_dict, ib_int_NoneType, ib_int_bool, ib_int_int, ib_int_str, ib_int_tuple, ib_int_list, ib_int_dict, ib_str_NoneType, ib_str_bool, ib_str_int, ib_str_str, ib_str_tuple, ib_str_list, ib_str_dict, ib_tuple_NoneType, ib_tuple_bool, ib_tuple_int, ib_tuple_str, ib_tuple_tuple, ib_tuple_list, ib_tuple_dict, ib_list_NoneType, ib_list_bool, ib_list_int, ib_list_str, ib_list_tuple, ib_list_list, ib_list_dict, ib_dict_NoneType, ib_dict_bool, ib_dict_int, ib_dict_str, ib_dict_tuple, ib_dict_list, ib_dict_dict, true_and, and_true, if_true, if_false, Bool.not_true, Bool.not_false, List.map_cons, List.map_nil, List.length_cons, List.length_nil, List.replicate, List.cons_append, List.nil_append, List.getElem?_cons_succ, List.getElem?_cons_zero, List.set_cons_succ, List.set_cons_zero, ite_true_eq, ite_false_eq, ite_nt_eq, ite_nf_eq, dec_true, dec_not, bxor_f, bxor_t]
  refine ⟨big_of (by decide), a, cs, 5, f + 1, rfl, hs, by decide, fun v m1 hv s1 f1 => ?_⟩
  simp only [it_lst, startD, dSeq, dNext, dBreak, dCont, dSet, dIfE, dIfS, dB, dOp, dVar, dC, dCB, dCons, dNil, dUn, dRet, dRetN, dTup, dLst, dLstM, dCall, dDrop, dAsg, dT, Tg.d, Tgs.d, dNotT, dAndT, dOrT, dAndV, dOrV, dNotV, dPar, dFor, dSeqI, dRng1, dRng2, dZip2, dZip3, dEnum, dLC, dLCr, dLCM, finM, gII0, gII, onII, onI, gGcd, gNeg, gAdd, gIt, gIx, gLen, gTupC, gLstC, gLstCM, gAll, gAny, gBls, gSum, gIsi, gAbs, gInt, gStr, gEqB, gIsN, isNon, gRep, dRepM, dSl, dPart, dNoPart, gSl, dRev, dRevM, dM, dM0, gAppend, gPop, dFld, dSetF, dMeth, dMake, dPut, dDict, dPairs, dJoin, dJoined, dJs, dFmt, gIn, exOf, endD, on1, on2, ev_it0, ev_it1, ev_it2, ev_itn1, ev_itn, ev_len_t, ev_len_l, ev_sq_t, ev_sq_l, ev_lst_l, ev_so_t, ev_so_l, ev_so_k, ev_si_t, ev_si_l, ev_si_k, ev_ty_i, ev_ty_b, ev_ty_n, ev_ty_s, ev_ty_t, ev_ty_l, ev_eq_ii, ev_shp_i, ev_shp_b, ev_shp_n, ev_key_i, ev_key_s, kd_NoneType, kd_bool, kd_int, kd_str, kd_tuple, kd_list, kd_dict, ib_NoneType_NoneType, ib_NoneType_bool, ib_NoneType_int, ib_NoneType_str, ib_NoneType_tuple, ib_NoneType_list, ib_NoneType_dict, ib_bool_NoneType, ib_bool_bool, ib_bool_int, ib_bool_str, ib_bool_tuple, ib_bool_list, ib_bool_dict, ib_int_NoneType, ib_int_bool, ib_int_int, ib_int_str, ib_int_tuple, ib_int_list, ib_int_dict, ib_str_NoneType, ib_str_bool, ib_str_int, ib_str_str, ib_str_tuple, ib_str_list, ib_str_dict, ib_tuple_NoneType, ib_tuple_bool, ib_tuple_int, ib_tuple_str, ib_tuple_tuple, ib_tuple_list, ib_tuple_dict, ib_list_NoneType, ib_list_bool, ib_list_int, ib_list_str, ib_list_tuple, ib_list_list, ib_list_dict, ib_dict_NoneType, ib_dict_bool, ib_dict_int, ib_dict_str, ib_dict_tuple, ib_dict_list, ib_dict_dict, true_and, and_true, if_true, if_false, Bool.not_true, Bool.not_false, List.map_cons, List.map_nil, List.length_cons, List.length_nil, List.replicate, List.cons_append, List.nil_append, List.getElem?_cons_succ, List.getElem?_cons_zero, List.set_cons_succ, List.set_cons_zero, ite_true_eq, ite_false_eq, ite_nt_eq, ite_nf_eq, dec_true, dec_not, bxor_f, bxor_t]
  obtain ⟨d, hd, hm⟩ := at_pick (l := [.int 1, .int 1, .int 1, .int 2, .int 3]) hv (by simp) (by simp)
  rw [hd]
  obtain ⟨k, rfl, hk1, hk3⟩ : ∃ k : Int, d = .int k ∧ 1 ≤ k ∧ k ≤ 3 := by
    simp only [List.mem_cons, List.not_mem_nil, or_false] at hm
    rcases hm with rfl | rfl | rfl | rfl | rfl <;> exact ⟨_, rfl, by decide, by decide⟩
  simp only [startD, dSeq, dNext, dBreak, dCont, dSet, dIfE, dIfS, dB, dOp, dVar, dC, dCB, dCons, dNil, dUn, dRet, dRetN, dTup, dLst, dLstM, dCall, dDrop, dAsg, dT, Tg.d, Tgs.d, dNotT, dAndT, dOrT, dAndV, dOrV, dNotV, dPar, dFor, dSeqI, dRng1, dRng2, dZip2, dZip3, dEnum, dLC, dLCr, dLCM, finM, gII0, gII, onII, onI, gGcd, gNeg, gAdd, gIt, gIx, gLen, gTupC, gLstC, gLstCM, gAll, gAny, gBls, gSum, gIsi, gAbs, gInt, gStr, gEqB, gIsN, isNon, gRep, dRepM, dSl, dPart, dNoPart, gSl, dRev, dRevM, dM, dM0, gAppend, gPop, dFld, dSetF, dMeth, dMake, dPut, dDict, dPairs, dJoin, dJoined, dJs, dFmt, gIn, exOf, endD, on1, on2, ev_it0, ev_it1, ev_it2, ev_itn1, ev_itn, ev_len_t, ev_len_l, ev_sq_t, ev_sq_l, ev_lst_l, ev_so_t, ev_so_l, ev_so_k, ev_si_t, ev_si_l, ev_si_k, ev_ty_i, ev_ty_b, ev_ty_n, ev_ty_s, ev_ty_t, ev_ty_l, ev_eq_ii, ev_shp_i, ev_shp_b, ev_shp_n, ev_key_i, ev_key_s, kd_NoneType, kd_bool, kd_int, kd_str, kd_tuple, kd_list, kd_dict, ib_NoneType_NoneType, ib_NoneType_bool, ib_NoneType_int, ib_NoneType_str, ib_NoneType_tuple, ib_NoneType_list, ib_NoneType_dict, ib_bool_NoneType, ib_bool_bool, ib_bool_int, ib_bool_str, ib_bool_tuple, ib_bool_list, ib_bool_dict, ib_int_NoneType, ib_int_bool, ib_int_int, ib_int_str, ib_int_tuple, ib_int_list, ib_int_dict, ib_str_NoneType, ib_str_bool, ib_str_int, ib_str_str, ib_str_tuple, ib_str_list, ib_str_dict, ib_tuple_NoneType, ib_tuple_bool, ib_tuple_int, ib_tuple_str, ib_tuple_tuple, ib_tuple_list, ib_tuple_dict, ib_list_NoneType, ib_list_bool, ib_list_int, ib_list_str, ib_list_tuple, ib_list_list, ib_list_dict, ib_dict_NoneType, ib_dict_bool, ib_dict_int, ib_dict_str, ib_dict_tuple, ib_dict_list, ib_dict_dict, true_and, and_true, if_true, if_false, Bool.not_true, Bool.not_false, List.map_cons, List.map_nil, List.length_cons, List.length_nil, List.replicate, List.cons_append, List.nil_append, List.getElem?_cons_succ, List.getElem?_cons_zero, List.set_cons_succ, List.set_cons_zero, ite_true_eq, ite_false_eq, ite_nt_eq, ite_nf_eq, dec_true, dec_not, bxor_f, bxor_t]
  have hkl : k.natAbs.log2 ≤ 31 := lg31 (by omega) (by omega)
  have hwl : ((w : Nat) : Int).natAbs.log2 ≤ 31 := lg31 (by omega) (by omega)
  have h2w : (2 * ((w : Nat) : Int)).natAbs.log2 ≤ 31 := lg31 (by omega) (by omega)
  have hb0 : (0 : Int) ≤ (w : Int) * k := Int.mul_nonneg (by omega) (by omega)
  have hb3 : (w : Int) * k ≤ (w : Int) * 3 := Int.mul_le_mul_of_nonneg_left hk3 (by omega)
  refine ⟨cm_small (by decide : (2 : Int).natAbs.log2 ≤ 31) hwl (by omega), cm_small h2w hkl (by omega), a, cs, _, f, rfl, s1, ?_, fun v2 m2 hv2 s2 f2 => ?_⟩
  · rw [Int.mul_assoc]
    have : (2 : Int) ^ 8000 ≥ 2 ^ 30 := by
      have e1 : (2 : Int) ^ 8000 = ((2 ^ 8000 : Nat) : Int) := by norm_cast
      have e2 : (2 : Int) ^ 30 = ((2 ^ 30 : Nat) : Int) := by norm_cast
      rw [e1, e2]
      exact Int.ofNat_le.mpr (Nat.pow_le_pow_right (by decide) (by decide))
    have h30 : (2 : Int) ^ 30 = 1073741824 := by decide
    omega
  · simp only [startD, dSeq, dNext, dBreak, dCont, dSet, dIfE, dIfS, dB, dOp, dVar, dC, dCB, dCons, dNil, dUn, dRet, dRetN, dTup, dLst, dLstM, dCall, dDrop, dAsg, dT, Tg.d, Tgs.d, dNotT, dAndT, dOrT, dAndV, dOrV, dNotV, dPar, dFor, dSeqI, dRng1, dRng2, dZip2, dZip3, dEnum, dLC, dLCr, dLCM, finM, gII0, gII, onII, onI, gGcd, gNeg, gAdd, gIt, gIx, gLen, gTupC, gLstC, gLstCM, gAll, gAny, gBls, gSum, gIsi, gAbs, gInt, gStr, gEqB, gIsN, isNon, gRep, dRepM, dSl, dPart, dNoPart, gSl, dRev, dRevM, dM, dM0, gAppend, gPop, dFld, dSetF, dMeth, dMake, dPut, dDict, dPairs, dJoin, dJoined, dJs, dFmt, gIn, exOf, endD, on1, on2, ev_it0, ev_it1, ev_it2, ev_itn1, ev_itn, ev_len_t, ev_len_l, ev_sq_t, ev_sq_l, ev_lst_l, ev_so_t, ev_so_l, ev_so_k, ev_si_t, ev_si_l, ev_si_k, ev_ty_i, ev_ty_b, ev_ty_n, ev_ty_s, ev_ty_t, ev_ty_l, ev_eq_ii, ev_shp_i, ev_shp_b, ev_shp_n, ev_key_i, ev_key_s, kd_NoneType, kd_bool, kd_int, kd_str, kd_tuple, kd_list, kd_dict, ib_NoneType_NoneType, ib_NoneType_bool, ib_NoneType_int, ib_NoneType_str, ib_NoneType_tuple, ib_NoneType_list, ib_NoneType_dict, ib_bool_NoneType, ib_bool_bool, ib_bool_int, ib_bool_str, ib_bool_tuple, ib_bool_list, ib_bool_dict, ib_int_NoneType, ib_int_bool, ib_int_int, ib_int_str, ib_int_tuple, ib_int_list, ib_int_dict, ib_str_NoneType, ib_str_bool, ib_str_int, ib_str_str, ib_str_tuple, ib_str_list, ib_str_dict, ib_tuple_NoneType, ib_tuple_bool, ib_tuple_int, ib_tuple_str, ib_tuple_tuple, ib_tuple_list, ib_tuple_dict, ib_list_NoneType, ib_list_bool, ib_list_int, ib_list_str, ib_list_tuple, ib_list_list, ib_list_dict, ib_dict_NoneType, ib_dict_bool, ib_dict_int, ib_dict_str, ib_dict_tuple, ib_dict_list, ib_dict_dict, true_and, and_true, if_true, if_false, Bool.not_true, Bool.not_false, List.map_cons, List.map_nil, List.length_cons, List.length_nil, List.replicate, List.cons_append, List.nil_append, List.getElem?_cons_succ, List.getElem?_cons_zero, List.set_cons_succ, List.set_cons_zero, ite_true_eq, ite_false_eq, ite_nt_eq, ite_nf_eq, dec_true, dec_not, bxor_f, bxor_t]
    refine ⟨cm_small hwl hkl (by omega), _, _, rfl, by omega, ?_, m2, _, .refl, q _ m2 (divInt_bq ?_ (by omega) (by omega)) s2 (f1.trans f2)⟩
    · exact Nat.lt_trans (show k.natAbs < 2 ^ 5 by omega) (Nat.pow_lt_pow_right (by decide) (by decide))
    · obtain ⟨p1, p2⟩ := hv2
      rw [Int.mul_assoc] at p2
      omega
end Y
/-! M8: more of what the laws draw. -/
namespace Y
open PySem PySem.Spec PyProof.Rows L2
/-- a list of drawn things: every item is drawn from the source -/
theorem lc_draw {α : Type} {tg : Tg} {te : DE} {ρ : Env} {p a cs : Addr} {m : MM} {Q : D → MM → Prop} (en : α → D) (Ok : α → Prop) (c f n : Nat) (items : List D) (hlen : items.length = n) (hp : m p = none) (hn : n ≤ 1000)
    (hs : Src m a cs (f + c * n)) (ρ1 : D → Env) (htg : ∀ d ∈ items, Tg.d tg d ρ = some (ρ1 d))
    (draw : ∀ d ∈ items, ∀ (m1 : MM) (g : Nat) (N : D → MM → Prop), Src m1 a cs (g + c) → (∀ x m2, Ok x → Src m2 a cs g → Fr2 a cs m1 m2 → N (en x) m2) → te (ρ1 d) m1 N xF)
    (hQ : ∀ (xs : List α) m2, xs.length = n → (∀ x ∈ xs, Ok x) → Src m2 a cs f → Fr2 a cs m m2 → Q (.lst (xs.map en)) m2) :
    lcRec tg dYes te ρ p (fun _ => True) (fun acc m2 => finF p acc m2 Q) items [] (mset m p (.lst [])) := by
  have h0 := hs.some_a
  have na : p ≠ a := fun e => h0.1 (by rw [← e]; exact hp)
  have nc : p ≠ cs := fun e => h0.2 (by rw [← e]; exact hp)
  refine lc_ind (fun td acc m' => ∃ xs : List α, acc = xs.map en ∧ xs.length + td.length = n ∧ (∀ d ∈ td, d ∈ items) ∧ (∀ x ∈ xs, Ok x) ∧ m' p = some (.lst acc) ∧ Src m' a cs (f + c * td.length) ∧ ∀ b, b ≠ a → b ≠ cs → b ≠ p → m' b = m b) ?_ ?_ _ _ _ ⟨[], rfl, by simpa using hlen, fun d h => h, fun x h => by simp at h, mset_same, ?_, fun b _ _ h => mset_ne h⟩
  · rintro d r acc m' N hN ⟨xs, rfl, h1, h2, h3, h4, h5, h6⟩
    refine ⟨trivial, h4, ρ1 d, htg d (h2 d List.mem_cons_self), ?_⟩
    rw [List.length_cons, Nat.mul_add, Nat.mul_one, ← Nat.add_assoc] at h5
    refine draw d (h2 d List.mem_cons_self) m' _ _ h5 fun x m2 hx s2 f2 => ?_
    have h7 : m2 p = some (.lst (xs.map en)) := by rw [f2 p na nc]; exact h4
    refine ⟨h7, by rw [List.length_map]; exact Nat.lt_of_lt_of_le (show xs.length < 1001 by omega) (big_of (by decide)), hN _ _ ⟨xs ++ [x], by simp, by simp at h1 ⊢; omega, fun e he => h2 e (List.mem_cons_of_mem _ he), fun y hy => ?_, mset_same, s2.of (mset_ne (Ne.symm na)) (mset_ne (Ne.symm nc)), fun b e1 e2 e3 => ?_⟩⟩
    · rcases List.mem_append.mp hy with h | h
      · exact h3 y h
      · simp at h; subst h; exact hx
    · rw [mset_ne e3, f2 b e1 e2]; exact h6 b e1 e2 e3
  · rintro acc m' ⟨xs, rfl, h1, h2, h3, h4, h5, h6⟩
    refine ⟨trivial, h4, ?_⟩
    unfold finF
    refine hQ xs _ (by simpa using h1) h3 ?_ fun b e1 e2 => ?_
    · simp at h5
      exact h5.of (mdel_ne (Ne.symm na)) (mdel_ne (Ne.symm nc))
    · by_cases e : b = p
      · subst e
        rw [mdel_same, hp]
      · rw [mdel_ne e]; exact h6 b e1 e2 e
  · rw [hlen]
    exact hs.of (mset_ne (Ne.symm na)) (mset_ne (Ne.symm nc))
theorem rngD_len (lo : Int) (n : Nat) : (rngD lo n).length = n := by unfold rngD; simp
theorem rngD_mem {lo : Int} {n : Nat} {d : D} (h : d ∈ rngD lo n) : ∃ i : Nat, i < n ∧ d = .int (lo + i) := by
  unfold rngD at h
  obtain ⟨i, h1, h2⟩ := List.mem_map.mp h
  exact ⟨i, List.mem_range.mp h1, h2.symm⟩
def S__law_draw_row : DS := fun ds m Q X => ∃ (a cs : Addr) (n w f : Nat), ds = [.adr a, .int (n : Int), .int (w : Int)] ∧ Src m a cs (f + 2 * n) ∧ w ≤ 1000000 ∧ n ≤ 1000 ∧ ∀ r m', r.length = n → (∀ q ∈ r, Bq (3 * w) 3 q) → Src m' a cs f → Fr2 a cs m m' → Q (encR r) m'
def T__law_draw_row : DSt := (dRet (dCB gTupC (dCons (dLC (dRng1 (dCons (dVar 1) dNil)) (.nm 3) dYes (dCall S__law_draw_fraction (dCons (dVar 0) (dCons (dVar 2) dNil))) [3]) dNil)))
theorem H__law_draw_row (ds : List D) (m : MM) (Q : D → MM → Prop) (Px : XC) (h : S__law_draw_row ds m Q Px) : ds.length = 3 ∧ T__law_draw_row (endD Q Px) (startD ["_law_source", "_law_many", "_law_wide", "_law_k"] ds) m := by
  obtain ⟨a, cs, n, w, f, rfl, hs, hw, hn, q⟩ := h
  refine ⟨rfl, ?_⟩
  simp only [T__law_draw_row, startD, dSeq, dNext, dBreak, dCont, dSet, dIfE, dIfS, dB, dOp, dVar, dC, dCB, dCons, dNil, dUn, dRet, dRetN, dTup, dLst, dLstM, dCall, dDrop, dAsg, dT, Tg.d, Tgs.d, dNotT, dAndT, dOrT, dAndV, dOrV, dNotV, dPar, dFor, dSeqI, dRng1, dRng2, dZip2, dZip3, dEnum, dLC, dLCr, dLCM, finM, gII0, gII, onII, onI, gGcd, gNeg, gAdd, gIt, gIx, gLen, gTupC, gLstC, gLstCM, gAll, gAny, gBls, gSum, gIsi, gAbs, gInt, gStr, gEqB, gIsN, isNon, gRep, dRepM, dSl, dPart, dNoPart, gSl, dRev, dRevM, dM, dM0, gAppend, gPop, dFld, dSetF, dMeth, dMake, dPut, dDict, dPairs, dJoin, dJoined, dJs, dFmt, gIn, exOf, endD, on1, on2, ev_it0, ev_it1, ev_it2, ev_itn1, ev_itn, ev_len_t, ev_len_l, ev_sq_t, ev_sq_l, ev_lst_l, ev_so_t, ev_so_l, ev_so_k, ev_si_t, ev_si_l, ev_si_k, ev_ty_i, ev_ty_b, ev_ty_n, ev_ty_s, ev_ty_t, ev_ty_l, ev_eq_ii, ev_shp_i, ev_shp_b, ev_shp_n, ev_key_i, ev_key_s, kd_NoneType, kd_bool, kd_int, kd_str, kd_tuple, kd_list, kd_dict, ib_NoneType_NoneType, ib_NoneType_bool, ib_NoneType_int, ib_NoneType_str, ib_NoneType_tuple, ib_NoneType_list, ib_NoneType_dict, ib_bool_NoneType, ib_bool_bool, ib_bool_int, ib_bool_str, ib_bool_tuple, ib_bool_list, ib_bool_dict, ib_int_NoneType, ib_int_bool, ib_int_int, ib_int_str, ib_int_tuple, ib_int_list, ib_int_dict, ib_str_NoneType, ib_str_bool, ib_str_int, ib_str_str, ib_str_tuple, ib_str_list, ib_str_dict, ib_tuple_NoneType, ib_tuple_bool, ib_tuple_int, ib_tuple_str, ib_tuple_tuple, ib_tuple_list, ib_tuple_dict, ib_list_NoneType, ib_list_bool, ib_list_int, ib_list_str, ib_list_tuple, ib_list_list, ib_list_dict, ib_dict_NoneType, ib_dict_bool, ib_dict_int, ib_dict_str, ib_dict_tuple, ib_dict_list, ib_dict_dict, true_and, and_true, if_true, if_false, Bool.not_true, Bool.not_false, List.map_cons, List.map_nil, List.length_cons, List.length_nil, List.replicate, List.cons_append, List.nil_append, List.getElem?_cons_succ, List.getElem?_cons_zero, List.set_cons_succ, List.set_cons_zero, ite_true_eq, ite_false_eq, ite_nt_eq, ite_nf_eq, dec_true, dec_not, bxor_f, bxor_t]
  refine ⟨⟨by omega, by omega⟩, fun p hp => ?_⟩
  rw [Int.toNat_natCast]
  refine lc_draw enc (Bq (3 * w) 3) 2 f n _ (rngD_len 0 n) hp hn hs (fun d => [some (.adr a), some (.int (n : Int)), some (.int (w : Int)), some d]) (fun d _ => rfl) (fun d hd m1 g N s1 k1 => ?_) fun xs m2 h1 h2 h3 h4 => ?_
  · simp only [startD, dSeq, dNext, dBreak, dCont, dSet, dIfE, dIfS, dB, dOp, dVar, dC, dCB, dCons, dNil, dUn, dRet, dRetN, dTup, dLst, dLstM, dCall, dDrop, dAsg, dT, Tg.d, Tgs.d, dNotT, dAndT, dOrT, dAndV, dOrV, dNotV, dPar, dFor, dSeqI, dRng1, dRng2, dZip2, dZip3, dEnum, dLC, dLCr, dLCM, finM, gII0, gII, onII, onI, gGcd, gNeg, gAdd, gIt, gIx, gLen, gTupC, gLstC, gLstCM, gAll, gAny, gBls, gSum, gIsi, gAbs, gInt, gStr, gEqB, gIsN, isNon, gRep, dRepM, dSl, dPart, dNoPart, gSl, dRev, dRevM, dM, dM0, gAppend, gPop, dFld, dSetF, dMeth, dMake, dPut, dDict, dPairs, dJoin, dJoined, dJs, dFmt, gIn, exOf, endD, on1, on2, ev_it0, ev_it1, ev_it2, ev_itn1, ev_itn, ev_len_t, ev_len_l, ev_sq_t, ev_sq_l, ev_lst_l, ev_so_t, ev_so_l, ev_so_k, ev_si_t, ev_si_l, ev_si_k, ev_ty_i, ev_ty_b, ev_ty_n, ev_ty_s, ev_ty_t, ev_ty_l, ev_eq_ii, ev_shp_i, ev_shp_b, ev_shp_n, ev_key_i, ev_key_s, kd_NoneType, kd_bool, kd_int, kd_str, kd_tuple, kd_list, kd_dict, ib_NoneType_NoneType, ib_NoneType_bool, ib_NoneType_int, ib_NoneType_str, ib_NoneType_tuple, ib_NoneType_list, ib_NoneType_dict, ib_bool_NoneType, ib_bool_bool, ib_bool_int, ib_bool_str, ib_bool_tuple, ib_bool_list, ib_bool_dict, ib_int_NoneType, ib_int_bool, ib_int_int, ib_int_str, ib_int_tuple, ib_int_list, ib_int_dict, ib_str_NoneType, ib_str_bool, ib_str_int, ib_str_str, ib_str_tuple, ib_str_list, ib_str_dict, ib_tuple_NoneType, ib_tuple_bool, ib_tuple_int, ib_tuple_str, ib_tuple_tuple, ib_tuple_list, ib_tuple_dict, ib_list_NoneType, ib_list_bool, ib_list_int, ib_list_str, ib_list_tuple, ib_list_list, ib_list_dict, ib_dict_NoneType, ib_dict_bool, ib_dict_int, ib_dict_str, ib_dict_tuple, ib_dict_list, ib_dict_dict, true_and, and_true, if_true, if_false, Bool.not_true, Bool.not_false, List.map_cons, List.map_nil, List.length_cons, List.length_nil, List.replicate, List.cons_append, List.nil_append, List.getElem?_cons_succ, List.getElem?_cons_zero, List.set_cons_succ, List.set_cons_zero, ite_true_eq, ite_false_eq, ite_nt_eq, ite_nf_eq, dec_true, dec_not, bxor_f, bxor_t]
    exact ⟨a, cs, w, g, rfl, s1, hw, k1⟩
  · simp only [startD, dSeq, dNext, dBreak, dCont, dSet, dIfE, dIfS, dB, dOp, dVar, dC, dCB, dCons, dNil, dUn, dRet, dRetN, dTup, dLst, dLstM, dCall, dDrop, dAsg, dT, Tg.d, Tgs.d, dNotT, dAndT, dOrT, dAndV, dOrV, dNotV, dPar, dFor, dSeqI, dRng1, dRng2, dZip2, dZip3, dEnum, dLC, dLCr, dLCM, finM, gII0, gII, onII, onI, gGcd, gNeg, gAdd, gIt, gIx, gLen, gTupC, gLstC, gLstCM, gAll, gAny, gBls, gSum, gIsi, gAbs, gInt, gStr, gEqB, gIsN, isNon, gRep, dRepM, dSl, dPart, dNoPart, gSl, dRev, dRevM, dM, dM0, gAppend, gPop, dFld, dSetF, dMeth, dMake, dPut, dDict, dPairs, dJoin, dJoined, dJs, dFmt, gIn, exOf, endD, on1, on2, ev_it0, ev_it1, ev_it2, ev_itn1, ev_itn, ev_len_t, ev_len_l, ev_sq_t, ev_sq_l, ev_lst_l, ev_so_t, ev_so_l, ev_so_k, ev_si_t, ev_si_l, ev_si_k, ev_ty_i, ev_ty_b, ev_ty_n, ev_ty_s, ev_ty_t, ev_ty_l, ev_eq_ii, ev_shp_i, ev_shp_b, ev_shp_n, ev_key_i, ev_key_s, kd_NoneType, kd_bool, kd_int, kd_str, kd_tuple, kd_list, kd_dict, ib_NoneType_NoneType, ib_NoneType_bool, ib_NoneType_int, ib_NoneType_str, ib_NoneType_tuple, ib_NoneType_list, ib_NoneType_dict, ib_bool_NoneType, ib_bool_bool, ib_bool_int, ib_bool_str, ib_bool_tuple, ib_bool_list, ib_bool_dict, ib_int_NoneType, ib_int_bool, ib_int_int, ib_int_str, ib_int_tuple, ib_int_list, ib_int_dict, ib_str_NoneType, ib_str_bool, ib_str_int, ib_str_str, ib_str_tuple, ib_str_list, ib_str_dict, ib_tuple_NoneType, ib_tuple_bool, ib_tuple_int, ib_tuple_str, ib_tuple_tuple, ib_tuple_list, ib_tuple_dict, ib_list_NoneType, ib_list_bool, ib_list_int, ib_list_str, ib_list_tuple, ib_list_list, ib_list_dict, ib_dict_NoneType, ib_dict_bool, ib_dict_int, ib_dict_str, ib_dict_tuple, ib_dict_list, ib_dict_dict, true_and, and_true, if_true, if_false, Bool.not_true, Bool.not_false, List.map_cons, List.map_nil, List.length_cons, List.length_nil, List.replicate, List.cons_append, List.nil_append, List.getElem?_cons_succ, List.getElem?_cons_zero, List.set_cons_succ, List.set_cons_zero, ite_true_eq, ite_false_eq, ite_nt_eq, ite_nf_eq, dec_true, dec_not, bxor_f, bxor_t]
    exact ⟨m2, _, .refl, q xs m2 h1 h2 h3 h4⟩
def S__law_number : DS := fun ds m Q X => ∃ (a cs : Addr) (f : Nat), ds = [.adr a] ∧ Src m a cs (f + 3) ∧ ∀ (v : Int) m', v.natAbs ≤ 2147483647 → Src m' a cs f → Fr2 a cs m m' → Q (.int v) m'
def T__law_number : DSt := (dSeq (dSet 1 (dCall S__law_pick (dCons (dVar 0) (dCons (dC (.int 9)) dNil))))
  (dSeq (dIfS (dB (dOp gEq (dVar 1) (dC (.int 0)))) (dRet (dOp gIt (dLst (dCons (dOp gSub (dOp gPow (dC (.int 10)) (dC (.int 9))) (dC (.int 1))) (dCons (dOp gSub (dC (.int 1)) (dOp gPow (dC (.int 10)) (dC (.int 9)))) (dCons (dOp gPow (dC (.int 2)) (dC (.int 29))) (dCons (dOp gPow (dC (.int 3)) (dC (.int 18))) (dCons (dC (.int 360360)) dNil)))))) (dCall S__law_pick (dCons (dVar 0) (dCons (dC (.int 5)) dNil))))) dNext)
  (dRet (dIfE (dB (dOp gGt (dVar 1) (dC (.int 1)))) (dOp gSub (dCall S__law_pick (dCons (dVar 0) (dCons (dC (.int 25)) dNil))) (dC (.int 12))) (dOp gSub (dOp gAdd (dOp gMul (dCall S__law_pick (dCons (dVar 0) (dCons (dC (.int 44721)) dNil))) (dC (.int 44721))) (dCall S__law_pick (dCons (dVar 0) (dCons (dC (.int 44721)) dNil)))) (dC (.int 999999999)))))))
theorem small_pow {n : Int} (h : n ≤ 1000000000) : n < (2 : Int) ^ 8000 := by
  have e1 : (2 : Int) ^ 8000 = ((2 ^ 8000 : Nat) : Int) := by norm_cast
  have e2 : (2 ^ 30 : Nat) ≤ 2 ^ 8000 := Nat.pow_le_pow_right (by decide) (by decide)
  rw [e1]
  have : (2 ^ 30 : Nat) = 1073741824 := by decide
  omega
theorem H__law_number (ds : List D) (m : MM) (Q : D → MM → Prop) (Px : XC) (h : S__law_number ds m Q Px) : ds.length = 1 ∧ T__law_number (endD Q Px) (startD ["_law_source", "_law_kind"] ds) m := by
  obtain ⟨a, cs, f, rfl, hs, q⟩ := h
  refine ⟨rfl, ?_⟩
  simp only [T__law_number, startD, dSeq, dNext, dBreak, dCont, dSet, dIfE, dIfS, dB, dOp, dVar, dC, dCB, dCons, dNil, dUn, dRet, dRetN, dTup, dLst, dLstM, dCall, dDrop, dAsg, dT, Tg.d, Tgs.d, dNotT, dAndT, dOrT, dAndV, dOrV, dNotV, dPar, dFor, dSeqI, dRng1, dRng2, dZip2, dZip3, dEnum, dLC, dLCr, dLCM, finM, gII0, gII, onII, onI, gGcd, gNeg, gAdd, gIt, gIx, gLen, gTupC, gLstC, gLstCM, gAll, gAny, gBls, gSum, gIsi, gAbs, gInt, gStr, gEqB, gIsN, isNon, gRep, dRepM, dSl, dPart, dNoPart, gSl, dRev, dRevM, dM, dM0, gAppend, gPop, dFld, dSetF, dMeth, dMake, dPut, dDict, dPairs, dJoin, dJoined, dJs, dFmt, gIn, exOf, endD, on1, on2, ev_it0, ev_it1, ev_it2, ev_itn1, ev_itn, ev_len_t, ev_len_l, ev_sq_t, ev_sq_l, ev_lst_l, ev_so_t, ev_so_l, ev_so_k, ev_si_t, ev_si_l, ev_si_k, ev_ty_i, ev_ty_b, ev_ty_n, ev_ty_s, ev_ty_t, ev_ty_l, ev_eq_ii, ev_shp_i, ev_shp_b, ev_shp_n, ev_key_i, ev_key_s, kd_NoneType, kd_bool, kd_int, kd_str, kd_tuple, kd_list, kd_dict, ib_NoneType_NoneType, ib_NoneType_bool, ib_NoneType_int, ib_NoneType_str, ib_NoneType_tuple, ib_NoneType_list, ib_NoneType_dict, ib_bool_NoneType, ib_bool_bool, ib_bool_int, ib_bool_str, ib_bool_tuple, ib_bool_list, ib_bool_dict, ib_int_NoneType, ib_int_bool, ib_int_int, ib_int_str, ib_int_tuple, ib_int_list, ib_int_dict, ib_str_NoneType, ib_str_bool, ib_str_int, ib_str_str, ib_str_tuple, ib_str_list, ib_str_dict, ib_tuple_NoneType, ib_tuple_bool, ib_tuple_int, ib_tuple_str, ib_tuple_tuple, ib_tuple_list, ib_tuple_dict, ib_list_NoneType, ib_list_bool, ib_list_int, ib_list_str, ib_list_tuple, ib_list_list, ib_list_dict, ib_dict_NoneType, ib_dict_bool, ib_dict_int, ib_dict_str, ib_dict_tuple, ib_dict_list, ib_dict_dict, true_and, and_true, if_true, if_false, Bool.not_true, Bool.not_false, List.map_cons, List.map_nil, List.length_cons, List.length_nil, List.replicate, List.cons_append, List.nil_append, List.getElem?_cons_succ, List.getElem?_cons_zero, List.set_cons_succ, List.set_cons_zero, ite_true_eq, ite_false_eq, ite_nt_eq, ite_nf_eq, dec_true, dec_not, bxor_f, bxor_t]
  refine ⟨a, cs, 9, f + 2, rfl, hs, small_pow (by decide), fun v m1 hv s1 f1 => ?_⟩
  simp only [startD, dSeq, dNext, dBreak, dCont, dSet, dIfE, dIfS, dB, dOp, dVar, dC, dCB, dCons, dNil, dUn, dRet, dRetN, dTup, dLst, dLstM, dCall, dDrop, dAsg, dT, Tg.d, Tgs.d, dNotT, dAndT, dOrT, dAndV, dOrV, dNotV, dPar, dFor, dSeqI, dRng1, dRng2, dZip2, dZip3, dEnum, dLC, dLCr, dLCM, finM, gII0, gII, onII, onI, gGcd, gNeg, gAdd, gIt, gIx, gLen, gTupC, gLstC, gLstCM, gAll, gAny, gBls, gSum, gIsi, gAbs, gInt, gStr, gEqB, gIsN, isNon, gRep, dRepM, dSl, dPart, dNoPart, gSl, dRev, dRevM, dM, dM0, gAppend, gPop, dFld, dSetF, dMeth, dMake, dPut, dDict, dPairs, dJoin, dJoined, dJs, dFmt, gIn, exOf, endD, on1, on2, ev_it0, ev_it1, ev_it2, ev_itn1, ev_itn, ev_len_t, ev_len_l, ev_sq_t, ev_sq_l, ev_lst_l, ev_so_t, ev_so_l, ev_so_k, ev_si_t, ev_si_l, ev_si_k, ev_ty_i, ev_ty_b, ev_ty_n, ev_ty_s, ev_ty_t, ev_ty_l, ev_eq_ii, ev_shp_i, ev_shp_b, ev_shp_n, ev_key_i, ev_key_s, kd_NoneType, kd_bool, kd_int, kd_str, kd_tuple, kd_list, kd_dict, ib_NoneType_NoneType, ib_NoneType_bool, ib_NoneType_int, ib_NoneType_str, ib_NoneType_tuple, ib_NoneType_list, ib_NoneType_dict, ib_bool_NoneType, ib_bool_bool, ib_bool_int, ib_bool_str, ib_bool_tuple, ib_bool_list, ib_bool_dict, ib_int_NoneType, ib_int_bool, ib_int_int, ib_int_str, ib_int_tuple, ib_int_list, ib_int_dict, ib_str_NoneType, ib_str_bool, ib_str_int, ib_str_str, ib_str_tuple, ib_str_list, ib_str_dict, ib_tuple_NoneType, ib_tuple_bool, ib_tuple_int, ib_tuple_str, ib_tuple_tuple, ib_tuple_list, ib_tuple_dict, ib_list_NoneType, ib_list_bool, ib_list_int, ib_list_str, ib_list_tuple, ib_list_list, ib_list_dict, ib_dict_NoneType, ib_dict_bool, ib_dict_int, ib_dict_str, ib_dict_tuple, ib_dict_list, ib_dict_dict, true_and, and_true, if_true, if_false, Bool.not_true, Bool.not_false, List.map_cons, List.map_nil, List.length_cons, List.length_nil, List.replicate, List.cons_append, List.nil_append, List.getElem?_cons_succ, List.getElem?_cons_zero, List.set_cons_succ, List.set_cons_zero, ite_true_eq, ite_false_eq, ite_nt_eq, ite_nf_eq, dec_true, dec_not, bxor_f, bxor_t]
  by_cases h0 : v = 0
  · rw [if_pos h0]
    refine ⟨⟨by decide, by decide, by decide⟩, ⟨by decide, by decide, by decide⟩, ⟨by decide, by decide, by decide⟩, ⟨by decide, by decide, by decide⟩, big_of (by decide), a, cs, 5, f + 1, rfl, s1, small_pow (by decide), fun u m2 hu s2 f2 => ?_⟩
    simp only [it_lst, startD, dSeq, dNext, dBreak, dCont, dSet, dIfE, dIfS, dB, dOp, dVar, dC, dCB, dCons, dNil, dUn, dRet, dRetN, dTup, dLst, dLstM, dCall, dDrop, dAsg, dT, Tg.d, Tgs.d, dNotT, dAndT, dOrT, dAndV, dOrV, dNotV, dPar, dFor, dSeqI, dRng1, dRng2, dZip2, dZip3, dEnum, dLC, dLCr, dLCM, finM, gII0, gII, onII, onI, gGcd, gNeg, gAdd, gIt, gIx, gLen, gTupC, gLstC, gLstCM, gAll, gAny, gBls, gSum, gIsi, gAbs, gInt, gStr, gEqB, gIsN, isNon, gRep, dRepM, dSl, dPart, dNoPart, gSl, dRev, dRevM, dM, dM0, gAppend, gPop, dFld, dSetF, dMeth, dMake, dPut, dDict, dPairs, dJoin, dJoined, dJs, dFmt, gIn, exOf, endD, on1, on2, ev_it0, ev_it1, ev_it2, ev_itn1, ev_itn, ev_len_t, ev_len_l, ev_sq_t, ev_sq_l, ev_lst_l, ev_so_t, ev_so_l, ev_so_k, ev_si_t, ev_si_l, ev_si_k, ev_ty_i, ev_ty_b, ev_ty_n, ev_ty_s, ev_ty_t, ev_ty_l, ev_eq_ii, ev_shp_i, ev_shp_b, ev_shp_n, ev_key_i, ev_key_s, kd_NoneType, kd_bool, kd_int, kd_str, kd_tuple, kd_list, kd_dict, ib_NoneType_NoneType, ib_NoneType_bool, ib_NoneType_int, ib_NoneType_str, ib_NoneType_tuple, ib_NoneType_list, ib_NoneType_dict, ib_bool_NoneType, ib_bool_bool, ib_bool_int, ib_bool_str, ib_bool_tuple, ib_bool_list, ib_bool_dict, ib_int_NoneType, ib_int_bool, ib_int_int, ib_int_str, ib_int_tuple, ib_int_list, ib_int_dict, ib_str_NoneType, ib_str_bool, ib_str_int, ib_str_str, ib_str_tuple, ib_str_list, ib_str_dict, ib_tuple_NoneType, ib_tuple_bool, ib_tuple_int, ib_tuple_str, ib_tuple_tuple, ib_tuple_list, ib_tuple_dict, ib_list_NoneType, ib_list_bool, ib_list_int, ib_list_str, ib_list_tuple, ib_list_list, ib_list_dict, ib_dict_NoneType, ib_dict_bool, ib_dict_int, ib_dict_str, ib_dict_tuple, ib_dict_list, ib_dict_dict, true_and, and_true, if_true, if_false, Bool.not_true, Bool.not_false, List.map_cons, List.map_nil, List.length_cons, List.length_nil, List.replicate, List.cons_append, List.nil_append, List.getElem?_cons_succ, List.getElem?_cons_zero, List.set_cons_succ, List.set_cons_zero, ite_true_eq, ite_false_eq, ite_nt_eq, ite_nf_eq, dec_true, dec_not, bxor_f, bxor_t]
    obtain ⟨d, hd, hm⟩ := at_pick (l := [D.int (10 ^ Int.toNat 9 - 1), D.int (1 - 10 ^ Int.toNat 9), D.int (2 ^ Int.toNat 29), D.int (3 ^ Int.toNat 18), D.int 360360]) hu (by simp) (by simp)
    rw [hd]
    obtain ⟨k, rfl, hk⟩ : ∃ k : Int, d = .int k ∧ k.natAbs ≤ 2147483647 := by
      simp only [List.mem_cons, List.not_mem_nil, or_false] at hm
      rcases hm with rfl | rfl | rfl | rfl | rfl <;> exact ⟨_, rfl, by decide⟩
    exact ⟨m2, _, .refl, q k m2 hk (s2.le (by omega)) (f1.trans f2)⟩
  · rw [if_neg h0]
    by_cases h1 : 1 < v
    · rw [if_pos h1]
      refine ⟨a, cs, 25, f + 1, rfl, s1, small_pow (by decide), fun u m2 hu s2 f2 => ?_⟩
      simp only [startD, dSeq, dNext, dBreak, dCont, dSet, dIfE, dIfS, dB, dOp, dVar, dC, dCB, dCons, dNil, dUn, dRet, dRetN, dTup, dLst, dLstM, dCall, dDrop, dAsg, dT, Tg.d, Tgs.d, dNotT, dAndT, dOrT, dAndV, dOrV, dNotV, dPar, dFor, dSeqI, dRng1, dRng2, dZip2, dZip3, dEnum, dLC, dLCr, dLCM, finM, gII0, gII, onII, onI, gGcd, gNeg, gAdd, gIt, gIx, gLen, gTupC, gLstC, gLstCM, gAll, gAny, gBls, gSum, gIsi, gAbs, gInt, gStr, gEqB, gIsN, isNon, gRep, dRepM, dSl, dPart, dNoPart, gSl, dRev, dRevM, dM, dM0, gAppend, gPop, dFld, dSetF, dMeth, dMake, dPut, dDict, dPairs, dJoin, dJoined, dJs, dFmt, gIn, exOf, endD, on1, on2, ev_it0, ev_it1, ev_it2, ev_itn1, ev_itn, ev_len_t, ev_len_l, ev_sq_t, ev_sq_l, ev_lst_l, ev_so_t, ev_so_l, ev_so_k, ev_si_t, ev_si_l, ev_si_k, ev_ty_i, ev_ty_b, ev_ty_n, ev_ty_s, ev_ty_t, ev_ty_l, ev_eq_ii, ev_shp_i, ev_shp_b, ev_shp_n, ev_key_i, ev_key_s, kd_NoneType, kd_bool, kd_int, kd_str, kd_tuple, kd_list, kd_dict, ib_NoneType_NoneType, ib_NoneType_bool, ib_NoneType_int, ib_NoneType_str, ib_NoneType_tuple, ib_NoneType_list, ib_NoneType_dict, ib_bool_NoneType, ib_bool_bool, ib_bool_int, ib_bool_str, ib_bool_tuple, ib_bool_list, ib_bool_dict, ib_int_NoneType, ib_int_bool, ib_int_int, ib_int_str, ib_int_tuple, ib_int_list, ib_int_dict, ib_str_NoneType, ib_str_bool, ib_str_int, ib_str_str, ib_str_tuple, ib_str_list, ib_str_dict, ib_tuple_NoneType, ib_tuple_bool, ib_tuple_int, ib_tuple_str, ib_tuple_tuple, ib_tuple_list, ib_tuple_dict, ib_list_NoneType, ib_list_bool, ib_list_int, ib_list_str, ib_list_tuple, ib_list_list, ib_list_dict, ib_dict_NoneType, ib_dict_bool, ib_dict_int, ib_dict_str, ib_dict_tuple, ib_dict_list, ib_dict_dict, true_and, and_true, if_true, if_false, Bool.not_true, Bool.not_false, List.map_cons, List.map_nil, List.length_cons, List.length_nil, List.replicate, List.cons_append, List.nil_append, List.getElem?_cons_succ, List.getElem?_cons_zero, List.set_cons_succ, List.set_cons_zero, ite_true_eq, ite_false_eq, ite_nt_eq, ite_nf_eq, dec_true, dec_not, bxor_f, bxor_t]
      refine ⟨m2, _, .refl, q _ m2 ?_ (s2.le (by omega)) (f1.trans f2)⟩
      obtain ⟨a1, a2⟩ := hu
      omega
    · rw [if_neg h1]
      refine ⟨a, cs, 44721, f + 1, rfl, s1, small_pow (by decide), fun u m2 hu s2 f2 => ?_⟩
      simp only [startD, dSeq, dNext, dBreak, dCont, dSet, dIfE, dIfS, dB, dOp, dVar, dC, dCB, dCons, dNil, dUn, dRet, dRetN, dTup, dLst, dLstM, dCall, dDrop, dAsg, dT, Tg.d, Tgs.d, dNotT, dAndT, dOrT, dAndV, dOrV, dNotV, dPar, dFor, dSeqI, dRng1, dRng2, dZip2, dZip3, dEnum, dLC, dLCr, dLCM, finM, gII0, gII, onII, onI, gGcd, gNeg, gAdd, gIt, gIx, gLen, gTupC, gLstC, gLstCM, gAll, gAny, gBls, gSum, gIsi, gAbs, gInt, gStr, gEqB, gIsN, isNon, gRep, dRepM, dSl, dPart, dNoPart, gSl, dRev, dRevM, dM, dM0, gAppend, gPop, dFld, dSetF, dMeth, dMake, dPut, dDict, dPairs, dJoin, dJoined, dJs, dFmt, gIn, exOf, endD, on1, on2, ev_it0, ev_it1, ev_it2, ev_itn1, ev_itn, ev_len_t, ev_len_l, ev_sq_t, ev_sq_l, ev_lst_l, ev_so_t, ev_so_l, ev_so_k, ev_si_t, ev_si_l, ev_si_k, ev_ty_i, ev_ty_b, ev_ty_n, ev_ty_s, ev_ty_t, ev_ty_l, ev_eq_ii, ev_shp_i, ev_shp_b, ev_shp_n, ev_key_i, ev_key_s, kd_NoneType, kd_bool, kd_int, kd_str, kd_tuple, kd_list, kd_dict, ib_NoneType_NoneType, ib_NoneType_bool, ib_NoneType_int, ib_NoneType_str, ib_NoneType_tuple, ib_NoneType_list, ib_NoneType_dict, ib_bool_NoneType, ib_bool_bool, ib_bool_int, ib_bool_str, ib_bool_tuple, ib_bool_list, ib_bool_dict, ib_int_NoneType, ib_int_bool, ib_int_int, ib_int_str, ib_int_tuple, ib_int_list, ib_int_dict, ib_str_NoneType, ib_str_bool, ib_str_int, ib_str_str, ib_str_tuple, ib_str_list, ib_str_dict, ib_tuple_NoneType, ib_tuple_bool, ib_tuple_int, ib_tuple_str, ib_tuple_tuple, ib_tuple_list, ib_tuple_dict, ib_list_NoneType, ib_list_bool, ib_list_int, ib_list_str, ib_list_tuple, ib_list_list, ib_list_dict, ib_dict_NoneType, ib_dict_bool, ib_dict_int, ib_dict_str, ib_dict_tuple, ib_dict_list, ib_dict_dict, true_and, and_true, if_true, if_false, Bool.not_true, Bool.not_false, List.map_cons, List.map_nil, List.length_cons, List.length_nil, List.replicate, List.cons_append, List.nil_append, List.getElem?_cons_succ, List.getElem?_cons_zero, List.set_cons_succ, List.set_cons_zero, ite_true_eq, ite_false_eq, ite_nt_eq, ite_nf_eq, dec_true, dec_not, bxor_f, bxor_t]
      obtain ⟨a1, a2⟩ := hu
      refine ⟨cm_small (lg31 a1 (by omega)) (by decide : (44721 : Int).natAbs.log2 ≤ 31) (by omega), a, cs, 44721, f, rfl, s2, small_pow (by decide), fun z m3 hz s3 f3 => ?_⟩
      simp only [startD, dSeq, dNext, dBreak, dCont, dSet, dIfE, dIfS, dB, dOp, dVar, dC, dCB, dCons, dNil, dUn, dRet, dRetN, dTup, dLst, dLstM, dCall, dDrop, dAsg, dT, Tg.d, Tgs.d, dNotT, dAndT, dOrT, dAndV, dOrV, dNotV, dPar, dFor, dSeqI, dRng1, dRng2, dZip2, dZip3, dEnum, dLC, dLCr, dLCM, finM, gII0, gII, onII, onI, gGcd, gNeg, gAdd, gIt, gIx, gLen, gTupC, gLstC, gLstCM, gAll, gAny, gBls, gSum, gIsi, gAbs, gInt, gStr, gEqB, gIsN, isNon, gRep, dRepM, dSl, dPart, dNoPart, gSl, dRev, dRevM, dM, dM0, gAppend, gPop, dFld, dSetF, dMeth, dMake, dPut, dDict, dPairs, dJoin, dJoined, dJs, dFmt, gIn, exOf, endD, on1, on2, ev_it0, ev_it1, ev_it2, ev_itn1, ev_itn, ev_len_t, ev_len_l, ev_sq_t, ev_sq_l, ev_lst_l, ev_so_t, ev_so_l, ev_so_k, ev_si_t, ev_si_l, ev_si_k, ev_ty_i, ev_ty_b, ev_ty_n, ev_ty_s, ev_ty_t, ev_ty_l, ev_eq_ii, ev_shp_i, ev_shp_b, ev_shp_n, ev_key_i, ev_key_s, kd_NoneType, kd_bool, kd_int, kd_str, kd_tuple, kd_list, kd_dict, ib_NoneType_NoneType, ib_NoneType_bool, ib_NoneType_int, ib_NoneType_str, ib_NoneType_tuple, ib_NoneType_list, ib_NoneType_dict, ib_bool_NoneType, ib_bool_bool, ib_bool_int, ib_bool_str, ib_bool_tuple, ib_bool_list, ib_bool_dict, ib_int_NoneType, ib_int_bool, ib_int_int, ib_int_str, ib_int_tuple, ib_int_list, ib_int_dict, ib_str_NoneType, ib_str_bool, ib_str_int, ib_str_str, ib_str_tuple, ib_str_list, ib_str_dict, ib_tuple_NoneType, ib_tuple_bool, ib_tuple_int, ib_tuple_str, ib_tuple_tuple, ib_tuple_list, ib_tuple_dict, ib_list_NoneType, ib_list_bool, ib_list_int, ib_list_str, ib_list_tuple, ib_list_list, ib_list_dict, ib_dict_NoneType, ib_dict_bool, ib_dict_int, ib_dict_str, ib_dict_tuple, ib_dict_list, ib_dict_dict, true_and, and_true, if_true, if_false, Bool.not_true, Bool.not_false, List.map_cons, List.map_nil, List.length_cons, List.length_nil, List.replicate, List.cons_append, List.nil_append, List.getElem?_cons_succ, List.getElem?_cons_zero, List.set_cons_succ, List.set_cons_zero, ite_true_eq, ite_false_eq, ite_nt_eq, ite_nf_eq, dec_true, dec_not, bxor_f, bxor_t]
      obtain ⟨b1, b2⟩ := hz
      exact ⟨m3, _, .refl, q _ m3 (by omega) s3 ((f1.trans f2).trans f3)⟩
def S__law_drawn : DS := fun ds m Q X => ∃ (a cs : Addr) (f : Nat), ds = [.adr a] ∧ Src m a cs (f + 6) ∧ ∀ (x : Rat) m', Bq 2147483647 2147483647 x → Src m' a cs f → Fr2 a cs m m' → Q (enc x) m'
def T__law_drawn : DSt := (dSeq (dSet 1 (dCall S__law_number (dCons (dVar 0) dNil)))
  (dRet (dCall S__law_fraction (dCons (dCall S__law_number (dCons (dVar 0) dNil)) (dCons (dIfE (dB (dOp gNe (dVar 1) (dC (.int 0)))) (dVar 1) (dC (.int 7))) dNil)))))
theorem H__law_drawn (ds : List D) (m : MM) (Q : D → MM → Prop) (Px : XC) (h : S__law_drawn ds m Q Px) : ds.length = 1 ∧ T__law_drawn (endD Q Px) (startD ["_law_source", "_law_lower"] ds) m := by
  obtain ⟨a, cs, f, rfl, hs, q⟩ := h
  refine ⟨rfl, ?_⟩
  simp only [T__law_drawn, startD, dSeq, dNext, dBreak, dCont, dSet, dIfE, dIfS, dB, dOp, dVar, dC, dCB, dCons, dNil, dUn, dRet, dRetN, dTup, dLst, dLstM, dCall, dDrop, dAsg, dT, Tg.d, Tgs.d, dNotT, dAndT, dOrT, dAndV, dOrV, dNotV, dPar, dFor, dSeqI, dRng1, dRng2, dZip2, dZip3, dEnum, dLC, dLCr, dLCM, finM, gII0, gII, onII, onI, gGcd, gNeg, gAdd, gIt, gIx, gLen, gTupC, gLstC, gLstCM, gAll, gAny, gBls, gSum, gIsi, gAbs, gInt, gStr, gEqB, gIsN, isNon, gRep, dRepM, dSl, dPart, dNoPart, gSl, dRev, dRevM, dM, dM0, gAppend, gPop, dFld, dSetF, dMeth, dMake, dPut, dDict, dPairs, dJoin, dJoined, dJs, dFmt, gIn, exOf, endD, on1, on2, ev_it0, ev_it1, ev_it2, ev_itn1, ev_itn, ev_len_t, ev_len_l, ev_sq_t, ev_sq_l, ev_lst_l, ev_so_t, ev_so_l, ev_so_k, ev_si_t, ev_si_l, ev_si_k, ev_ty_i, ev_ty_b, ev_ty_n, ev_ty_s, ev_ty_t, ev_ty_l, ev_eq_ii, ev_shp_i, ev_shp_b, ev_shp_n, ev_key_i, ev_key_s, kd_NoneType, kd_bool, kd_int, kd_str, kd_tuple, kd_list, kd_dict, ib_NoneType_NoneType, ib_NoneType_bool, ib_NoneType_int, ib_NoneType_str, ib_NoneType_tuple, ib_NoneType_list, ib_NoneType_dict, ib_bool_NoneType, ib_bool_bool, ib_bool_int, ib_bool_str, ib_bool_tuple, ib_bool_list, ib_bool_dict, ib_int_NoneType, ib_int_bool, ib_int_int, ib_int_str, ib_int_tuple, ib_int_list, ib_int_dict, ib_str_NoneType, ib_str_bool, ib_str_int, ib_str_str, ib_str_tuple, ib_str_list, ib_str_dict, ib_tuple_NoneType, ib_tuple_bool, ib_tuple_int, ib_tuple_str, ib_tuple_tuple, ib_tuple_list, ib_tuple_dict, ib_list_NoneType, ib_list_bool, ib_list_int, ib_list_str, ib_list_tuple, ib_list_list, ib_list_dict, ib_dict_NoneType, ib_dict_bool, ib_dict_int, ib_dict_str, ib_dict_tuple, ib_dict_list, ib_dict_dict, true_and, and_true, if_true, if_false, Bool.not_true, Bool.not_false, List.map_cons, List.map_nil, List.length_cons, List.length_nil, List.replicate, List.cons_append, List.nil_append, List.getElem?_cons_succ, List.getElem?_cons_zero, List.set_cons_succ, List.set_cons_zero, ite_true_eq, ite_false_eq, ite_nt_eq, ite_nf_eq, dec_true, dec_not, bxor_f, bxor_t]
  refine ⟨a, cs, f + 3, rfl, hs, fun v m1 hv s1 f1 => ?_⟩
  simp only [startD, dSeq, dNext, dBreak, dCont, dSet, dIfE, dIfS, dB, dOp, dVar, dC, dCB, dCons, dNil, dUn, dRet, dRetN, dTup, dLst, dLstM, dCall, dDrop, dAsg, dT, Tg.d, Tgs.d, dNotT, dAndT, dOrT, dAndV, dOrV, dNotV, dPar, dFor, dSeqI, dRng1, dRng2, dZip2, dZip3, dEnum, dLC, dLCr, dLCM, finM, gII0, gII, onII, onI, gGcd, gNeg, gAdd, gIt, gIx, gLen, gTupC, gLstC, gLstCM, gAll, gAny, gBls, gSum, gIsi, gAbs, gInt, gStr, gEqB, gIsN, isNon, gRep, dRepM, dSl, dPart, dNoPart, gSl, dRev, dRevM, dM, dM0, gAppend, gPop, dFld, dSetF, dMeth, dMake, dPut, dDict, dPairs, dJoin, dJoined, dJs, dFmt, gIn, exOf, endD, on1, on2, ev_it0, ev_it1, ev_it2, ev_itn1, ev_itn, ev_len_t, ev_len_l, ev_sq_t, ev_sq_l, ev_lst_l, ev_so_t, ev_so_l, ev_so_k, ev_si_t, ev_si_l, ev_si_k, ev_ty_i, ev_ty_b, ev_ty_n, ev_ty_s, ev_ty_t, ev_ty_l, ev_eq_ii, ev_shp_i, ev_shp_b, ev_shp_n, ev_key_i, ev_key_s, kd_NoneType, kd_bool, kd_int, kd_str, kd_tuple, kd_list, kd_dict, ib_NoneType_NoneType, ib_NoneType_bool, ib_NoneType_int, ib_NoneType_str, ib_NoneType_tuple, ib_NoneType_list, ib_NoneType_dict, ib_bool_NoneType, ib_bool_bool, ib_bool_int, ib_bool_str, ib_bool_tuple, ib_bool_list, ib_bool_dict, ib_int_NoneType, ib_int_bool, ib_int_int, ib_int_str, ib_int_tuple, ib_int_list, ib_int_dict, ib_str_NoneType, ib_str_bool, ib_str_int, ib_str_str, ib_str_tuple, ib_str_list, ib_str_dict, ib_tuple_NoneType, ib_tuple_bool, ib_tuple_int, ib_tuple_str, ib_tuple_tuple, ib_tuple_list, ib_tuple_dict, ib_list_NoneType, ib_list_bool, ib_list_int, ib_list_str, ib_list_tuple, ib_list_list, ib_list_dict, ib_dict_NoneType, ib_dict_bool, ib_dict_int, ib_dict_str, ib_dict_tuple, ib_dict_list, ib_dict_dict, true_and, and_true, if_true, if_false, Bool.not_true, Bool.not_false, List.map_cons, List.map_nil, List.length_cons, List.length_nil, List.replicate, List.cons_append, List.nil_append, List.getElem?_cons_succ, List.getElem?_cons_zero, List.set_cons_succ, List.set_cons_zero, ite_true_eq, ite_false_eq, ite_nt_eq, ite_nf_eq, dec_true, dec_not, bxor_f, bxor_t]
  refine ⟨a, cs, f, rfl, s1, fun u m2 hu s2 f2 => ?_⟩
  simp only [startD, dSeq, dNext, dBreak, dCont, dSet, dIfE, dIfS, dB, dOp, dVar, dC, dCB, dCons, dNil, dUn, dRet, dRetN, dTup, dLst, dLstM, dCall, dDrop, dAsg, dT, Tg.d, Tgs.d, dNotT, dAndT, dOrT, dAndV, dOrV, dNotV, dPar, dFor, dSeqI, dRng1, dRng2, dZip2, dZip3, dEnum, dLC, dLCr, dLCM, finM, gII0, gII, onII, onI, gGcd, gNeg, gAdd, gIt, gIx, gLen, gTupC, gLstC, gLstCM, gAll, gAny, gBls, gSum, gIsi, gAbs, gInt, gStr, gEqB, gIsN, isNon, gRep, dRepM, dSl, dPart, dNoPart, gSl, dRev, dRevM, dM, dM0, gAppend, gPop, dFld, dSetF, dMeth, dMake, dPut, dDict, dPairs, dJoin, dJoined, dJs, dFmt, gIn, exOf, endD, on1, on2, ev_it0, ev_it1, ev_it2, ev_itn1, ev_itn, ev_len_t, ev_len_l, ev_sq_t, ev_sq_l, ev_lst_l, ev_so_t, ev_so_l, ev_so_k, ev_si_t, ev_si_l, ev_si_k, ev_ty_i, ev_ty_b, ev_ty_n, ev_ty_s, ev_ty_t, ev_ty_l, ev_eq_ii, ev_shp_i, ev_shp_b, ev_shp_n, ev_key_i, ev_key_s, kd_NoneType, kd_bool, kd_int, kd_str, kd_tuple, kd_list, kd_dict, ib_NoneType_NoneType, ib_NoneType_bool, ib_NoneType_int, ib_NoneType_str, ib_NoneType_tuple, ib_NoneType_list, ib_NoneType_dict, ib_bool_NoneType, ib_bool_bool, ib_bool_int, ib_bool_str, ib_bool_tuple, ib_bool_list, ib_bool_dict, ib_int_NoneType, ib_int_bool, ib_int_int, ib_int_str, ib_int_tuple, ib_int_list, ib_int_dict, ib_str_NoneType, ib_str_bool, ib_str_int, ib_str_str, ib_str_tuple, ib_str_list, ib_str_dict, ib_tuple_NoneType, ib_tuple_bool, ib_tuple_int, ib_tuple_str, ib_tuple_tuple, ib_tuple_list, ib_tuple_dict, ib_list_NoneType, ib_list_bool, ib_list_int, ib_list_str, ib_list_tuple, ib_list_list, ib_list_dict, ib_dict_NoneType, ib_dict_bool, ib_dict_int, ib_dict_str, ib_dict_tuple, ib_dict_list, ib_dict_dict, true_and, and_true, if_true, if_false, Bool.not_true, Bool.not_false, List.map_cons, List.map_nil, List.length_cons, List.length_nil, List.replicate, List.cons_append, List.nil_append, List.getElem?_cons_succ, List.getElem?_cons_zero, List.set_cons_succ, List.set_cons_zero, ite_true_eq, ite_false_eq, ite_nt_eq, ite_nf_eq, dec_true, dec_not, bxor_f, bxor_t]
  by_cases h0 : v = 0
  · rw [if_pos h0]
    exact ⟨u, 7, rfl, by decide, Nat.lt_trans (show (7 : Int).natAbs < 2 ^ 5 by decide) (Nat.pow_lt_pow_right (by decide) (by decide)), m2, _, .refl, q _ m2 (divInt_bq hu (by decide) (by decide)) s2 (f1.trans f2)⟩
  · rw [if_neg h0]
    exact ⟨u, v, rfl, h0, Nat.lt_trans (show v.natAbs < 2 ^ 31 by omega) (Nat.pow_lt_pow_right (by decide) (by decide)), m2, _, .refl, q _ m2 (divInt_bq hu hv h0) s2 (f1.trans f2)⟩
def S__law_open_cells : DS := fun ds m Q X => ∃ ns : List Int, ds = [.kl (ns.map .int)] ∧ ns.length ≤ 1000 ∧ (∀ c ∈ ns, c.natAbs.log2 ≤ 2097152) ∧ ∀ a cs m', m a = none → m cs = none → Src m' a cs LIM → Fr2 a cs m m' → Q (.adr a) m'
def T__law_open_cells : DSt := (dSeq (dSet 1 (dC (.int 11)))
  (dSeq (dFor (dSeqI (dVar 0)) (dT (.nm 2))
  (dSet 1 (dOp gMod (dCB gInt (dCons (dOp gAdd (dOp gAdd (dOp gMul (dVar 1) (dC (.int 69069))) (dOp gMul (dVar 2) (dC (.int 31)))) (dC (.int 5))) dNil)) (dC (.int 2147483629)))))
  (dSeq (dSet 3 (dLC (dSeqI (dVar 0)) (.nm 2) dYes (dCB gAbs (dCons (dVar 2) dNil)) [2]))
  (dRet (dDict [((dC (.str ("cells" : PySem.Str))), (dRevM (dVar 3))), ((dC (.str ("left" : PySem.Str))), (dC (.int 1))), ((dC (.str ("mixed" : PySem.Str))), (dVar 1)), ((dC (.str ("turn" : PySem.Str))), (dC (.int 0)))])))))
def fabs : D → D
  | .int i => .int (if i < 0 then -i else i)
  | _ => .non
theorem H__law_open_cells (ds : List D) (m : MM) (Q : D → MM → Prop) (Px : XC) (h : S__law_open_cells ds m Q Px) : ds.length = 1 ∧ T__law_open_cells (endD Q Px) (startD ["_law_script", "_law_stirred", "_law_cell", "_law_cells"] ds) m := by
  obtain ⟨ns, rfl, hn, hb, q⟩ := h
  refine ⟨rfl, ?_⟩
  simp only [T__law_open_cells, startD, dSeq, dNext, dBreak, dCont, dSet, dIfE, dIfS, dB, dOp, dVar, dC, dCB, dCons, dNil, dUn, dRet, dRetN, dTup, dLst, dLstM, dCall, dDrop, dAsg, dT, Tg.d, Tgs.d, dNotT, dAndT, dOrT, dAndV, dOrV, dNotV, dPar, dFor, dSeqI, dRng1, dRng2, dZip2, dZip3, dEnum, dLC, dLCr, dLCM, finM, gII0, gII, onII, onI, gGcd, gNeg, gAdd, gIt, gIx, gLen, gTupC, gLstC, gLstCM, gAll, gAny, gBls, gSum, gIsi, gAbs, gInt, gStr, gEqB, gIsN, isNon, gRep, dRepM, dSl, dPart, dNoPart, gSl, dRev, dRevM, dM, dM0, gAppend, gPop, dFld, dSetF, dMeth, dMake, dPut, dDict, dPairs, dJoin, dJoined, dJs, dFmt, gIn, exOf, endD, on1, on2, ev_it0, ev_it1, ev_it2, ev_itn1, ev_itn, ev_len_t, ev_len_l, ev_sq_t, ev_sq_l, ev_lst_l, ev_so_t, ev_so_l, ev_so_k, ev_si_t, ev_si_l, ev_si_k, ev_ty_i, ev_ty_b, ev_ty_n, ev_ty_s, ev_ty_t, ev_ty_l, ev_eq_ii, ev_shp_i, ev_shp_b, ev_shp_n, ev_key_i, ev_key_s, kd_NoneType, kd_bool, kd_int, kd_str, kd_tuple, kd_list, kd_dict, ib_NoneType_NoneType, ib_NoneType_bool, ib_NoneType_int, ib_NoneType_str, ib_NoneType_tuple, ib_NoneType_list, ib_NoneType_dict, ib_bool_NoneType, ib_bool_bool, ib_bool_int, ib_bool_str, ib_bool_tuple, ib_bool_list, ib_bool_dict, ib_int_NoneType, ib_int_bool, ib_int_int, ib_int_str, ib_int_tuple, ib_int_list, ib_int_dict, ib_str_NoneType, ib_str_bool, ib_str_int, ib_str_str, ib_str_tuple, ib_str_list, ib_str_dict, ib_tuple_NoneType, ib_tuple_bool, ib_tuple_int, ib_tuple_str, ib_tuple_tuple, ib_tuple_list, ib_tuple_dict, ib_list_NoneType, ib_list_bool, ib_list_int, ib_list_str, ib_list_tuple, ib_list_list, ib_list_dict, ib_dict_NoneType, ib_dict_bool, ib_dict_int, ib_dict_str, ib_dict_tuple, ib_dict_list, ib_dict_dict, true_and, and_true, if_true, if_false, Bool.not_true, Bool.not_false, List.map_cons, List.map_nil, List.length_cons, List.length_nil, List.replicate, List.cons_append, List.nil_append, List.getElem?_cons_succ, List.getElem?_cons_zero, List.set_cons_succ, List.set_cons_zero, ite_true_eq, ite_false_eq, ite_nt_eq, ite_nf_eq, dec_true, dec_not, bxor_f, bxor_t]
  refine for_ind (fun items ρ m' => m' = m ∧ ∃ (td : List Int) (x : Int) (o : Option D), items = td.map .int ∧ (∀ c ∈ td, c ∈ ns) ∧ 0 ≤ x ∧ x < 2147483648 ∧ ρ = [some (.kl (ns.map .int)), some (.int x), o, none]) ?_ ?_ _ _ _ ⟨rfl, ns, 11, none, rfl, fun c h => h, by decide, by decide, rfl⟩
  · rintro d r ρ m' N hN ⟨rfl, td, x, o, e, h1, h2, h3, rfl⟩
    cases td with
    | nil => cases e
    | cons c td =>
      cases e
      refine ⟨trivial, ?_⟩
      simp only [startD, dSeq, dNext, dBreak, dCont, dSet, dIfE, dIfS, dB, dOp, dVar, dC, dCB, dCons, dNil, dUn, dRet, dRetN, dTup, dLst, dLstM, dCall, dDrop, dAsg, dT, Tg.d, Tgs.d, dNotT, dAndT, dOrT, dAndV, dOrV, dNotV, dPar, dFor, dSeqI, dRng1, dRng2, dZip2, dZip3, dEnum, dLC, dLCr, dLCM, finM, gII0, gII, onII, onI, gGcd, gNeg, gAdd, gIt, gIx, gLen, gTupC, gLstC, gLstCM, gAll, gAny, gBls, gSum, gIsi, gAbs, gInt, gStr, gEqB, gIsN, isNon, gRep, dRepM, dSl, dPart, dNoPart, gSl, dRev, dRevM, dM, dM0, gAppend, gPop, dFld, dSetF, dMeth, dMake, dPut, dDict, dPairs, dJoin, dJoined, dJs, dFmt, gIn, exOf, endD, on1, on2, ev_it0, ev_it1, ev_it2, ev_itn1, ev_itn, ev_len_t, ev_len_l, ev_sq_t, ev_sq_l, ev_lst_l, ev_so_t, ev_so_l, ev_so_k, ev_si_t, ev_si_l, ev_si_k, ev_ty_i, ev_ty_b, ev_ty_n, ev_ty_s, ev_ty_t, ev_ty_l, ev_eq_ii, ev_shp_i, ev_shp_b, ev_shp_n, ev_key_i, ev_key_s, kd_NoneType, kd_bool, kd_int, kd_str, kd_tuple, kd_list, kd_dict, ib_NoneType_NoneType, ib_NoneType_bool, ib_NoneType_int, ib_NoneType_str, ib_NoneType_tuple, ib_NoneType_list, ib_NoneType_dict, ib_bool_NoneType, ib_bool_bool, ib_bool_int, ib_bool_str, ib_bool_tuple, ib_bool_list, ib_bool_dict, ib_int_NoneType, ib_int_bool, ib_int_int, ib_int_str, ib_int_tuple, ib_int_list, ib_int_dict, ib_str_NoneType, ib_str_bool, ib_str_int, ib_str_str, ib_str_tuple, ib_str_list, ib_str_dict, ib_tuple_NoneType, ib_tuple_bool, ib_tuple_int, ib_tuple_str, ib_tuple_tuple, ib_tuple_list, ib_tuple_dict, ib_list_NoneType, ib_list_bool, ib_list_int, ib_list_str, ib_list_tuple, ib_list_list, ib_list_dict, ib_dict_NoneType, ib_dict_bool, ib_dict_int, ib_dict_str, ib_dict_tuple, ib_dict_list, ib_dict_dict, true_and, and_true, if_true, if_false, Bool.not_true, Bool.not_false, List.map_cons, List.map_nil, List.length_cons, List.length_nil, List.replicate, List.cons_append, List.nil_append, List.getElem?_cons_succ, List.getElem?_cons_zero, List.set_cons_succ, List.set_cons_zero, ite_true_eq, ite_false_eq, ite_nt_eq, ite_nf_eq, dec_true, dec_not, bxor_f, bxor_t]
      have hy := fmod_in (i := x * 69069 + c * 31 + 5) (j := 2147483629) (by decide)
      have hc := hb c (h1 c List.mem_cons_self)
      refine ⟨cm_small (lg31 h2 h3) (by decide : (69069 : Int).natAbs.log2 ≤ 31) (by omega), ?_, by decide, hN _ _ ⟨rfl, td, _, _, rfl, fun e he => h1 e (List.mem_cons_of_mem _ he), hy.1, by omega, rfl⟩⟩
      unfold CM
      have : (31 : Int).natAbs.log2 ≤ 31 := by decide
      omega
  · rintro ρ m' ⟨rfl, td, x, o, e, h1, h2, h3, rfl⟩
    refine ⟨trivial, ?_⟩
    simp only [startD, dSeq, dNext, dBreak, dCont, dSet, dIfE, dIfS, dB, dOp, dVar, dC, dCB, dCons, dNil, dUn, dRet, dRetN, dTup, dLst, dLstM, dCall, dDrop, dAsg, dT, Tg.d, Tgs.d, dNotT, dAndT, dOrT, dAndV, dOrV, dNotV, dPar, dFor, dSeqI, dRng1, dRng2, dZip2, dZip3, dEnum, dLC, dLCr, dLCM, finM, gII0, gII, onII, onI, gGcd, gNeg, gAdd, gIt, gIx, gLen, gTupC, gLstC, gLstCM, gAll, gAny, gBls, gSum, gIsi, gAbs, gInt, gStr, gEqB, gIsN, isNon, gRep, dRepM, dSl, dPart, dNoPart, gSl, dRev, dRevM, dM, dM0, gAppend, gPop, dFld, dSetF, dMeth, dMake, dPut, dDict, dPairs, dJoin, dJoined, dJs, dFmt, gIn, exOf, endD, on1, on2, ev_it0, ev_it1, ev_it2, ev_itn1, ev_itn, ev_len_t, ev_len_l, ev_sq_t, ev_sq_l, ev_lst_l, ev_so_t, ev_so_l, ev_so_k, ev_si_t, ev_si_l, ev_si_k, ev_ty_i, ev_ty_b, ev_ty_n, ev_ty_s, ev_ty_t, ev_ty_l, ev_eq_ii, ev_shp_i, ev_shp_b, ev_shp_n, ev_key_i, ev_key_s, kd_NoneType, kd_bool, kd_int, kd_str, kd_tuple, kd_list, kd_dict, ib_NoneType_NoneType, ib_NoneType_bool, ib_NoneType_int, ib_NoneType_str, ib_NoneType_tuple, ib_NoneType_list, ib_NoneType_dict, ib_bool_NoneType, ib_bool_bool, ib_bool_int, ib_bool_str, ib_bool_tuple, ib_bool_list, ib_bool_dict, ib_int_NoneType, ib_int_bool, ib_int_int, ib_int_str, ib_int_tuple, ib_int_list, ib_int_dict, ib_str_NoneType, ib_str_bool, ib_str_int, ib_str_str, ib_str_tuple, ib_str_list, ib_str_dict, ib_tuple_NoneType, ib_tuple_bool, ib_tuple_int, ib_tuple_str, ib_tuple_tuple, ib_tuple_list, ib_tuple_dict, ib_list_NoneType, ib_list_bool, ib_list_int, ib_list_str, ib_list_tuple, ib_list_list, ib_list_dict, ib_dict_NoneType, ib_dict_bool, ib_dict_int, ib_dict_str, ib_dict_tuple, ib_dict_list, ib_dict_dict, true_and, and_true, if_true, if_false, Bool.not_true, Bool.not_false, List.map_cons, List.map_nil, List.length_cons, List.length_nil, List.replicate, List.cons_append, List.nil_append, List.getElem?_cons_succ, List.getElem?_cons_zero, List.set_cons_succ, List.set_cons_zero, ite_true_eq, ite_false_eq, ite_nt_eq, ite_nf_eq, dec_true, dec_not, bxor_f, bxor_t]
    intro p hp
    have e2 : (ns.map D.int).map fabs = (ns.map fun i => if i < 0 then -i else i).map .int := by
      rw [List.map_map, List.map_map]; rfl
    refine lc_pure fabs _ hp (fun _ => trivial) (fun d hd acc Q1 q1 => ?_) (by rw [List.length_map]; exact big_of (by omega)) ?_
    · obtain ⟨y, _, rfl⟩ := List.mem_map.mp hd
      refine ⟨_, rfl, ?_⟩
      simp only [wipeD, startD, dSeq, dNext, dBreak, dCont, dSet, dIfE, dIfS, dB, dOp, dVar, dC, dCB, dCons, dNil, dUn, dRet, dRetN, dTup, dLst, dLstM, dCall, dDrop, dAsg, dT, Tg.d, Tgs.d, dNotT, dAndT, dOrT, dAndV, dOrV, dNotV, dPar, dFor, dSeqI, dRng1, dRng2, dZip2, dZip3, dEnum, dLC, dLCr, dLCM, finM, gII0, gII, onII, onI, gGcd, gNeg, gAdd, gIt, gIx, gLen, gTupC, gLstC, gLstCM, gAll, gAny, gBls, gSum, gIsi, gAbs, gInt, gStr, gEqB, gIsN, isNon, gRep, dRepM, dSl, dPart, dNoPart, gSl, dRev, dRevM, dM, dM0, gAppend, gPop, dFld, dSetF, dMeth, dMake, dPut, dDict, dPairs, dJoin, dJoined, dJs, dFmt, gIn, exOf, endD, on1, on2, ev_it0, ev_it1, ev_it2, ev_itn1, ev_itn, ev_len_t, ev_len_l, ev_sq_t, ev_sq_l, ev_lst_l, ev_so_t, ev_so_l, ev_so_k, ev_si_t, ev_si_l, ev_si_k, ev_ty_i, ev_ty_b, ev_ty_n, ev_ty_s, ev_ty_t, ev_ty_l, ev_eq_ii, ev_shp_i, ev_shp_b, ev_shp_n, ev_key_i, ev_key_s, kd_NoneType, kd_bool, kd_int, kd_str, kd_tuple, kd_list, kd_dict, ib_NoneType_NoneType, ib_NoneType_bool, ib_NoneType_int, ib_NoneType_str, ib_NoneType_tuple, ib_NoneType_list, ib_NoneType_dict, ib_bool_NoneType, ib_bool_bool, ib_bool_int, ib_bool_str, ib_bool_tuple, ib_bool_list, ib_bool_dict, ib_int_NoneType, ib_int_bool, ib_int_int, ib_int_str, ib_int_tuple, ib_int_list, ib_int_dict, ib_str_NoneType, ib_str_bool, ib_str_int, ib_str_str, ib_str_tuple, ib_str_list, ib_str_dict, ib_tuple_NoneType, ib_tuple_bool, ib_tuple_int, ib_tuple_str, ib_tuple_tuple, ib_tuple_list, ib_tuple_dict, ib_list_NoneType, ib_list_bool, ib_list_int, ib_list_str, ib_list_tuple, ib_list_list, ib_list_dict, ib_dict_NoneType, ib_dict_bool, ib_dict_int, ib_dict_str, ib_dict_tuple, ib_dict_list, ib_dict_dict, true_and, and_true, if_true, if_false, Bool.not_true, Bool.not_false, List.map_cons, List.map_nil, List.length_cons, List.length_nil, List.replicate, List.cons_append, List.nil_append, List.getElem?_cons_succ, List.getElem?_cons_zero, List.set_cons_succ, List.set_cons_zero, ite_true_eq, ite_false_eq, ite_nt_eq, ite_nf_eq, dec_true, dec_not, bxor_f, bxor_t]
      exact q1
    · rw [e2]
      simp only [startD, dSeq, dNext, dBreak, dCont, dSet, dIfE, dIfS, dB, dOp, dVar, dC, dCB, dCons, dNil, dUn, dRet, dRetN, dTup, dLst, dLstM, dCall, dDrop, dAsg, dT, Tg.d, Tgs.d, dNotT, dAndT, dOrT, dAndV, dOrV, dNotV, dPar, dFor, dSeqI, dRng1, dRng2, dZip2, dZip3, dEnum, dLC, dLCr, dLCM, finM, gII0, gII, onII, onI, gGcd, gNeg, gAdd, gIt, gIx, gLen, gTupC, gLstC, gLstCM, gAll, gAny, gBls, gSum, gIsi, gAbs, gInt, gStr, gEqB, gIsN, isNon, gRep, dRepM, dSl, dPart, dNoPart, gSl, dRev, dRevM, dM, dM0, gAppend, gPop, dFld, dSetF, dMeth, dMake, dPut, dDict, dPairs, dJoin, dJoined, dJs, dFmt, gIn, exOf, endD, on1, on2, ev_it0, ev_it1, ev_it2, ev_itn1, ev_itn, ev_len_t, ev_len_l, ev_sq_t, ev_sq_l, ev_lst_l, ev_so_t, ev_so_l, ev_so_k, ev_si_t, ev_si_l, ev_si_k, ev_ty_i, ev_ty_b, ev_ty_n, ev_ty_s, ev_ty_t, ev_ty_l, ev_eq_ii, ev_shp_i, ev_shp_b, ev_shp_n, ev_key_i, ev_key_s, kd_NoneType, kd_bool, kd_int, kd_str, kd_tuple, kd_list, kd_dict, ib_NoneType_NoneType, ib_NoneType_bool, ib_NoneType_int, ib_NoneType_str, ib_NoneType_tuple, ib_NoneType_list, ib_NoneType_dict, ib_bool_NoneType, ib_bool_bool, ib_bool_int, ib_bool_str, ib_bool_tuple, ib_bool_list, ib_bool_dict, ib_int_NoneType, ib_int_bool, ib_int_int, ib_int_str, ib_int_tuple, ib_int_list, ib_int_dict, ib_str_NoneType, ib_str_bool, ib_str_int, ib_str_str, ib_str_tuple, ib_str_list, ib_str_dict, ib_tuple_NoneType, ib_tuple_bool, ib_tuple_int, ib_tuple_str, ib_tuple_tuple, ib_tuple_list, ib_tuple_dict, ib_list_NoneType, ib_list_bool, ib_list_int, ib_list_str, ib_list_tuple, ib_list_list, ib_list_dict, ib_dict_NoneType, ib_dict_bool, ib_dict_int, ib_dict_str, ib_dict_tuple, ib_dict_list, ib_dict_dict, true_and, and_true, if_true, if_false, Bool.not_true, Bool.not_false, List.map_cons, List.map_nil, List.length_cons, List.length_nil, List.replicate, List.cons_append, List.nil_append, List.getElem?_cons_succ, List.getElem?_cons_zero, List.set_cons_succ, List.set_cons_zero, ite_true_eq, ite_false_eq, ite_nt_eq, ite_nf_eq, dec_true, dec_not, bxor_f, bxor_t]
      intro a ha cs hcs
      have hac : cs ≠ a := fun e => by rw [e, mset_same] at hcs; cases hcs
      rw [mset_ne hac] at hcs
      refine ⟨by rw [mset_ne (Ne.symm hac), mset_same], by decide, _, _, .refl, q a cs _ ha hcs ⟨(ns.map fun i => if i < 0 then -i else i).reverse, 1, x, 0, mset_same, ?_, Ne.symm hac, h2, h3, by omega, ?_⟩ fun b h4 h5 => ?_⟩
      · rw [mset_ne hac, mset_same]
        rw [← List.map_reverse]
      · rw [List.length_reverse, List.length_map]; exact hn
      · rw [mset_ne h4, mset_ne h5, mset_ne h4]
end Y
/-! M9: rows are a space. -/
namespace Y
open PySem PySem.Spec PyProof.Rows L2
theorem shp_enc {n : Nat} {q : Rat} : shp (n + 1) (enc q) = true := rfl
theorem shp_encs {n : Nat} : ∀ r : List Rat, shps (n + 1) (r.map enc) = true
  | [] => rfl
  | x :: r => by
    rw [List.map_cons]
    unfold shps
    rw [shp_enc, shp_encs r]; rfl
theorem shp_encR {n : Nat} {r : List Rat} : shp (n + 2) (encR r) = true := shp_encs r
theorem eq_enc {x y : Rat} : eqD (enc x) (enc y) = decide (x = y) := by
  unfold enc eqD eqDs eqDs eqDs
  rw [ev_eq_ii, ev_eq_ii]
  by_cases h : x = y
  · subst h; simp
  · rw [decide_eq_false h]
    by_cases h1 : x.num = y.num
    · have : ¬ ((x.den : Nat) : Int) = (y.den : Nat) := fun h2 => h (Rat.ext h1 (by omega))
      rw [decide_eq_false this]; simp
    · rw [decide_eq_false h1]; simp
theorem eq_encs : ∀ {r s : List Rat}, eqDs (r.map enc) (s.map enc) = decide (r = s)
  | [], [] => rfl
  | [], _ :: _ => rfl
  | _ :: _, [] => rfl
  | x :: r, y :: s => by
    rw [List.map_cons, List.map_cons]
    unfold eqDs
    rw [eq_enc, eq_encs, ← Bool.decide_and]
    apply decide_eq_decide.mpr
    simp
theorem eq_encR {r s : List Rat} : eqD (encR r) (encR s) = decide (r = s) := by
  unfold encR eqD
  exact eq_encs
theorem foldl_add (r : List Rat) (a : Rat) : r.foldl (· + ·) a = a + r.foldl (· + ·) 0 := by
  induction r generalizing a with
  | nil => simp [Rat.add_zero]
  | cons x r ih => rw [List.foldl_cons, List.foldl_cons, ih, ih (0 + x)]; grind
theorem rsum_nil : rsum [] = 0 := rfl
theorem rsum_cons (x : Rat) (r : List Rat) : rsum (x :: r) = x + rsum r := by
  unfold rsum
  rw [List.foldl_cons, foldl_add]; grind
theorem rab_nonneg (x : Rat) : 0 ≤ rab x := by
  unfold rab
  split
  · rename_i h
    have : ¬ 0 ≤ x := fun e => by have := Rat.num_nonneg.mpr e; omega
    grind
  · rename_i h
    exact Rat.num_nonneg.mp (by omega)
theorem rab_cases (x : Rat) : (rab x = x ∧ 0 ≤ x) ∨ (rab x = -x ∧ x ≤ 0) := by
  unfold rab
  split
  · rename_i h
    have : ¬ 0 ≤ x := fun e => by have := Rat.num_nonneg.mpr e; omega
    exact .inr ⟨rfl, by grind⟩
  · rename_i h
    exact .inl ⟨rfl, Rat.num_nonneg.mp (by omega)⟩
theorem le_rab (x : Rat) : x ≤ rab x ∧ -x ≤ rab x := by
  rcases rab_cases x with ⟨h1, h2⟩ | ⟨h1, h2⟩ <;> rw [h1] <;> grind
theorem rab_add (x y : Rat) : rab (x + y) ≤ rab x + rab y := by
  have h1 := le_rab x
  have h2 := le_rab y
  rcases rab_cases (x + y) with ⟨h, _⟩ | ⟨h, _⟩ <;> rw [h] <;> grind
theorem rab_mul (x y : Rat) : rab (x * y) = rab x * rab y := by
  rcases rab_cases x with ⟨h1, h2⟩ | ⟨h1, h2⟩ <;> rcases rab_cases y with ⟨k1, k2⟩ | ⟨k1, k2⟩ <;> rw [h1, k1]
  · have := Rat.mul_nonneg h2 k2
    rcases rab_cases (x * y) with ⟨h, _⟩ | ⟨h, _⟩ <;> rw [h] <;> grind
  · have := Rat.mul_nonneg h2 (show 0 ≤ -y by grind)
    rcases rab_cases (x * y) with ⟨h, _⟩ | ⟨h, _⟩ <;> rw [h] <;> grind
  · have := Rat.mul_nonneg (show 0 ≤ -x by grind) k2
    rcases rab_cases (x * y) with ⟨h, _⟩ | ⟨h, _⟩ <;> rw [h] <;> grind
  · have := Rat.mul_nonneg (show 0 ≤ -x by grind) (show 0 ≤ -y by grind)
    rcases rab_cases (x * y) with ⟨h, _⟩ | ⟨h, _⟩ <;> rw [h] <;> grind
theorem rab_neg (x : Rat) : rab (-x) = rab x := by
  rcases rab_cases x with ⟨h1, h2⟩ | ⟨h1, h2⟩ <;> rcases rab_cases (-x) with ⟨k1, k2⟩ | ⟨k1, k2⟩ <;> rw [h1, k1] <;> grind
def sab (r : List Rat) : Rat := rsum (r.map rab)
theorem sab_cons (x : Rat) (r : List Rat) : sab (x :: r) = rab x + sab r := by unfold sab; rw [List.map_cons, rsum_cons]
theorem sab_nonneg : ∀ r : List Rat, 0 ≤ sab r
  | [] => by unfold sab; rw [List.map_nil, rsum_nil]; decide
  | x :: r => by
    rw [sab_cons]
    have := rab_nonneg x
    have := sab_nonneg r
    grind
abbrev radd (r s : List Rat) : List Rat := List.zipWith (· + ·) r s
theorem radd_comm : ∀ r s : List Rat, radd r s = radd s r
  | [], [] => rfl
  | [], _ :: _ => rfl
  | _ :: _, [] => rfl
  | x :: r, y :: s => by
    show (x + y) :: radd r s = (y + x) :: radd s r
    rw [radd_comm r s, Rat.add_comm]
theorem radd_assoc : ∀ r s t : List Rat, radd (radd r s) t = radd r (radd s t)
  | [], _, _ => by simp
  | _ :: _, [], _ => by simp
  | _ :: _, _ :: _, [] => by simp
  | x :: r, y :: s, z :: t => by
    show (x + y + z) :: radd (radd r s) t = (x + (y + z)) :: radd r (radd s t)
    rw [radd_assoc r s t, Rat.add_assoc]
theorem radd_neg : ∀ r : List Rat, radd r (r.map (- ·)) = List.replicate r.length 0
  | [] => rfl
  | x :: r => by
    show (x + -x) :: radd r (r.map (- ·)) = 0 :: List.replicate r.length 0
    rw [radd_neg r, Rat.add_neg_cancel]
theorem rsub_eq : ∀ r s : List Rat, List.zipWith (· - ·) r s = radd r (s.map (- ·))
  | [], _ => by simp
  | _ :: _, [] => by simp
  | x :: r, y :: s => by
    show (x - y) :: List.zipWith (· - ·) r s = (x + -y) :: radd r (s.map (- ·))
    rw [rsub_eq r s, Rat.sub_eq_add_neg]
theorem rneg_neg (r : List Rat) : (r.map (- ·)).map (- ·) = r := by
  rw [List.map_map]
  have : ((- ·) ∘ (- ·) : Rat → Rat) = id := funext fun x => by simp [Rat.neg_neg]
  rw [this, List.map_id]
theorem dot_cons (x y : Rat) (r s : List Rat) : dot (x :: r) (y :: s) = x * y + dot r s := by
  unfold dot
  rw [List.zipWith_cons_cons, rsum_cons]
theorem dot_nil (s : List Rat) : dot [] s = 0 := rfl
theorem dot_add : ∀ {r s t : List Rat}, r.length = s.length → s.length = t.length → dot (radd r s) t = dot r t + dot s t
  | [], [], t, _, _ => by show (0 : Rat) = 0 + 0; grind
  | x :: r, y :: s, z :: t, h, k => by
    show dot ((x + y) :: radd r s) (z :: t) = _
    rw [dot_cons, dot_cons, dot_cons, dot_add (by simpa using h) (by simpa using k)]
    grind
  | [], _ :: _, _, h, _ => by simp at h
  | _ :: _, [], _, h, _ => by simp at h
  | _ :: _, _ :: _, [], _, h => by simp at h
theorem scale_add (c : Rat) : ∀ r s : List Rat, (radd r s).map (· * c) = radd (r.map (· * c)) (s.map (· * c))
  | [], _ => by simp
  | _ :: _, [] => by simp
  | x :: r, y :: s => by
    show ((x + y) * c) :: (radd r s).map (· * c) = (x * c + y * c) :: radd (r.map (· * c)) (s.map (· * c))
    rw [scale_add c r s, Rat.add_mul]
theorem dot_scale (c : Rat) : ∀ r s : List Rat, dot (r.map (· * c)) s = c * dot r s
  | [], s => by rw [List.map_nil, dot_nil]; grind
  | _ :: _, [] => by show (0 : Rat) = c * 0; grind
  | x :: r, y :: s => by
    rw [List.map_cons, dot_cons, dot_cons, dot_scale c r s]; grind
theorem dot_zero : ∀ (r : List Rat) (n : Nat), dot r (List.replicate n 0) = 0
  | [], n => rfl
  | _ :: _, 0 => rfl
  | x :: r, n + 1 => by rw [List.replicate_succ, dot_cons, dot_zero r n]; grind
theorem sab_add : ∀ r s : List Rat, r.length = s.length → sab (radd r s) ≤ sab r + sab s
  | [], [], _ => by show (0 : Rat) ≤ 0 + 0; grind
  | x :: r, y :: s, h => by
    show sab ((x + y) :: radd r s) ≤ _
    rw [sab_cons, sab_cons, sab_cons]
    have h1 := rab_add x y
    have h2 := sab_add r s (by simpa using h)
    grind
  | [], _ :: _, h => by simp at h
  | _ :: _, [], h => by simp at h
theorem sab_neg (r : List Rat) : sab (r.map (- ·)) = sab r := by
  unfold sab
  rw [List.map_map]
  congr 1
  exact List.map_congr_left fun x _ => rab_neg x
theorem dot_le : ∀ r s : List Rat, rab (dot r s) ≤ sab r * sab s
  | [], s => by
    rw [dot_nil]
    have h1 : rab 0 = 0 := rfl
    have h2 : sab [] = 0 := rfl
    rw [h1, h2]; grind
  | x :: r, [] => by
    have h0 : dot (x :: r) [] = 0 := rfl
    rw [h0]
    have h1 : rab 0 = 0 := rfl
    have h2 : sab [] = 0 := rfl
    rw [h1, h2]; grind
  | x :: r, y :: s => by
    rw [dot_cons, sab_cons, sab_cons]
    have h1 := rab_add (x * y) (dot r s)
    rw [rab_mul] at h1
    have h2 := dot_le r s
    have a1 := Rat.mul_nonneg (rab_nonneg x) (sab_nonneg s)
    have a2 := Rat.mul_nonneg (sab_nonneg r) (rab_nonneg y)
    grind
theorem SmR.add {a b : Nat} {r s : List Rat} (h : SmR a r) (k : SmR b s) : SmR (a + b + 1) (radd r s) := fun z hz => by
  obtain ⟨x, hx, y, hy, rfl⟩ := mem_zipWith hz
  exact (h x hx).add (k y hy)
theorem SmR.neg {a : Nat} {r : List Rat} (h : SmR a r) : SmR a (r.map (- ·)) := fun z hz => by
  obtain ⟨x, hx, rfl⟩ := List.mem_map.mp hz
  exact (h x hx).neg
theorem SmR.scale {a b : Nat} {r : List Rat} {c : Rat} (h : SmR a r) (k : Sm b c) : SmR (a + b + 1) (r.map (· * c)) := fun z hz => by
  obtain ⟨x, hx, rfl⟩ := List.mem_map.mp hz
  exact (h x hx).mul k
theorem SmR.zero (n : Nat) : SmR 1 (List.replicate n 0) := fun z hz => by
  rw [List.eq_of_mem_replicate hz]; exact Sm.zero
theorem Sm.sum {a : Nat} : ∀ {r : List Rat}, SmR a r → Sm (r.length * (a + 1) + 1) (rsum r)
  | [], _ => by rw [rsum_nil]; exact Sm.zero.mono (by omega)
  | x :: r, h => by
    rw [rsum_cons]
    have := Sm.add (h x List.mem_cons_self) (Sm.sum (r := r) fun y hy => h y (List.mem_cons_of_mem _ hy))
    exact this.mono (by rw [List.length_cons, Nat.add_mul]; omega)
theorem Sm.dot {a b : Nat} {r s : List Rat} (h : SmR a r) (k : SmR b s) : Sm (r.length * (a + b + 2) + 1) (dot r s) := by
  have : SmR (a + b + 1) (List.zipWith (· * ·) r s) := fun z hz => by
    obtain ⟨x, hx, y, hy, rfl⟩ := mem_zipWith hz
    exact (h x hx).mul (k y hy)
  refine (Sm.sum this).mono ?_
  rw [List.length_zipWith]
  have := Nat.mul_le_mul_right (a + b + 2) (Nat.min_le_left r.length s.length)
  rw [show a + b + 1 + 1 = a + b + 2 by omega]
  omega
theorem Sm.sab {a : Nat} {r : List Rat} (h : SmR a r) : Sm (r.length * (a + 1) + 1) (Y.sab r) := by
  have := Sm.sum (a := a) (r := r.map Y.rab) fun z hz => by
    obtain ⟨x, hx, rfl⟩ := List.mem_map.mp hz
    exact (h x hx).rab
  rw [List.length_map] at this
  exact this
end Y
/-! M10: the law's own look at three rows. -/
namespace Y
open PySem PySem.Spec PyProof.Rows L2
section
variable {m : MM} {Q : D → MM → Prop} {X : XC} {r s : List Rat} {x y : Rat} {a b : Nat}
theorem c_added (hr : SmR a r) (hs : SmR b s) (h : a + b ≤ 8000) (hl : r.length ≤ 1000) (q : Q (encR (radd r s)) m) : S_added [encR r, encR s] m Q X := ⟨r, s, a, b, rfl, hr, hs, by omega, by omega, q⟩
theorem c_taken (hr : SmR a r) (hs : SmR b s) (h : a + b ≤ 8000) (hl : r.length ≤ 1000) (q : Q (encR (radd r (s.map (- ·)))) m) : S_taken [encR r, encR s] m Q X := ⟨r, s, a, b, rfl, hr, hs, by omega, by omega, by rw [rsub_eq]; exact q⟩
theorem c_scaled (hr : SmR a r) (hs : Sm b x) (h : a + b ≤ 8000) (hl : r.length ≤ 1000) (q : Q (encR (r.map (· * x))) m) : S_scaled [encR r, enc x] m Q X := ⟨r, x, a, b, rfl, hr, hs, by omega, by omega, q⟩
theorem c_back (hl : r.length ≤ 1000) (q : Q (encR (r.map (- ·))) m) : S_back [encR r] m Q X := ⟨r, rfl, by omega, q⟩
theorem c_product (hr : SmR a r) (hs : SmR b s) (h : r.length * (a + b + 2) + a + b + 3 ≤ 8990) (q : Q (enc (dot r s)) m) : S_product [encR r, encR s] m Q X := ⟨r, s, a, b, rfl, hr, hs, h, q⟩
theorem c_sizes (hr : SmR a r) (h : r.length * (a + 1) + a + 2 ≤ 8990) (q : Q (enc (sab r)) m) : S_sizes [encR r] m Q X := ⟨r, a, rfl, hr, h, q⟩
theorem c_plus (hr : Sm a x) (hs : Sm b y) (h : a + b ≤ 8000) (q : Q (enc (x + y)) m) : S_plus [enc x, enc y] m Q X := ⟨x, y, a, b, rfl, hr, hs, by omega, q⟩
theorem c_minus (hr : Sm a x) (hs : Sm b y) (h : a + b ≤ 8000) (q : Q (enc (x - y)) m) : S_minus [enc x, enc y] m Q X := ⟨x, y, a, b, rfl, hr, hs, by omega, q⟩
theorem c_times (hr : Sm a x) (hs : Sm b y) (h : a + b ≤ 8000) (q : Q (enc (x * y)) m) : S_times_of [enc x, enc y] m Q X := ⟨x, y, a, b, rfl, hr, hs, by omega, q⟩
theorem c_less (hr : Sm a x) (hs : Sm b y) (h : a + b ≤ 8000) (q : Q (.bl (decide (x < y))) m) : S_is_less [enc x, enc y] m Q X := ⟨x, y, a, b, rfl, hr, hs, by omega, q⟩
theorem c_nought {n : Nat} (h1 : 1 ≤ n) (h2 : n ≤ 1000) (q : Q (encR (List.replicate n 0)) m) : S_nought [.int (n : Int)] m Q X := ⟨n, rfl, h1, h2, q⟩
theorem c_size (q : Q (enc (rab x)) m) : S_size_of [enc x] m Q X := ⟨x, rfl, q⟩
end
theorem shpR {r : List Rat} : (shp 64 (encR r) = true) = True := eq_true shp_encR
theorem shpE {q : Rat} : (shp 64 (enc q) = true) = True := eq_true shp_enc
theorem lenR {m : MM} {r : List Rat} : lenD m (encR r) = some r.length := by
  show some (r.map enc).length = _
  rw [List.length_map]
theorem shpZ : (shp 64 (.tup [.int 0, .int 1]) = true) = True := eq_true (shp_enc (q := 0))
theorem eqZ {x : Rat} : eqD (enc x) (.tup [.int 0, .int 1]) = decide (x = 0) := eq_enc (y := 0)
def S__law_three_right : DS := fun ds m Q X => ∃ (r s t : List Rat) (x : Rat), ds = [encR r, encR s, encR t, enc x] ∧ SmR 32 r ∧ SmR 32 s ∧ SmR 32 t ∧ Sm 32 x ∧ 1 ≤ r.length ∧ r.length ≤ 4 ∧ s.length = r.length ∧ t.length = r.length ∧ Q (.bl true) m
def T__law_three_right : DSt := (dSeq (dSet 4 (dCB gLen (dCons (dVar 0) dNil)))
  (dSeq (dIfS (dOrT (dB (dOp gNe (dCall S_added (dCons (dCall S_added (dCons (dVar 0) (dCons (dVar 1) dNil))) (dCons (dVar 2) dNil))) (dCall S_added (dCons (dVar 0) (dCons (dCall S_added (dCons (dVar 1) (dCons (dVar 2) dNil))) dNil))))) (dB (dOp gNe (dCall S_added (dCons (dVar 0) (dCons (dVar 1) dNil))) (dCall S_added (dCons (dVar 1) (dCons (dVar 0) dNil)))))) (dRet (dC (.bl false))) dNext)
  (dSeq (dIfS (dOrT (dB (dOp gNe (dCall S_added (dCons (dVar 0) (dCons (dCall S_back (dCons (dVar 0) dNil)) dNil))) (dCall S_nought (dCons (dVar 4) dNil)))) (dOrT (dB (dOp gNe (dCall S_taken (dCons (dVar 0) (dCons (dVar 1) dNil))) (dCall S_added (dCons (dVar 0) (dCons (dCall S_back (dCons (dVar 1) dNil)) dNil))))) (dB (dOp gNe (dCall S_back (dCons (dCall S_back (dCons (dVar 0) dNil)) dNil)) (dVar 0))))) (dRet (dC (.bl false))) dNext)
  (dSeq (dIfS (dB (dOp gNe (dCall S_product (dCons (dCall S_added (dCons (dVar 0) (dCons (dVar 1) dNil))) (dCons (dVar 2) dNil))) (dCall S_plus (dCons (dCall S_product (dCons (dVar 0) (dCons (dVar 2) dNil))) (dCons (dCall S_product (dCons (dVar 1) (dCons (dVar 2) dNil))) dNil))))) (dRet (dC (.bl false))) dNext)
  (dSeq (dIfS (dB (dOp gNe (dCall S_scaled (dCons (dCall S_added (dCons (dVar 0) (dCons (dVar 1) dNil))) (dCons (dVar 3) dNil))) (dCall S_added (dCons (dCall S_scaled (dCons (dVar 0) (dCons (dVar 3) dNil))) (dCons (dCall S_scaled (dCons (dVar 1) (dCons (dVar 3) dNil))) dNil))))) (dRet (dC (.bl false))) dNext)
  (dSeq (dIfS (dOrT (dB (dOp gNe (dCall S_product (dCons (dCall S_scaled (dCons (dVar 0) (dCons (dVar 3) dNil))) (dCons (dVar 1) dNil))) (dCall S_times_of (dCons (dVar 3) (dCons (dCall S_product (dCons (dVar 0) (dCons (dVar 1) dNil))) dNil))))) (dB (dOp gNe (dCall S_product (dCons (dVar 0) (dCons (dCall S_nought (dCons (dVar 4) dNil)) dNil))) (dTup (dCons (dC (.int 0)) (dCons (dC (.int 1)) dNil)))))) (dRet (dC (.bl false))) dNext)
  (dSeq (dIfS (dOrT (dB (dCall S_is_less (dCons (dCall S_plus (dCons (dCall S_sizes (dCons (dVar 0) dNil)) (dCons (dCall S_sizes (dCons (dVar 1) dNil)) dNil))) (dCons (dCall S_sizes (dCons (dCall S_added (dCons (dVar 0) (dCons (dVar 1) dNil))) dNil)) dNil)))) (dB (dOp gNe (dCall S_sizes (dCons (dCall S_back (dCons (dVar 0) dNil)) dNil)) (dCall S_sizes (dCons (dVar 0) dNil))))) (dRet (dC (.bl false))) dNext)
  (dRet (dNotV (dCall S_is_less (dCons (dCall S_times_of (dCons (dCall S_sizes (dCons (dVar 0) dNil)) (dCons (dCall S_sizes (dCons (dVar 1) dNil)) dNil))) (dCons (dCall S_size_of (dCons (dCall S_product (dCons (dVar 0) (dCons (dVar 1) dNil))) dNil)) dNil))))))))))))
theorem nlt {x y : Rat} (h : y ≤ x) : decide (x < y) = false := decide_eq_false (by grind)
theorem H__law_three_right (ds : List D) (m : MM) (Q : D → MM → Prop) (Px : XC) (h : S__law_three_right ds m Q Px) : ds.length = 4 ∧ T__law_three_right (endD Q Px) (startD ["_law_one", "_law_other", "_law_third", "_law_x", "_law_many"] ds) m := by
  obtain ⟨r, s, t, x, rfl, hr, hs, ht, hx, h1, h4, es, et, q⟩ := h
  refine ⟨rfl, ?_⟩
  have lrs : (radd r s).length = r.length := by rw [List.length_zipWith]; omega
  have lst : (radd s t).length = r.length := by rw [List.length_zipWith]; omega
  have b4 : ∀ k : Nat, r.length * k ≤ 4 * k := fun k => Nat.mul_le_mul_right _ h4
  have b4' : ∀ k : Nat, s.length * k ≤ 4 * k := fun k => Nat.mul_le_mul_right _ (by omega)
  simp only [T__law_three_right, lenR, startD, dSeq, dNext, dBreak, dCont, dSet, dIfE, dIfS, dB, dOp, dVar, dC, dCB, dCons, dNil, dUn, dRet, dRetN, dTup, dLst, dLstM, dCall, dDrop, dAsg, dT, Tg.d, Tgs.d, dNotT, dAndT, dOrT, dAndV, dOrV, dNotV, dPar, dFor, dSeqI, dRng1, dRng2, dZip2, dZip3, dEnum, dLC, dLCr, dLCM, finM, gII0, gII, onII, onI, gGcd, gNeg, gAdd, gIt, gIx, gLen, gTupC, gLstC, gLstCM, gAll, gAny, gBls, gSum, gIsi, gAbs, gInt, gStr, gEqB, gIsN, isNon, gRep, dRepM, dSl, dPart, dNoPart, gSl, dRev, dRevM, dM, dM0, gAppend, gPop, dFld, dSetF, dMeth, dMake, dPut, dDict, dPairs, dJoin, dJoined, dJs, dFmt, gIn, exOf, endD, on1, on2, ev_it0, ev_it1, ev_it2, ev_itn1, ev_itn, ev_len_t, ev_len_l, ev_sq_t, ev_sq_l, ev_lst_l, ev_so_t, ev_so_l, ev_so_k, ev_si_t, ev_si_l, ev_si_k, ev_ty_i, ev_ty_b, ev_ty_n, ev_ty_s, ev_ty_t, ev_ty_l, ev_eq_ii, ev_shp_i, ev_shp_b, ev_shp_n, ev_key_i, ev_key_s, kd_NoneType, kd_bool, kd_int, kd_str, kd_tuple, kd_list, kd_dict, ib_NoneType_NoneType, ib_NoneType_bool, ib_NoneType_int, ib_NoneType_str, ib_NoneType_tuple, ib_NoneType_list, ib_NoneType_dict, ib_bool_NoneType, ib_bool_bool, ib_bool_int, ib_bool_str, ib_bool_tuple, ib_bool_list, ib_bool_dict, ib_int_NoneType, ib_int_bool, ib_int_int, ib_int_str, ib_int_tuple, ib_int_list, ib_int_dict, ib_str_NoneType, ib_str_bool, ib_str_int, ib_str_str, ib_str_tuple, ib_str_list, ib_str_dict, ib_tuple_NoneType, ib_tuple_bool, ib_tuple_int, ib_tuple_str, ib_tuple_tuple, ib_tuple_list, ib_tuple_dict, ib_list_NoneType, ib_list_bool, ib_list_int, ib_list_str, ib_list_tuple, ib_list_list, ib_list_dict, ib_dict_NoneType, ib_dict_bool, ib_dict_int, ib_dict_str, ib_dict_tuple, ib_dict_list, ib_dict_dict, true_and, and_true, if_true, if_false, Bool.not_true, Bool.not_false, List.map_cons, List.map_nil, List.length_cons, List.length_nil, List.replicate, List.cons_append, List.nil_append, List.getElem?_cons_succ, List.getElem?_cons_zero, List.set_cons_succ, List.set_cons_zero, ite_true_eq, ite_false_eq, ite_nt_eq, ite_nf_eq, dec_true, dec_not, bxor_f, bxor_t]
  -- sums
  refine c_added hr hs (by omega) (by omega) ?_
  try simp only [startD, dSeq, dNext, dBreak, dCont, dSet, dIfE, dIfS, dB, dOp, dVar, dC, dCB, dCons, dNil, dUn, dRet, dRetN, dTup, dLst, dLstM, dCall, dDrop, dAsg, dT, Tg.d, Tgs.d, dNotT, dAndT, dOrT, dAndV, dOrV, dNotV, dPar, dFor, dSeqI, dRng1, dRng2, dZip2, dZip3, dEnum, dLC, dLCr, dLCM, finM, gII0, gII, onII, onI, gGcd, gNeg, gAdd, gIt, gIx, gLen, gTupC, gLstC, gLstCM, gAll, gAny, gBls, gSum, gIsi, gAbs, gInt, gStr, gEqB, gIsN, isNon, gRep, dRepM, dSl, dPart, dNoPart, gSl, dRev, dRevM, dM, dM0, gAppend, gPop, dFld, dSetF, dMeth, dMake, dPut, dDict, dPairs, dJoin, dJoined, dJs, dFmt, gIn, exOf, endD, on1, on2, ev_it0, ev_it1, ev_it2, ev_itn1, ev_itn, ev_len_t, ev_len_l, ev_sq_t, ev_sq_l, ev_lst_l, ev_so_t, ev_so_l, ev_so_k, ev_si_t, ev_si_l, ev_si_k, ev_ty_i, ev_ty_b, ev_ty_n, ev_ty_s, ev_ty_t, ev_ty_l, ev_eq_ii, ev_shp_i, ev_shp_b, ev_shp_n, ev_key_i, ev_key_s, kd_NoneType, kd_bool, kd_int, kd_str, kd_tuple, kd_list, kd_dict, ib_NoneType_NoneType, ib_NoneType_bool, ib_NoneType_int, ib_NoneType_str, ib_NoneType_tuple, ib_NoneType_list, ib_NoneType_dict, ib_bool_NoneType, ib_bool_bool, ib_bool_int, ib_bool_str, ib_bool_tuple, ib_bool_list, ib_bool_dict, ib_int_NoneType, ib_int_bool, ib_int_int, ib_int_str, ib_int_tuple, ib_int_list, ib_int_dict, ib_str_NoneType, ib_str_bool, ib_str_int, ib_str_str, ib_str_tuple, ib_str_list, ib_str_dict, ib_tuple_NoneType, ib_tuple_bool, ib_tuple_int, ib_tuple_str, ib_tuple_tuple, ib_tuple_list, ib_tuple_dict, ib_list_NoneType, ib_list_bool, ib_list_int, ib_list_str, ib_list_tuple, ib_list_list, ib_list_dict, ib_dict_NoneType, ib_dict_bool, ib_dict_int, ib_dict_str, ib_dict_tuple, ib_dict_list, ib_dict_dict, true_and, and_true, if_true, if_false, Bool.not_true, Bool.not_false, List.map_cons, List.map_nil, List.length_cons, List.length_nil, List.replicate, List.cons_append, List.nil_append, List.getElem?_cons_succ, List.getElem?_cons_zero, List.set_cons_succ, List.set_cons_zero, ite_true_eq, ite_false_eq, ite_nt_eq, ite_nf_eq, dec_true, dec_not, bxor_f, bxor_t]
  refine c_added (hr.add hs) ht (by omega) (by omega) ?_
  try simp only [startD, dSeq, dNext, dBreak, dCont, dSet, dIfE, dIfS, dB, dOp, dVar, dC, dCB, dCons, dNil, dUn, dRet, dRetN, dTup, dLst, dLstM, dCall, dDrop, dAsg, dT, Tg.d, Tgs.d, dNotT, dAndT, dOrT, dAndV, dOrV, dNotV, dPar, dFor, dSeqI, dRng1, dRng2, dZip2, dZip3, dEnum, dLC, dLCr, dLCM, finM, gII0, gII, onII, onI, gGcd, gNeg, gAdd, gIt, gIx, gLen, gTupC, gLstC, gLstCM, gAll, gAny, gBls, gSum, gIsi, gAbs, gInt, gStr, gEqB, gIsN, isNon, gRep, dRepM, dSl, dPart, dNoPart, gSl, dRev, dRevM, dM, dM0, gAppend, gPop, dFld, dSetF, dMeth, dMake, dPut, dDict, dPairs, dJoin, dJoined, dJs, dFmt, gIn, exOf, endD, on1, on2, ev_it0, ev_it1, ev_it2, ev_itn1, ev_itn, ev_len_t, ev_len_l, ev_sq_t, ev_sq_l, ev_lst_l, ev_so_t, ev_so_l, ev_so_k, ev_si_t, ev_si_l, ev_si_k, ev_ty_i, ev_ty_b, ev_ty_n, ev_ty_s, ev_ty_t, ev_ty_l, ev_eq_ii, ev_shp_i, ev_shp_b, ev_shp_n, ev_key_i, ev_key_s, kd_NoneType, kd_bool, kd_int, kd_str, kd_tuple, kd_list, kd_dict, ib_NoneType_NoneType, ib_NoneType_bool, ib_NoneType_int, ib_NoneType_str, ib_NoneType_tuple, ib_NoneType_list, ib_NoneType_dict, ib_bool_NoneType, ib_bool_bool, ib_bool_int, ib_bool_str, ib_bool_tuple, ib_bool_list, ib_bool_dict, ib_int_NoneType, ib_int_bool, ib_int_int, ib_int_str, ib_int_tuple, ib_int_list, ib_int_dict, ib_str_NoneType, ib_str_bool, ib_str_int, ib_str_str, ib_str_tuple, ib_str_list, ib_str_dict, ib_tuple_NoneType, ib_tuple_bool, ib_tuple_int, ib_tuple_str, ib_tuple_tuple, ib_tuple_list, ib_tuple_dict, ib_list_NoneType, ib_list_bool, ib_list_int, ib_list_str, ib_list_tuple, ib_list_list, ib_list_dict, ib_dict_NoneType, ib_dict_bool, ib_dict_int, ib_dict_str, ib_dict_tuple, ib_dict_list, ib_dict_dict, true_and, and_true, if_true, if_false, Bool.not_true, Bool.not_false, List.map_cons, List.map_nil, List.length_cons, List.length_nil, List.replicate, List.cons_append, List.nil_append, List.getElem?_cons_succ, List.getElem?_cons_zero, List.set_cons_succ, List.set_cons_zero, ite_true_eq, ite_false_eq, ite_nt_eq, ite_nf_eq, dec_true, dec_not, bxor_f, bxor_t]
  refine c_added hs ht (by omega) (by omega) ?_
  try simp only [startD, dSeq, dNext, dBreak, dCont, dSet, dIfE, dIfS, dB, dOp, dVar, dC, dCB, dCons, dNil, dUn, dRet, dRetN, dTup, dLst, dLstM, dCall, dDrop, dAsg, dT, Tg.d, Tgs.d, dNotT, dAndT, dOrT, dAndV, dOrV, dNotV, dPar, dFor, dSeqI, dRng1, dRng2, dZip2, dZip3, dEnum, dLC, dLCr, dLCM, finM, gII0, gII, onII, onI, gGcd, gNeg, gAdd, gIt, gIx, gLen, gTupC, gLstC, gLstCM, gAll, gAny, gBls, gSum, gIsi, gAbs, gInt, gStr, gEqB, gIsN, isNon, gRep, dRepM, dSl, dPart, dNoPart, gSl, dRev, dRevM, dM, dM0, gAppend, gPop, dFld, dSetF, dMeth, dMake, dPut, dDict, dPairs, dJoin, dJoined, dJs, dFmt, gIn, exOf, endD, on1, on2, ev_it0, ev_it1, ev_it2, ev_itn1, ev_itn, ev_len_t, ev_len_l, ev_sq_t, ev_sq_l, ev_lst_l, ev_so_t, ev_so_l, ev_so_k, ev_si_t, ev_si_l, ev_si_k, ev_ty_i, ev_ty_b, ev_ty_n, ev_ty_s, ev_ty_t, ev_ty_l, ev_eq_ii, ev_shp_i, ev_shp_b, ev_shp_n, ev_key_i, ev_key_s, kd_NoneType, kd_bool, kd_int, kd_str, kd_tuple, kd_list, kd_dict, ib_NoneType_NoneType, ib_NoneType_bool, ib_NoneType_int, ib_NoneType_str, ib_NoneType_tuple, ib_NoneType_list, ib_NoneType_dict, ib_bool_NoneType, ib_bool_bool, ib_bool_int, ib_bool_str, ib_bool_tuple, ib_bool_list, ib_bool_dict, ib_int_NoneType, ib_int_bool, ib_int_int, ib_int_str, ib_int_tuple, ib_int_list, ib_int_dict, ib_str_NoneType, ib_str_bool, ib_str_int, ib_str_str, ib_str_tuple, ib_str_list, ib_str_dict, ib_tuple_NoneType, ib_tuple_bool, ib_tuple_int, ib_tuple_str, ib_tuple_tuple, ib_tuple_list, ib_tuple_dict, ib_list_NoneType, ib_list_bool, ib_list_int, ib_list_str, ib_list_tuple, ib_list_list, ib_list_dict, ib_dict_NoneType, ib_dict_bool, ib_dict_int, ib_dict_str, ib_dict_tuple, ib_dict_list, ib_dict_dict, true_and, and_true, if_true, if_false, Bool.not_true, Bool.not_false, List.map_cons, List.map_nil, List.length_cons, List.length_nil, List.replicate, List.cons_append, List.nil_append, List.getElem?_cons_succ, List.getElem?_cons_zero, List.set_cons_succ, List.set_cons_zero, ite_true_eq, ite_false_eq, ite_nt_eq, ite_nf_eq, dec_true, dec_not, bxor_f, bxor_t]
  refine c_added hr (hs.add ht) (by omega) (by omega) ?_
  simp only [shpR, eq_encR, radd_assoc, decide_true, startD, dSeq, dNext, dBreak, dCont, dSet, dIfE, dIfS, dB, dOp, dVar, dC, dCB, dCons, dNil, dUn, dRet, dRetN, dTup, dLst, dLstM, dCall, dDrop, dAsg, dT, Tg.d, Tgs.d, dNotT, dAndT, dOrT, dAndV, dOrV, dNotV, dPar, dFor, dSeqI, dRng1, dRng2, dZip2, dZip3, dEnum, dLC, dLCr, dLCM, finM, gII0, gII, onII, onI, gGcd, gNeg, gAdd, gIt, gIx, gLen, gTupC, gLstC, gLstCM, gAll, gAny, gBls, gSum, gIsi, gAbs, gInt, gStr, gEqB, gIsN, isNon, gRep, dRepM, dSl, dPart, dNoPart, gSl, dRev, dRevM, dM, dM0, gAppend, gPop, dFld, dSetF, dMeth, dMake, dPut, dDict, dPairs, dJoin, dJoined, dJs, dFmt, gIn, exOf, endD, on1, on2, ev_it0, ev_it1, ev_it2, ev_itn1, ev_itn, ev_len_t, ev_len_l, ev_sq_t, ev_sq_l, ev_lst_l, ev_so_t, ev_so_l, ev_so_k, ev_si_t, ev_si_l, ev_si_k, ev_ty_i, ev_ty_b, ev_ty_n, ev_ty_s, ev_ty_t, ev_ty_l, ev_eq_ii, ev_shp_i, ev_shp_b, ev_shp_n, ev_key_i, ev_key_s, kd_NoneType, kd_bool, kd_int, kd_str, kd_tuple, kd_list, kd_dict, ib_NoneType_NoneType, ib_NoneType_bool, ib_NoneType_int, ib_NoneType_str, ib_NoneType_tuple, ib_NoneType_list, ib_NoneType_dict, ib_bool_NoneType, ib_bool_bool, ib_bool_int, ib_bool_str, ib_bool_tuple, ib_bool_list, ib_bool_dict, ib_int_NoneType, ib_int_bool, ib_int_int, ib_int_str, ib_int_tuple, ib_int_list, ib_int_dict, ib_str_NoneType, ib_str_bool, ib_str_int, ib_str_str, ib_str_tuple, ib_str_list, ib_str_dict, ib_tuple_NoneType, ib_tuple_bool, ib_tuple_int, ib_tuple_str, ib_tuple_tuple, ib_tuple_list, ib_tuple_dict, ib_list_NoneType, ib_list_bool, ib_list_int, ib_list_str, ib_list_tuple, ib_list_list, ib_list_dict, ib_dict_NoneType, ib_dict_bool, ib_dict_int, ib_dict_str, ib_dict_tuple, ib_dict_list, ib_dict_dict, true_and, and_true, if_true, if_false, Bool.not_true, Bool.not_false, List.map_cons, List.map_nil, List.length_cons, List.length_nil, List.replicate, List.cons_append, List.nil_append, List.getElem?_cons_succ, List.getElem?_cons_zero, List.set_cons_succ, List.set_cons_zero, ite_true_eq, ite_false_eq, ite_nt_eq, ite_nf_eq, dec_true, dec_not, bxor_f, bxor_t]
  refine c_added hr hs (by omega) (by omega) ?_
  try simp only [startD, dSeq, dNext, dBreak, dCont, dSet, dIfE, dIfS, dB, dOp, dVar, dC, dCB, dCons, dNil, dUn, dRet, dRetN, dTup, dLst, dLstM, dCall, dDrop, dAsg, dT, Tg.d, Tgs.d, dNotT, dAndT, dOrT, dAndV, dOrV, dNotV, dPar, dFor, dSeqI, dRng1, dRng2, dZip2, dZip3, dEnum, dLC, dLCr, dLCM, finM, gII0, gII, onII, onI, gGcd, gNeg, gAdd, gIt, gIx, gLen, gTupC, gLstC, gLstCM, gAll, gAny, gBls, gSum, gIsi, gAbs, gInt, gStr, gEqB, gIsN, isNon, gRep, dRepM, dSl, dPart, dNoPart, gSl, dRev, dRevM, dM, dM0, gAppend, gPop, dFld, dSetF, dMeth, dMake, dPut, dDict, dPairs, dJoin, dJoined, dJs, dFmt, gIn, exOf, endD, on1, on2, ev_it0, ev_it1, ev_it2, ev_itn1, ev_itn, ev_len_t, ev_len_l, ev_sq_t, ev_sq_l, ev_lst_l, ev_so_t, ev_so_l, ev_so_k, ev_si_t, ev_si_l, ev_si_k, ev_ty_i, ev_ty_b, ev_ty_n, ev_ty_s, ev_ty_t, ev_ty_l, ev_eq_ii, ev_shp_i, ev_shp_b, ev_shp_n, ev_key_i, ev_key_s, kd_NoneType, kd_bool, kd_int, kd_str, kd_tuple, kd_list, kd_dict, ib_NoneType_NoneType, ib_NoneType_bool, ib_NoneType_int, ib_NoneType_str, ib_NoneType_tuple, ib_NoneType_list, ib_NoneType_dict, ib_bool_NoneType, ib_bool_bool, ib_bool_int, ib_bool_str, ib_bool_tuple, ib_bool_list, ib_bool_dict, ib_int_NoneType, ib_int_bool, ib_int_int, ib_int_str, ib_int_tuple, ib_int_list, ib_int_dict, ib_str_NoneType, ib_str_bool, ib_str_int, ib_str_str, ib_str_tuple, ib_str_list, ib_str_dict, ib_tuple_NoneType, ib_tuple_bool, ib_tuple_int, ib_tuple_str, ib_tuple_tuple, ib_tuple_list, ib_tuple_dict, ib_list_NoneType, ib_list_bool, ib_list_int, ib_list_str, ib_list_tuple, ib_list_list, ib_list_dict, ib_dict_NoneType, ib_dict_bool, ib_dict_int, ib_dict_str, ib_dict_tuple, ib_dict_list, ib_dict_dict, true_and, and_true, if_true, if_false, Bool.not_true, Bool.not_false, List.map_cons, List.map_nil, List.length_cons, List.length_nil, List.replicate, List.cons_append, List.nil_append, List.getElem?_cons_succ, List.getElem?_cons_zero, List.set_cons_succ, List.set_cons_zero, ite_true_eq, ite_false_eq, ite_nt_eq, ite_nf_eq, dec_true, dec_not, bxor_f, bxor_t]
  refine c_added hs hr (by omega) (by omega) ?_
  simp only [shpR, eq_encR, radd_comm s r, decide_true, startD, dSeq, dNext, dBreak, dCont, dSet, dIfE, dIfS, dB, dOp, dVar, dC, dCB, dCons, dNil, dUn, dRet, dRetN, dTup, dLst, dLstM, dCall, dDrop, dAsg, dT, Tg.d, Tgs.d, dNotT, dAndT, dOrT, dAndV, dOrV, dNotV, dPar, dFor, dSeqI, dRng1, dRng2, dZip2, dZip3, dEnum, dLC, dLCr, dLCM, finM, gII0, gII, onII, onI, gGcd, gNeg, gAdd, gIt, gIx, gLen, gTupC, gLstC, gLstCM, gAll, gAny, gBls, gSum, gIsi, gAbs, gInt, gStr, gEqB, gIsN, isNon, gRep, dRepM, dSl, dPart, dNoPart, gSl, dRev, dRevM, dM, dM0, gAppend, gPop, dFld, dSetF, dMeth, dMake, dPut, dDict, dPairs, dJoin, dJoined, dJs, dFmt, gIn, exOf, endD, on1, on2, ev_it0, ev_it1, ev_it2, ev_itn1, ev_itn, ev_len_t, ev_len_l, ev_sq_t, ev_sq_l, ev_lst_l, ev_so_t, ev_so_l, ev_so_k, ev_si_t, ev_si_l, ev_si_k, ev_ty_i, ev_ty_b, ev_ty_n, ev_ty_s, ev_ty_t, ev_ty_l, ev_eq_ii, ev_shp_i, ev_shp_b, ev_shp_n, ev_key_i, ev_key_s, kd_NoneType, kd_bool, kd_int, kd_str, kd_tuple, kd_list, kd_dict, ib_NoneType_NoneType, ib_NoneType_bool, ib_NoneType_int, ib_NoneType_str, ib_NoneType_tuple, ib_NoneType_list, ib_NoneType_dict, ib_bool_NoneType, ib_bool_bool, ib_bool_int, ib_bool_str, ib_bool_tuple, ib_bool_list, ib_bool_dict, ib_int_NoneType, ib_int_bool, ib_int_int, ib_int_str, ib_int_tuple, ib_int_list, ib_int_dict, ib_str_NoneType, ib_str_bool, ib_str_int, ib_str_str, ib_str_tuple, ib_str_list, ib_str_dict, ib_tuple_NoneType, ib_tuple_bool, ib_tuple_int, ib_tuple_str, ib_tuple_tuple, ib_tuple_list, ib_tuple_dict, ib_list_NoneType, ib_list_bool, ib_list_int, ib_list_str, ib_list_tuple, ib_list_list, ib_list_dict, ib_dict_NoneType, ib_dict_bool, ib_dict_int, ib_dict_str, ib_dict_tuple, ib_dict_list, ib_dict_dict, true_and, and_true, if_true, if_false, Bool.not_true, Bool.not_false, List.map_cons, List.map_nil, List.length_cons, List.length_nil, List.replicate, List.cons_append, List.nil_append, List.getElem?_cons_succ, List.getElem?_cons_zero, List.set_cons_succ, List.set_cons_zero, ite_true_eq, ite_false_eq, ite_nt_eq, ite_nf_eq, dec_true, dec_not, bxor_f, bxor_t]
  refine c_back (by omega) ?_
  try simp only [startD, dSeq, dNext, dBreak, dCont, dSet, dIfE, dIfS, dB, dOp, dVar, dC, dCB, dCons, dNil, dUn, dRet, dRetN, dTup, dLst, dLstM, dCall, dDrop, dAsg, dT, Tg.d, Tgs.d, dNotT, dAndT, dOrT, dAndV, dOrV, dNotV, dPar, dFor, dSeqI, dRng1, dRng2, dZip2, dZip3, dEnum, dLC, dLCr, dLCM, finM, gII0, gII, onII, onI, gGcd, gNeg, gAdd, gIt, gIx, gLen, gTupC, gLstC, gLstCM, gAll, gAny, gBls, gSum, gIsi, gAbs, gInt, gStr, gEqB, gIsN, isNon, gRep, dRepM, dSl, dPart, dNoPart, gSl, dRev, dRevM, dM, dM0, gAppend, gPop, dFld, dSetF, dMeth, dMake, dPut, dDict, dPairs, dJoin, dJoined, dJs, dFmt, gIn, exOf, endD, on1, on2, ev_it0, ev_it1, ev_it2, ev_itn1, ev_itn, ev_len_t, ev_len_l, ev_sq_t, ev_sq_l, ev_lst_l, ev_so_t, ev_so_l, ev_so_k, ev_si_t, ev_si_l, ev_si_k, ev_ty_i, ev_ty_b, ev_ty_n, ev_ty_s, ev_ty_t, ev_ty_l, ev_eq_ii, ev_shp_i, ev_shp_b, ev_shp_n, ev_key_i, ev_key_s, kd_NoneType, kd_bool, kd_int, kd_str, kd_tuple, kd_list, kd_dict, ib_NoneType_NoneType, ib_NoneType_bool, ib_NoneType_int, ib_NoneType_str, ib_NoneType_tuple, ib_NoneType_list, ib_NoneType_dict, ib_bool_NoneType, ib_bool_bool, ib_bool_int, ib_bool_str, ib_bool_tuple, ib_bool_list, ib_bool_dict, ib_int_NoneType, ib_int_bool, ib_int_int, ib_int_str, ib_int_tuple, ib_int_list, ib_int_dict, ib_str_NoneType, ib_str_bool, ib_str_int, ib_str_str, ib_str_tuple, ib_str_list, ib_str_dict, ib_tuple_NoneType, ib_tuple_bool, ib_tuple_int, ib_tuple_str, ib_tuple_tuple, ib_tuple_list, ib_tuple_dict, ib_list_NoneType, ib_list_bool, ib_list_int, ib_list_str, ib_list_tuple, ib_list_list, ib_list_dict, ib_dict_NoneType, ib_dict_bool, ib_dict_int, ib_dict_str, ib_dict_tuple, ib_dict_list, ib_dict_dict, true_and, and_true, if_true, if_false, Bool.not_true, Bool.not_false, List.map_cons, List.map_nil, List.length_cons, List.length_nil, List.replicate, List.cons_append, List.nil_append, List.getElem?_cons_succ, List.getElem?_cons_zero, List.set_cons_succ, List.set_cons_zero, ite_true_eq, ite_false_eq, ite_nt_eq, ite_nf_eq, dec_true, dec_not, bxor_f, bxor_t]
  refine c_added hr hr.neg (by omega) (by omega) ?_
  try simp only [startD, dSeq, dNext, dBreak, dCont, dSet, dIfE, dIfS, dB, dOp, dVar, dC, dCB, dCons, dNil, dUn, dRet, dRetN, dTup, dLst, dLstM, dCall, dDrop, dAsg, dT, Tg.d, Tgs.d, dNotT, dAndT, dOrT, dAndV, dOrV, dNotV, dPar, dFor, dSeqI, dRng1, dRng2, dZip2, dZip3, dEnum, dLC, dLCr, dLCM, finM, gII0, gII, onII, onI, gGcd, gNeg, gAdd, gIt, gIx, gLen, gTupC, gLstC, gLstCM, gAll, gAny, gBls, gSum, gIsi, gAbs, gInt, gStr, gEqB, gIsN, isNon, gRep, dRepM, dSl, dPart, dNoPart, gSl, dRev, dRevM, dM, dM0, gAppend, gPop, dFld, dSetF, dMeth, dMake, dPut, dDict, dPairs, dJoin, dJoined, dJs, dFmt, gIn, exOf, endD, on1, on2, ev_it0, ev_it1, ev_it2, ev_itn1, ev_itn, ev_len_t, ev_len_l, ev_sq_t, ev_sq_l, ev_lst_l, ev_so_t, ev_so_l, ev_so_k, ev_si_t, ev_si_l, ev_si_k, ev_ty_i, ev_ty_b, ev_ty_n, ev_ty_s, ev_ty_t, ev_ty_l, ev_eq_ii, ev_shp_i, ev_shp_b, ev_shp_n, ev_key_i, ev_key_s, kd_NoneType, kd_bool, kd_int, kd_str, kd_tuple, kd_list, kd_dict, ib_NoneType_NoneType, ib_NoneType_bool, ib_NoneType_int, ib_NoneType_str, ib_NoneType_tuple, ib_NoneType_list, ib_NoneType_dict, ib_bool_NoneType, ib_bool_bool, ib_bool_int, ib_bool_str, ib_bool_tuple, ib_bool_list, ib_bool_dict, ib_int_NoneType, ib_int_bool, ib_int_int, ib_int_str, ib_int_tuple, ib_int_list, ib_int_dict, ib_str_NoneType, ib_str_bool, ib_str_int, ib_str_str, ib_str_tuple, ib_str_list, ib_str_dict, ib_tuple_NoneType, ib_tuple_bool, ib_tuple_int, ib_tuple_str, ib_tuple_tuple, ib_tuple_list, ib_tuple_dict, ib_list_NoneType, ib_list_bool, ib_list_int, ib_list_str, ib_list_tuple, ib_list_list, ib_list_dict, ib_dict_NoneType, ib_dict_bool, ib_dict_int, ib_dict_str, ib_dict_tuple, ib_dict_list, ib_dict_dict, true_and, and_true, if_true, if_false, Bool.not_true, Bool.not_false, List.map_cons, List.map_nil, List.length_cons, List.length_nil, List.replicate, List.cons_append, List.nil_append, List.getElem?_cons_succ, List.getElem?_cons_zero, List.set_cons_succ, List.set_cons_zero, ite_true_eq, ite_false_eq, ite_nt_eq, ite_nf_eq, dec_true, dec_not, bxor_f, bxor_t]
  refine c_nought h1 (by omega) ?_
  try simp only [shpR, eq_encR, radd_neg, decide_true, startD, dSeq, dNext, dBreak, dCont, dSet, dIfE, dIfS, dB, dOp, dVar, dC, dCB, dCons, dNil, dUn, dRet, dRetN, dTup, dLst, dLstM, dCall, dDrop, dAsg, dT, Tg.d, Tgs.d, dNotT, dAndT, dOrT, dAndV, dOrV, dNotV, dPar, dFor, dSeqI, dRng1, dRng2, dZip2, dZip3, dEnum, dLC, dLCr, dLCM, finM, gII0, gII, onII, onI, gGcd, gNeg, gAdd, gIt, gIx, gLen, gTupC, gLstC, gLstCM, gAll, gAny, gBls, gSum, gIsi, gAbs, gInt, gStr, gEqB, gIsN, isNon, gRep, dRepM, dSl, dPart, dNoPart, gSl, dRev, dRevM, dM, dM0, gAppend, gPop, dFld, dSetF, dMeth, dMake, dPut, dDict, dPairs, dJoin, dJoined, dJs, dFmt, gIn, exOf, endD, on1, on2, ev_it0, ev_it1, ev_it2, ev_itn1, ev_itn, ev_len_t, ev_len_l, ev_sq_t, ev_sq_l, ev_lst_l, ev_so_t, ev_so_l, ev_so_k, ev_si_t, ev_si_l, ev_si_k, ev_ty_i, ev_ty_b, ev_ty_n, ev_ty_s, ev_ty_t, ev_ty_l, ev_eq_ii, ev_shp_i, ev_shp_b, ev_shp_n, ev_key_i, ev_key_s, kd_NoneType, kd_bool, kd_int, kd_str, kd_tuple, kd_list, kd_dict, ib_NoneType_NoneType, ib_NoneType_bool, ib_NoneType_int, ib_NoneType_str, ib_NoneType_tuple, ib_NoneType_list, ib_NoneType_dict, ib_bool_NoneType, ib_bool_bool, ib_bool_int, ib_bool_str, ib_bool_tuple, ib_bool_list, ib_bool_dict, ib_int_NoneType, ib_int_bool, ib_int_int, ib_int_str, ib_int_tuple, ib_int_list, ib_int_dict, ib_str_NoneType, ib_str_bool, ib_str_int, ib_str_str, ib_str_tuple, ib_str_list, ib_str_dict, ib_tuple_NoneType, ib_tuple_bool, ib_tuple_int, ib_tuple_str, ib_tuple_tuple, ib_tuple_list, ib_tuple_dict, ib_list_NoneType, ib_list_bool, ib_list_int, ib_list_str, ib_list_tuple, ib_list_list, ib_list_dict, ib_dict_NoneType, ib_dict_bool, ib_dict_int, ib_dict_str, ib_dict_tuple, ib_dict_list, ib_dict_dict, true_and, and_true, if_true, if_false, Bool.not_true, Bool.not_false, List.map_cons, List.map_nil, List.length_cons, List.length_nil, List.replicate, List.cons_append, List.nil_append, List.getElem?_cons_succ, List.getElem?_cons_zero, List.set_cons_succ, List.set_cons_zero, ite_true_eq, ite_false_eq, ite_nt_eq, ite_nf_eq, dec_true, dec_not, bxor_f, bxor_t]
  refine c_taken hr hs (by omega) (by omega) ?_
  try simp only [startD, dSeq, dNext, dBreak, dCont, dSet, dIfE, dIfS, dB, dOp, dVar, dC, dCB, dCons, dNil, dUn, dRet, dRetN, dTup, dLst, dLstM, dCall, dDrop, dAsg, dT, Tg.d, Tgs.d, dNotT, dAndT, dOrT, dAndV, dOrV, dNotV, dPar, dFor, dSeqI, dRng1, dRng2, dZip2, dZip3, dEnum, dLC, dLCr, dLCM, finM, gII0, gII, onII, onI, gGcd, gNeg, gAdd, gIt, gIx, gLen, gTupC, gLstC, gLstCM, gAll, gAny, gBls, gSum, gIsi, gAbs, gInt, gStr, gEqB, gIsN, isNon, gRep, dRepM, dSl, dPart, dNoPart, gSl, dRev, dRevM, dM, dM0, gAppend, gPop, dFld, dSetF, dMeth, dMake, dPut, dDict, dPairs, dJoin, dJoined, dJs, dFmt, gIn, exOf, endD, on1, on2, ev_it0, ev_it1, ev_it2, ev_itn1, ev_itn, ev_len_t, ev_len_l, ev_sq_t, ev_sq_l, ev_lst_l, ev_so_t, ev_so_l, ev_so_k, ev_si_t, ev_si_l, ev_si_k, ev_ty_i, ev_ty_b, ev_ty_n, ev_ty_s, ev_ty_t, ev_ty_l, ev_eq_ii, ev_shp_i, ev_shp_b, ev_shp_n, ev_key_i, ev_key_s, kd_NoneType, kd_bool, kd_int, kd_str, kd_tuple, kd_list, kd_dict, ib_NoneType_NoneType, ib_NoneType_bool, ib_NoneType_int, ib_NoneType_str, ib_NoneType_tuple, ib_NoneType_list, ib_NoneType_dict, ib_bool_NoneType, ib_bool_bool, ib_bool_int, ib_bool_str, ib_bool_tuple, ib_bool_list, ib_bool_dict, ib_int_NoneType, ib_int_bool, ib_int_int, ib_int_str, ib_int_tuple, ib_int_list, ib_int_dict, ib_str_NoneType, ib_str_bool, ib_str_int, ib_str_str, ib_str_tuple, ib_str_list, ib_str_dict, ib_tuple_NoneType, ib_tuple_bool, ib_tuple_int, ib_tuple_str, ib_tuple_tuple, ib_tuple_list, ib_tuple_dict, ib_list_NoneType, ib_list_bool, ib_list_int, ib_list_str, ib_list_tuple, ib_list_list, ib_list_dict, ib_dict_NoneType, ib_dict_bool, ib_dict_int, ib_dict_str, ib_dict_tuple, ib_dict_list, ib_dict_dict, true_and, and_true, if_true, if_false, Bool.not_true, Bool.not_false, List.map_cons, List.map_nil, List.length_cons, List.length_nil, List.replicate, List.cons_append, List.nil_append, List.getElem?_cons_succ, List.getElem?_cons_zero, List.set_cons_succ, List.set_cons_zero, ite_true_eq, ite_false_eq, ite_nt_eq, ite_nf_eq, dec_true, dec_not, bxor_f, bxor_t]
  refine c_back (by omega) ?_
  try simp only [startD, dSeq, dNext, dBreak, dCont, dSet, dIfE, dIfS, dB, dOp, dVar, dC, dCB, dCons, dNil, dUn, dRet, dRetN, dTup, dLst, dLstM, dCall, dDrop, dAsg, dT, Tg.d, Tgs.d, dNotT, dAndT, dOrT, dAndV, dOrV, dNotV, dPar, dFor, dSeqI, dRng1, dRng2, dZip2, dZip3, dEnum, dLC, dLCr, dLCM, finM, gII0, gII, onII, onI, gGcd, gNeg, gAdd, gIt, gIx, gLen, gTupC, gLstC, gLstCM, gAll, gAny, gBls, gSum, gIsi, gAbs, gInt, gStr, gEqB, gIsN, isNon, gRep, dRepM, dSl, dPart, dNoPart, gSl, dRev, dRevM, dM, dM0, gAppend, gPop, dFld, dSetF, dMeth, dMake, dPut, dDict, dPairs, dJoin, dJoined, dJs, dFmt, gIn, exOf, endD, on1, on2, ev_it0, ev_it1, ev_it2, ev_itn1, ev_itn, ev_len_t, ev_len_l, ev_sq_t, ev_sq_l, ev_lst_l, ev_so_t, ev_so_l, ev_so_k, ev_si_t, ev_si_l, ev_si_k, ev_ty_i, ev_ty_b, ev_ty_n, ev_ty_s, ev_ty_t, ev_ty_l, ev_eq_ii, ev_shp_i, ev_shp_b, ev_shp_n, ev_key_i, ev_key_s, kd_NoneType, kd_bool, kd_int, kd_str, kd_tuple, kd_list, kd_dict, ib_NoneType_NoneType, ib_NoneType_bool, ib_NoneType_int, ib_NoneType_str, ib_NoneType_tuple, ib_NoneType_list, ib_NoneType_dict, ib_bool_NoneType, ib_bool_bool, ib_bool_int, ib_bool_str, ib_bool_tuple, ib_bool_list, ib_bool_dict, ib_int_NoneType, ib_int_bool, ib_int_int, ib_int_str, ib_int_tuple, ib_int_list, ib_int_dict, ib_str_NoneType, ib_str_bool, ib_str_int, ib_str_str, ib_str_tuple, ib_str_list, ib_str_dict, ib_tuple_NoneType, ib_tuple_bool, ib_tuple_int, ib_tuple_str, ib_tuple_tuple, ib_tuple_list, ib_tuple_dict, ib_list_NoneType, ib_list_bool, ib_list_int, ib_list_str, ib_list_tuple, ib_list_list, ib_list_dict, ib_dict_NoneType, ib_dict_bool, ib_dict_int, ib_dict_str, ib_dict_tuple, ib_dict_list, ib_dict_dict, true_and, and_true, if_true, if_false, Bool.not_true, Bool.not_false, List.map_cons, List.map_nil, List.length_cons, List.length_nil, List.replicate, List.cons_append, List.nil_append, List.getElem?_cons_succ, List.getElem?_cons_zero, List.set_cons_succ, List.set_cons_zero, ite_true_eq, ite_false_eq, ite_nt_eq, ite_nf_eq, dec_true, dec_not, bxor_f, bxor_t]
  refine c_added hr hs.neg (by omega) (by omega) ?_
  try simp only [shpR, eq_encR, decide_true, startD, dSeq, dNext, dBreak, dCont, dSet, dIfE, dIfS, dB, dOp, dVar, dC, dCB, dCons, dNil, dUn, dRet, dRetN, dTup, dLst, dLstM, dCall, dDrop, dAsg, dT, Tg.d, Tgs.d, dNotT, dAndT, dOrT, dAndV, dOrV, dNotV, dPar, dFor, dSeqI, dRng1, dRng2, dZip2, dZip3, dEnum, dLC, dLCr, dLCM, finM, gII0, gII, onII, onI, gGcd, gNeg, gAdd, gIt, gIx, gLen, gTupC, gLstC, gLstCM, gAll, gAny, gBls, gSum, gIsi, gAbs, gInt, gStr, gEqB, gIsN, isNon, gRep, dRepM, dSl, dPart, dNoPart, gSl, dRev, dRevM, dM, dM0, gAppend, gPop, dFld, dSetF, dMeth, dMake, dPut, dDict, dPairs, dJoin, dJoined, dJs, dFmt, gIn, exOf, endD, on1, on2, ev_it0, ev_it1, ev_it2, ev_itn1, ev_itn, ev_len_t, ev_len_l, ev_sq_t, ev_sq_l, ev_lst_l, ev_so_t, ev_so_l, ev_so_k, ev_si_t, ev_si_l, ev_si_k, ev_ty_i, ev_ty_b, ev_ty_n, ev_ty_s, ev_ty_t, ev_ty_l, ev_eq_ii, ev_shp_i, ev_shp_b, ev_shp_n, ev_key_i, ev_key_s, kd_NoneType, kd_bool, kd_int, kd_str, kd_tuple, kd_list, kd_dict, ib_NoneType_NoneType, ib_NoneType_bool, ib_NoneType_int, ib_NoneType_str, ib_NoneType_tuple, ib_NoneType_list, ib_NoneType_dict, ib_bool_NoneType, ib_bool_bool, ib_bool_int, ib_bool_str, ib_bool_tuple, ib_bool_list, ib_bool_dict, ib_int_NoneType, ib_int_bool, ib_int_int, ib_int_str, ib_int_tuple, ib_int_list, ib_int_dict, ib_str_NoneType, ib_str_bool, ib_str_int, ib_str_str, ib_str_tuple, ib_str_list, ib_str_dict, ib_tuple_NoneType, ib_tuple_bool, ib_tuple_int, ib_tuple_str, ib_tuple_tuple, ib_tuple_list, ib_tuple_dict, ib_list_NoneType, ib_list_bool, ib_list_int, ib_list_str, ib_list_tuple, ib_list_list, ib_list_dict, ib_dict_NoneType, ib_dict_bool, ib_dict_int, ib_dict_str, ib_dict_tuple, ib_dict_list, ib_dict_dict, true_and, and_true, if_true, if_false, Bool.not_true, Bool.not_false, List.map_cons, List.map_nil, List.length_cons, List.length_nil, List.replicate, List.cons_append, List.nil_append, List.getElem?_cons_succ, List.getElem?_cons_zero, List.set_cons_succ, List.set_cons_zero, ite_true_eq, ite_false_eq, ite_nt_eq, ite_nf_eq, dec_true, dec_not, bxor_f, bxor_t]
  refine c_back (by omega) ?_
  try simp only [startD, dSeq, dNext, dBreak, dCont, dSet, dIfE, dIfS, dB, dOp, dVar, dC, dCB, dCons, dNil, dUn, dRet, dRetN, dTup, dLst, dLstM, dCall, dDrop, dAsg, dT, Tg.d, Tgs.d, dNotT, dAndT, dOrT, dAndV, dOrV, dNotV, dPar, dFor, dSeqI, dRng1, dRng2, dZip2, dZip3, dEnum, dLC, dLCr, dLCM, finM, gII0, gII, onII, onI, gGcd, gNeg, gAdd, gIt, gIx, gLen, gTupC, gLstC, gLstCM, gAll, gAny, gBls, gSum, gIsi, gAbs, gInt, gStr, gEqB, gIsN, isNon, gRep, dRepM, dSl, dPart, dNoPart, gSl, dRev, dRevM, dM, dM0, gAppend, gPop, dFld, dSetF, dMeth, dMake, dPut, dDict, dPairs, dJoin, dJoined, dJs, dFmt, gIn, exOf, endD, on1, on2, ev_it0, ev_it1, ev_it2, ev_itn1, ev_itn, ev_len_t, ev_len_l, ev_sq_t, ev_sq_l, ev_lst_l, ev_so_t, ev_so_l, ev_so_k, ev_si_t, ev_si_l, ev_si_k, ev_ty_i, ev_ty_b, ev_ty_n, ev_ty_s, ev_ty_t, ev_ty_l, ev_eq_ii, ev_shp_i, ev_shp_b, ev_shp_n, ev_key_i, ev_key_s, kd_NoneType, kd_bool, kd_int, kd_str, kd_tuple, kd_list, kd_dict, ib_NoneType_NoneType, ib_NoneType_bool, ib_NoneType_int, ib_NoneType_str, ib_NoneType_tuple, ib_NoneType_list, ib_NoneType_dict, ib_bool_NoneType, ib_bool_bool, ib_bool_int, ib_bool_str, ib_bool_tuple, ib_bool_list, ib_bool_dict, ib_int_NoneType, ib_int_bool, ib_int_int, ib_int_str, ib_int_tuple, ib_int_list, ib_int_dict, ib_str_NoneType, ib_str_bool, ib_str_int, ib_str_str, ib_str_tuple, ib_str_list, ib_str_dict, ib_tuple_NoneType, ib_tuple_bool, ib_tuple_int, ib_tuple_str, ib_tuple_tuple, ib_tuple_list, ib_tuple_dict, ib_list_NoneType, ib_list_bool, ib_list_int, ib_list_str, ib_list_tuple, ib_list_list, ib_list_dict, ib_dict_NoneType, ib_dict_bool, ib_dict_int, ib_dict_str, ib_dict_tuple, ib_dict_list, ib_dict_dict, true_and, and_true, if_true, if_false, Bool.not_true, Bool.not_false, List.map_cons, List.map_nil, List.length_cons, List.length_nil, List.replicate, List.cons_append, List.nil_append, List.getElem?_cons_succ, List.getElem?_cons_zero, List.set_cons_succ, List.set_cons_zero, ite_true_eq, ite_false_eq, ite_nt_eq, ite_nf_eq, dec_true, dec_not, bxor_f, bxor_t]
  refine c_back (by rw [List.length_map]; omega) ?_
  try simp only [shpR, eq_encR, rneg_neg, decide_true, startD, dSeq, dNext, dBreak, dCont, dSet, dIfE, dIfS, dB, dOp, dVar, dC, dCB, dCons, dNil, dUn, dRet, dRetN, dTup, dLst, dLstM, dCall, dDrop, dAsg, dT, Tg.d, Tgs.d, dNotT, dAndT, dOrT, dAndV, dOrV, dNotV, dPar, dFor, dSeqI, dRng1, dRng2, dZip2, dZip3, dEnum, dLC, dLCr, dLCM, finM, gII0, gII, onII, onI, gGcd, gNeg, gAdd, gIt, gIx, gLen, gTupC, gLstC, gLstCM, gAll, gAny, gBls, gSum, gIsi, gAbs, gInt, gStr, gEqB, gIsN, isNon, gRep, dRepM, dSl, dPart, dNoPart, gSl, dRev, dRevM, dM, dM0, gAppend, gPop, dFld, dSetF, dMeth, dMake, dPut, dDict, dPairs, dJoin, dJoined, dJs, dFmt, gIn, exOf, endD, on1, on2, ev_it0, ev_it1, ev_it2, ev_itn1, ev_itn, ev_len_t, ev_len_l, ev_sq_t, ev_sq_l, ev_lst_l, ev_so_t, ev_so_l, ev_so_k, ev_si_t, ev_si_l, ev_si_k, ev_ty_i, ev_ty_b, ev_ty_n, ev_ty_s, ev_ty_t, ev_ty_l, ev_eq_ii, ev_shp_i, ev_shp_b, ev_shp_n, ev_key_i, ev_key_s, kd_NoneType, kd_bool, kd_int, kd_str, kd_tuple, kd_list, kd_dict, ib_NoneType_NoneType, ib_NoneType_bool, ib_NoneType_int, ib_NoneType_str, ib_NoneType_tuple, ib_NoneType_list, ib_NoneType_dict, ib_bool_NoneType, ib_bool_bool, ib_bool_int, ib_bool_str, ib_bool_tuple, ib_bool_list, ib_bool_dict, ib_int_NoneType, ib_int_bool, ib_int_int, ib_int_str, ib_int_tuple, ib_int_list, ib_int_dict, ib_str_NoneType, ib_str_bool, ib_str_int, ib_str_str, ib_str_tuple, ib_str_list, ib_str_dict, ib_tuple_NoneType, ib_tuple_bool, ib_tuple_int, ib_tuple_str, ib_tuple_tuple, ib_tuple_list, ib_tuple_dict, ib_list_NoneType, ib_list_bool, ib_list_int, ib_list_str, ib_list_tuple, ib_list_list, ib_list_dict, ib_dict_NoneType, ib_dict_bool, ib_dict_int, ib_dict_str, ib_dict_tuple, ib_dict_list, ib_dict_dict, true_and, and_true, if_true, if_false, Bool.not_true, Bool.not_false, List.map_cons, List.map_nil, List.length_cons, List.length_nil, List.replicate, List.cons_append, List.nil_append, List.getElem?_cons_succ, List.getElem?_cons_zero, List.set_cons_succ, List.set_cons_zero, ite_true_eq, ite_false_eq, ite_nt_eq, ite_nf_eq, dec_true, dec_not, bxor_f, bxor_t]
  refine c_added hr hs (by omega) (by omega) ?_
  try simp only [startD, dSeq, dNext, dBreak, dCont, dSet, dIfE, dIfS, dB, dOp, dVar, dC, dCB, dCons, dNil, dUn, dRet, dRetN, dTup, dLst, dLstM, dCall, dDrop, dAsg, dT, Tg.d, Tgs.d, dNotT, dAndT, dOrT, dAndV, dOrV, dNotV, dPar, dFor, dSeqI, dRng1, dRng2, dZip2, dZip3, dEnum, dLC, dLCr, dLCM, finM, gII0, gII, onII, onI, gGcd, gNeg, gAdd, gIt, gIx, gLen, gTupC, gLstC, gLstCM, gAll, gAny, gBls, gSum, gIsi, gAbs, gInt, gStr, gEqB, gIsN, isNon, gRep, dRepM, dSl, dPart, dNoPart, gSl, dRev, dRevM, dM, dM0, gAppend, gPop, dFld, dSetF, dMeth, dMake, dPut, dDict, dPairs, dJoin, dJoined, dJs, dFmt, gIn, exOf, endD, on1, on2, ev_it0, ev_it1, ev_it2, ev_itn1, ev_itn, ev_len_t, ev_len_l, ev_sq_t, ev_sq_l, ev_lst_l, ev_so_t, ev_so_l, ev_so_k, ev_si_t, ev_si_l, ev_si_k, ev_ty_i, ev_ty_b, ev_ty_n, ev_ty_s, ev_ty_t, ev_ty_l, ev_eq_ii, ev_shp_i, ev_shp_b, ev_shp_n, ev_key_i, ev_key_s, kd_NoneType, kd_bool, kd_int, kd_str, kd_tuple, kd_list, kd_dict, ib_NoneType_NoneType, ib_NoneType_bool, ib_NoneType_int, ib_NoneType_str, ib_NoneType_tuple, ib_NoneType_list, ib_NoneType_dict, ib_bool_NoneType, ib_bool_bool, ib_bool_int, ib_bool_str, ib_bool_tuple, ib_bool_list, ib_bool_dict, ib_int_NoneType, ib_int_bool, ib_int_int, ib_int_str, ib_int_tuple, ib_int_list, ib_int_dict, ib_str_NoneType, ib_str_bool, ib_str_int, ib_str_str, ib_str_tuple, ib_str_list, ib_str_dict, ib_tuple_NoneType, ib_tuple_bool, ib_tuple_int, ib_tuple_str, ib_tuple_tuple, ib_tuple_list, ib_tuple_dict, ib_list_NoneType, ib_list_bool, ib_list_int, ib_list_str, ib_list_tuple, ib_list_list, ib_list_dict, ib_dict_NoneType, ib_dict_bool, ib_dict_int, ib_dict_str, ib_dict_tuple, ib_dict_list, ib_dict_dict, true_and, and_true, if_true, if_false, Bool.not_true, Bool.not_false, List.map_cons, List.map_nil, List.length_cons, List.length_nil, List.replicate, List.cons_append, List.nil_append, List.getElem?_cons_succ, List.getElem?_cons_zero, List.set_cons_succ, List.set_cons_zero, ite_true_eq, ite_false_eq, ite_nt_eq, ite_nf_eq, dec_true, dec_not, bxor_f, bxor_t]
  refine c_product (hr.add hs) ht (by have := b4 (32 + 32 + 1 + 32 + 2); omega) ?_
  try simp only [startD, dSeq, dNext, dBreak, dCont, dSet, dIfE, dIfS, dB, dOp, dVar, dC, dCB, dCons, dNil, dUn, dRet, dRetN, dTup, dLst, dLstM, dCall, dDrop, dAsg, dT, Tg.d, Tgs.d, dNotT, dAndT, dOrT, dAndV, dOrV, dNotV, dPar, dFor, dSeqI, dRng1, dRng2, dZip2, dZip3, dEnum, dLC, dLCr, dLCM, finM, gII0, gII, onII, onI, gGcd, gNeg, gAdd, gIt, gIx, gLen, gTupC, gLstC, gLstCM, gAll, gAny, gBls, gSum, gIsi, gAbs, gInt, gStr, gEqB, gIsN, isNon, gRep, dRepM, dSl, dPart, dNoPart, gSl, dRev, dRevM, dM, dM0, gAppend, gPop, dFld, dSetF, dMeth, dMake, dPut, dDict, dPairs, dJoin, dJoined, dJs, dFmt, gIn, exOf, endD, on1, on2, ev_it0, ev_it1, ev_it2, ev_itn1, ev_itn, ev_len_t, ev_len_l, ev_sq_t, ev_sq_l, ev_lst_l, ev_so_t, ev_so_l, ev_so_k, ev_si_t, ev_si_l, ev_si_k, ev_ty_i, ev_ty_b, ev_ty_n, ev_ty_s, ev_ty_t, ev_ty_l, ev_eq_ii, ev_shp_i, ev_shp_b, ev_shp_n, ev_key_i, ev_key_s, kd_NoneType, kd_bool, kd_int, kd_str, kd_tuple, kd_list, kd_dict, ib_NoneType_NoneType, ib_NoneType_bool, ib_NoneType_int, ib_NoneType_str, ib_NoneType_tuple, ib_NoneType_list, ib_NoneType_dict, ib_bool_NoneType, ib_bool_bool, ib_bool_int, ib_bool_str, ib_bool_tuple, ib_bool_list, ib_bool_dict, ib_int_NoneType, ib_int_bool, ib_int_int, ib_int_str, ib_int_tuple, ib_int_list, ib_int_dict, ib_str_NoneType, ib_str_bool, ib_str_int, ib_str_str, ib_str_tuple, ib_str_list, ib_str_dict, ib_tuple_NoneType, ib_tuple_bool, ib_tuple_int, ib_tuple_str, ib_tuple_tuple, ib_tuple_list, ib_tuple_dict, ib_list_NoneType, ib_list_bool, ib_list_int, ib_list_str, ib_list_tuple, ib_list_list, ib_list_dict, ib_dict_NoneType, ib_dict_bool, ib_dict_int, ib_dict_str, ib_dict_tuple, ib_dict_list, ib_dict_dict, true_and, and_true, if_true, if_false, Bool.not_true, Bool.not_false, List.map_cons, List.map_nil, List.length_cons, List.length_nil, List.replicate, List.cons_append, List.nil_append, List.getElem?_cons_succ, List.getElem?_cons_zero, List.set_cons_succ, List.set_cons_zero, ite_true_eq, ite_false_eq, ite_nt_eq, ite_nf_eq, dec_true, dec_not, bxor_f, bxor_t]
  refine c_product hr ht (by have := b4 (32 + 32 + 2); omega) ?_
  try simp only [startD, dSeq, dNext, dBreak, dCont, dSet, dIfE, dIfS, dB, dOp, dVar, dC, dCB, dCons, dNil, dUn, dRet, dRetN, dTup, dLst, dLstM, dCall, dDrop, dAsg, dT, Tg.d, Tgs.d, dNotT, dAndT, dOrT, dAndV, dOrV, dNotV, dPar, dFor, dSeqI, dRng1, dRng2, dZip2, dZip3, dEnum, dLC, dLCr, dLCM, finM, gII0, gII, onII, onI, gGcd, gNeg, gAdd, gIt, gIx, gLen, gTupC, gLstC, gLstCM, gAll, gAny, gBls, gSum, gIsi, gAbs, gInt, gStr, gEqB, gIsN, isNon, gRep, dRepM, dSl, dPart, dNoPart, gSl, dRev, dRevM, dM, dM0, gAppend, gPop, dFld, dSetF, dMeth, dMake, dPut, dDict, dPairs, dJoin, dJoined, dJs, dFmt, gIn, exOf, endD, on1, on2, ev_it0, ev_it1, ev_it2, ev_itn1, ev_itn, ev_len_t, ev_len_l, ev_sq_t, ev_sq_l, ev_lst_l, ev_so_t, ev_so_l, ev_so_k, ev_si_t, ev_si_l, ev_si_k, ev_ty_i, ev_ty_b, ev_ty_n, ev_ty_s, ev_ty_t, ev_ty_l, ev_eq_ii, ev_shp_i, ev_shp_b, ev_shp_n, ev_key_i, ev_key_s, kd_NoneType, kd_bool, kd_int, kd_str, kd_tuple, kd_list, kd_dict, ib_NoneType_NoneType, ib_NoneType_bool, ib_NoneType_int, ib_NoneType_str, ib_NoneType_tuple, ib_NoneType_list, ib_NoneType_dict, ib_bool_NoneType, ib_bool_bool, ib_bool_int, ib_bool_str, ib_bool_tuple, ib_bool_list, ib_bool_dict, ib_int_NoneType, ib_int_bool, ib_int_int, ib_int_str, ib_int_tuple, ib_int_list, ib_int_dict, ib_str_NoneType, ib_str_bool, ib_str_int, ib_str_str, ib_str_tuple, ib_str_list, ib_str_dict, ib_tuple_NoneType, ib_tuple_bool, ib_tuple_int, ib_tuple_str, ib_tuple_tuple, ib_tuple_list, ib_tuple_dict, ib_list_NoneType, ib_list_bool, ib_list_int, ib_list_str, ib_list_tuple, ib_list_list, ib_list_dict, ib_dict_NoneType, ib_dict_bool, ib_dict_int, ib_dict_str, ib_dict_tuple, ib_dict_list, ib_dict_dict, true_and, and_true, if_true, if_false, Bool.not_true, Bool.not_false, List.map_cons, List.map_nil, List.length_cons, List.length_nil, List.replicate, List.cons_append, List.nil_append, List.getElem?_cons_succ, List.getElem?_cons_zero, List.set_cons_succ, List.set_cons_zero, ite_true_eq, ite_false_eq, ite_nt_eq, ite_nf_eq, dec_true, dec_not, bxor_f, bxor_t]
  refine c_product hs ht (by have := b4' (32 + 32 + 2); omega) ?_
  try simp only [startD, dSeq, dNext, dBreak, dCont, dSet, dIfE, dIfS, dB, dOp, dVar, dC, dCB, dCons, dNil, dUn, dRet, dRetN, dTup, dLst, dLstM, dCall, dDrop, dAsg, dT, Tg.d, Tgs.d, dNotT, dAndT, dOrT, dAndV, dOrV, dNotV, dPar, dFor, dSeqI, dRng1, dRng2, dZip2, dZip3, dEnum, dLC, dLCr, dLCM, finM, gII0, gII, onII, onI, gGcd, gNeg, gAdd, gIt, gIx, gLen, gTupC, gLstC, gLstCM, gAll, gAny, gBls, gSum, gIsi, gAbs, gInt, gStr, gEqB, gIsN, isNon, gRep, dRepM, dSl, dPart, dNoPart, gSl, dRev, dRevM, dM, dM0, gAppend, gPop, dFld, dSetF, dMeth, dMake, dPut, dDict, dPairs, dJoin, dJoined, dJs, dFmt, gIn, exOf, endD, on1, on2, ev_it0, ev_it1, ev_it2, ev_itn1, ev_itn, ev_len_t, ev_len_l, ev_sq_t, ev_sq_l, ev_lst_l, ev_so_t, ev_so_l, ev_so_k, ev_si_t, ev_si_l, ev_si_k, ev_ty_i, ev_ty_b, ev_ty_n, ev_ty_s, ev_ty_t, ev_ty_l, ev_eq_ii, ev_shp_i, ev_shp_b, ev_shp_n, ev_key_i, ev_key_s, kd_NoneType, kd_bool, kd_int, kd_str, kd_tuple, kd_list, kd_dict, ib_NoneType_NoneType, ib_NoneType_bool, ib_NoneType_int, ib_NoneType_str, ib_NoneType_tuple, ib_NoneType_list, ib_NoneType_dict, ib_bool_NoneType, ib_bool_bool, ib_bool_int, ib_bool_str, ib_bool_tuple, ib_bool_list, ib_bool_dict, ib_int_NoneType, ib_int_bool, ib_int_int, ib_int_str, ib_int_tuple, ib_int_list, ib_int_dict, ib_str_NoneType, ib_str_bool, ib_str_int, ib_str_str, ib_str_tuple, ib_str_list, ib_str_dict, ib_tuple_NoneType, ib_tuple_bool, ib_tuple_int, ib_tuple_str, ib_tuple_tuple, ib_tuple_list, ib_tuple_dict, ib_list_NoneType, ib_list_bool, ib_list_int, ib_list_str, ib_list_tuple, ib_list_list, ib_list_dict, ib_dict_NoneType, ib_dict_bool, ib_dict_int, ib_dict_str, ib_dict_tuple, ib_dict_list, ib_dict_dict, true_and, and_true, if_true, if_false, Bool.not_true, Bool.not_false, List.map_cons, List.map_nil, List.length_cons, List.length_nil, List.replicate, List.cons_append, List.nil_append, List.getElem?_cons_succ, List.getElem?_cons_zero, List.set_cons_succ, List.set_cons_zero, ite_true_eq, ite_false_eq, ite_nt_eq, ite_nf_eq, dec_true, dec_not, bxor_f, bxor_t]
  have d1 := Sm.dot hr ht
  have d2 := Sm.dot hs ht
  have d3 := Sm.dot hr hs
  refine c_plus d1 d2 (by have := b4 (32 + 32 + 2); have := b4' (32 + 32 + 2); omega) ?_
  try simp only [shpE, eq_enc, dot_add es.symm (es.trans et.symm), decide_true, startD, dSeq, dNext, dBreak, dCont, dSet, dIfE, dIfS, dB, dOp, dVar, dC, dCB, dCons, dNil, dUn, dRet, dRetN, dTup, dLst, dLstM, dCall, dDrop, dAsg, dT, Tg.d, Tgs.d, dNotT, dAndT, dOrT, dAndV, dOrV, dNotV, dPar, dFor, dSeqI, dRng1, dRng2, dZip2, dZip3, dEnum, dLC, dLCr, dLCM, finM, gII0, gII, onII, onI, gGcd, gNeg, gAdd, gIt, gIx, gLen, gTupC, gLstC, gLstCM, gAll, gAny, gBls, gSum, gIsi, gAbs, gInt, gStr, gEqB, gIsN, isNon, gRep, dRepM, dSl, dPart, dNoPart, gSl, dRev, dRevM, dM, dM0, gAppend, gPop, dFld, dSetF, dMeth, dMake, dPut, dDict, dPairs, dJoin, dJoined, dJs, dFmt, gIn, exOf, endD, on1, on2, ev_it0, ev_it1, ev_it2, ev_itn1, ev_itn, ev_len_t, ev_len_l, ev_sq_t, ev_sq_l, ev_lst_l, ev_so_t, ev_so_l, ev_so_k, ev_si_t, ev_si_l, ev_si_k, ev_ty_i, ev_ty_b, ev_ty_n, ev_ty_s, ev_ty_t, ev_ty_l, ev_eq_ii, ev_shp_i, ev_shp_b, ev_shp_n, ev_key_i, ev_key_s, kd_NoneType, kd_bool, kd_int, kd_str, kd_tuple, kd_list, kd_dict, ib_NoneType_NoneType, ib_NoneType_bool, ib_NoneType_int, ib_NoneType_str, ib_NoneType_tuple, ib_NoneType_list, ib_NoneType_dict, ib_bool_NoneType, ib_bool_bool, ib_bool_int, ib_bool_str, ib_bool_tuple, ib_bool_list, ib_bool_dict, ib_int_NoneType, ib_int_bool, ib_int_int, ib_int_str, ib_int_tuple, ib_int_list, ib_int_dict, ib_str_NoneType, ib_str_bool, ib_str_int, ib_str_str, ib_str_tuple, ib_str_list, ib_str_dict, ib_tuple_NoneType, ib_tuple_bool, ib_tuple_int, ib_tuple_str, ib_tuple_tuple, ib_tuple_list, ib_tuple_dict, ib_list_NoneType, ib_list_bool, ib_list_int, ib_list_str, ib_list_tuple, ib_list_list, ib_list_dict, ib_dict_NoneType, ib_dict_bool, ib_dict_int, ib_dict_str, ib_dict_tuple, ib_dict_list, ib_dict_dict, true_and, and_true, if_true, if_false, Bool.not_true, Bool.not_false, List.map_cons, List.map_nil, List.length_cons, List.length_nil, List.replicate, List.cons_append, List.nil_append, List.getElem?_cons_succ, List.getElem?_cons_zero, List.set_cons_succ, List.set_cons_zero, ite_true_eq, ite_false_eq, ite_nt_eq, ite_nf_eq, dec_true, dec_not, bxor_f, bxor_t]
  refine c_added hr hs (by omega) (by omega) ?_
  try simp only [startD, dSeq, dNext, dBreak, dCont, dSet, dIfE, dIfS, dB, dOp, dVar, dC, dCB, dCons, dNil, dUn, dRet, dRetN, dTup, dLst, dLstM, dCall, dDrop, dAsg, dT, Tg.d, Tgs.d, dNotT, dAndT, dOrT, dAndV, dOrV, dNotV, dPar, dFor, dSeqI, dRng1, dRng2, dZip2, dZip3, dEnum, dLC, dLCr, dLCM, finM, gII0, gII, onII, onI, gGcd, gNeg, gAdd, gIt, gIx, gLen, gTupC, gLstC, gLstCM, gAll, gAny, gBls, gSum, gIsi, gAbs, gInt, gStr, gEqB, gIsN, isNon, gRep, dRepM, dSl, dPart, dNoPart, gSl, dRev, dRevM, dM, dM0, gAppend, gPop, dFld, dSetF, dMeth, dMake, dPut, dDict, dPairs, dJoin, dJoined, dJs, dFmt, gIn, exOf, endD, on1, on2, ev_it0, ev_it1, ev_it2, ev_itn1, ev_itn, ev_len_t, ev_len_l, ev_sq_t, ev_sq_l, ev_lst_l, ev_so_t, ev_so_l, ev_so_k, ev_si_t, ev_si_l, ev_si_k, ev_ty_i, ev_ty_b, ev_ty_n, ev_ty_s, ev_ty_t, ev_ty_l, ev_eq_ii, ev_shp_i, ev_shp_b, ev_shp_n, ev_key_i, ev_key_s, kd_NoneType, kd_bool, kd_int, kd_str, kd_tuple, kd_list, kd_dict, ib_NoneType_NoneType, ib_NoneType_bool, ib_NoneType_int, ib_NoneType_str, ib_NoneType_tuple, ib_NoneType_list, ib_NoneType_dict, ib_bool_NoneType, ib_bool_bool, ib_bool_int, ib_bool_str, ib_bool_tuple, ib_bool_list, ib_bool_dict, ib_int_NoneType, ib_int_bool, ib_int_int, ib_int_str, ib_int_tuple, ib_int_list, ib_int_dict, ib_str_NoneType, ib_str_bool, ib_str_int, ib_str_str, ib_str_tuple, ib_str_list, ib_str_dict, ib_tuple_NoneType, ib_tuple_bool, ib_tuple_int, ib_tuple_str, ib_tuple_tuple, ib_tuple_list, ib_tuple_dict, ib_list_NoneType, ib_list_bool, ib_list_int, ib_list_str, ib_list_tuple, ib_list_list, ib_list_dict, ib_dict_NoneType, ib_dict_bool, ib_dict_int, ib_dict_str, ib_dict_tuple, ib_dict_list, ib_dict_dict, true_and, and_true, if_true, if_false, Bool.not_true, Bool.not_false, List.map_cons, List.map_nil, List.length_cons, List.length_nil, List.replicate, List.cons_append, List.nil_append, List.getElem?_cons_succ, List.getElem?_cons_zero, List.set_cons_succ, List.set_cons_zero, ite_true_eq, ite_false_eq, ite_nt_eq, ite_nf_eq, dec_true, dec_not, bxor_f, bxor_t]
  refine c_scaled (hr.add hs) hx (by omega) (by omega) ?_
  try simp only [startD, dSeq, dNext, dBreak, dCont, dSet, dIfE, dIfS, dB, dOp, dVar, dC, dCB, dCons, dNil, dUn, dRet, dRetN, dTup, dLst, dLstM, dCall, dDrop, dAsg, dT, Tg.d, Tgs.d, dNotT, dAndT, dOrT, dAndV, dOrV, dNotV, dPar, dFor, dSeqI, dRng1, dRng2, dZip2, dZip3, dEnum, dLC, dLCr, dLCM, finM, gII0, gII, onII, onI, gGcd, gNeg, gAdd, gIt, gIx, gLen, gTupC, gLstC, gLstCM, gAll, gAny, gBls, gSum, gIsi, gAbs, gInt, gStr, gEqB, gIsN, isNon, gRep, dRepM, dSl, dPart, dNoPart, gSl, dRev, dRevM, dM, dM0, gAppend, gPop, dFld, dSetF, dMeth, dMake, dPut, dDict, dPairs, dJoin, dJoined, dJs, dFmt, gIn, exOf, endD, on1, on2, ev_it0, ev_it1, ev_it2, ev_itn1, ev_itn, ev_len_t, ev_len_l, ev_sq_t, ev_sq_l, ev_lst_l, ev_so_t, ev_so_l, ev_so_k, ev_si_t, ev_si_l, ev_si_k, ev_ty_i, ev_ty_b, ev_ty_n, ev_ty_s, ev_ty_t, ev_ty_l, ev_eq_ii, ev_shp_i, ev_shp_b, ev_shp_n, ev_key_i, ev_key_s, kd_NoneType, kd_bool, kd_int, kd_str, kd_tuple, kd_list, kd_dict, ib_NoneType_NoneType, ib_NoneType_bool, ib_NoneType_int, ib_NoneType_str, ib_NoneType_tuple, ib_NoneType_list, ib_NoneType_dict, ib_bool_NoneType, ib_bool_bool, ib_bool_int, ib_bool_str, ib_bool_tuple, ib_bool_list, ib_bool_dict, ib_int_NoneType, ib_int_bool, ib_int_int, ib_int_str, ib_int_tuple, ib_int_list, ib_int_dict, ib_str_NoneType, ib_str_bool, ib_str_int, ib_str_str, ib_str_tuple, ib_str_list, ib_str_dict, ib_tuple_NoneType, ib_tuple_bool, ib_tuple_int, ib_tuple_str, ib_tuple_tuple, ib_tuple_list, ib_tuple_dict, ib_list_NoneType, ib_list_bool, ib_list_int, ib_list_str, ib_list_tuple, ib_list_list, ib_list_dict, ib_dict_NoneType, ib_dict_bool, ib_dict_int, ib_dict_str, ib_dict_tuple, ib_dict_list, ib_dict_dict, true_and, and_true, if_true, if_false, Bool.not_true, Bool.not_false, List.map_cons, List.map_nil, List.length_cons, List.length_nil, List.replicate, List.cons_append, List.nil_append, List.getElem?_cons_succ, List.getElem?_cons_zero, List.set_cons_succ, List.set_cons_zero, ite_true_eq, ite_false_eq, ite_nt_eq, ite_nf_eq, dec_true, dec_not, bxor_f, bxor_t]
  refine c_scaled hr hx (by omega) (by omega) ?_
  try simp only [startD, dSeq, dNext, dBreak, dCont, dSet, dIfE, dIfS, dB, dOp, dVar, dC, dCB, dCons, dNil, dUn, dRet, dRetN, dTup, dLst, dLstM, dCall, dDrop, dAsg, dT, Tg.d, Tgs.d, dNotT, dAndT, dOrT, dAndV, dOrV, dNotV, dPar, dFor, dSeqI, dRng1, dRng2, dZip2, dZip3, dEnum, dLC, dLCr, dLCM, finM, gII0, gII, onII, onI, gGcd, gNeg, gAdd, gIt, gIx, gLen, gTupC, gLstC, gLstCM, gAll, gAny, gBls, gSum, gIsi, gAbs, gInt, gStr, gEqB, gIsN, isNon, gRep, dRepM, dSl, dPart, dNoPart, gSl, dRev, dRevM, dM, dM0, gAppend, gPop, dFld, dSetF, dMeth, dMake, dPut, dDict, dPairs, dJoin, dJoined, dJs, dFmt, gIn, exOf, endD, on1, on2, ev_it0, ev_it1, ev_it2, ev_itn1, ev_itn, ev_len_t, ev_len_l, ev_sq_t, ev_sq_l, ev_lst_l, ev_so_t, ev_so_l, ev_so_k, ev_si_t, ev_si_l, ev_si_k, ev_ty_i, ev_ty_b, ev_ty_n, ev_ty_s, ev_ty_t, ev_ty_l, ev_eq_ii, ev_shp_i, ev_shp_b, ev_shp_n, ev_key_i, ev_key_s, kd_NoneType, kd_bool, kd_int, kd_str, kd_tuple, kd_list, kd_dict, ib_NoneType_NoneType, ib_NoneType_bool, ib_NoneType_int, ib_NoneType_str, ib_NoneType_tuple, ib_NoneType_list, ib_NoneType_dict, ib_bool_NoneType, ib_bool_bool, ib_bool_int, ib_bool_str, ib_bool_tuple, ib_bool_list, ib_bool_dict, ib_int_NoneType, ib_int_bool, ib_int_int, ib_int_str, ib_int_tuple, ib_int_list, ib_int_dict, ib_str_NoneType, ib_str_bool, ib_str_int, ib_str_str, ib_str_tuple, ib_str_list, ib_str_dict, ib_tuple_NoneType, ib_tuple_bool, ib_tuple_int, ib_tuple_str, ib_tuple_tuple, ib_tuple_list, ib_tuple_dict, ib_list_NoneType, ib_list_bool, ib_list_int, ib_list_str, ib_list_tuple, ib_list_list, ib_list_dict, ib_dict_NoneType, ib_dict_bool, ib_dict_int, ib_dict_str, ib_dict_tuple, ib_dict_list, ib_dict_dict, true_and, and_true, if_true, if_false, Bool.not_true, Bool.not_false, List.map_cons, List.map_nil, List.length_cons, List.length_nil, List.replicate, List.cons_append, List.nil_append, List.getElem?_cons_succ, List.getElem?_cons_zero, List.set_cons_succ, List.set_cons_zero, ite_true_eq, ite_false_eq, ite_nt_eq, ite_nf_eq, dec_true, dec_not, bxor_f, bxor_t]
  refine c_scaled hs hx (by omega) (by omega) ?_
  try simp only [startD, dSeq, dNext, dBreak, dCont, dSet, dIfE, dIfS, dB, dOp, dVar, dC, dCB, dCons, dNil, dUn, dRet, dRetN, dTup, dLst, dLstM, dCall, dDrop, dAsg, dT, Tg.d, Tgs.d, dNotT, dAndT, dOrT, dAndV, dOrV, dNotV, dPar, dFor, dSeqI, dRng1, dRng2, dZip2, dZip3, dEnum, dLC, dLCr, dLCM, finM, gII0, gII, onII, onI, gGcd, gNeg, gAdd, gIt, gIx, gLen, gTupC, gLstC, gLstCM, gAll, gAny, gBls, gSum, gIsi, gAbs, gInt, gStr, gEqB, gIsN, isNon, gRep, dRepM, dSl, dPart, dNoPart, gSl, dRev, dRevM, dM, dM0, gAppend, gPop, dFld, dSetF, dMeth, dMake, dPut, dDict, dPairs, dJoin, dJoined, dJs, dFmt, gIn, exOf, endD, on1, on2, ev_it0, ev_it1, ev_it2, ev_itn1, ev_itn, ev_len_t, ev_len_l, ev_sq_t, ev_sq_l, ev_lst_l, ev_so_t, ev_so_l, ev_so_k, ev_si_t, ev_si_l, ev_si_k, ev_ty_i, ev_ty_b, ev_ty_n, ev_ty_s, ev_ty_t, ev_ty_l, ev_eq_ii, ev_shp_i, ev_shp_b, ev_shp_n, ev_key_i, ev_key_s, kd_NoneType, kd_bool, kd_int, kd_str, kd_tuple, kd_list, kd_dict, ib_NoneType_NoneType, ib_NoneType_bool, ib_NoneType_int, ib_NoneType_str, ib_NoneType_tuple, ib_NoneType_list, ib_NoneType_dict, ib_bool_NoneType, ib_bool_bool, ib_bool_int, ib_bool_str, ib_bool_tuple, ib_bool_list, ib_bool_dict, ib_int_NoneType, ib_int_bool, ib_int_int, ib_int_str, ib_int_tuple, ib_int_list, ib_int_dict, ib_str_NoneType, ib_str_bool, ib_str_int, ib_str_str, ib_str_tuple, ib_str_list, ib_str_dict, ib_tuple_NoneType, ib_tuple_bool, ib_tuple_int, ib_tuple_str, ib_tuple_tuple, ib_tuple_list, ib_tuple_dict, ib_list_NoneType, ib_list_bool, ib_list_int, ib_list_str, ib_list_tuple, ib_list_list, ib_list_dict, ib_dict_NoneType, ib_dict_bool, ib_dict_int, ib_dict_str, ib_dict_tuple, ib_dict_list, ib_dict_dict, true_and, and_true, if_true, if_false, Bool.not_true, Bool.not_false, List.map_cons, List.map_nil, List.length_cons, List.length_nil, List.replicate, List.cons_append, List.nil_append, List.getElem?_cons_succ, List.getElem?_cons_zero, List.set_cons_succ, List.set_cons_zero, ite_true_eq, ite_false_eq, ite_nt_eq, ite_nf_eq, dec_true, dec_not, bxor_f, bxor_t]
  refine c_added (hr.scale hx) (hs.scale hx) (by omega) (by rw [List.length_map]; omega) ?_
  try simp only [shpR, eq_encR, scale_add, decide_true, startD, dSeq, dNext, dBreak, dCont, dSet, dIfE, dIfS, dB, dOp, dVar, dC, dCB, dCons, dNil, dUn, dRet, dRetN, dTup, dLst, dLstM, dCall, dDrop, dAsg, dT, Tg.d, Tgs.d, dNotT, dAndT, dOrT, dAndV, dOrV, dNotV, dPar, dFor, dSeqI, dRng1, dRng2, dZip2, dZip3, dEnum, dLC, dLCr, dLCM, finM, gII0, gII, onII, onI, gGcd, gNeg, gAdd, gIt, gIx, gLen, gTupC, gLstC, gLstCM, gAll, gAny, gBls, gSum, gIsi, gAbs, gInt, gStr, gEqB, gIsN, isNon, gRep, dRepM, dSl, dPart, dNoPart, gSl, dRev, dRevM, dM, dM0, gAppend, gPop, dFld, dSetF, dMeth, dMake, dPut, dDict, dPairs, dJoin, dJoined, dJs, dFmt, gIn, exOf, endD, on1, on2, ev_it0, ev_it1, ev_it2, ev_itn1, ev_itn, ev_len_t, ev_len_l, ev_sq_t, ev_sq_l, ev_lst_l, ev_so_t, ev_so_l, ev_so_k, ev_si_t, ev_si_l, ev_si_k, ev_ty_i, ev_ty_b, ev_ty_n, ev_ty_s, ev_ty_t, ev_ty_l, ev_eq_ii, ev_shp_i, ev_shp_b, ev_shp_n, ev_key_i, ev_key_s, kd_NoneType, kd_bool, kd_int, kd_str, kd_tuple, kd_list, kd_dict, ib_NoneType_NoneType, ib_NoneType_bool, ib_NoneType_int, ib_NoneType_str, ib_NoneType_tuple, ib_NoneType_list, ib_NoneType_dict, ib_bool_NoneType, ib_bool_bool, ib_bool_int, ib_bool_str, ib_bool_tuple, ib_bool_list, ib_bool_dict, ib_int_NoneType, ib_int_bool, ib_int_int, ib_int_str, ib_int_tuple, ib_int_list, ib_int_dict, ib_str_NoneType, ib_str_bool, ib_str_int, ib_str_str, ib_str_tuple, ib_str_list, ib_str_dict, ib_tuple_NoneType, ib_tuple_bool, ib_tuple_int, ib_tuple_str, ib_tuple_tuple, ib_tuple_list, ib_tuple_dict, ib_list_NoneType, ib_list_bool, ib_list_int, ib_list_str, ib_list_tuple, ib_list_list, ib_list_dict, ib_dict_NoneType, ib_dict_bool, ib_dict_int, ib_dict_str, ib_dict_tuple, ib_dict_list, ib_dict_dict, true_and, and_true, if_true, if_false, Bool.not_true, Bool.not_false, List.map_cons, List.map_nil, List.length_cons, List.length_nil, List.replicate, List.cons_append, List.nil_append, List.getElem?_cons_succ, List.getElem?_cons_zero, List.set_cons_succ, List.set_cons_zero, ite_true_eq, ite_false_eq, ite_nt_eq, ite_nf_eq, dec_true, dec_not, bxor_f, bxor_t]
  refine c_scaled hr hx (by omega) (by omega) ?_
  try simp only [startD, dSeq, dNext, dBreak, dCont, dSet, dIfE, dIfS, dB, dOp, dVar, dC, dCB, dCons, dNil, dUn, dRet, dRetN, dTup, dLst, dLstM, dCall, dDrop, dAsg, dT, Tg.d, Tgs.d, dNotT, dAndT, dOrT, dAndV, dOrV, dNotV, dPar, dFor, dSeqI, dRng1, dRng2, dZip2, dZip3, dEnum, dLC, dLCr, dLCM, finM, gII0, gII, onII, onI, gGcd, gNeg, gAdd, gIt, gIx, gLen, gTupC, gLstC, gLstCM, gAll, gAny, gBls, gSum, gIsi, gAbs, gInt, gStr, gEqB, gIsN, isNon, gRep, dRepM, dSl, dPart, dNoPart, gSl, dRev, dRevM, dM, dM0, gAppend, gPop, dFld, dSetF, dMeth, dMake, dPut, dDict, dPairs, dJoin, dJoined, dJs, dFmt, gIn, exOf, endD, on1, on2, ev_it0, ev_it1, ev_it2, ev_itn1, ev_itn, ev_len_t, ev_len_l, ev_sq_t, ev_sq_l, ev_lst_l, ev_so_t, ev_so_l, ev_so_k, ev_si_t, ev_si_l, ev_si_k, ev_ty_i, ev_ty_b, ev_ty_n, ev_ty_s, ev_ty_t, ev_ty_l, ev_eq_ii, ev_shp_i, ev_shp_b, ev_shp_n, ev_key_i, ev_key_s, kd_NoneType, kd_bool, kd_int, kd_str, kd_tuple, kd_list, kd_dict, ib_NoneType_NoneType, ib_NoneType_bool, ib_NoneType_int, ib_NoneType_str, ib_NoneType_tuple, ib_NoneType_list, ib_NoneType_dict, ib_bool_NoneType, ib_bool_bool, ib_bool_int, ib_bool_str, ib_bool_tuple, ib_bool_list, ib_bool_dict, ib_int_NoneType, ib_int_bool, ib_int_int, ib_int_str, ib_int_tuple, ib_int_list, ib_int_dict, ib_str_NoneType, ib_str_bool, ib_str_int, ib_str_str, ib_str_tuple, ib_str_list, ib_str_dict, ib_tuple_NoneType, ib_tuple_bool, ib_tuple_int, ib_tuple_str, ib_tuple_tuple, ib_tuple_list, ib_tuple_dict, ib_list_NoneType, ib_list_bool, ib_list_int, ib_list_str, ib_list_tuple, ib_list_list, ib_list_dict, ib_dict_NoneType, ib_dict_bool, ib_dict_int, ib_dict_str, ib_dict_tuple, ib_dict_list, ib_dict_dict, true_and, and_true, if_true, if_false, Bool.not_true, Bool.not_false, List.map_cons, List.map_nil, List.length_cons, List.length_nil, List.replicate, List.cons_append, List.nil_append, List.getElem?_cons_succ, List.getElem?_cons_zero, List.set_cons_succ, List.set_cons_zero, ite_true_eq, ite_false_eq, ite_nt_eq, ite_nf_eq, dec_true, dec_not, bxor_f, bxor_t]
  refine c_product (hr.scale hx) hs (by rw [List.length_map]; have := b4 (32 + 32 + 1 + 32 + 2); omega) ?_
  try simp only [startD, dSeq, dNext, dBreak, dCont, dSet, dIfE, dIfS, dB, dOp, dVar, dC, dCB, dCons, dNil, dUn, dRet, dRetN, dTup, dLst, dLstM, dCall, dDrop, dAsg, dT, Tg.d, Tgs.d, dNotT, dAndT, dOrT, dAndV, dOrV, dNotV, dPar, dFor, dSeqI, dRng1, dRng2, dZip2, dZip3, dEnum, dLC, dLCr, dLCM, finM, gII0, gII, onII, onI, gGcd, gNeg, gAdd, gIt, gIx, gLen, gTupC, gLstC, gLstCM, gAll, gAny, gBls, gSum, gIsi, gAbs, gInt, gStr, gEqB, gIsN, isNon, gRep, dRepM, dSl, dPart, dNoPart, gSl, dRev, dRevM, dM, dM0, gAppend, gPop, dFld, dSetF, dMeth, dMake, dPut, dDict, dPairs, dJoin, dJoined, dJs, dFmt, gIn, exOf, endD, on1, on2, ev_it0, ev_it1, ev_it2, ev_itn1, ev_itn, ev_len_t, ev_len_l, ev_sq_t, ev_sq_l, ev_lst_l, ev_so_t, ev_so_l, ev_so_k, ev_si_t, ev_si_l, ev_si_k, ev_ty_i, ev_ty_b, ev_ty_n, ev_ty_s, ev_ty_t, ev_ty_l, ev_eq_ii, ev_shp_i, ev_shp_b, ev_shp_n, ev_key_i, ev_key_s, kd_NoneType, kd_bool, kd_int, kd_str, kd_tuple, kd_list, kd_dict, ib_NoneType_NoneType, ib_NoneType_bool, ib_NoneType_int, ib_NoneType_str, ib_NoneType_tuple, ib_NoneType_list, ib_NoneType_dict, ib_bool_NoneType, ib_bool_bool, ib_bool_int, ib_bool_str, ib_bool_tuple, ib_bool_list, ib_bool_dict, ib_int_NoneType, ib_int_bool, ib_int_int, ib_int_str, ib_int_tuple, ib_int_list, ib_int_dict, ib_str_NoneType, ib_str_bool, ib_str_int, ib_str_str, ib_str_tuple, ib_str_list, ib_str_dict, ib_tuple_NoneType, ib_tuple_bool, ib_tuple_int, ib_tuple_str, ib_tuple_tuple, ib_tuple_list, ib_tuple_dict, ib_list_NoneType, ib_list_bool, ib_list_int, ib_list_str, ib_list_tuple, ib_list_list, ib_list_dict, ib_dict_NoneType, ib_dict_bool, ib_dict_int, ib_dict_str, ib_dict_tuple, ib_dict_list, ib_dict_dict, true_and, and_true, if_true, if_false, Bool.not_true, Bool.not_false, List.map_cons, List.map_nil, List.length_cons, List.length_nil, List.replicate, List.cons_append, List.nil_append, List.getElem?_cons_succ, List.getElem?_cons_zero, List.set_cons_succ, List.set_cons_zero, ite_true_eq, ite_false_eq, ite_nt_eq, ite_nf_eq, dec_true, dec_not, bxor_f, bxor_t]
  refine c_product hr hs (by have := b4 (32 + 32 + 2); omega) ?_
  try simp only [startD, dSeq, dNext, dBreak, dCont, dSet, dIfE, dIfS, dB, dOp, dVar, dC, dCB, dCons, dNil, dUn, dRet, dRetN, dTup, dLst, dLstM, dCall, dDrop, dAsg, dT, Tg.d, Tgs.d, dNotT, dAndT, dOrT, dAndV, dOrV, dNotV, dPar, dFor, dSeqI, dRng1, dRng2, dZip2, dZip3, dEnum, dLC, dLCr, dLCM, finM, gII0, gII, onII, onI, gGcd, gNeg, gAdd, gIt, gIx, gLen, gTupC, gLstC, gLstCM, gAll, gAny, gBls, gSum, gIsi, gAbs, gInt, gStr, gEqB, gIsN, isNon, gRep, dRepM, dSl, dPart, dNoPart, gSl, dRev, dRevM, dM, dM0, gAppend, gPop, dFld, dSetF, dMeth, dMake, dPut, dDict, dPairs, dJoin, dJoined, dJs, dFmt, gIn, exOf, endD, on1, on2, ev_it0, ev_it1, ev_it2, ev_itn1, ev_itn, ev_len_t, ev_len_l, ev_sq_t, ev_sq_l, ev_lst_l, ev_so_t, ev_so_l, ev_so_k, ev_si_t, ev_si_l, ev_si_k, ev_ty_i, ev_ty_b, ev_ty_n, ev_ty_s, ev_ty_t, ev_ty_l, ev_eq_ii, ev_shp_i, ev_shp_b, ev_shp_n, ev_key_i, ev_key_s, kd_NoneType, kd_bool, kd_int, kd_str, kd_tuple, kd_list, kd_dict, ib_NoneType_NoneType, ib_NoneType_bool, ib_NoneType_int, ib_NoneType_str, ib_NoneType_tuple, ib_NoneType_list, ib_NoneType_dict, ib_bool_NoneType, ib_bool_bool, ib_bool_int, ib_bool_str, ib_bool_tuple, ib_bool_list, ib_bool_dict, ib_int_NoneType, ib_int_bool, ib_int_int, ib_int_str, ib_int_tuple, ib_int_list, ib_int_dict, ib_str_NoneType, ib_str_bool, ib_str_int, ib_str_str, ib_str_tuple, ib_str_list, ib_str_dict, ib_tuple_NoneType, ib_tuple_bool, ib_tuple_int, ib_tuple_str, ib_tuple_tuple, ib_tuple_list, ib_tuple_dict, ib_list_NoneType, ib_list_bool, ib_list_int, ib_list_str, ib_list_tuple, ib_list_list, ib_list_dict, ib_dict_NoneType, ib_dict_bool, ib_dict_int, ib_dict_str, ib_dict_tuple, ib_dict_list, ib_dict_dict, true_and, and_true, if_true, if_false, Bool.not_true, Bool.not_false, List.map_cons, List.map_nil, List.length_cons, List.length_nil, List.replicate, List.cons_append, List.nil_append, List.getElem?_cons_succ, List.getElem?_cons_zero, List.set_cons_succ, List.set_cons_zero, ite_true_eq, ite_false_eq, ite_nt_eq, ite_nf_eq, dec_true, dec_not, bxor_f, bxor_t]
  refine c_times hx d3 (by have := b4 (32 + 32 + 2); omega) ?_
  try simp only [shpE, eq_enc, dot_scale, decide_true, startD, dSeq, dNext, dBreak, dCont, dSet, dIfE, dIfS, dB, dOp, dVar, dC, dCB, dCons, dNil, dUn, dRet, dRetN, dTup, dLst, dLstM, dCall, dDrop, dAsg, dT, Tg.d, Tgs.d, dNotT, dAndT, dOrT, dAndV, dOrV, dNotV, dPar, dFor, dSeqI, dRng1, dRng2, dZip2, dZip3, dEnum, dLC, dLCr, dLCM, finM, gII0, gII, onII, onI, gGcd, gNeg, gAdd, gIt, gIx, gLen, gTupC, gLstC, gLstCM, gAll, gAny, gBls, gSum, gIsi, gAbs, gInt, gStr, gEqB, gIsN, isNon, gRep, dRepM, dSl, dPart, dNoPart, gSl, dRev, dRevM, dM, dM0, gAppend, gPop, dFld, dSetF, dMeth, dMake, dPut, dDict, dPairs, dJoin, dJoined, dJs, dFmt, gIn, exOf, endD, on1, on2, ev_it0, ev_it1, ev_it2, ev_itn1, ev_itn, ev_len_t, ev_len_l, ev_sq_t, ev_sq_l, ev_lst_l, ev_so_t, ev_so_l, ev_so_k, ev_si_t, ev_si_l, ev_si_k, ev_ty_i, ev_ty_b, ev_ty_n, ev_ty_s, ev_ty_t, ev_ty_l, ev_eq_ii, ev_shp_i, ev_shp_b, ev_shp_n, ev_key_i, ev_key_s, kd_NoneType, kd_bool, kd_int, kd_str, kd_tuple, kd_list, kd_dict, ib_NoneType_NoneType, ib_NoneType_bool, ib_NoneType_int, ib_NoneType_str, ib_NoneType_tuple, ib_NoneType_list, ib_NoneType_dict, ib_bool_NoneType, ib_bool_bool, ib_bool_int, ib_bool_str, ib_bool_tuple, ib_bool_list, ib_bool_dict, ib_int_NoneType, ib_int_bool, ib_int_int, ib_int_str, ib_int_tuple, ib_int_list, ib_int_dict, ib_str_NoneType, ib_str_bool, ib_str_int, ib_str_str, ib_str_tuple, ib_str_list, ib_str_dict, ib_tuple_NoneType, ib_tuple_bool, ib_tuple_int, ib_tuple_str, ib_tuple_tuple, ib_tuple_list, ib_tuple_dict, ib_list_NoneType, ib_list_bool, ib_list_int, ib_list_str, ib_list_tuple, ib_list_list, ib_list_dict, ib_dict_NoneType, ib_dict_bool, ib_dict_int, ib_dict_str, ib_dict_tuple, ib_dict_list, ib_dict_dict, true_and, and_true, if_true, if_false, Bool.not_true, Bool.not_false, List.map_cons, List.map_nil, List.length_cons, List.length_nil, List.replicate, List.cons_append, List.nil_append, List.getElem?_cons_succ, List.getElem?_cons_zero, List.set_cons_succ, List.set_cons_zero, ite_true_eq, ite_false_eq, ite_nt_eq, ite_nf_eq, dec_true, dec_not, bxor_f, bxor_t]
  refine c_nought h1 (by omega) ?_
  try simp only [startD, dSeq, dNext, dBreak, dCont, dSet, dIfE, dIfS, dB, dOp, dVar, dC, dCB, dCons, dNil, dUn, dRet, dRetN, dTup, dLst, dLstM, dCall, dDrop, dAsg, dT, Tg.d, Tgs.d, dNotT, dAndT, dOrT, dAndV, dOrV, dNotV, dPar, dFor, dSeqI, dRng1, dRng2, dZip2, dZip3, dEnum, dLC, dLCr, dLCM, finM, gII0, gII, onII, onI, gGcd, gNeg, gAdd, gIt, gIx, gLen, gTupC, gLstC, gLstCM, gAll, gAny, gBls, gSum, gIsi, gAbs, gInt, gStr, gEqB, gIsN, isNon, gRep, dRepM, dSl, dPart, dNoPart, gSl, dRev, dRevM, dM, dM0, gAppend, gPop, dFld, dSetF, dMeth, dMake, dPut, dDict, dPairs, dJoin, dJoined, dJs, dFmt, gIn, exOf, endD, on1, on2, ev_it0, ev_it1, ev_it2, ev_itn1, ev_itn, ev_len_t, ev_len_l, ev_sq_t, ev_sq_l, ev_lst_l, ev_so_t, ev_so_l, ev_so_k, ev_si_t, ev_si_l, ev_si_k, ev_ty_i, ev_ty_b, ev_ty_n, ev_ty_s, ev_ty_t, ev_ty_l, ev_eq_ii, ev_shp_i, ev_shp_b, ev_shp_n, ev_key_i, ev_key_s, kd_NoneType, kd_bool, kd_int, kd_str, kd_tuple, kd_list, kd_dict, ib_NoneType_NoneType, ib_NoneType_bool, ib_NoneType_int, ib_NoneType_str, ib_NoneType_tuple, ib_NoneType_list, ib_NoneType_dict, ib_bool_NoneType, ib_bool_bool, ib_bool_int, ib_bool_str, ib_bool_tuple, ib_bool_list, ib_bool_dict, ib_int_NoneType, ib_int_bool, ib_int_int, ib_int_str, ib_int_tuple, ib_int_list, ib_int_dict, ib_str_NoneType, ib_str_bool, ib_str_int, ib_str_str, ib_str_tuple, ib_str_list, ib_str_dict, ib_tuple_NoneType, ib_tuple_bool, ib_tuple_int, ib_tuple_str, ib_tuple_tuple, ib_tuple_list, ib_tuple_dict, ib_list_NoneType, ib_list_bool, ib_list_int, ib_list_str, ib_list_tuple, ib_list_list, ib_list_dict, ib_dict_NoneType, ib_dict_bool, ib_dict_int, ib_dict_str, ib_dict_tuple, ib_dict_list, ib_dict_dict, true_and, and_true, if_true, if_false, Bool.not_true, Bool.not_false, List.map_cons, List.map_nil, List.length_cons, List.length_nil, List.replicate, List.cons_append, List.nil_append, List.getElem?_cons_succ, List.getElem?_cons_zero, List.set_cons_succ, List.set_cons_zero, ite_true_eq, ite_false_eq, ite_nt_eq, ite_nf_eq, dec_true, dec_not, bxor_f, bxor_t]
  refine c_product hr (SmR.zero _) (by have := b4 (32 + 1 + 2); omega) ?_
  try simp only [shpE, shpZ, eqZ, dot_zero, decide_true, startD, dSeq, dNext, dBreak, dCont, dSet, dIfE, dIfS, dB, dOp, dVar, dC, dCB, dCons, dNil, dUn, dRet, dRetN, dTup, dLst, dLstM, dCall, dDrop, dAsg, dT, Tg.d, Tgs.d, dNotT, dAndT, dOrT, dAndV, dOrV, dNotV, dPar, dFor, dSeqI, dRng1, dRng2, dZip2, dZip3, dEnum, dLC, dLCr, dLCM, finM, gII0, gII, onII, onI, gGcd, gNeg, gAdd, gIt, gIx, gLen, gTupC, gLstC, gLstCM, gAll, gAny, gBls, gSum, gIsi, gAbs, gInt, gStr, gEqB, gIsN, isNon, gRep, dRepM, dSl, dPart, dNoPart, gSl, dRev, dRevM, dM, dM0, gAppend, gPop, dFld, dSetF, dMeth, dMake, dPut, dDict, dPairs, dJoin, dJoined, dJs, dFmt, gIn, exOf, endD, on1, on2, ev_it0, ev_it1, ev_it2, ev_itn1, ev_itn, ev_len_t, ev_len_l, ev_sq_t, ev_sq_l, ev_lst_l, ev_so_t, ev_so_l, ev_so_k, ev_si_t, ev_si_l, ev_si_k, ev_ty_i, ev_ty_b, ev_ty_n, ev_ty_s, ev_ty_t, ev_ty_l, ev_eq_ii, ev_shp_i, ev_shp_b, ev_shp_n, ev_key_i, ev_key_s, kd_NoneType, kd_bool, kd_int, kd_str, kd_tuple, kd_list, kd_dict, ib_NoneType_NoneType, ib_NoneType_bool, ib_NoneType_int, ib_NoneType_str, ib_NoneType_tuple, ib_NoneType_list, ib_NoneType_dict, ib_bool_NoneType, ib_bool_bool, ib_bool_int, ib_bool_str, ib_bool_tuple, ib_bool_list, ib_bool_dict, ib_int_NoneType, ib_int_bool, ib_int_int, ib_int_str, ib_int_tuple, ib_int_list, ib_int_dict, ib_str_NoneType, ib_str_bool, ib_str_int, ib_str_str, ib_str_tuple, ib_str_list, ib_str_dict, ib_tuple_NoneType, ib_tuple_bool, ib_tuple_int, ib_tuple_str, ib_tuple_tuple, ib_tuple_list, ib_tuple_dict, ib_list_NoneType, ib_list_bool, ib_list_int, ib_list_str, ib_list_tuple, ib_list_list, ib_list_dict, ib_dict_NoneType, ib_dict_bool, ib_dict_int, ib_dict_str, ib_dict_tuple, ib_dict_list, ib_dict_dict, true_and, and_true, if_true, if_false, Bool.not_true, Bool.not_false, List.map_cons, List.map_nil, List.length_cons, List.length_nil, List.replicate, List.cons_append, List.nil_append, List.getElem?_cons_succ, List.getElem?_cons_zero, List.set_cons_succ, List.set_cons_zero, ite_true_eq, ite_false_eq, ite_nt_eq, ite_nf_eq, dec_true, dec_not, bxor_f, bxor_t]
  have z1 := Sm.sab hr
  have z2 := Sm.sab hs
  have z3 := Sm.sab (hr.add hs)
  have bb := b4 (32 + 1)
  have bb' := b4' (32 + 1)
  have bc := b4 (32 + 32 + 1 + 1)
  have bd := b4 (32 + 32 + 2)
  refine ⟨two_le, ?_⟩
  refine c_sizes hr (by omega) ?_
  try simp only [startD, dSeq, dNext, dBreak, dCont, dSet, dIfE, dIfS, dB, dOp, dVar, dC, dCB, dCons, dNil, dUn, dRet, dRetN, dTup, dLst, dLstM, dCall, dDrop, dAsg, dT, Tg.d, Tgs.d, dNotT, dAndT, dOrT, dAndV, dOrV, dNotV, dPar, dFor, dSeqI, dRng1, dRng2, dZip2, dZip3, dEnum, dLC, dLCr, dLCM, finM, gII0, gII, onII, onI, gGcd, gNeg, gAdd, gIt, gIx, gLen, gTupC, gLstC, gLstCM, gAll, gAny, gBls, gSum, gIsi, gAbs, gInt, gStr, gEqB, gIsN, isNon, gRep, dRepM, dSl, dPart, dNoPart, gSl, dRev, dRevM, dM, dM0, gAppend, gPop, dFld, dSetF, dMeth, dMake, dPut, dDict, dPairs, dJoin, dJoined, dJs, dFmt, gIn, exOf, endD, on1, on2, ev_it0, ev_it1, ev_it2, ev_itn1, ev_itn, ev_len_t, ev_len_l, ev_sq_t, ev_sq_l, ev_lst_l, ev_so_t, ev_so_l, ev_so_k, ev_si_t, ev_si_l, ev_si_k, ev_ty_i, ev_ty_b, ev_ty_n, ev_ty_s, ev_ty_t, ev_ty_l, ev_eq_ii, ev_shp_i, ev_shp_b, ev_shp_n, ev_key_i, ev_key_s, kd_NoneType, kd_bool, kd_int, kd_str, kd_tuple, kd_list, kd_dict, ib_NoneType_NoneType, ib_NoneType_bool, ib_NoneType_int, ib_NoneType_str, ib_NoneType_tuple, ib_NoneType_list, ib_NoneType_dict, ib_bool_NoneType, ib_bool_bool, ib_bool_int, ib_bool_str, ib_bool_tuple, ib_bool_list, ib_bool_dict, ib_int_NoneType, ib_int_bool, ib_int_int, ib_int_str, ib_int_tuple, ib_int_list, ib_int_dict, ib_str_NoneType, ib_str_bool, ib_str_int, ib_str_str, ib_str_tuple, ib_str_list, ib_str_dict, ib_tuple_NoneType, ib_tuple_bool, ib_tuple_int, ib_tuple_str, ib_tuple_tuple, ib_tuple_list, ib_tuple_dict, ib_list_NoneType, ib_list_bool, ib_list_int, ib_list_str, ib_list_tuple, ib_list_list, ib_list_dict, ib_dict_NoneType, ib_dict_bool, ib_dict_int, ib_dict_str, ib_dict_tuple, ib_dict_list, ib_dict_dict, true_and, and_true, if_true, if_false, Bool.not_true, Bool.not_false, List.map_cons, List.map_nil, List.length_cons, List.length_nil, List.replicate, List.cons_append, List.nil_append, List.getElem?_cons_succ, List.getElem?_cons_zero, List.set_cons_succ, List.set_cons_zero, ite_true_eq, ite_false_eq, ite_nt_eq, ite_nf_eq, dec_true, dec_not, bxor_f, bxor_t]
  refine c_sizes hs (by omega) ?_
  try simp only [startD, dSeq, dNext, dBreak, dCont, dSet, dIfE, dIfS, dB, dOp, dVar, dC, dCB, dCons, dNil, dUn, dRet, dRetN, dTup, dLst, dLstM, dCall, dDrop, dAsg, dT, Tg.d, Tgs.d, dNotT, dAndT, dOrT, dAndV, dOrV, dNotV, dPar, dFor, dSeqI, dRng1, dRng2, dZip2, dZip3, dEnum, dLC, dLCr, dLCM, finM, gII0, gII, onII, onI, gGcd, gNeg, gAdd, gIt, gIx, gLen, gTupC, gLstC, gLstCM, gAll, gAny, gBls, gSum, gIsi, gAbs, gInt, gStr, gEqB, gIsN, isNon, gRep, dRepM, dSl, dPart, dNoPart, gSl, dRev, dRevM, dM, dM0, gAppend, gPop, dFld, dSetF, dMeth, dMake, dPut, dDict, dPairs, dJoin, dJoined, dJs, dFmt, gIn, exOf, endD, on1, on2, ev_it0, ev_it1, ev_it2, ev_itn1, ev_itn, ev_len_t, ev_len_l, ev_sq_t, ev_sq_l, ev_lst_l, ev_so_t, ev_so_l, ev_so_k, ev_si_t, ev_si_l, ev_si_k, ev_ty_i, ev_ty_b, ev_ty_n, ev_ty_s, ev_ty_t, ev_ty_l, ev_eq_ii, ev_shp_i, ev_shp_b, ev_shp_n, ev_key_i, ev_key_s, kd_NoneType, kd_bool, kd_int, kd_str, kd_tuple, kd_list, kd_dict, ib_NoneType_NoneType, ib_NoneType_bool, ib_NoneType_int, ib_NoneType_str, ib_NoneType_tuple, ib_NoneType_list, ib_NoneType_dict, ib_bool_NoneType, ib_bool_bool, ib_bool_int, ib_bool_str, ib_bool_tuple, ib_bool_list, ib_bool_dict, ib_int_NoneType, ib_int_bool, ib_int_int, ib_int_str, ib_int_tuple, ib_int_list, ib_int_dict, ib_str_NoneType, ib_str_bool, ib_str_int, ib_str_str, ib_str_tuple, ib_str_list, ib_str_dict, ib_tuple_NoneType, ib_tuple_bool, ib_tuple_int, ib_tuple_str, ib_tuple_tuple, ib_tuple_list, ib_tuple_dict, ib_list_NoneType, ib_list_bool, ib_list_int, ib_list_str, ib_list_tuple, ib_list_list, ib_list_dict, ib_dict_NoneType, ib_dict_bool, ib_dict_int, ib_dict_str, ib_dict_tuple, ib_dict_list, ib_dict_dict, true_and, and_true, if_true, if_false, Bool.not_true, Bool.not_false, List.map_cons, List.map_nil, List.length_cons, List.length_nil, List.replicate, List.cons_append, List.nil_append, List.getElem?_cons_succ, List.getElem?_cons_zero, List.set_cons_succ, List.set_cons_zero, ite_true_eq, ite_false_eq, ite_nt_eq, ite_nf_eq, dec_true, dec_not, bxor_f, bxor_t]
  refine c_plus z1 z2 (by omega) ?_
  try simp only [startD, dSeq, dNext, dBreak, dCont, dSet, dIfE, dIfS, dB, dOp, dVar, dC, dCB, dCons, dNil, dUn, dRet, dRetN, dTup, dLst, dLstM, dCall, dDrop, dAsg, dT, Tg.d, Tgs.d, dNotT, dAndT, dOrT, dAndV, dOrV, dNotV, dPar, dFor, dSeqI, dRng1, dRng2, dZip2, dZip3, dEnum, dLC, dLCr, dLCM, finM, gII0, gII, onII, onI, gGcd, gNeg, gAdd, gIt, gIx, gLen, gTupC, gLstC, gLstCM, gAll, gAny, gBls, gSum, gIsi, gAbs, gInt, gStr, gEqB, gIsN, isNon, gRep, dRepM, dSl, dPart, dNoPart, gSl, dRev, dRevM, dM, dM0, gAppend, gPop, dFld, dSetF, dMeth, dMake, dPut, dDict, dPairs, dJoin, dJoined, dJs, dFmt, gIn, exOf, endD, on1, on2, ev_it0, ev_it1, ev_it2, ev_itn1, ev_itn, ev_len_t, ev_len_l, ev_sq_t, ev_sq_l, ev_lst_l, ev_so_t, ev_so_l, ev_so_k, ev_si_t, ev_si_l, ev_si_k, ev_ty_i, ev_ty_b, ev_ty_n, ev_ty_s, ev_ty_t, ev_ty_l, ev_eq_ii, ev_shp_i, ev_shp_b, ev_shp_n, ev_key_i, ev_key_s, kd_NoneType, kd_bool, kd_int, kd_str, kd_tuple, kd_list, kd_dict, ib_NoneType_NoneType, ib_NoneType_bool, ib_NoneType_int, ib_NoneType_str, ib_NoneType_tuple, ib_NoneType_list, ib_NoneType_dict, ib_bool_NoneType, ib_bool_bool, ib_bool_int, ib_bool_str, ib_bool_tuple, ib_bool_list, ib_bool_dict, ib_int_NoneType, ib_int_bool, ib_int_int, ib_int_str, ib_int_tuple, ib_int_list, ib_int_dict, ib_str_NoneType, ib_str_bool, ib_str_int, ib_str_str, ib_str_tuple, ib_str_list, ib_str_dict, ib_tuple_NoneType, ib_tuple_bool, ib_tuple_int, ib_tuple_str, ib_tuple_tuple, ib_tuple_list, ib_tuple_dict, ib_list_NoneType, ib_list_bool, ib_list_int, ib_list_str, ib_list_tuple, ib_list_list, ib_list_dict, ib_dict_NoneType, ib_dict_bool, ib_dict_int, ib_dict_str, ib_dict_tuple, ib_dict_list, ib_dict_dict, true_and, and_true, if_true, if_false, Bool.not_true, Bool.not_false, List.map_cons, List.map_nil, List.length_cons, List.length_nil, List.replicate, List.cons_append, List.nil_append, List.getElem?_cons_succ, List.getElem?_cons_zero, List.set_cons_succ, List.set_cons_zero, ite_true_eq, ite_false_eq, ite_nt_eq, ite_nf_eq, dec_true, dec_not, bxor_f, bxor_t]
  refine c_added hr hs (by omega) (by omega) ?_
  try simp only [startD, dSeq, dNext, dBreak, dCont, dSet, dIfE, dIfS, dB, dOp, dVar, dC, dCB, dCons, dNil, dUn, dRet, dRetN, dTup, dLst, dLstM, dCall, dDrop, dAsg, dT, Tg.d, Tgs.d, dNotT, dAndT, dOrT, dAndV, dOrV, dNotV, dPar, dFor, dSeqI, dRng1, dRng2, dZip2, dZip3, dEnum, dLC, dLCr, dLCM, finM, gII0, gII, onII, onI, gGcd, gNeg, gAdd, gIt, gIx, gLen, gTupC, gLstC, gLstCM, gAll, gAny, gBls, gSum, gIsi, gAbs, gInt, gStr, gEqB, gIsN, isNon, gRep, dRepM, dSl, dPart, dNoPart, gSl, dRev, dRevM, dM, dM0, gAppend, gPop, dFld, dSetF, dMeth, dMake, dPut, dDict, dPairs, dJoin, dJoined, dJs, dFmt, gIn, exOf, endD, on1, on2, ev_it0, ev_it1, ev_it2, ev_itn1, ev_itn, ev_len_t, ev_len_l, ev_sq_t, ev_sq_l, ev_lst_l, ev_so_t, ev_so_l, ev_so_k, ev_si_t, ev_si_l, ev_si_k, ev_ty_i, ev_ty_b, ev_ty_n, ev_ty_s, ev_ty_t, ev_ty_l, ev_eq_ii, ev_shp_i, ev_shp_b, ev_shp_n, ev_key_i, ev_key_s, kd_NoneType, kd_bool, kd_int, kd_str, kd_tuple, kd_list, kd_dict, ib_NoneType_NoneType, ib_NoneType_bool, ib_NoneType_int, ib_NoneType_str, ib_NoneType_tuple, ib_NoneType_list, ib_NoneType_dict, ib_bool_NoneType, ib_bool_bool, ib_bool_int, ib_bool_str, ib_bool_tuple, ib_bool_list, ib_bool_dict, ib_int_NoneType, ib_int_bool, ib_int_int, ib_int_str, ib_int_tuple, ib_int_list, ib_int_dict, ib_str_NoneType, ib_str_bool, ib_str_int, ib_str_str, ib_str_tuple, ib_str_list, ib_str_dict, ib_tuple_NoneType, ib_tuple_bool, ib_tuple_int, ib_tuple_str, ib_tuple_tuple, ib_tuple_list, ib_tuple_dict, ib_list_NoneType, ib_list_bool, ib_list_int, ib_list_str, ib_list_tuple, ib_list_list, ib_list_dict, ib_dict_NoneType, ib_dict_bool, ib_dict_int, ib_dict_str, ib_dict_tuple, ib_dict_list, ib_dict_dict, true_and, and_true, if_true, if_false, Bool.not_true, Bool.not_false, List.map_cons, List.map_nil, List.length_cons, List.length_nil, List.replicate, List.cons_append, List.nil_append, List.getElem?_cons_succ, List.getElem?_cons_zero, List.set_cons_succ, List.set_cons_zero, ite_true_eq, ite_false_eq, ite_nt_eq, ite_nf_eq, dec_true, dec_not, bxor_f, bxor_t]
  refine c_sizes (hr.add hs) (by rw [lrs]; omega) ?_
  try simp only [startD, dSeq, dNext, dBreak, dCont, dSet, dIfE, dIfS, dB, dOp, dVar, dC, dCB, dCons, dNil, dUn, dRet, dRetN, dTup, dLst, dLstM, dCall, dDrop, dAsg, dT, Tg.d, Tgs.d, dNotT, dAndT, dOrT, dAndV, dOrV, dNotV, dPar, dFor, dSeqI, dRng1, dRng2, dZip2, dZip3, dEnum, dLC, dLCr, dLCM, finM, gII0, gII, onII, onI, gGcd, gNeg, gAdd, gIt, gIx, gLen, gTupC, gLstC, gLstCM, gAll, gAny, gBls, gSum, gIsi, gAbs, gInt, gStr, gEqB, gIsN, isNon, gRep, dRepM, dSl, dPart, dNoPart, gSl, dRev, dRevM, dM, dM0, gAppend, gPop, dFld, dSetF, dMeth, dMake, dPut, dDict, dPairs, dJoin, dJoined, dJs, dFmt, gIn, exOf, endD, on1, on2, ev_it0, ev_it1, ev_it2, ev_itn1, ev_itn, ev_len_t, ev_len_l, ev_sq_t, ev_sq_l, ev_lst_l, ev_so_t, ev_so_l, ev_so_k, ev_si_t, ev_si_l, ev_si_k, ev_ty_i, ev_ty_b, ev_ty_n, ev_ty_s, ev_ty_t, ev_ty_l, ev_eq_ii, ev_shp_i, ev_shp_b, ev_shp_n, ev_key_i, ev_key_s, kd_NoneType, kd_bool, kd_int, kd_str, kd_tuple, kd_list, kd_dict, ib_NoneType_NoneType, ib_NoneType_bool, ib_NoneType_int, ib_NoneType_str, ib_NoneType_tuple, ib_NoneType_list, ib_NoneType_dict, ib_bool_NoneType, ib_bool_bool, ib_bool_int, ib_bool_str, ib_bool_tuple, ib_bool_list, ib_bool_dict, ib_int_NoneType, ib_int_bool, ib_int_int, ib_int_str, ib_int_tuple, ib_int_list, ib_int_dict, ib_str_NoneType, ib_str_bool, ib_str_int, ib_str_str, ib_str_tuple, ib_str_list, ib_str_dict, ib_tuple_NoneType, ib_tuple_bool, ib_tuple_int, ib_tuple_str, ib_tuple_tuple, ib_tuple_list, ib_tuple_dict, ib_list_NoneType, ib_list_bool, ib_list_int, ib_list_str, ib_list_tuple, ib_list_list, ib_list_dict, ib_dict_NoneType, ib_dict_bool, ib_dict_int, ib_dict_str, ib_dict_tuple, ib_dict_list, ib_dict_dict, true_and, and_true, if_true, if_false, Bool.not_true, Bool.not_false, List.map_cons, List.map_nil, List.length_cons, List.length_nil, List.replicate, List.cons_append, List.nil_append, List.getElem?_cons_succ, List.getElem?_cons_zero, List.set_cons_succ, List.set_cons_zero, ite_true_eq, ite_false_eq, ite_nt_eq, ite_nf_eq, dec_true, dec_not, bxor_f, bxor_t]
  rw [lrs] at z3
  refine c_less (z1.add z2) z3 (by omega) ?_
  try simp only [nlt (sab_add r s es.symm), startD, dSeq, dNext, dBreak, dCont, dSet, dIfE, dIfS, dB, dOp, dVar, dC, dCB, dCons, dNil, dUn, dRet, dRetN, dTup, dLst, dLstM, dCall, dDrop, dAsg, dT, Tg.d, Tgs.d, dNotT, dAndT, dOrT, dAndV, dOrV, dNotV, dPar, dFor, dSeqI, dRng1, dRng2, dZip2, dZip3, dEnum, dLC, dLCr, dLCM, finM, gII0, gII, onII, onI, gGcd, gNeg, gAdd, gIt, gIx, gLen, gTupC, gLstC, gLstCM, gAll, gAny, gBls, gSum, gIsi, gAbs, gInt, gStr, gEqB, gIsN, isNon, gRep, dRepM, dSl, dPart, dNoPart, gSl, dRev, dRevM, dM, dM0, gAppend, gPop, dFld, dSetF, dMeth, dMake, dPut, dDict, dPairs, dJoin, dJoined, dJs, dFmt, gIn, exOf, endD, on1, on2, ev_it0, ev_it1, ev_it2, ev_itn1, ev_itn, ev_len_t, ev_len_l, ev_sq_t, ev_sq_l, ev_lst_l, ev_so_t, ev_so_l, ev_so_k, ev_si_t, ev_si_l, ev_si_k, ev_ty_i, ev_ty_b, ev_ty_n, ev_ty_s, ev_ty_t, ev_ty_l, ev_eq_ii, ev_shp_i, ev_shp_b, ev_shp_n, ev_key_i, ev_key_s, kd_NoneType, kd_bool, kd_int, kd_str, kd_tuple, kd_list, kd_dict, ib_NoneType_NoneType, ib_NoneType_bool, ib_NoneType_int, ib_NoneType_str, ib_NoneType_tuple, ib_NoneType_list, ib_NoneType_dict, ib_bool_NoneType, ib_bool_bool, ib_bool_int, ib_bool_str, ib_bool_tuple, ib_bool_list, ib_bool_dict, ib_int_NoneType, ib_int_bool, ib_int_int, ib_int_str, ib_int_tuple, ib_int_list, ib_int_dict, ib_str_NoneType, ib_str_bool, ib_str_int, ib_str_str, ib_str_tuple, ib_str_list, ib_str_dict, ib_tuple_NoneType, ib_tuple_bool, ib_tuple_int, ib_tuple_str, ib_tuple_tuple, ib_tuple_list, ib_tuple_dict, ib_list_NoneType, ib_list_bool, ib_list_int, ib_list_str, ib_list_tuple, ib_list_list, ib_list_dict, ib_dict_NoneType, ib_dict_bool, ib_dict_int, ib_dict_str, ib_dict_tuple, ib_dict_list, ib_dict_dict, true_and, and_true, if_true, if_false, Bool.not_true, Bool.not_false, List.map_cons, List.map_nil, List.length_cons, List.length_nil, List.replicate, List.cons_append, List.nil_append, List.getElem?_cons_succ, List.getElem?_cons_zero, List.set_cons_succ, List.set_cons_zero, ite_true_eq, ite_false_eq, ite_nt_eq, ite_nf_eq, dec_true, dec_not, bxor_f, bxor_t]
  refine c_back (by omega) ?_
  try simp only [startD, dSeq, dNext, dBreak, dCont, dSet, dIfE, dIfS, dB, dOp, dVar, dC, dCB, dCons, dNil, dUn, dRet, dRetN, dTup, dLst, dLstM, dCall, dDrop, dAsg, dT, Tg.d, Tgs.d, dNotT, dAndT, dOrT, dAndV, dOrV, dNotV, dPar, dFor, dSeqI, dRng1, dRng2, dZip2, dZip3, dEnum, dLC, dLCr, dLCM, finM, gII0, gII, onII, onI, gGcd, gNeg, gAdd, gIt, gIx, gLen, gTupC, gLstC, gLstCM, gAll, gAny, gBls, gSum, gIsi, gAbs, gInt, gStr, gEqB, gIsN, isNon, gRep, dRepM, dSl, dPart, dNoPart, gSl, dRev, dRevM, dM, dM0, gAppend, gPop, dFld, dSetF, dMeth, dMake, dPut, dDict, dPairs, dJoin, dJoined, dJs, dFmt, gIn, exOf, endD, on1, on2, ev_it0, ev_it1, ev_it2, ev_itn1, ev_itn, ev_len_t, ev_len_l, ev_sq_t, ev_sq_l, ev_lst_l, ev_so_t, ev_so_l, ev_so_k, ev_si_t, ev_si_l, ev_si_k, ev_ty_i, ev_ty_b, ev_ty_n, ev_ty_s, ev_ty_t, ev_ty_l, ev_eq_ii, ev_shp_i, ev_shp_b, ev_shp_n, ev_key_i, ev_key_s, kd_NoneType, kd_bool, kd_int, kd_str, kd_tuple, kd_list, kd_dict, ib_NoneType_NoneType, ib_NoneType_bool, ib_NoneType_int, ib_NoneType_str, ib_NoneType_tuple, ib_NoneType_list, ib_NoneType_dict, ib_bool_NoneType, ib_bool_bool, ib_bool_int, ib_bool_str, ib_bool_tuple, ib_bool_list, ib_bool_dict, ib_int_NoneType, ib_int_bool, ib_int_int, ib_int_str, ib_int_tuple, ib_int_list, ib_int_dict, ib_str_NoneType, ib_str_bool, ib_str_int, ib_str_str, ib_str_tuple, ib_str_list, ib_str_dict, ib_tuple_NoneType, ib_tuple_bool, ib_tuple_int, ib_tuple_str, ib_tuple_tuple, ib_tuple_list, ib_tuple_dict, ib_list_NoneType, ib_list_bool, ib_list_int, ib_list_str, ib_list_tuple, ib_list_list, ib_list_dict, ib_dict_NoneType, ib_dict_bool, ib_dict_int, ib_dict_str, ib_dict_tuple, ib_dict_list, ib_dict_dict, true_and, and_true, if_true, if_false, Bool.not_true, Bool.not_false, List.map_cons, List.map_nil, List.length_cons, List.length_nil, List.replicate, List.cons_append, List.nil_append, List.getElem?_cons_succ, List.getElem?_cons_zero, List.set_cons_succ, List.set_cons_zero, ite_true_eq, ite_false_eq, ite_nt_eq, ite_nf_eq, dec_true, dec_not, bxor_f, bxor_t]
  refine c_sizes hr.neg (by rw [List.length_map]; omega) ?_
  try simp only [startD, dSeq, dNext, dBreak, dCont, dSet, dIfE, dIfS, dB, dOp, dVar, dC, dCB, dCons, dNil, dUn, dRet, dRetN, dTup, dLst, dLstM, dCall, dDrop, dAsg, dT, Tg.d, Tgs.d, dNotT, dAndT, dOrT, dAndV, dOrV, dNotV, dPar, dFor, dSeqI, dRng1, dRng2, dZip2, dZip3, dEnum, dLC, dLCr, dLCM, finM, gII0, gII, onII, onI, gGcd, gNeg, gAdd, gIt, gIx, gLen, gTupC, gLstC, gLstCM, gAll, gAny, gBls, gSum, gIsi, gAbs, gInt, gStr, gEqB, gIsN, isNon, gRep, dRepM, dSl, dPart, dNoPart, gSl, dRev, dRevM, dM, dM0, gAppend, gPop, dFld, dSetF, dMeth, dMake, dPut, dDict, dPairs, dJoin, dJoined, dJs, dFmt, gIn, exOf, endD, on1, on2, ev_it0, ev_it1, ev_it2, ev_itn1, ev_itn, ev_len_t, ev_len_l, ev_sq_t, ev_sq_l, ev_lst_l, ev_so_t, ev_so_l, ev_so_k, ev_si_t, ev_si_l, ev_si_k, ev_ty_i, ev_ty_b, ev_ty_n, ev_ty_s, ev_ty_t, ev_ty_l, ev_eq_ii, ev_shp_i, ev_shp_b, ev_shp_n, ev_key_i, ev_key_s, kd_NoneType, kd_bool, kd_int, kd_str, kd_tuple, kd_list, kd_dict, ib_NoneType_NoneType, ib_NoneType_bool, ib_NoneType_int, ib_NoneType_str, ib_NoneType_tuple, ib_NoneType_list, ib_NoneType_dict, ib_bool_NoneType, ib_bool_bool, ib_bool_int, ib_bool_str, ib_bool_tuple, ib_bool_list, ib_bool_dict, ib_int_NoneType, ib_int_bool, ib_int_int, ib_int_str, ib_int_tuple, ib_int_list, ib_int_dict, ib_str_NoneType, ib_str_bool, ib_str_int, ib_str_str, ib_str_tuple, ib_str_list, ib_str_dict, ib_tuple_NoneType, ib_tuple_bool, ib_tuple_int, ib_tuple_str, ib_tuple_tuple, ib_tuple_list, ib_tuple_dict, ib_list_NoneType, ib_list_bool, ib_list_int, ib_list_str, ib_list_tuple, ib_list_list, ib_list_dict, ib_dict_NoneType, ib_dict_bool, ib_dict_int, ib_dict_str, ib_dict_tuple, ib_dict_list, ib_dict_dict, true_and, and_true, if_true, if_false, Bool.not_true, Bool.not_false, List.map_cons, List.map_nil, List.length_cons, List.length_nil, List.replicate, List.cons_append, List.nil_append, List.getElem?_cons_succ, List.getElem?_cons_zero, List.set_cons_succ, List.set_cons_zero, ite_true_eq, ite_false_eq, ite_nt_eq, ite_nf_eq, dec_true, dec_not, bxor_f, bxor_t]
  refine c_sizes hr (by omega) ?_
  try simp only [shpE, eq_enc, sab_neg, decide_true, startD, dSeq, dNext, dBreak, dCont, dSet, dIfE, dIfS, dB, dOp, dVar, dC, dCB, dCons, dNil, dUn, dRet, dRetN, dTup, dLst, dLstM, dCall, dDrop, dAsg, dT, Tg.d, Tgs.d, dNotT, dAndT, dOrT, dAndV, dOrV, dNotV, dPar, dFor, dSeqI, dRng1, dRng2, dZip2, dZip3, dEnum, dLC, dLCr, dLCM, finM, gII0, gII, onII, onI, gGcd, gNeg, gAdd, gIt, gIx, gLen, gTupC, gLstC, gLstCM, gAll, gAny, gBls, gSum, gIsi, gAbs, gInt, gStr, gEqB, gIsN, isNon, gRep, dRepM, dSl, dPart, dNoPart, gSl, dRev, dRevM, dM, dM0, gAppend, gPop, dFld, dSetF, dMeth, dMake, dPut, dDict, dPairs, dJoin, dJoined, dJs, dFmt, gIn, exOf, endD, on1, on2, ev_it0, ev_it1, ev_it2, ev_itn1, ev_itn, ev_len_t, ev_len_l, ev_sq_t, ev_sq_l, ev_lst_l, ev_so_t, ev_so_l, ev_so_k, ev_si_t, ev_si_l, ev_si_k, ev_ty_i, ev_ty_b, ev_ty_n, ev_ty_s, ev_ty_t, ev_ty_l, ev_eq_ii, ev_shp_i, ev_shp_b, ev_shp_n, ev_key_i, ev_key_s, kd_NoneType, kd_bool, kd_int, kd_str, kd_tuple, kd_list, kd_dict, ib_NoneType_NoneType, ib_NoneType_bool, ib_NoneType_int, ib_NoneType_str, ib_NoneType_tuple, ib_NoneType_list, ib_NoneType_dict, ib_bool_NoneType, ib_bool_bool, ib_bool_int, ib_bool_str, ib_bool_tuple, ib_bool_list, ib_bool_dict, ib_int_NoneType, ib_int_bool, ib_int_int, ib_int_str, ib_int_tuple, ib_int_list, ib_int_dict, ib_str_NoneType, ib_str_bool, ib_str_int, ib_str_str, ib_str_tuple, ib_str_list, ib_str_dict, ib_tuple_NoneType, ib_tuple_bool, ib_tuple_int, ib_tuple_str, ib_tuple_tuple, ib_tuple_list, ib_tuple_dict, ib_list_NoneType, ib_list_bool, ib_list_int, ib_list_str, ib_list_tuple, ib_list_list, ib_list_dict, ib_dict_NoneType, ib_dict_bool, ib_dict_int, ib_dict_str, ib_dict_tuple, ib_dict_list, ib_dict_dict, true_and, and_true, if_true, if_false, Bool.not_true, Bool.not_false, List.map_cons, List.map_nil, List.length_cons, List.length_nil, List.replicate, List.cons_append, List.nil_append, List.getElem?_cons_succ, List.getElem?_cons_zero, List.set_cons_succ, List.set_cons_zero, ite_true_eq, ite_false_eq, ite_nt_eq, ite_nf_eq, dec_true, dec_not, bxor_f, bxor_t]
  refine c_sizes hr (by omega) ?_
  try simp only [startD, dSeq, dNext, dBreak, dCont, dSet, dIfE, dIfS, dB, dOp, dVar, dC, dCB, dCons, dNil, dUn, dRet, dRetN, dTup, dLst, dLstM, dCall, dDrop, dAsg, dT, Tg.d, Tgs.d, dNotT, dAndT, dOrT, dAndV, dOrV, dNotV, dPar, dFor, dSeqI, dRng1, dRng2, dZip2, dZip3, dEnum, dLC, dLCr, dLCM, finM, gII0, gII, onII, onI, gGcd, gNeg, gAdd, gIt, gIx, gLen, gTupC, gLstC, gLstCM, gAll, gAny, gBls, gSum, gIsi, gAbs, gInt, gStr, gEqB, gIsN, isNon, gRep, dRepM, dSl, dPart, dNoPart, gSl, dRev, dRevM, dM, dM0, gAppend, gPop, dFld, dSetF, dMeth, dMake, dPut, dDict, dPairs, dJoin, dJoined, dJs, dFmt, gIn, exOf, endD, on1, on2, ev_it0, ev_it1, ev_it2, ev_itn1, ev_itn, ev_len_t, ev_len_l, ev_sq_t, ev_sq_l, ev_lst_l, ev_so_t, ev_so_l, ev_so_k, ev_si_t, ev_si_l, ev_si_k, ev_ty_i, ev_ty_b, ev_ty_n, ev_ty_s, ev_ty_t, ev_ty_l, ev_eq_ii, ev_shp_i, ev_shp_b, ev_shp_n, ev_key_i, ev_key_s, kd_NoneType, kd_bool, kd_int, kd_str, kd_tuple, kd_list, kd_dict, ib_NoneType_NoneType, ib_NoneType_bool, ib_NoneType_int, ib_NoneType_str, ib_NoneType_tuple, ib_NoneType_list, ib_NoneType_dict, ib_bool_NoneType, ib_bool_bool, ib_bool_int, ib_bool_str, ib_bool_tuple, ib_bool_list, ib_bool_dict, ib_int_NoneType, ib_int_bool, ib_int_int, ib_int_str, ib_int_tuple, ib_int_list, ib_int_dict, ib_str_NoneType, ib_str_bool, ib_str_int, ib_str_str, ib_str_tuple, ib_str_list, ib_str_dict, ib_tuple_NoneType, ib_tuple_bool, ib_tuple_int, ib_tuple_str, ib_tuple_tuple, ib_tuple_list, ib_tuple_dict, ib_list_NoneType, ib_list_bool, ib_list_int, ib_list_str, ib_list_tuple, ib_list_list, ib_list_dict, ib_dict_NoneType, ib_dict_bool, ib_dict_int, ib_dict_str, ib_dict_tuple, ib_dict_list, ib_dict_dict, true_and, and_true, if_true, if_false, Bool.not_true, Bool.not_false, List.map_cons, List.map_nil, List.length_cons, List.length_nil, List.replicate, List.cons_append, List.nil_append, List.getElem?_cons_succ, List.getElem?_cons_zero, List.set_cons_succ, List.set_cons_zero, ite_true_eq, ite_false_eq, ite_nt_eq, ite_nf_eq, dec_true, dec_not, bxor_f, bxor_t]
  refine c_sizes hs (by omega) ?_
  try simp only [startD, dSeq, dNext, dBreak, dCont, dSet, dIfE, dIfS, dB, dOp, dVar, dC, dCB, dCons, dNil, dUn, dRet, dRetN, dTup, dLst, dLstM, dCall, dDrop, dAsg, dT, Tg.d, Tgs.d, dNotT, dAndT, dOrT, dAndV, dOrV, dNotV, dPar, dFor, dSeqI, dRng1, dRng2, dZip2, dZip3, dEnum, dLC, dLCr, dLCM, finM, gII0, gII, onII, onI, gGcd, gNeg, gAdd, gIt, gIx, gLen, gTupC, gLstC, gLstCM, gAll, gAny, gBls, gSum, gIsi, gAbs, gInt, gStr, gEqB, gIsN, isNon, gRep, dRepM, dSl, dPart, dNoPart, gSl, dRev, dRevM, dM, dM0, gAppend, gPop, dFld, dSetF, dMeth, dMake, dPut, dDict, dPairs, dJoin, dJoined, dJs, dFmt, gIn, exOf, endD, on1, on2, ev_it0, ev_it1, ev_it2, ev_itn1, ev_itn, ev_len_t, ev_len_l, ev_sq_t, ev_sq_l, ev_lst_l, ev_so_t, ev_so_l, ev_so_k, ev_si_t, ev_si_l, ev_si_k, ev_ty_i, ev_ty_b, ev_ty_n, ev_ty_s, ev_ty_t, ev_ty_l, ev_eq_ii, ev_shp_i, ev_shp_b, ev_shp_n, ev_key_i, ev_key_s, kd_NoneType, kd_bool, kd_int, kd_str, kd_tuple, kd_list, kd_dict, ib_NoneType_NoneType, ib_NoneType_bool, ib_NoneType_int, ib_NoneType_str, ib_NoneType_tuple, ib_NoneType_list, ib_NoneType_dict, ib_bool_NoneType, ib_bool_bool, ib_bool_int, ib_bool_str, ib_bool_tuple, ib_bool_list, ib_bool_dict, ib_int_NoneType, ib_int_bool, ib_int_int, ib_int_str, ib_int_tuple, ib_int_list, ib_int_dict, ib_str_NoneType, ib_str_bool, ib_str_int, ib_str_str, ib_str_tuple, ib_str_list, ib_str_dict, ib_tuple_NoneType, ib_tuple_bool, ib_tuple_int, ib_tuple_str, ib_tuple_tuple, ib_tuple_list, ib_tuple_dict, ib_list_NoneType, ib_list_bool, ib_list_int, ib_list_str, ib_list_tuple, ib_list_list, ib_list_dict, ib_dict_NoneType, ib_dict_bool, ib_dict_int, ib_dict_str, ib_dict_tuple, ib_dict_list, ib_dict_dict, true_and, and_true, if_true, if_false, Bool.not_true, Bool.not_false, List.map_cons, List.map_nil, List.length_cons, List.length_nil, List.replicate, List.cons_append, List.nil_append, List.getElem?_cons_succ, List.getElem?_cons_zero, List.set_cons_succ, List.set_cons_zero, ite_true_eq, ite_false_eq, ite_nt_eq, ite_nf_eq, dec_true, dec_not, bxor_f, bxor_t]
  refine c_times z1 z2 (by omega) ?_
  try simp only [startD, dSeq, dNext, dBreak, dCont, dSet, dIfE, dIfS, dB, dOp, dVar, dC, dCB, dCons, dNil, dUn, dRet, dRetN, dTup, dLst, dLstM, dCall, dDrop, dAsg, dT, Tg.d, Tgs.d, dNotT, dAndT, dOrT, dAndV, dOrV, dNotV, dPar, dFor, dSeqI, dRng1, dRng2, dZip2, dZip3, dEnum, dLC, dLCr, dLCM, finM, gII0, gII, onII, onI, gGcd, gNeg, gAdd, gIt, gIx, gLen, gTupC, gLstC, gLstCM, gAll, gAny, gBls, gSum, gIsi, gAbs, gInt, gStr, gEqB, gIsN, isNon, gRep, dRepM, dSl, dPart, dNoPart, gSl, dRev, dRevM, dM, dM0, gAppend, gPop, dFld, dSetF, dMeth, dMake, dPut, dDict, dPairs, dJoin, dJoined, dJs, dFmt, gIn, exOf, endD, on1, on2, ev_it0, ev_it1, ev_it2, ev_itn1, ev_itn, ev_len_t, ev_len_l, ev_sq_t, ev_sq_l, ev_lst_l, ev_so_t, ev_so_l, ev_so_k, ev_si_t, ev_si_l, ev_si_k, ev_ty_i, ev_ty_b, ev_ty_n, ev_ty_s, ev_ty_t, ev_ty_l, ev_eq_ii, ev_shp_i, ev_shp_b, ev_shp_n, ev_key_i, ev_key_s, kd_NoneType, kd_bool, kd_int, kd_str, kd_tuple, kd_list, kd_dict, ib_NoneType_NoneType, ib_NoneType_bool, ib_NoneType_int, ib_NoneType_str, ib_NoneType_tuple, ib_NoneType_list, ib_NoneType_dict, ib_bool_NoneType, ib_bool_bool, ib_bool_int, ib_bool_str, ib_bool_tuple, ib_bool_list, ib_bool_dict, ib_int_NoneType, ib_int_bool, ib_int_int, ib_int_str, ib_int_tuple, ib_int_list, ib_int_dict, ib_str_NoneType, ib_str_bool, ib_str_int, ib_str_str, ib_str_tuple, ib_str_list, ib_str_dict, ib_tuple_NoneType, ib_tuple_bool, ib_tuple_int, ib_tuple_str, ib_tuple_tuple, ib_tuple_list, ib_tuple_dict, ib_list_NoneType, ib_list_bool, ib_list_int, ib_list_str, ib_list_tuple, ib_list_list, ib_list_dict, ib_dict_NoneType, ib_dict_bool, ib_dict_int, ib_dict_str, ib_dict_tuple, ib_dict_list, ib_dict_dict, true_and, and_true, if_true, if_false, Bool.not_true, Bool.not_false, List.map_cons, List.map_nil, List.length_cons, List.length_nil, List.replicate, List.cons_append, List.nil_append, List.getElem?_cons_succ, List.getElem?_cons_zero, List.set_cons_succ, List.set_cons_zero, ite_true_eq, ite_false_eq, ite_nt_eq, ite_nf_eq, dec_true, dec_not, bxor_f, bxor_t]
  refine c_product hr hs (by omega) ?_
  try simp only [startD, dSeq, dNext, dBreak, dCont, dSet, dIfE, dIfS, dB, dOp, dVar, dC, dCB, dCons, dNil, dUn, dRet, dRetN, dTup, dLst, dLstM, dCall, dDrop, dAsg, dT, Tg.d, Tgs.d, dNotT, dAndT, dOrT, dAndV, dOrV, dNotV, dPar, dFor, dSeqI, dRng1, dRng2, dZip2, dZip3, dEnum, dLC, dLCr, dLCM, finM, gII0, gII, onII, onI, gGcd, gNeg, gAdd, gIt, gIx, gLen, gTupC, gLstC, gLstCM, gAll, gAny, gBls, gSum, gIsi, gAbs, gInt, gStr, gEqB, gIsN, isNon, gRep, dRepM, dSl, dPart, dNoPart, gSl, dRev, dRevM, dM, dM0, gAppend, gPop, dFld, dSetF, dMeth, dMake, dPut, dDict, dPairs, dJoin, dJoined, dJs, dFmt, gIn, exOf, endD, on1, on2, ev_it0, ev_it1, ev_it2, ev_itn1, ev_itn, ev_len_t, ev_len_l, ev_sq_t, ev_sq_l, ev_lst_l, ev_so_t, ev_so_l, ev_so_k, ev_si_t, ev_si_l, ev_si_k, ev_ty_i, ev_ty_b, ev_ty_n, ev_ty_s, ev_ty_t, ev_ty_l, ev_eq_ii, ev_shp_i, ev_shp_b, ev_shp_n, ev_key_i, ev_key_s, kd_NoneType, kd_bool, kd_int, kd_str, kd_tuple, kd_list, kd_dict, ib_NoneType_NoneType, ib_NoneType_bool, ib_NoneType_int, ib_NoneType_str, ib_NoneType_tuple, ib_NoneType_list, ib_NoneType_dict, ib_bool_NoneType, ib_bool_bool, ib_bool_int, ib_bool_str, ib_bool_tuple, ib_bool_list, ib_bool_dict, ib_int_NoneType, ib_int_bool, ib_int_int, ib_int_str, ib_int_tuple, ib_int_list, ib_int_dict, ib_str_NoneType, ib_str_bool, ib_str_int, ib_str_str, ib_str_tuple, ib_str_list, ib_str_dict, ib_tuple_NoneType, ib_tuple_bool, ib_tuple_int, ib_tuple_str, ib_tuple_tuple, ib_tuple_list, ib_tuple_dict, ib_list_NoneType, ib_list_bool, ib_list_int, ib_list_str, ib_list_tuple, ib_list_list, ib_list_dict, ib_dict_NoneType, ib_dict_bool, ib_dict_int, ib_dict_str, ib_dict_tuple, ib_dict_list, ib_dict_dict, true_and, and_true, if_true, if_false, Bool.not_true, Bool.not_false, List.map_cons, List.map_nil, List.length_cons, List.length_nil, List.replicate, List.cons_append, List.nil_append, List.getElem?_cons_succ, List.getElem?_cons_zero, List.set_cons_succ, List.set_cons_zero, ite_true_eq, ite_false_eq, ite_nt_eq, ite_nf_eq, dec_true, dec_not, bxor_f, bxor_t]
  refine c_size ?_
  try simp only [startD, dSeq, dNext, dBreak, dCont, dSet, dIfE, dIfS, dB, dOp, dVar, dC, dCB, dCons, dNil, dUn, dRet, dRetN, dTup, dLst, dLstM, dCall, dDrop, dAsg, dT, Tg.d, Tgs.d, dNotT, dAndT, dOrT, dAndV, dOrV, dNotV, dPar, dFor, dSeqI, dRng1, dRng2, dZip2, dZip3, dEnum, dLC, dLCr, dLCM, finM, gII0, gII, onII, onI, gGcd, gNeg, gAdd, gIt, gIx, gLen, gTupC, gLstC, gLstCM, gAll, gAny, gBls, gSum, gIsi, gAbs, gInt, gStr, gEqB, gIsN, isNon, gRep, dRepM, dSl, dPart, dNoPart, gSl, dRev, dRevM, dM, dM0, gAppend, gPop, dFld, dSetF, dMeth, dMake, dPut, dDict, dPairs, dJoin, dJoined, dJs, dFmt, gIn, exOf, endD, on1, on2, ev_it0, ev_it1, ev_it2, ev_itn1, ev_itn, ev_len_t, ev_len_l, ev_sq_t, ev_sq_l, ev_lst_l, ev_so_t, ev_so_l, ev_so_k, ev_si_t, ev_si_l, ev_si_k, ev_ty_i, ev_ty_b, ev_ty_n, ev_ty_s, ev_ty_t, ev_ty_l, ev_eq_ii, ev_shp_i, ev_shp_b, ev_shp_n, ev_key_i, ev_key_s, kd_NoneType, kd_bool, kd_int, kd_str, kd_tuple, kd_list, kd_dict, ib_NoneType_NoneType, ib_NoneType_bool, ib_NoneType_int, ib_NoneType_str, ib_NoneType_tuple, ib_NoneType_list, ib_NoneType_dict, ib_bool_NoneType, ib_bool_bool, ib_bool_int, ib_bool_str, ib_bool_tuple, ib_bool_list, ib_bool_dict, ib_int_NoneType, ib_int_bool, ib_int_int, ib_int_str, ib_int_tuple, ib_int_list, ib_int_dict, ib_str_NoneType, ib_str_bool, ib_str_int, ib_str_str, ib_str_tuple, ib_str_list, ib_str_dict, ib_tuple_NoneType, ib_tuple_bool, ib_tuple_int, ib_tuple_str, ib_tuple_tuple, ib_tuple_list, ib_tuple_dict, ib_list_NoneType, ib_list_bool, ib_list_int, ib_list_str, ib_list_tuple, ib_list_list, ib_list_dict, ib_dict_NoneType, ib_dict_bool, ib_dict_int, ib_dict_str, ib_dict_tuple, ib_dict_list, ib_dict_dict, true_and, and_true, if_true, if_false, Bool.not_true, Bool.not_false, List.map_cons, List.map_nil, List.length_cons, List.length_nil, List.replicate, List.cons_append, List.nil_append, List.getElem?_cons_succ, List.getElem?_cons_zero, List.set_cons_succ, List.set_cons_zero, ite_true_eq, ite_false_eq, ite_nt_eq, ite_nf_eq, dec_true, dec_not, bxor_f, bxor_t]
  refine c_less (z1.mul z2) d3.rab (by omega) ?_
  try simp only [nlt (dot_le r s), startD, dSeq, dNext, dBreak, dCont, dSet, dIfE, dIfS, dB, dOp, dVar, dC, dCB, dCons, dNil, dUn, dRet, dRetN, dTup, dLst, dLstM, dCall, dDrop, dAsg, dT, Tg.d, Tgs.d, dNotT, dAndT, dOrT, dAndV, dOrV, dNotV, dPar, dFor, dSeqI, dRng1, dRng2, dZip2, dZip3, dEnum, dLC, dLCr, dLCM, finM, gII0, gII, onII, onI, gGcd, gNeg, gAdd, gIt, gIx, gLen, gTupC, gLstC, gLstCM, gAll, gAny, gBls, gSum, gIsi, gAbs, gInt, gStr, gEqB, gIsN, isNon, gRep, dRepM, dSl, dPart, dNoPart, gSl, dRev, dRevM, dM, dM0, gAppend, gPop, dFld, dSetF, dMeth, dMake, dPut, dDict, dPairs, dJoin, dJoined, dJs, dFmt, gIn, exOf, endD, on1, on2, ev_it0, ev_it1, ev_it2, ev_itn1, ev_itn, ev_len_t, ev_len_l, ev_sq_t, ev_sq_l, ev_lst_l, ev_so_t, ev_so_l, ev_so_k, ev_si_t, ev_si_l, ev_si_k, ev_ty_i, ev_ty_b, ev_ty_n, ev_ty_s, ev_ty_t, ev_ty_l, ev_eq_ii, ev_shp_i, ev_shp_b, ev_shp_n, ev_key_i, ev_key_s, kd_NoneType, kd_bool, kd_int, kd_str, kd_tuple, kd_list, kd_dict, ib_NoneType_NoneType, ib_NoneType_bool, ib_NoneType_int, ib_NoneType_str, ib_NoneType_tuple, ib_NoneType_list, ib_NoneType_dict, ib_bool_NoneType, ib_bool_bool, ib_bool_int, ib_bool_str, ib_bool_tuple, ib_bool_list, ib_bool_dict, ib_int_NoneType, ib_int_bool, ib_int_int, ib_int_str, ib_int_tuple, ib_int_list, ib_int_dict, ib_str_NoneType, ib_str_bool, ib_str_int, ib_str_str, ib_str_tuple, ib_str_list, ib_str_dict, ib_tuple_NoneType, ib_tuple_bool, ib_tuple_int, ib_tuple_str, ib_tuple_tuple, ib_tuple_list, ib_tuple_dict, ib_list_NoneType, ib_list_bool, ib_list_int, ib_list_str, ib_list_tuple, ib_list_list, ib_list_dict, ib_dict_NoneType, ib_dict_bool, ib_dict_int, ib_dict_str, ib_dict_tuple, ib_dict_list, ib_dict_dict, true_and, and_true, if_true, if_false, Bool.not_true, Bool.not_false, List.map_cons, List.map_nil, List.length_cons, List.length_nil, List.replicate, List.cons_append, List.nil_append, List.getElem?_cons_succ, List.getElem?_cons_zero, List.set_cons_succ, List.set_cons_zero, ite_true_eq, ite_false_eq, ite_nt_eq, ite_nf_eq, dec_true, dec_not, bxor_f, bxor_t]
  exact ⟨m, _, .refl, q⟩
end Y
/-! M11: the law. -/
namespace Y
open PySem PySem.Spec PyProof.Rows L2
/-- put in order, each once -/
def S_ascending : DS := fun ds m Q X => ∃ (r : List Rat) (a : Nat), ds = [.lst (r.map enc)] ∧ SmR a r ∧ r.length * (a + 1) ≤ 4000 ∧ ∀ out : List Rat, out.Pairwise (· < ·) → (∀ x ∈ out, x ∈ r) → out.length ≤ r.length → Q (.lst (out.map enc)) m
def T_law : DSt := (dSeq (dSet 1 (dCall S__law_open_cells (dCons (dVar 0) dNil)))
  (dSeq (dFor (dRng1 (dCons (dC (.int 5)) dNil)) (dT (.nm 2))
  (dSeq (dSet 3 (dOp gAdd (dC (.int 1)) (dCall S__law_pick (dCons (dVar 1) (dCons (dC (.int 4)) dNil)))))
  (dSeq (dPar 4 5 (dCons (dCB gTupC (dCons (dLC (dRng1 (dCons (dVar 3) dNil)) (.nm 10) dYes (dCall S__law_drawn (dCons (dVar 1) dNil)) [10]) dNil)) (dCons (dCall S__law_draw_row (dCons (dVar 1) (dCons (dVar 3) (dCons (dC (.int 4)) dNil)))) dNil)))
  (dSeq (dAsg (dTup (dCons (dCall S__law_draw_row (dCons (dVar 1) (dCons (dVar 3) (dCons (dC (.int 2)) dNil)))) (dCons (dCall S__law_drawn (dCons (dVar 1) dNil)) dNil))) (dT (.tp [(.nm 6), (.nm 7)])))
  (dSeq (dIfS (dOrT (dNotT (dB (dCall S__law_three_right (dCons (dVar 4) (dCons (dVar 5) (dCons (dVar 6) (dCons (dVar 7) dNil))))))) (dNotT (dB (dCall S__law_three_right (dCons (dVar 5) (dCons (dVar 6) (dCons (dVar 4) (dCons (dTup (dCons (dUn gNeg (dC (.int 1))) (dCons (dC (.int 2)) dNil))) dNil)))))))) (dRet (dC (.bl false))) dNext)
  (dSeq (dSet 8 (dCall S_added (dCons (dCall S_scaled (dCons (dVar 4) (dCons (dVar 7) dNil))) (dCons (dVar 5) dNil))))
  (dSeq (dIfS (dOrT (dNotT (dB (dCall S_is_row (dCons (dVar 8) (dCons (dVar 3) dNil))))) (dOrT (dB (dOp gNe (dCall S_read_row (dCons (dCall S_row_text (dCons (dVar 8) dNil)) dNil)) (dVar 8))) (dB (dOp gNe (dCall S_read_fraction (dCons (dCall S_fraction_text (dCons (dCall S_sizes (dCons (dVar 8) dNil)) dNil)) dNil)) (dCall S_sizes (dCons (dVar 8) dNil)))))) (dRet (dC (.bl false))) dNext)
  (dSeq (dIfS (dAndT (dB (dOp gNe (dOp gIt (dVar 7) (dC (.int 0))) (dC (.int 0)))) (dB (dOp gNe (dCall S_scaled (dCons (dCall S_scaled (dCons (dVar 4) (dCons (dVar 7) dNil))) (dCons (dCall S_divided (dCons (dTup (dCons (dC (.int 1)) (dCons (dC (.int 1)) dNil))) (dCons (dVar 7) dNil))) dNil))) (dVar 4)))) (dRet (dC (.bl false))) dNext)
  (dSeq (dSet 9 (dCall S_ascending (dCons (dOp gAdd (dLC (dSeqI (dOp gAdd (dVar 4) (dVar 5))) (.nm 11) dYes (dVar 11) [11]) (dLC (dSeqI (dVar 6)) (.nm 11) dYes (dCall S_minus (dCons (dVar 11) (dCons (dVar 7) dNil))) [11])) dNil)))
  (dIfS (dB (dOp gNe (dLC (dZip2 (dCons (dVar 9) (dCons (dSl (dVar 9) (dPart (dC (.int 1))) dNoPart) dNil))) (.tp [(.nm 11), (.nm 12)]) (dNotT (dB (dCall S_is_less (dCons (dVar 11) (dCons (dVar 12) dNil))))) (dC (.int 1)) [11, 12]) (dLst dNil))) (dRet (dC (.bl false))) dNext))))))))))
  (dRet (dC (.bl true)))))
theorem LIM_big : 1000 ≤ LIM := by unfold LIM; decide +kernel
theorem Sm.small {q : Rat} {k : Nat} (h : Sm k q) (hk : k ≤ 600) : Small q := by
  have : 2 ^ k ≤ 10 ^ 190 := Nat.le_trans (Nat.pow_le_pow_right (by decide) hk) (by decide +kernel)
  exact ⟨Nat.lt_of_lt_of_le h.1 this, Nat.lt_of_lt_of_le h.2 this⟩
theorem pair_up : ∀ {l : List Rat}, l.Pairwise (· < ·) → ∀ p ∈ l.zip (l.drop 1), p.1 < p.2
  | [], _, p, hp => by simp at hp
  | [x], _, p, hp => by simp at hp
  | x :: y :: r, h, p, hp => by
    obtain ⟨h1, h2⟩ := List.pairwise_cons.mp h
    have hp : p = (x, y) ∨ p ∈ (y :: r).zip ((y :: r).drop 1) := by simpa using hp
    rcases hp with rfl | hp
    · exact h1 y List.mem_cons_self
    · exact pair_up h2 p hp
theorem H_law (ds : List D) (m : MM) (Q : D → MM → Prop) (Px : XC) (h : S_law ds m Q Px) : ds.length = 1 ∧ T_law (endD Q Px) (startD ["_law_script", "_law_source", "_law_lap", "_law_many", "_law_one", "_law_other", "_law_third", "_law_x", "_law_made", "_law_told", "_law_k", "_law_y", "_law_z"] ds) m := by
  obtain ⟨ns, rfl, hn, hb, rfl, q⟩ := h
  refine ⟨rfl, ?_⟩
  simp only [T_law, startD, dSeq, dNext, dBreak, dCont, dSet, dIfE, dIfS, dB, dOp, dVar, dC, dCB, dCons, dNil, dUn, dRet, dRetN, dTup, dLst, dLstM, dCall, dDrop, dAsg, dT, Tg.d, Tgs.d, dNotT, dAndT, dOrT, dAndV, dOrV, dNotV, dPar, dFor, dSeqI, dRng1, dRng2, dZip2, dZip3, dEnum, dLC, dLCr, dLCM, finM, gII0, gII, onII, onI, gGcd, gNeg, gAdd, gIt, gIx, gLen, gTupC, gLstC, gLstCM, gAll, gAny, gBls, gSum, gIsi, gAbs, gInt, gStr, gEqB, gIsN, isNon, gRep, dRepM, dSl, dPart, dNoPart, gSl, dRev, dRevM, dM, dM0, gAppend, gPop, dFld, dSetF, dMeth, dMake, dPut, dDict, dPairs, dJoin, dJoined, dJs, dFmt, gIn, exOf, endD, on1, on2, ev_it0, ev_it1, ev_it2, ev_itn1, ev_itn, ev_len_t, ev_len_l, ev_sq_t, ev_sq_l, ev_lst_l, ev_so_t, ev_so_l, ev_so_k, ev_si_t, ev_si_l, ev_si_k, ev_ty_i, ev_ty_b, ev_ty_n, ev_ty_s, ev_ty_t, ev_ty_l, ev_eq_ii, ev_shp_i, ev_shp_b, ev_shp_n, ev_key_i, ev_key_s, kd_NoneType, kd_bool, kd_int, kd_str, kd_tuple, kd_list, kd_dict, ib_NoneType_NoneType, ib_NoneType_bool, ib_NoneType_int, ib_NoneType_str, ib_NoneType_tuple, ib_NoneType_list, ib_NoneType_dict, ib_bool_NoneType, ib_bool_bool, ib_bool_int, ib_bool_str, ib_bool_tuple, ib_bool_list, ib_bool_dict, ib_int_NoneType, ib_int_bool, ib_int_int, ib_int_str, ib_int_tuple, ib_int_list, ib_int_dict, ib_str_NoneType, ib_str_bool, ib_str_int, ib_str_str, ib_str_tuple, ib_str_list, ib_str_dict, ib_tuple_NoneType, ib_tuple_bool, ib_tuple_int, ib_tuple_str, ib_tuple_tuple, ib_tuple_list, ib_tuple_dict, ib_list_NoneType, ib_list_bool, ib_list_int, ib_list_str, ib_list_tuple, ib_list_list, ib_list_dict, ib_dict_NoneType, ib_dict_bool, ib_dict_int, ib_dict_str, ib_dict_tuple, ib_dict_list, ib_dict_dict, true_and, and_true, if_true, if_false, Bool.not_true, Bool.not_false, List.map_cons, List.map_nil, List.length_cons, List.length_nil, List.replicate, List.cons_append, List.nil_append, List.getElem?_cons_succ, List.getElem?_cons_zero, List.set_cons_succ, List.set_cons_zero, ite_true_eq, ite_false_eq, ite_nt_eq, ite_nf_eq, dec_true, dec_not, bxor_f, bxor_t]
  refine ⟨ns, rfl, by omega, hb, fun a cs m1 ha hc s1 f1 => ?_⟩
  try simp only [startD, dSeq, dNext, dBreak, dCont, dSet, dIfE, dIfS, dB, dOp, dVar, dC, dCB, dCons, dNil, dUn, dRet, dRetN, dTup, dLst, dLstM, dCall, dDrop, dAsg, dT, Tg.d, Tgs.d, dNotT, dAndT, dOrT, dAndV, dOrV, dNotV, dPar, dFor, dSeqI, dRng1, dRng2, dZip2, dZip3, dEnum, dLC, dLCr, dLCM, finM, gII0, gII, onII, onI, gGcd, gNeg, gAdd, gIt, gIx, gLen, gTupC, gLstC, gLstCM, gAll, gAny, gBls, gSum, gIsi, gAbs, gInt, gStr, gEqB, gIsN, isNon, gRep, dRepM, dSl, dPart, dNoPart, gSl, dRev, dRevM, dM, dM0, gAppend, gPop, dFld, dSetF, dMeth, dMake, dPut, dDict, dPairs, dJoin, dJoined, dJs, dFmt, gIn, exOf, endD, on1, on2, ev_it0, ev_it1, ev_it2, ev_itn1, ev_itn, ev_len_t, ev_len_l, ev_sq_t, ev_sq_l, ev_lst_l, ev_so_t, ev_so_l, ev_so_k, ev_si_t, ev_si_l, ev_si_k, ev_ty_i, ev_ty_b, ev_ty_n, ev_ty_s, ev_ty_t, ev_ty_l, ev_eq_ii, ev_shp_i, ev_shp_b, ev_shp_n, ev_key_i, ev_key_s, kd_NoneType, kd_bool, kd_int, kd_str, kd_tuple, kd_list, kd_dict, ib_NoneType_NoneType, ib_NoneType_bool, ib_NoneType_int, ib_NoneType_str, ib_NoneType_tuple, ib_NoneType_list, ib_NoneType_dict, ib_bool_NoneType, ib_bool_bool, ib_bool_int, ib_bool_str, ib_bool_tuple, ib_bool_list, ib_bool_dict, ib_int_NoneType, ib_int_bool, ib_int_int, ib_int_str, ib_int_tuple, ib_int_list, ib_int_dict, ib_str_NoneType, ib_str_bool, ib_str_int, ib_str_str, ib_str_tuple, ib_str_list, ib_str_dict, ib_tuple_NoneType, ib_tuple_bool, ib_tuple_int, ib_tuple_str, ib_tuple_tuple, ib_tuple_list, ib_tuple_dict, ib_list_NoneType, ib_list_bool, ib_list_int, ib_list_str, ib_list_tuple, ib_list_list, ib_list_dict, ib_dict_NoneType, ib_dict_bool, ib_dict_int, ib_dict_str, ib_dict_tuple, ib_dict_list, ib_dict_dict, true_and, and_true, if_true, if_false, Bool.not_true, Bool.not_false, List.map_cons, List.map_nil, List.length_cons, List.length_nil, List.replicate, List.cons_append, List.nil_append, List.getElem?_cons_succ, List.getElem?_cons_zero, List.set_cons_succ, List.set_cons_zero, ite_true_eq, ite_false_eq, ite_nt_eq, ite_nf_eq, dec_true, dec_not, bxor_f, bxor_t]
  refine ⟨⟨by decide, by decide⟩, ?_⟩
  refine for_ind (fun items ρ m' => Src m' a cs (100 * items.length) ∧ ∃ o2 o3 o4 o5 o6 o7 o8 o9, ρ = [some (.kl (ns.map .int)), some (.adr a), o2, o3, o4, o5, o6, o7, o8, o9, none, none, none]) ?_ ?_ _ _ _ ⟨s1.le (by rw [rngD_len]; have := LIM_big; simp; omega), _, _, _, _, _, _, _, _, rfl⟩
  · rintro d rest ρ m' N hN ⟨s', o2, o3, o4, o5, o6, o7, o8, o9, rfl⟩
    refine ⟨trivial, ?_⟩
    simp only [startD, dSeq, dNext, dBreak, dCont, dSet, dIfE, dIfS, dB, dOp, dVar, dC, dCB, dCons, dNil, dUn, dRet, dRetN, dTup, dLst, dLstM, dCall, dDrop, dAsg, dT, Tg.d, Tgs.d, dNotT, dAndT, dOrT, dAndV, dOrV, dNotV, dPar, dFor, dSeqI, dRng1, dRng2, dZip2, dZip3, dEnum, dLC, dLCr, dLCM, finM, gII0, gII, onII, onI, gGcd, gNeg, gAdd, gIt, gIx, gLen, gTupC, gLstC, gLstCM, gAll, gAny, gBls, gSum, gIsi, gAbs, gInt, gStr, gEqB, gIsN, isNon, gRep, dRepM, dSl, dPart, dNoPart, gSl, dRev, dRevM, dM, dM0, gAppend, gPop, dFld, dSetF, dMeth, dMake, dPut, dDict, dPairs, dJoin, dJoined, dJs, dFmt, gIn, exOf, endD, on1, on2, ev_it0, ev_it1, ev_it2, ev_itn1, ev_itn, ev_len_t, ev_len_l, ev_sq_t, ev_sq_l, ev_lst_l, ev_so_t, ev_so_l, ev_so_k, ev_si_t, ev_si_l, ev_si_k, ev_ty_i, ev_ty_b, ev_ty_n, ev_ty_s, ev_ty_t, ev_ty_l, ev_eq_ii, ev_shp_i, ev_shp_b, ev_shp_n, ev_key_i, ev_key_s, kd_NoneType, kd_bool, kd_int, kd_str, kd_tuple, kd_list, kd_dict, ib_NoneType_NoneType, ib_NoneType_bool, ib_NoneType_int, ib_NoneType_str, ib_NoneType_tuple, ib_NoneType_list, ib_NoneType_dict, ib_bool_NoneType, ib_bool_bool, ib_bool_int, ib_bool_str, ib_bool_tuple, ib_bool_list, ib_bool_dict, ib_int_NoneType, ib_int_bool, ib_int_int, ib_int_str, ib_int_tuple, ib_int_list, ib_int_dict, ib_str_NoneType, ib_str_bool, ib_str_int, ib_str_str, ib_str_tuple, ib_str_list, ib_str_dict, ib_tuple_NoneType, ib_tuple_bool, ib_tuple_int, ib_tuple_str, ib_tuple_tuple, ib_tuple_list, ib_tuple_dict, ib_list_NoneType, ib_list_bool, ib_list_int, ib_list_str, ib_list_tuple, ib_list_list, ib_list_dict, ib_dict_NoneType, ib_dict_bool, ib_dict_int, ib_dict_str, ib_dict_tuple, ib_dict_list, ib_dict_dict, true_and, and_true, if_true, if_false, Bool.not_true, Bool.not_false, List.map_cons, List.map_nil, List.length_cons, List.length_nil, List.replicate, List.cons_append, List.nil_append, List.getElem?_cons_succ, List.getElem?_cons_zero, List.set_cons_succ, List.set_cons_zero, ite_true_eq, ite_false_eq, ite_nt_eq, ite_nf_eq, dec_true, dec_not, bxor_f, bxor_t]
    rw [List.length_cons] at s'
    refine ⟨a, cs, 4, 100 * rest.length + 99, rfl, s'.le (by omega), small_pow (by decide), fun v m2 hv s2 f2 => ?_⟩
    simp only [startD, dSeq, dNext, dBreak, dCont, dSet, dIfE, dIfS, dB, dOp, dVar, dC, dCB, dCons, dNil, dUn, dRet, dRetN, dTup, dLst, dLstM, dCall, dDrop, dAsg, dT, Tg.d, Tgs.d, dNotT, dAndT, dOrT, dAndV, dOrV, dNotV, dPar, dFor, dSeqI, dRng1, dRng2, dZip2, dZip3, dEnum, dLC, dLCr, dLCM, finM, gII0, gII, onII, onI, gGcd, gNeg, gAdd, gIt, gIx, gLen, gTupC, gLstC, gLstCM, gAll, gAny, gBls, gSum, gIsi, gAbs, gInt, gStr, gEqB, gIsN, isNon, gRep, dRepM, dSl, dPart, dNoPart, gSl, dRev, dRevM, dM, dM0, gAppend, gPop, dFld, dSetF, dMeth, dMake, dPut, dDict, dPairs, dJoin, dJoined, dJs, dFmt, gIn, exOf, endD, on1, on2, ev_it0, ev_it1, ev_it2, ev_itn1, ev_itn, ev_len_t, ev_len_l, ev_sq_t, ev_sq_l, ev_lst_l, ev_so_t, ev_so_l, ev_so_k, ev_si_t, ev_si_l, ev_si_k, ev_ty_i, ev_ty_b, ev_ty_n, ev_ty_s, ev_ty_t, ev_ty_l, ev_eq_ii, ev_shp_i, ev_shp_b, ev_shp_n, ev_key_i, ev_key_s, kd_NoneType, kd_bool, kd_int, kd_str, kd_tuple, kd_list, kd_dict, ib_NoneType_NoneType, ib_NoneType_bool, ib_NoneType_int, ib_NoneType_str, ib_NoneType_tuple, ib_NoneType_list, ib_NoneType_dict, ib_bool_NoneType, ib_bool_bool, ib_bool_int, ib_bool_str, ib_bool_tuple, ib_bool_list, ib_bool_dict, ib_int_NoneType, ib_int_bool, ib_int_int, ib_int_str, ib_int_tuple, ib_int_list, ib_int_dict, ib_str_NoneType, ib_str_bool, ib_str_int, ib_str_str, ib_str_tuple, ib_str_list, ib_str_dict, ib_tuple_NoneType, ib_tuple_bool, ib_tuple_int, ib_tuple_str, ib_tuple_tuple, ib_tuple_list, ib_tuple_dict, ib_list_NoneType, ib_list_bool, ib_list_int, ib_list_str, ib_list_tuple, ib_list_list, ib_list_dict, ib_dict_NoneType, ib_dict_bool, ib_dict_int, ib_dict_str, ib_dict_tuple, ib_dict_list, ib_dict_dict, true_and, and_true, if_true, if_false, Bool.not_true, Bool.not_false, List.map_cons, List.map_nil, List.length_cons, List.length_nil, List.replicate, List.cons_append, List.nil_append, List.getElem?_cons_succ, List.getElem?_cons_zero, List.set_cons_succ, List.set_cons_zero, ite_true_eq, ite_false_eq, ite_nt_eq, ite_nf_eq, dec_true, dec_not, bxor_f, bxor_t]
    obtain ⟨n, hn1, hn4, en⟩ : ∃ n : Nat, 1 ≤ n ∧ n ≤ 4 ∧ 1 + v = (n : Int) := ⟨(1 + v).toNat, by obtain ⟨p1, p2⟩ := hv; omega, by obtain ⟨p1, p2⟩ := hv; omega, by obtain ⟨p1, p2⟩ := hv; omega⟩
    rw [en]
    refine ⟨⟨by omega, by omega⟩, fun p hp => ?_⟩
    rw [Int.toNat_natCast]
    refine lc_draw enc (Bq 2147483647 2147483647) 6 (100 * rest.length + 70) n _ (rngD_len 0 n) hp (by omega) (s2.le (by omega)) (fun d => _) (fun d _ => rfl) (fun d hd m3 g N3 s3 k3 => ?_) fun r m3 hr1 hr2 s3 f3 => ?_
    · simp only [wipeD, startD, dSeq, dNext, dBreak, dCont, dSet, dIfE, dIfS, dB, dOp, dVar, dC, dCB, dCons, dNil, dUn, dRet, dRetN, dTup, dLst, dLstM, dCall, dDrop, dAsg, dT, Tg.d, Tgs.d, dNotT, dAndT, dOrT, dAndV, dOrV, dNotV, dPar, dFor, dSeqI, dRng1, dRng2, dZip2, dZip3, dEnum, dLC, dLCr, dLCM, finM, gII0, gII, onII, onI, gGcd, gNeg, gAdd, gIt, gIx, gLen, gTupC, gLstC, gLstCM, gAll, gAny, gBls, gSum, gIsi, gAbs, gInt, gStr, gEqB, gIsN, isNon, gRep, dRepM, dSl, dPart, dNoPart, gSl, dRev, dRevM, dM, dM0, gAppend, gPop, dFld, dSetF, dMeth, dMake, dPut, dDict, dPairs, dJoin, dJoined, dJs, dFmt, gIn, exOf, endD, on1, on2, ev_it0, ev_it1, ev_it2, ev_itn1, ev_itn, ev_len_t, ev_len_l, ev_sq_t, ev_sq_l, ev_lst_l, ev_so_t, ev_so_l, ev_so_k, ev_si_t, ev_si_l, ev_si_k, ev_ty_i, ev_ty_b, ev_ty_n, ev_ty_s, ev_ty_t, ev_ty_l, ev_eq_ii, ev_shp_i, ev_shp_b, ev_shp_n, ev_key_i, ev_key_s, kd_NoneType, kd_bool, kd_int, kd_str, kd_tuple, kd_list, kd_dict, ib_NoneType_NoneType, ib_NoneType_bool, ib_NoneType_int, ib_NoneType_str, ib_NoneType_tuple, ib_NoneType_list, ib_NoneType_dict, ib_bool_NoneType, ib_bool_bool, ib_bool_int, ib_bool_str, ib_bool_tuple, ib_bool_list, ib_bool_dict, ib_int_NoneType, ib_int_bool, ib_int_int, ib_int_str, ib_int_tuple, ib_int_list, ib_int_dict, ib_str_NoneType, ib_str_bool, ib_str_int, ib_str_str, ib_str_tuple, ib_str_list, ib_str_dict, ib_tuple_NoneType, ib_tuple_bool, ib_tuple_int, ib_tuple_str, ib_tuple_tuple, ib_tuple_list, ib_tuple_dict, ib_list_NoneType, ib_list_bool, ib_list_int, ib_list_str, ib_list_tuple, ib_list_list, ib_list_dict, ib_dict_NoneType, ib_dict_bool, ib_dict_int, ib_dict_str, ib_dict_tuple, ib_dict_list, ib_dict_dict, true_and, and_true, if_true, if_false, Bool.not_true, Bool.not_false, List.map_cons, List.map_nil, List.length_cons, List.length_nil, List.replicate, List.cons_append, List.nil_append, List.getElem?_cons_succ, List.getElem?_cons_zero, List.set_cons_succ, List.set_cons_zero, ite_true_eq, ite_false_eq, ite_nt_eq, ite_nf_eq, dec_true, dec_not, bxor_f, bxor_t]
      exact ⟨a, cs, g, rfl, s3, k3⟩
    simp only [startD, dSeq, dNext, dBreak, dCont, dSet, dIfE, dIfS, dB, dOp, dVar, dC, dCB, dCons, dNil, dUn, dRet, dRetN, dTup, dLst, dLstM, dCall, dDrop, dAsg, dT, Tg.d, Tgs.d, dNotT, dAndT, dOrT, dAndV, dOrV, dNotV, dPar, dFor, dSeqI, dRng1, dRng2, dZip2, dZip3, dEnum, dLC, dLCr, dLCM, finM, gII0, gII, onII, onI, gGcd, gNeg, gAdd, gIt, gIx, gLen, gTupC, gLstC, gLstCM, gAll, gAny, gBls, gSum, gIsi, gAbs, gInt, gStr, gEqB, gIsN, isNon, gRep, dRepM, dSl, dPart, dNoPart, gSl, dRev, dRevM, dM, dM0, gAppend, gPop, dFld, dSetF, dMeth, dMake, dPut, dDict, dPairs, dJoin, dJoined, dJs, dFmt, gIn, exOf, endD, on1, on2, ev_it0, ev_it1, ev_it2, ev_itn1, ev_itn, ev_len_t, ev_len_l, ev_sq_t, ev_sq_l, ev_lst_l, ev_so_t, ev_so_l, ev_so_k, ev_si_t, ev_si_l, ev_si_k, ev_ty_i, ev_ty_b, ev_ty_n, ev_ty_s, ev_ty_t, ev_ty_l, ev_eq_ii, ev_shp_i, ev_shp_b, ev_shp_n, ev_key_i, ev_key_s, kd_NoneType, kd_bool, kd_int, kd_str, kd_tuple, kd_list, kd_dict, ib_NoneType_NoneType, ib_NoneType_bool, ib_NoneType_int, ib_NoneType_str, ib_NoneType_tuple, ib_NoneType_list, ib_NoneType_dict, ib_bool_NoneType, ib_bool_bool, ib_bool_int, ib_bool_str, ib_bool_tuple, ib_bool_list, ib_bool_dict, ib_int_NoneType, ib_int_bool, ib_int_int, ib_int_str, ib_int_tuple, ib_int_list, ib_int_dict, ib_str_NoneType, ib_str_bool, ib_str_int, ib_str_str, ib_str_tuple, ib_str_list, ib_str_dict, ib_tuple_NoneType, ib_tuple_bool, ib_tuple_int, ib_tuple_str, ib_tuple_tuple, ib_tuple_list, ib_tuple_dict, ib_list_NoneType, ib_list_bool, ib_list_int, ib_list_str, ib_list_tuple, ib_list_list, ib_list_dict, ib_dict_NoneType, ib_dict_bool, ib_dict_int, ib_dict_str, ib_dict_tuple, ib_dict_list, ib_dict_dict, true_and, and_true, if_true, if_false, Bool.not_true, Bool.not_false, List.map_cons, List.map_nil, List.length_cons, List.length_nil, List.replicate, List.cons_append, List.nil_append, List.getElem?_cons_succ, List.getElem?_cons_zero, List.set_cons_succ, List.set_cons_zero, ite_true_eq, ite_false_eq, ite_nt_eq, ite_nf_eq, dec_true, dec_not, bxor_f, bxor_t]
    refine ⟨a, cs, n, 4, 100 * rest.length + 60, rfl, s3.le (by omega), by decide, by omega, fun s m4 hs1 hs2 s4 f4 => ?_⟩
    try simp only [startD, dSeq, dNext, dBreak, dCont, dSet, dIfE, dIfS, dB, dOp, dVar, dC, dCB, dCons, dNil, dUn, dRet, dRetN, dTup, dLst, dLstM, dCall, dDrop, dAsg, dT, Tg.d, Tgs.d, dNotT, dAndT, dOrT, dAndV, dOrV, dNotV, dPar, dFor, dSeqI, dRng1, dRng2, dZip2, dZip3, dEnum, dLC, dLCr, dLCM, finM, gII0, gII, onII, onI, gGcd, gNeg, gAdd, gIt, gIx, gLen, gTupC, gLstC, gLstCM, gAll, gAny, gBls, gSum, gIsi, gAbs, gInt, gStr, gEqB, gIsN, isNon, gRep, dRepM, dSl, dPart, dNoPart, gSl, dRev, dRevM, dM, dM0, gAppend, gPop, dFld, dSetF, dMeth, dMake, dPut, dDict, dPairs, dJoin, dJoined, dJs, dFmt, gIn, exOf, endD, on1, on2, ev_it0, ev_it1, ev_it2, ev_itn1, ev_itn, ev_len_t, ev_len_l, ev_sq_t, ev_sq_l, ev_lst_l, ev_so_t, ev_so_l, ev_so_k, ev_si_t, ev_si_l, ev_si_k, ev_ty_i, ev_ty_b, ev_ty_n, ev_ty_s, ev_ty_t, ev_ty_l, ev_eq_ii, ev_shp_i, ev_shp_b, ev_shp_n, ev_key_i, ev_key_s, kd_NoneType, kd_bool, kd_int, kd_str, kd_tuple, kd_list, kd_dict, ib_NoneType_NoneType, ib_NoneType_bool, ib_NoneType_int, ib_NoneType_str, ib_NoneType_tuple, ib_NoneType_list, ib_NoneType_dict, ib_bool_NoneType, ib_bool_bool, ib_bool_int, ib_bool_str, ib_bool_tuple, ib_bool_list, ib_bool_dict, ib_int_NoneType, ib_int_bool, ib_int_int, ib_int_str, ib_int_tuple, ib_int_list, ib_int_dict, ib_str_NoneType, ib_str_bool, ib_str_int, ib_str_str, ib_str_tuple, ib_str_list, ib_str_dict, ib_tuple_NoneType, ib_tuple_bool, ib_tuple_int, ib_tuple_str, ib_tuple_tuple, ib_tuple_list, ib_tuple_dict, ib_list_NoneType, ib_list_bool, ib_list_int, ib_list_str, ib_list_tuple, ib_list_list, ib_list_dict, ib_dict_NoneType, ib_dict_bool, ib_dict_int, ib_dict_str, ib_dict_tuple, ib_dict_list, ib_dict_dict, true_and, and_true, if_true, if_false, Bool.not_true, Bool.not_false, List.map_cons, List.map_nil, List.length_cons, List.length_nil, List.replicate, List.cons_append, List.nil_append, List.getElem?_cons_succ, List.getElem?_cons_zero, List.set_cons_succ, List.set_cons_zero, ite_true_eq, ite_false_eq, ite_nt_eq, ite_nf_eq, dec_true, dec_not, bxor_f, bxor_t]
    refine ⟨a, cs, n, 2, 100 * rest.length + 50, rfl, s4.le (by omega), by decide, by omega, fun t m5 ht1 ht2 s5 f5 => ?_⟩
    try simp only [startD, dSeq, dNext, dBreak, dCont, dSet, dIfE, dIfS, dB, dOp, dVar, dC, dCB, dCons, dNil, dUn, dRet, dRetN, dTup, dLst, dLstM, dCall, dDrop, dAsg, dT, Tg.d, Tgs.d, dNotT, dAndT, dOrT, dAndV, dOrV, dNotV, dPar, dFor, dSeqI, dRng1, dRng2, dZip2, dZip3, dEnum, dLC, dLCr, dLCM, finM, gII0, gII, onII, onI, gGcd, gNeg, gAdd, gIt, gIx, gLen, gTupC, gLstC, gLstCM, gAll, gAny, gBls, gSum, gIsi, gAbs, gInt, gStr, gEqB, gIsN, isNon, gRep, dRepM, dSl, dPart, dNoPart, gSl, dRev, dRevM, dM, dM0, gAppend, gPop, dFld, dSetF, dMeth, dMake, dPut, dDict, dPairs, dJoin, dJoined, dJs, dFmt, gIn, exOf, endD, on1, on2, ev_it0, ev_it1, ev_it2, ev_itn1, ev_itn, ev_len_t, ev_len_l, ev_sq_t, ev_sq_l, ev_lst_l, ev_so_t, ev_so_l, ev_so_k, ev_si_t, ev_si_l, ev_si_k, ev_ty_i, ev_ty_b, ev_ty_n, ev_ty_s, ev_ty_t, ev_ty_l, ev_eq_ii, ev_shp_i, ev_shp_b, ev_shp_n, ev_key_i, ev_key_s, kd_NoneType, kd_bool, kd_int, kd_str, kd_tuple, kd_list, kd_dict, ib_NoneType_NoneType, ib_NoneType_bool, ib_NoneType_int, ib_NoneType_str, ib_NoneType_tuple, ib_NoneType_list, ib_NoneType_dict, ib_bool_NoneType, ib_bool_bool, ib_bool_int, ib_bool_str, ib_bool_tuple, ib_bool_list, ib_bool_dict, ib_int_NoneType, ib_int_bool, ib_int_int, ib_int_str, ib_int_tuple, ib_int_list, ib_int_dict, ib_str_NoneType, ib_str_bool, ib_str_int, ib_str_str, ib_str_tuple, ib_str_list, ib_str_dict, ib_tuple_NoneType, ib_tuple_bool, ib_tuple_int, ib_tuple_str, ib_tuple_tuple, ib_tuple_list, ib_tuple_dict, ib_list_NoneType, ib_list_bool, ib_list_int, ib_list_str, ib_list_tuple, ib_list_list, ib_list_dict, ib_dict_NoneType, ib_dict_bool, ib_dict_int, ib_dict_str, ib_dict_tuple, ib_dict_list, ib_dict_dict, true_and, and_true, if_true, if_false, Bool.not_true, Bool.not_false, List.map_cons, List.map_nil, List.length_cons, List.length_nil, List.replicate, List.cons_append, List.nil_append, List.getElem?_cons_succ, List.getElem?_cons_zero, List.set_cons_succ, List.set_cons_zero, ite_true_eq, ite_false_eq, ite_nt_eq, ite_nf_eq, dec_true, dec_not, bxor_f, bxor_t]
    refine ⟨a, cs, 100 * rest.length + 40, rfl, s5.le (by omega), fun x m6 hx s6 f6 => ?_⟩
    simp only [startD, dSeq, dNext, dBreak, dCont, dSet, dIfE, dIfS, dB, dOp, dVar, dC, dCB, dCons, dNil, dUn, dRet, dRetN, dTup, dLst, dLstM, dCall, dDrop, dAsg, dT, Tg.d, Tgs.d, dNotT, dAndT, dOrT, dAndV, dOrV, dNotV, dPar, dFor, dSeqI, dRng1, dRng2, dZip2, dZip3, dEnum, dLC, dLCr, dLCM, finM, gII0, gII, onII, onI, gGcd, gNeg, gAdd, gIt, gIx, gLen, gTupC, gLstC, gLstCM, gAll, gAny, gBls, gSum, gIsi, gAbs, gInt, gStr, gEqB, gIsN, isNon, gRep, dRepM, dSl, dPart, dNoPart, gSl, dRev, dRevM, dM, dM0, gAppend, gPop, dFld, dSetF, dMeth, dMake, dPut, dDict, dPairs, dJoin, dJoined, dJs, dFmt, gIn, exOf, endD, on1, on2, ev_it0, ev_it1, ev_it2, ev_itn1, ev_itn, ev_len_t, ev_len_l, ev_sq_t, ev_sq_l, ev_lst_l, ev_so_t, ev_so_l, ev_so_k, ev_si_t, ev_si_l, ev_si_k, ev_ty_i, ev_ty_b, ev_ty_n, ev_ty_s, ev_ty_t, ev_ty_l, ev_eq_ii, ev_shp_i, ev_shp_b, ev_shp_n, ev_key_i, ev_key_s, kd_NoneType, kd_bool, kd_int, kd_str, kd_tuple, kd_list, kd_dict, ib_NoneType_NoneType, ib_NoneType_bool, ib_NoneType_int, ib_NoneType_str, ib_NoneType_tuple, ib_NoneType_list, ib_NoneType_dict, ib_bool_NoneType, ib_bool_bool, ib_bool_int, ib_bool_str, ib_bool_tuple, ib_bool_list, ib_bool_dict, ib_int_NoneType, ib_int_bool, ib_int_int, ib_int_str, ib_int_tuple, ib_int_list, ib_int_dict, ib_str_NoneType, ib_str_bool, ib_str_int, ib_str_str, ib_str_tuple, ib_str_list, ib_str_dict, ib_tuple_NoneType, ib_tuple_bool, ib_tuple_int, ib_tuple_str, ib_tuple_tuple, ib_tuple_list, ib_tuple_dict, ib_list_NoneType, ib_list_bool, ib_list_int, ib_list_str, ib_list_tuple, ib_list_list, ib_list_dict, ib_dict_NoneType, ib_dict_bool, ib_dict_int, ib_dict_str, ib_dict_tuple, ib_dict_list, ib_dict_dict, true_and, and_true, if_true, if_false, Bool.not_true, Bool.not_false, List.map_cons, List.map_nil, List.length_cons, List.length_nil, List.replicate, List.cons_append, List.nil_append, List.getElem?_cons_succ, List.getElem?_cons_zero, List.set_cons_succ, List.set_cons_zero, ite_true_eq, ite_false_eq, ite_nt_eq, ite_nf_eq, dec_true, dec_not, bxor_f, bxor_t]
    refine ⟨two_le, ?_⟩
    have kr : SmR 31 r := fun y hy => (hr2 y hy).sm (by decide) (by decide)
    have ks : SmR 4 s := fun y hy => (hs2 y hy).sm (by decide) (by decide)
    have kt : SmR 4 t := fun y hy => (ht2 y hy).sm (by decide) (by decide)
    have kx : Sm 31 x := hx.sm (by decide) (by decide)
    refine ⟨r, s, t, x, rfl, kr.mono (by omega), ks.mono (by omega), kt.mono (by omega), kx.mono (by omega), by omega, by omega, by omega, by omega, ?_⟩
    simp only [startD, dSeq, dNext, dBreak, dCont, dSet, dIfE, dIfS, dB, dOp, dVar, dC, dCB, dCons, dNil, dUn, dRet, dRetN, dTup, dLst, dLstM, dCall, dDrop, dAsg, dT, Tg.d, Tgs.d, dNotT, dAndT, dOrT, dAndV, dOrV, dNotV, dPar, dFor, dSeqI, dRng1, dRng2, dZip2, dZip3, dEnum, dLC, dLCr, dLCM, finM, gII0, gII, onII, onI, gGcd, gNeg, gAdd, gIt, gIx, gLen, gTupC, gLstC, gLstCM, gAll, gAny, gBls, gSum, gIsi, gAbs, gInt, gStr, gEqB, gIsN, isNon, gRep, dRepM, dSl, dPart, dNoPart, gSl, dRev, dRevM, dM, dM0, gAppend, gPop, dFld, dSetF, dMeth, dMake, dPut, dDict, dPairs, dJoin, dJoined, dJs, dFmt, gIn, exOf, endD, on1, on2, ev_it0, ev_it1, ev_it2, ev_itn1, ev_itn, ev_len_t, ev_len_l, ev_sq_t, ev_sq_l, ev_lst_l, ev_so_t, ev_so_l, ev_so_k, ev_si_t, ev_si_l, ev_si_k, ev_ty_i, ev_ty_b, ev_ty_n, ev_ty_s, ev_ty_t, ev_ty_l, ev_eq_ii, ev_shp_i, ev_shp_b, ev_shp_n, ev_key_i, ev_key_s, kd_NoneType, kd_bool, kd_int, kd_str, kd_tuple, kd_list, kd_dict, ib_NoneType_NoneType, ib_NoneType_bool, ib_NoneType_int, ib_NoneType_str, ib_NoneType_tuple, ib_NoneType_list, ib_NoneType_dict, ib_bool_NoneType, ib_bool_bool, ib_bool_int, ib_bool_str, ib_bool_tuple, ib_bool_list, ib_bool_dict, ib_int_NoneType, ib_int_bool, ib_int_int, ib_int_str, ib_int_tuple, ib_int_list, ib_int_dict, ib_str_NoneType, ib_str_bool, ib_str_int, ib_str_str, ib_str_tuple, ib_str_list, ib_str_dict, ib_tuple_NoneType, ib_tuple_bool, ib_tuple_int, ib_tuple_str, ib_tuple_tuple, ib_tuple_list, ib_tuple_dict, ib_list_NoneType, ib_list_bool, ib_list_int, ib_list_str, ib_list_tuple, ib_list_list, ib_list_dict, ib_dict_NoneType, ib_dict_bool, ib_dict_int, ib_dict_str, ib_dict_tuple, ib_dict_list, ib_dict_dict, true_and, and_true, if_true, if_false, Bool.not_true, Bool.not_false, List.map_cons, List.map_nil, List.length_cons, List.length_nil, List.replicate, List.cons_append, List.nil_append, List.getElem?_cons_succ, List.getElem?_cons_zero, List.set_cons_succ, List.set_cons_zero, ite_true_eq, ite_false_eq, ite_nt_eq, ite_nf_eq, dec_true, dec_not, bxor_f, bxor_t]
    have hh : (D.tup [.int (-1), .int 2]) = enc (Rat.divInt (-1) 2) := by
      unfold enc
      rw [show (Rat.divInt (-1) 2).num = -1 by decide +kernel, show (Rat.divInt (-1) 2).den = 2 by decide +kernel]
      rfl
    refine ⟨two_le, ?_⟩
    rw [hh]
    refine ⟨s, t, r, _, rfl, ks.mono (by omega), kt.mono (by omega), kr.mono (by omega), Sm.mono (a := 2) (divInt_sm (by decide) (by decide) (by decide)) (by omega), by omega, by omega, by omega, by omega, ?_⟩
    have er : D.tup (List.map enc r) = encR r := rfl
    try simp only [er, startD, dSeq, dNext, dBreak, dCont, dSet, dIfE, dIfS, dB, dOp, dVar, dC, dCB, dCons, dNil, dUn, dRet, dRetN, dTup, dLst, dLstM, dCall, dDrop, dAsg, dT, Tg.d, Tgs.d, dNotT, dAndT, dOrT, dAndV, dOrV, dNotV, dPar, dFor, dSeqI, dRng1, dRng2, dZip2, dZip3, dEnum, dLC, dLCr, dLCM, finM, gII0, gII, onII, onI, gGcd, gNeg, gAdd, gIt, gIx, gLen, gTupC, gLstC, gLstCM, gAll, gAny, gBls, gSum, gIsi, gAbs, gInt, gStr, gEqB, gIsN, isNon, gRep, dRepM, dSl, dPart, dNoPart, gSl, dRev, dRevM, dM, dM0, gAppend, gPop, dFld, dSetF, dMeth, dMake, dPut, dDict, dPairs, dJoin, dJoined, dJs, dFmt, gIn, exOf, endD, on1, on2, ev_it0, ev_it1, ev_it2, ev_itn1, ev_itn, ev_len_t, ev_len_l, ev_sq_t, ev_sq_l, ev_lst_l, ev_so_t, ev_so_l, ev_so_k, ev_si_t, ev_si_l, ev_si_k, ev_ty_i, ev_ty_b, ev_ty_n, ev_ty_s, ev_ty_t, ev_ty_l, ev_eq_ii, ev_shp_i, ev_shp_b, ev_shp_n, ev_key_i, ev_key_s, kd_NoneType, kd_bool, kd_int, kd_str, kd_tuple, kd_list, kd_dict, ib_NoneType_NoneType, ib_NoneType_bool, ib_NoneType_int, ib_NoneType_str, ib_NoneType_tuple, ib_NoneType_list, ib_NoneType_dict, ib_bool_NoneType, ib_bool_bool, ib_bool_int, ib_bool_str, ib_bool_tuple, ib_bool_list, ib_bool_dict, ib_int_NoneType, ib_int_bool, ib_int_int, ib_int_str, ib_int_tuple, ib_int_list, ib_int_dict, ib_str_NoneType, ib_str_bool, ib_str_int, ib_str_str, ib_str_tuple, ib_str_list, ib_str_dict, ib_tuple_NoneType, ib_tuple_bool, ib_tuple_int, ib_tuple_str, ib_tuple_tuple, ib_tuple_list, ib_tuple_dict, ib_list_NoneType, ib_list_bool, ib_list_int, ib_list_str, ib_list_tuple, ib_list_list, ib_list_dict, ib_dict_NoneType, ib_dict_bool, ib_dict_int, ib_dict_str, ib_dict_tuple, ib_dict_list, ib_dict_dict, true_and, and_true, if_true, if_false, Bool.not_true, Bool.not_false, List.map_cons, List.map_nil, List.length_cons, List.length_nil, List.replicate, List.cons_append, List.nil_append, List.getElem?_cons_succ, List.getElem?_cons_zero, List.set_cons_succ, List.set_cons_zero, ite_true_eq, ite_false_eq, ite_nt_eq, ite_nf_eq, dec_true, dec_not, bxor_f, bxor_t]
    have ksc : SmR 63 (r.map (· * x)) := kr.scale kx
    refine c_scaled kr kx (by omega) (by omega) ?_
    try simp only [startD, dSeq, dNext, dBreak, dCont, dSet, dIfE, dIfS, dB, dOp, dVar, dC, dCB, dCons, dNil, dUn, dRet, dRetN, dTup, dLst, dLstM, dCall, dDrop, dAsg, dT, Tg.d, Tgs.d, dNotT, dAndT, dOrT, dAndV, dOrV, dNotV, dPar, dFor, dSeqI, dRng1, dRng2, dZip2, dZip3, dEnum, dLC, dLCr, dLCM, finM, gII0, gII, onII, onI, gGcd, gNeg, gAdd, gIt, gIx, gLen, gTupC, gLstC, gLstCM, gAll, gAny, gBls, gSum, gIsi, gAbs, gInt, gStr, gEqB, gIsN, isNon, gRep, dRepM, dSl, dPart, dNoPart, gSl, dRev, dRevM, dM, dM0, gAppend, gPop, dFld, dSetF, dMeth, dMake, dPut, dDict, dPairs, dJoin, dJoined, dJs, dFmt, gIn, exOf, endD, on1, on2, ev_it0, ev_it1, ev_it2, ev_itn1, ev_itn, ev_len_t, ev_len_l, ev_sq_t, ev_sq_l, ev_lst_l, ev_so_t, ev_so_l, ev_so_k, ev_si_t, ev_si_l, ev_si_k, ev_ty_i, ev_ty_b, ev_ty_n, ev_ty_s, ev_ty_t, ev_ty_l, ev_eq_ii, ev_shp_i, ev_shp_b, ev_shp_n, ev_key_i, ev_key_s, kd_NoneType, kd_bool, kd_int, kd_str, kd_tuple, kd_list, kd_dict, ib_NoneType_NoneType, ib_NoneType_bool, ib_NoneType_int, ib_NoneType_str, ib_NoneType_tuple, ib_NoneType_list, ib_NoneType_dict, ib_bool_NoneType, ib_bool_bool, ib_bool_int, ib_bool_str, ib_bool_tuple, ib_bool_list, ib_bool_dict, ib_int_NoneType, ib_int_bool, ib_int_int, ib_int_str, ib_int_tuple, ib_int_list, ib_int_dict, ib_str_NoneType, ib_str_bool, ib_str_int, ib_str_str, ib_str_tuple, ib_str_list, ib_str_dict, ib_tuple_NoneType, ib_tuple_bool, ib_tuple_int, ib_tuple_str, ib_tuple_tuple, ib_tuple_list, ib_tuple_dict, ib_list_NoneType, ib_list_bool, ib_list_int, ib_list_str, ib_list_tuple, ib_list_list, ib_list_dict, ib_dict_NoneType, ib_dict_bool, ib_dict_int, ib_dict_str, ib_dict_tuple, ib_dict_list, ib_dict_dict, true_and, and_true, if_true, if_false, Bool.not_true, Bool.not_false, List.map_cons, List.map_nil, List.length_cons, List.length_nil, List.replicate, List.cons_append, List.nil_append, List.getElem?_cons_succ, List.getElem?_cons_zero, List.set_cons_succ, List.set_cons_zero, ite_true_eq, ite_false_eq, ite_nt_eq, ite_nf_eq, dec_true, dec_not, bxor_f, bxor_t]
    refine c_added ksc ks (by omega) (by rw [List.length_map]; omega) ?_
    try simp only [startD, dSeq, dNext, dBreak, dCont, dSet, dIfE, dIfS, dB, dOp, dVar, dC, dCB, dCons, dNil, dUn, dRet, dRetN, dTup, dLst, dLstM, dCall, dDrop, dAsg, dT, Tg.d, Tgs.d, dNotT, dAndT, dOrT, dAndV, dOrV, dNotV, dPar, dFor, dSeqI, dRng1, dRng2, dZip2, dZip3, dEnum, dLC, dLCr, dLCM, finM, gII0, gII, onII, onI, gGcd, gNeg, gAdd, gIt, gIx, gLen, gTupC, gLstC, gLstCM, gAll, gAny, gBls, gSum, gIsi, gAbs, gInt, gStr, gEqB, gIsN, isNon, gRep, dRepM, dSl, dPart, dNoPart, gSl, dRev, dRevM, dM, dM0, gAppend, gPop, dFld, dSetF, dMeth, dMake, dPut, dDict, dPairs, dJoin, dJoined, dJs, dFmt, gIn, exOf, endD, on1, on2, ev_it0, ev_it1, ev_it2, ev_itn1, ev_itn, ev_len_t, ev_len_l, ev_sq_t, ev_sq_l, ev_lst_l, ev_so_t, ev_so_l, ev_so_k, ev_si_t, ev_si_l, ev_si_k, ev_ty_i, ev_ty_b, ev_ty_n, ev_ty_s, ev_ty_t, ev_ty_l, ev_eq_ii, ev_shp_i, ev_shp_b, ev_shp_n, ev_key_i, ev_key_s, kd_NoneType, kd_bool, kd_int, kd_str, kd_tuple, kd_list, kd_dict, ib_NoneType_NoneType, ib_NoneType_bool, ib_NoneType_int, ib_NoneType_str, ib_NoneType_tuple, ib_NoneType_list, ib_NoneType_dict, ib_bool_NoneType, ib_bool_bool, ib_bool_int, ib_bool_str, ib_bool_tuple, ib_bool_list, ib_bool_dict, ib_int_NoneType, ib_int_bool, ib_int_int, ib_int_str, ib_int_tuple, ib_int_list, ib_int_dict, ib_str_NoneType, ib_str_bool, ib_str_int, ib_str_str, ib_str_tuple, ib_str_list, ib_str_dict, ib_tuple_NoneType, ib_tuple_bool, ib_tuple_int, ib_tuple_str, ib_tuple_tuple, ib_tuple_list, ib_tuple_dict, ib_list_NoneType, ib_list_bool, ib_list_int, ib_list_str, ib_list_tuple, ib_list_list, ib_list_dict, ib_dict_NoneType, ib_dict_bool, ib_dict_int, ib_dict_str, ib_dict_tuple, ib_dict_list, ib_dict_dict, true_and, and_true, if_true, if_false, Bool.not_true, Bool.not_false, List.map_cons, List.map_nil, List.length_cons, List.length_nil, List.replicate, List.cons_append, List.nil_append, List.getElem?_cons_succ, List.getElem?_cons_zero, List.set_cons_succ, List.set_cons_zero, ite_true_eq, ite_false_eq, ite_nt_eq, ite_nf_eq, dec_true, dec_not, bxor_f, bxor_t]
    have kmd : SmR 68 (radd (r.map (· * x)) s) := ksc.add ks
    have lmd : (radd (r.map (· * x)) s).length = n := by rw [List.length_zipWith, List.length_map]; omega
    obtain ⟨y, mr, em⟩ : ∃ y mr, radd (r.map (· * x)) s = y :: mr := by
      cases h : radd (r.map (· * x)) s with
      | nil => rw [h] at lmd; simp at lmd; omega
      | cons y mr => exact ⟨y, mr, rfl⟩
    rw [em] at kmd lmd ⊢
    have lmr : mr.length ≤ 3 := by simp at lmd; omega
    refine ⟨_, _, rfl, by omega, ?_⟩
    simp only [lmd, decide_true, startD, dSeq, dNext, dBreak, dCont, dSet, dIfE, dIfS, dB, dOp, dVar, dC, dCB, dCons, dNil, dUn, dRet, dRetN, dTup, dLst, dLstM, dCall, dDrop, dAsg, dT, Tg.d, Tgs.d, dNotT, dAndT, dOrT, dAndV, dOrV, dNotV, dPar, dFor, dSeqI, dRng1, dRng2, dZip2, dZip3, dEnum, dLC, dLCr, dLCM, finM, gII0, gII, onII, onI, gGcd, gNeg, gAdd, gIt, gIx, gLen, gTupC, gLstC, gLstCM, gAll, gAny, gBls, gSum, gIsi, gAbs, gInt, gStr, gEqB, gIsN, isNon, gRep, dRepM, dSl, dPart, dNoPart, gSl, dRev, dRevM, dM, dM0, gAppend, gPop, dFld, dSetF, dMeth, dMake, dPut, dDict, dPairs, dJoin, dJoined, dJs, dFmt, gIn, exOf, endD, on1, on2, ev_it0, ev_it1, ev_it2, ev_itn1, ev_itn, ev_len_t, ev_len_l, ev_sq_t, ev_sq_l, ev_lst_l, ev_so_t, ev_so_l, ev_so_k, ev_si_t, ev_si_l, ev_si_k, ev_ty_i, ev_ty_b, ev_ty_n, ev_ty_s, ev_ty_t, ev_ty_l, ev_eq_ii, ev_shp_i, ev_shp_b, ev_shp_n, ev_key_i, ev_key_s, kd_NoneType, kd_bool, kd_int, kd_str, kd_tuple, kd_list, kd_dict, ib_NoneType_NoneType, ib_NoneType_bool, ib_NoneType_int, ib_NoneType_str, ib_NoneType_tuple, ib_NoneType_list, ib_NoneType_dict, ib_bool_NoneType, ib_bool_bool, ib_bool_int, ib_bool_str, ib_bool_tuple, ib_bool_list, ib_bool_dict, ib_int_NoneType, ib_int_bool, ib_int_int, ib_int_str, ib_int_tuple, ib_int_list, ib_int_dict, ib_str_NoneType, ib_str_bool, ib_str_int, ib_str_str, ib_str_tuple, ib_str_list, ib_str_dict, ib_tuple_NoneType, ib_tuple_bool, ib_tuple_int, ib_tuple_str, ib_tuple_tuple, ib_tuple_list, ib_tuple_dict, ib_list_NoneType, ib_list_bool, ib_list_int, ib_list_str, ib_list_tuple, ib_list_list, ib_list_dict, ib_dict_NoneType, ib_dict_bool, ib_dict_int, ib_dict_str, ib_dict_tuple, ib_dict_list, ib_dict_dict, true_and, and_true, if_true, if_false, Bool.not_true, Bool.not_false, List.map_cons, List.map_nil, List.length_cons, List.length_nil, List.replicate, List.cons_append, List.nil_append, List.getElem?_cons_succ, List.getElem?_cons_zero, List.set_cons_succ, List.set_cons_zero, ite_true_eq, ite_false_eq, ite_nt_eq, ite_nf_eq, dec_true, dec_not, bxor_f, bxor_t]
    refine ⟨y, mr, rfl, fun z hz => (kmd z hz).small (by omega), by omega, ?_⟩
    try simp only [startD, dSeq, dNext, dBreak, dCont, dSet, dIfE, dIfS, dB, dOp, dVar, dC, dCB, dCons, dNil, dUn, dRet, dRetN, dTup, dLst, dLstM, dCall, dDrop, dAsg, dT, Tg.d, Tgs.d, dNotT, dAndT, dOrT, dAndV, dOrV, dNotV, dPar, dFor, dSeqI, dRng1, dRng2, dZip2, dZip3, dEnum, dLC, dLCr, dLCM, finM, gII0, gII, onII, onI, gGcd, gNeg, gAdd, gIt, gIx, gLen, gTupC, gLstC, gLstCM, gAll, gAny, gBls, gSum, gIsi, gAbs, gInt, gStr, gEqB, gIsN, isNon, gRep, dRepM, dSl, dPart, dNoPart, gSl, dRev, dRevM, dM, dM0, gAppend, gPop, dFld, dSetF, dMeth, dMake, dPut, dDict, dPairs, dJoin, dJoined, dJs, dFmt, gIn, exOf, endD, on1, on2, ev_it0, ev_it1, ev_it2, ev_itn1, ev_itn, ev_len_t, ev_len_l, ev_sq_t, ev_sq_l, ev_lst_l, ev_so_t, ev_so_l, ev_so_k, ev_si_t, ev_si_l, ev_si_k, ev_ty_i, ev_ty_b, ev_ty_n, ev_ty_s, ev_ty_t, ev_ty_l, ev_eq_ii, ev_shp_i, ev_shp_b, ev_shp_n, ev_key_i, ev_key_s, kd_NoneType, kd_bool, kd_int, kd_str, kd_tuple, kd_list, kd_dict, ib_NoneType_NoneType, ib_NoneType_bool, ib_NoneType_int, ib_NoneType_str, ib_NoneType_tuple, ib_NoneType_list, ib_NoneType_dict, ib_bool_NoneType, ib_bool_bool, ib_bool_int, ib_bool_str, ib_bool_tuple, ib_bool_list, ib_bool_dict, ib_int_NoneType, ib_int_bool, ib_int_int, ib_int_str, ib_int_tuple, ib_int_list, ib_int_dict, ib_str_NoneType, ib_str_bool, ib_str_int, ib_str_str, ib_str_tuple, ib_str_list, ib_str_dict, ib_tuple_NoneType, ib_tuple_bool, ib_tuple_int, ib_tuple_str, ib_tuple_tuple, ib_tuple_list, ib_tuple_dict, ib_list_NoneType, ib_list_bool, ib_list_int, ib_list_str, ib_list_tuple, ib_list_list, ib_list_dict, ib_dict_NoneType, ib_dict_bool, ib_dict_int, ib_dict_str, ib_dict_tuple, ib_dict_list, ib_dict_dict, true_and, and_true, if_true, if_false, Bool.not_true, Bool.not_false, List.map_cons, List.map_nil, List.length_cons, List.length_nil, List.replicate, List.cons_append, List.nil_append, List.getElem?_cons_succ, List.getElem?_cons_zero, List.set_cons_succ, List.set_cons_zero, ite_true_eq, ite_false_eq, ite_nt_eq, ite_nf_eq, dec_true, dec_not, bxor_f, bxor_t]
    refine ⟨y, mr, rfl, fun z hz => ((kmd z hz).small (by omega)).fit, lmr, ?_⟩
    try simp only [shpR, eq_encR, decide_true, startD, dSeq, dNext, dBreak, dCont, dSet, dIfE, dIfS, dB, dOp, dVar, dC, dCB, dCons, dNil, dUn, dRet, dRetN, dTup, dLst, dLstM, dCall, dDrop, dAsg, dT, Tg.d, Tgs.d, dNotT, dAndT, dOrT, dAndV, dOrV, dNotV, dPar, dFor, dSeqI, dRng1, dRng2, dZip2, dZip3, dEnum, dLC, dLCr, dLCM, finM, gII0, gII, onII, onI, gGcd, gNeg, gAdd, gIt, gIx, gLen, gTupC, gLstC, gLstCM, gAll, gAny, gBls, gSum, gIsi, gAbs, gInt, gStr, gEqB, gIsN, isNon, gRep, dRepM, dSl, dPart, dNoPart, gSl, dRev, dRevM, dM, dM0, gAppend, gPop, dFld, dSetF, dMeth, dMake, dPut, dDict, dPairs, dJoin, dJoined, dJs, dFmt, gIn, exOf, endD, on1, on2, ev_it0, ev_it1, ev_it2, ev_itn1, ev_itn, ev_len_t, ev_len_l, ev_sq_t, ev_sq_l, ev_lst_l, ev_so_t, ev_so_l, ev_so_k, ev_si_t, ev_si_l, ev_si_k, ev_ty_i, ev_ty_b, ev_ty_n, ev_ty_s, ev_ty_t, ev_ty_l, ev_eq_ii, ev_shp_i, ev_shp_b, ev_shp_n, ev_key_i, ev_key_s, kd_NoneType, kd_bool, kd_int, kd_str, kd_tuple, kd_list, kd_dict, ib_NoneType_NoneType, ib_NoneType_bool, ib_NoneType_int, ib_NoneType_str, ib_NoneType_tuple, ib_NoneType_list, ib_NoneType_dict, ib_bool_NoneType, ib_bool_bool, ib_bool_int, ib_bool_str, ib_bool_tuple, ib_bool_list, ib_bool_dict, ib_int_NoneType, ib_int_bool, ib_int_int, ib_int_str, ib_int_tuple, ib_int_list, ib_int_dict, ib_str_NoneType, ib_str_bool, ib_str_int, ib_str_str, ib_str_tuple, ib_str_list, ib_str_dict, ib_tuple_NoneType, ib_tuple_bool, ib_tuple_int, ib_tuple_str, ib_tuple_tuple, ib_tuple_list, ib_tuple_dict, ib_list_NoneType, ib_list_bool, ib_list_int, ib_list_str, ib_list_tuple, ib_list_list, ib_list_dict, ib_dict_NoneType, ib_dict_bool, ib_dict_int, ib_dict_str, ib_dict_tuple, ib_dict_list, ib_dict_dict, true_and, and_true, if_true, if_false, Bool.not_true, Bool.not_false, List.map_cons, List.map_nil, List.length_cons, List.length_nil, List.replicate, List.cons_append, List.nil_append, List.getElem?_cons_succ, List.getElem?_cons_zero, List.set_cons_succ, List.set_cons_zero, ite_true_eq, ite_false_eq, ite_nt_eq, ite_nf_eq, dec_true, dec_not, bxor_f, bxor_t]
    have ksz := Sm.sab kmd
    have lsz : (y :: mr).length * (68 + 1) ≤ 4 * 69 := Nat.mul_le_mul_right _ (by omega)
    refine c_sizes kmd (by omega) ?_
    try simp only [startD, dSeq, dNext, dBreak, dCont, dSet, dIfE, dIfS, dB, dOp, dVar, dC, dCB, dCons, dNil, dUn, dRet, dRetN, dTup, dLst, dLstM, dCall, dDrop, dAsg, dT, Tg.d, Tgs.d, dNotT, dAndT, dOrT, dAndV, dOrV, dNotV, dPar, dFor, dSeqI, dRng1, dRng2, dZip2, dZip3, dEnum, dLC, dLCr, dLCM, finM, gII0, gII, onII, onI, gGcd, gNeg, gAdd, gIt, gIx, gLen, gTupC, gLstC, gLstCM, gAll, gAny, gBls, gSum, gIsi, gAbs, gInt, gStr, gEqB, gIsN, isNon, gRep, dRepM, dSl, dPart, dNoPart, gSl, dRev, dRevM, dM, dM0, gAppend, gPop, dFld, dSetF, dMeth, dMake, dPut, dDict, dPairs, dJoin, dJoined, dJs, dFmt, gIn, exOf, endD, on1, on2, ev_it0, ev_it1, ev_it2, ev_itn1, ev_itn, ev_len_t, ev_len_l, ev_sq_t, ev_sq_l, ev_lst_l, ev_so_t, ev_so_l, ev_so_k, ev_si_t, ev_si_l, ev_si_k, ev_ty_i, ev_ty_b, ev_ty_n, ev_ty_s, ev_ty_t, ev_ty_l, ev_eq_ii, ev_shp_i, ev_shp_b, ev_shp_n, ev_key_i, ev_key_s, kd_NoneType, kd_bool, kd_int, kd_str, kd_tuple, kd_list, kd_dict, ib_NoneType_NoneType, ib_NoneType_bool, ib_NoneType_int, ib_NoneType_str, ib_NoneType_tuple, ib_NoneType_list, ib_NoneType_dict, ib_bool_NoneType, ib_bool_bool, ib_bool_int, ib_bool_str, ib_bool_tuple, ib_bool_list, ib_bool_dict, ib_int_NoneType, ib_int_bool, ib_int_int, ib_int_str, ib_int_tuple, ib_int_list, ib_int_dict, ib_str_NoneType, ib_str_bool, ib_str_int, ib_str_str, ib_str_tuple, ib_str_list, ib_str_dict, ib_tuple_NoneType, ib_tuple_bool, ib_tuple_int, ib_tuple_str, ib_tuple_tuple, ib_tuple_list, ib_tuple_dict, ib_list_NoneType, ib_list_bool, ib_list_int, ib_list_str, ib_list_tuple, ib_list_list, ib_list_dict, ib_dict_NoneType, ib_dict_bool, ib_dict_int, ib_dict_str, ib_dict_tuple, ib_dict_list, ib_dict_dict, true_and, and_true, if_true, if_false, Bool.not_true, Bool.not_false, List.map_cons, List.map_nil, List.length_cons, List.length_nil, List.replicate, List.cons_append, List.nil_append, List.getElem?_cons_succ, List.getElem?_cons_zero, List.set_cons_succ, List.set_cons_zero, ite_true_eq, ite_false_eq, ite_nt_eq, ite_nf_eq, dec_true, dec_not, bxor_f, bxor_t]
    refine ⟨_, rfl, ksz.small (by omega), ?_⟩
    try simp only [startD, dSeq, dNext, dBreak, dCont, dSet, dIfE, dIfS, dB, dOp, dVar, dC, dCB, dCons, dNil, dUn, dRet, dRetN, dTup, dLst, dLstM, dCall, dDrop, dAsg, dT, Tg.d, Tgs.d, dNotT, dAndT, dOrT, dAndV, dOrV, dNotV, dPar, dFor, dSeqI, dRng1, dRng2, dZip2, dZip3, dEnum, dLC, dLCr, dLCM, finM, gII0, gII, onII, onI, gGcd, gNeg, gAdd, gIt, gIx, gLen, gTupC, gLstC, gLstCM, gAll, gAny, gBls, gSum, gIsi, gAbs, gInt, gStr, gEqB, gIsN, isNon, gRep, dRepM, dSl, dPart, dNoPart, gSl, dRev, dRevM, dM, dM0, gAppend, gPop, dFld, dSetF, dMeth, dMake, dPut, dDict, dPairs, dJoin, dJoined, dJs, dFmt, gIn, exOf, endD, on1, on2, ev_it0, ev_it1, ev_it2, ev_itn1, ev_itn, ev_len_t, ev_len_l, ev_sq_t, ev_sq_l, ev_lst_l, ev_so_t, ev_so_l, ev_so_k, ev_si_t, ev_si_l, ev_si_k, ev_ty_i, ev_ty_b, ev_ty_n, ev_ty_s, ev_ty_t, ev_ty_l, ev_eq_ii, ev_shp_i, ev_shp_b, ev_shp_n, ev_key_i, ev_key_s, kd_NoneType, kd_bool, kd_int, kd_str, kd_tuple, kd_list, kd_dict, ib_NoneType_NoneType, ib_NoneType_bool, ib_NoneType_int, ib_NoneType_str, ib_NoneType_tuple, ib_NoneType_list, ib_NoneType_dict, ib_bool_NoneType, ib_bool_bool, ib_bool_int, ib_bool_str, ib_bool_tuple, ib_bool_list, ib_bool_dict, ib_int_NoneType, ib_int_bool, ib_int_int, ib_int_str, ib_int_tuple, ib_int_list, ib_int_dict, ib_str_NoneType, ib_str_bool, ib_str_int, ib_str_str, ib_str_tuple, ib_str_list, ib_str_dict, ib_tuple_NoneType, ib_tuple_bool, ib_tuple_int, ib_tuple_str, ib_tuple_tuple, ib_tuple_list, ib_tuple_dict, ib_list_NoneType, ib_list_bool, ib_list_int, ib_list_str, ib_list_tuple, ib_list_list, ib_list_dict, ib_dict_NoneType, ib_dict_bool, ib_dict_int, ib_dict_str, ib_dict_tuple, ib_dict_list, ib_dict_dict, true_and, and_true, if_true, if_false, Bool.not_true, Bool.not_false, List.map_cons, List.map_nil, List.length_cons, List.length_nil, List.replicate, List.cons_append, List.nil_append, List.getElem?_cons_succ, List.getElem?_cons_zero, List.set_cons_succ, List.set_cons_zero, ite_true_eq, ite_false_eq, ite_nt_eq, ite_nf_eq, dec_true, dec_not, bxor_f, bxor_t]
    refine ⟨_, rfl, (ksz.small (by omega)).fit, ?_⟩
    try simp only [startD, dSeq, dNext, dBreak, dCont, dSet, dIfE, dIfS, dB, dOp, dVar, dC, dCB, dCons, dNil, dUn, dRet, dRetN, dTup, dLst, dLstM, dCall, dDrop, dAsg, dT, Tg.d, Tgs.d, dNotT, dAndT, dOrT, dAndV, dOrV, dNotV, dPar, dFor, dSeqI, dRng1, dRng2, dZip2, dZip3, dEnum, dLC, dLCr, dLCM, finM, gII0, gII, onII, onI, gGcd, gNeg, gAdd, gIt, gIx, gLen, gTupC, gLstC, gLstCM, gAll, gAny, gBls, gSum, gIsi, gAbs, gInt, gStr, gEqB, gIsN, isNon, gRep, dRepM, dSl, dPart, dNoPart, gSl, dRev, dRevM, dM, dM0, gAppend, gPop, dFld, dSetF, dMeth, dMake, dPut, dDict, dPairs, dJoin, dJoined, dJs, dFmt, gIn, exOf, endD, on1, on2, ev_it0, ev_it1, ev_it2, ev_itn1, ev_itn, ev_len_t, ev_len_l, ev_sq_t, ev_sq_l, ev_lst_l, ev_so_t, ev_so_l, ev_so_k, ev_si_t, ev_si_l, ev_si_k, ev_ty_i, ev_ty_b, ev_ty_n, ev_ty_s, ev_ty_t, ev_ty_l, ev_eq_ii, ev_shp_i, ev_shp_b, ev_shp_n, ev_key_i, ev_key_s, kd_NoneType, kd_bool, kd_int, kd_str, kd_tuple, kd_list, kd_dict, ib_NoneType_NoneType, ib_NoneType_bool, ib_NoneType_int, ib_NoneType_str, ib_NoneType_tuple, ib_NoneType_list, ib_NoneType_dict, ib_bool_NoneType, ib_bool_bool, ib_bool_int, ib_bool_str, ib_bool_tuple, ib_bool_list, ib_bool_dict, ib_int_NoneType, ib_int_bool, ib_int_int, ib_int_str, ib_int_tuple, ib_int_list, ib_int_dict, ib_str_NoneType, ib_str_bool, ib_str_int, ib_str_str, ib_str_tuple, ib_str_list, ib_str_dict, ib_tuple_NoneType, ib_tuple_bool, ib_tuple_int, ib_tuple_str, ib_tuple_tuple, ib_tuple_list, ib_tuple_dict, ib_list_NoneType, ib_list_bool, ib_list_int, ib_list_str, ib_list_tuple, ib_list_list, ib_list_dict, ib_dict_NoneType, ib_dict_bool, ib_dict_int, ib_dict_str, ib_dict_tuple, ib_dict_list, ib_dict_dict, true_and, and_true, if_true, if_false, Bool.not_true, Bool.not_false, List.map_cons, List.map_nil, List.length_cons, List.length_nil, List.replicate, List.cons_append, List.nil_append, List.getElem?_cons_succ, List.getElem?_cons_zero, List.set_cons_succ, List.set_cons_zero, ite_true_eq, ite_false_eq, ite_nt_eq, ite_nf_eq, dec_true, dec_not, bxor_f, bxor_t]
    refine c_sizes kmd (by omega) ?_
    have ite0 : ∀ m : MM, itD m (enc x) (.int 0) = some (.int x.num) := fun m => ev_it0
    try simp only [shpE, eq_enc, decide_true, ite0, startD, dSeq, dNext, dBreak, dCont, dSet, dIfE, dIfS, dB, dOp, dVar, dC, dCB, dCons, dNil, dUn, dRet, dRetN, dTup, dLst, dLstM, dCall, dDrop, dAsg, dT, Tg.d, Tgs.d, dNotT, dAndT, dOrT, dAndV, dOrV, dNotV, dPar, dFor, dSeqI, dRng1, dRng2, dZip2, dZip3, dEnum, dLC, dLCr, dLCM, finM, gII0, gII, onII, onI, gGcd, gNeg, gAdd, gIt, gIx, gLen, gTupC, gLstC, gLstCM, gAll, gAny, gBls, gSum, gIsi, gAbs, gInt, gStr, gEqB, gIsN, isNon, gRep, dRepM, dSl, dPart, dNoPart, gSl, dRev, dRevM, dM, dM0, gAppend, gPop, dFld, dSetF, dMeth, dMake, dPut, dDict, dPairs, dJoin, dJoined, dJs, dFmt, gIn, exOf, endD, on1, on2, ev_it0, ev_it1, ev_it2, ev_itn1, ev_itn, ev_len_t, ev_len_l, ev_sq_t, ev_sq_l, ev_lst_l, ev_so_t, ev_so_l, ev_so_k, ev_si_t, ev_si_l, ev_si_k, ev_ty_i, ev_ty_b, ev_ty_n, ev_ty_s, ev_ty_t, ev_ty_l, ev_eq_ii, ev_shp_i, ev_shp_b, ev_shp_n, ev_key_i, ev_key_s, kd_NoneType, kd_bool, kd_int, kd_str, kd_tuple, kd_list, kd_dict, ib_NoneType_NoneType, ib_NoneType_bool, ib_NoneType_int, ib_NoneType_str, ib_NoneType_tuple, ib_NoneType_list, ib_NoneType_dict, ib_bool_NoneType, ib_bool_bool, ib_bool_int, ib_bool_str, ib_bool_tuple, ib_bool_list, ib_bool_dict, ib_int_NoneType, ib_int_bool, ib_int_int, ib_int_str, ib_int_tuple, ib_int_list, ib_int_dict, ib_str_NoneType, ib_str_bool, ib_str_int, ib_str_str, ib_str_tuple, ib_str_list, ib_str_dict, ib_tuple_NoneType, ib_tuple_bool, ib_tuple_int, ib_tuple_str, ib_tuple_tuple, ib_tuple_list, ib_tuple_dict, ib_list_NoneType, ib_list_bool, ib_list_int, ib_list_str, ib_list_tuple, ib_list_list, ib_list_dict, ib_dict_NoneType, ib_dict_bool, ib_dict_int, ib_dict_str, ib_dict_tuple, ib_dict_list, ib_dict_dict, true_and, and_true, if_true, if_false, Bool.not_true, Bool.not_false, List.map_cons, List.map_nil, List.length_cons, List.length_nil, List.replicate, List.cons_append, List.nil_append, List.getElem?_cons_succ, List.getElem?_cons_zero, List.set_cons_succ, List.set_cons_zero, ite_true_eq, ite_false_eq, ite_nt_eq, ite_nf_eq, dec_true, dec_not, bxor_f, bxor_t]
    by_cases hx0 : x.num = 0
    · rw [if_pos hx0]
      try simp only [encR, startD, dSeq, dNext, dBreak, dCont, dSet, dIfE, dIfS, dB, dOp, dVar, dC, dCB, dCons, dNil, dUn, dRet, dRetN, dTup, dLst, dLstM, dCall, dDrop, dAsg, dT, Tg.d, Tgs.d, dNotT, dAndT, dOrT, dAndV, dOrV, dNotV, dPar, dFor, dSeqI, dRng1, dRng2, dZip2, dZip3, dEnum, dLC, dLCr, dLCM, finM, gII0, gII, onII, onI, gGcd, gNeg, gAdd, gIt, gIx, gLen, gTupC, gLstC, gLstCM, gAll, gAny, gBls, gSum, gIsi, gAbs, gInt, gStr, gEqB, gIsN, isNon, gRep, dRepM, dSl, dPart, dNoPart, gSl, dRev, dRevM, dM, dM0, gAppend, gPop, dFld, dSetF, dMeth, dMake, dPut, dDict, dPairs, dJoin, dJoined, dJs, dFmt, gIn, exOf, endD, on1, on2, ev_it0, ev_it1, ev_it2, ev_itn1, ev_itn, ev_len_t, ev_len_l, ev_sq_t, ev_sq_l, ev_lst_l, ev_so_t, ev_so_l, ev_so_k, ev_si_t, ev_si_l, ev_si_k, ev_ty_i, ev_ty_b, ev_ty_n, ev_ty_s, ev_ty_t, ev_ty_l, ev_eq_ii, ev_shp_i, ev_shp_b, ev_shp_n, ev_key_i, ev_key_s, kd_NoneType, kd_bool, kd_int, kd_str, kd_tuple, kd_list, kd_dict, ib_NoneType_NoneType, ib_NoneType_bool, ib_NoneType_int, ib_NoneType_str, ib_NoneType_tuple, ib_NoneType_list, ib_NoneType_dict, ib_bool_NoneType, ib_bool_bool, ib_bool_int, ib_bool_str, ib_bool_tuple, ib_bool_list, ib_bool_dict, ib_int_NoneType, ib_int_bool, ib_int_int, ib_int_str, ib_int_tuple, ib_int_list, ib_int_dict, ib_str_NoneType, ib_str_bool, ib_str_int, ib_str_str, ib_str_tuple, ib_str_list, ib_str_dict, ib_tuple_NoneType, ib_tuple_bool, ib_tuple_int, ib_tuple_str, ib_tuple_tuple, ib_tuple_list, ib_tuple_dict, ib_list_NoneType, ib_list_bool, ib_list_int, ib_list_str, ib_list_tuple, ib_list_list, ib_list_dict, ib_dict_NoneType, ib_dict_bool, ib_dict_int, ib_dict_str, ib_dict_tuple, ib_dict_list, ib_dict_dict, true_and, and_true, if_true, if_false, Bool.not_true, Bool.not_false, List.map_cons, List.map_nil, List.length_cons, List.length_nil, List.replicate, List.cons_append, List.nil_append, List.getElem?_cons_succ, List.getElem?_cons_zero, List.set_cons_succ, List.set_cons_zero, ite_true_eq, ite_false_eq, ite_nt_eq, ite_nf_eq, dec_true, dec_not, bxor_f, bxor_t]
      refine ⟨big_of (by rw [List.length_map, List.length_map]; omega), fun p1 hp1 => ?_⟩
      refine lc_pure (fun d => d) _ hp1 (fun _ => trivial) (fun d hd acc Q1 q1 => ⟨_, rfl, by simp only [wipeD, startD, dSeq, dNext, dBreak, dCont, dSet, dIfE, dIfS, dB, dOp, dVar, dC, dCB, dCons, dNil, dUn, dRet, dRetN, dTup, dLst, dLstM, dCall, dDrop, dAsg, dT, Tg.d, Tgs.d, dNotT, dAndT, dOrT, dAndV, dOrV, dNotV, dPar, dFor, dSeqI, dRng1, dRng2, dZip2, dZip3, dEnum, dLC, dLCr, dLCM, finM, gII0, gII, onII, onI, gGcd, gNeg, gAdd, gIt, gIx, gLen, gTupC, gLstC, gLstCM, gAll, gAny, gBls, gSum, gIsi, gAbs, gInt, gStr, gEqB, gIsN, isNon, gRep, dRepM, dSl, dPart, dNoPart, gSl, dRev, dRevM, dM, dM0, gAppend, gPop, dFld, dSetF, dMeth, dMake, dPut, dDict, dPairs, dJoin, dJoined, dJs, dFmt, gIn, exOf, endD, on1, on2, ev_it0, ev_it1, ev_it2, ev_itn1, ev_itn, ev_len_t, ev_len_l, ev_sq_t, ev_sq_l, ev_lst_l, ev_so_t, ev_so_l, ev_so_k, ev_si_t, ev_si_l, ev_si_k, ev_ty_i, ev_ty_b, ev_ty_n, ev_ty_s, ev_ty_t, ev_ty_l, ev_eq_ii, ev_shp_i, ev_shp_b, ev_shp_n, ev_key_i, ev_key_s, kd_NoneType, kd_bool, kd_int, kd_str, kd_tuple, kd_list, kd_dict, ib_NoneType_NoneType, ib_NoneType_bool, ib_NoneType_int, ib_NoneType_str, ib_NoneType_tuple, ib_NoneType_list, ib_NoneType_dict, ib_bool_NoneType, ib_bool_bool, ib_bool_int, ib_bool_str, ib_bool_tuple, ib_bool_list, ib_bool_dict, ib_int_NoneType, ib_int_bool, ib_int_int, ib_int_str, ib_int_tuple, ib_int_list, ib_int_dict, ib_str_NoneType, ib_str_bool, ib_str_int, ib_str_str, ib_str_tuple, ib_str_list, ib_str_dict, ib_tuple_NoneType, ib_tuple_bool, ib_tuple_int, ib_tuple_str, ib_tuple_tuple, ib_tuple_list, ib_tuple_dict, ib_list_NoneType, ib_list_bool, ib_list_int, ib_list_str, ib_list_tuple, ib_list_list, ib_list_dict, ib_dict_NoneType, ib_dict_bool, ib_dict_int, ib_dict_str, ib_dict_tuple, ib_dict_list, ib_dict_dict, true_and, and_true, if_true, if_false, Bool.not_true, Bool.not_false, List.map_cons, List.map_nil, List.length_cons, List.length_nil, List.replicate, List.cons_append, List.nil_append, List.getElem?_cons_succ, List.getElem?_cons_zero, List.set_cons_succ, List.set_cons_zero, ite_true_eq, ite_false_eq, ite_nt_eq, ite_nf_eq, dec_true, dec_not, bxor_f, bxor_t]; exact q1⟩) (big_of (by rw [List.length_append, List.length_map, List.length_map]; omega)) ?_
      intro p2 hp2
      refine rows1 (op := (· - x)) (fun z hz m Q q => ?_) (by omega) hp2 ?_
      · simp only [wipeD, startD, dSeq, dNext, dBreak, dCont, dSet, dIfE, dIfS, dB, dOp, dVar, dC, dCB, dCons, dNil, dUn, dRet, dRetN, dTup, dLst, dLstM, dCall, dDrop, dAsg, dT, Tg.d, Tgs.d, dNotT, dAndT, dOrT, dAndV, dOrV, dNotV, dPar, dFor, dSeqI, dRng1, dRng2, dZip2, dZip3, dEnum, dLC, dLCr, dLCM, finM, gII0, gII, onII, onI, gGcd, gNeg, gAdd, gIt, gIx, gLen, gTupC, gLstC, gLstCM, gAll, gAny, gBls, gSum, gIsi, gAbs, gInt, gStr, gEqB, gIsN, isNon, gRep, dRepM, dSl, dPart, dNoPart, gSl, dRev, dRevM, dM, dM0, gAppend, gPop, dFld, dSetF, dMeth, dMake, dPut, dDict, dPairs, dJoin, dJoined, dJs, dFmt, gIn, exOf, endD, on1, on2, ev_it0, ev_it1, ev_it2, ev_itn1, ev_itn, ev_len_t, ev_len_l, ev_sq_t, ev_sq_l, ev_lst_l, ev_so_t, ev_so_l, ev_so_k, ev_si_t, ev_si_l, ev_si_k, ev_ty_i, ev_ty_b, ev_ty_n, ev_ty_s, ev_ty_t, ev_ty_l, ev_eq_ii, ev_shp_i, ev_shp_b, ev_shp_n, ev_key_i, ev_key_s, kd_NoneType, kd_bool, kd_int, kd_str, kd_tuple, kd_list, kd_dict, ib_NoneType_NoneType, ib_NoneType_bool, ib_NoneType_int, ib_NoneType_str, ib_NoneType_tuple, ib_NoneType_list, ib_NoneType_dict, ib_bool_NoneType, ib_bool_bool, ib_bool_int, ib_bool_str, ib_bool_tuple, ib_bool_list, ib_bool_dict, ib_int_NoneType, ib_int_bool, ib_int_int, ib_int_str, ib_int_tuple, ib_int_list, ib_int_dict, ib_str_NoneType, ib_str_bool, ib_str_int, ib_str_str, ib_str_tuple, ib_str_list, ib_str_dict, ib_tuple_NoneType, ib_tuple_bool, ib_tuple_int, ib_tuple_str, ib_tuple_tuple, ib_tuple_list, ib_tuple_dict, ib_list_NoneType, ib_list_bool, ib_list_int, ib_list_str, ib_list_tuple, ib_list_list, ib_list_dict, ib_dict_NoneType, ib_dict_bool, ib_dict_int, ib_dict_str, ib_dict_tuple, ib_dict_list, ib_dict_dict, true_and, and_true, if_true, if_false, Bool.not_true, Bool.not_false, List.map_cons, List.map_nil, List.length_cons, List.length_nil, List.replicate, List.cons_append, List.nil_append, List.getElem?_cons_succ, List.getElem?_cons_zero, List.set_cons_succ, List.set_cons_zero, ite_true_eq, ite_false_eq, ite_nt_eq, ite_nf_eq, dec_true, dec_not, bxor_f, bxor_t]
        exact c_minus (kt z hz) kx (by omega) q
      have eall : (List.map (fun d => d) (List.map enc r ++ List.map enc s)) ++ List.map enc (t.map (· - x)) = (r ++ s ++ t.map (· - x)).map enc := by
        rw [show (List.map (fun d => d) (List.map enc r ++ List.map enc s) : List D) = List.map enc r ++ List.map enc s from List.map_id' _, List.map_append, List.map_append]
      simp only [startD, dSeq, dNext, dBreak, dCont, dSet, dIfE, dIfS, dB, dOp, dVar, dC, dCB, dCons, dNil, dUn, dRet, dRetN, dTup, dLst, dLstM, dCall, dDrop, dAsg, dT, Tg.d, Tgs.d, dNotT, dAndT, dOrT, dAndV, dOrV, dNotV, dPar, dFor, dSeqI, dRng1, dRng2, dZip2, dZip3, dEnum, dLC, dLCr, dLCM, finM, gII0, gII, onII, onI, gGcd, gNeg, gAdd, gIt, gIx, gLen, gTupC, gLstC, gLstCM, gAll, gAny, gBls, gSum, gIsi, gAbs, gInt, gStr, gEqB, gIsN, isNon, gRep, dRepM, dSl, dPart, dNoPart, gSl, dRev, dRevM, dM, dM0, gAppend, gPop, dFld, dSetF, dMeth, dMake, dPut, dDict, dPairs, dJoin, dJoined, dJs, dFmt, gIn, exOf, endD, on1, on2, ev_it0, ev_it1, ev_it2, ev_itn1, ev_itn, ev_len_t, ev_len_l, ev_sq_t, ev_sq_l, ev_lst_l, ev_so_t, ev_so_l, ev_so_k, ev_si_t, ev_si_l, ev_si_k, ev_ty_i, ev_ty_b, ev_ty_n, ev_ty_s, ev_ty_t, ev_ty_l, ev_eq_ii, ev_shp_i, ev_shp_b, ev_shp_n, ev_key_i, ev_key_s, kd_NoneType, kd_bool, kd_int, kd_str, kd_tuple, kd_list, kd_dict, ib_NoneType_NoneType, ib_NoneType_bool, ib_NoneType_int, ib_NoneType_str, ib_NoneType_tuple, ib_NoneType_list, ib_NoneType_dict, ib_bool_NoneType, ib_bool_bool, ib_bool_int, ib_bool_str, ib_bool_tuple, ib_bool_list, ib_bool_dict, ib_int_NoneType, ib_int_bool, ib_int_int, ib_int_str, ib_int_tuple, ib_int_list, ib_int_dict, ib_str_NoneType, ib_str_bool, ib_str_int, ib_str_str, ib_str_tuple, ib_str_list, ib_str_dict, ib_tuple_NoneType, ib_tuple_bool, ib_tuple_int, ib_tuple_str, ib_tuple_tuple, ib_tuple_list, ib_tuple_dict, ib_list_NoneType, ib_list_bool, ib_list_int, ib_list_str, ib_list_tuple, ib_list_list, ib_list_dict, ib_dict_NoneType, ib_dict_bool, ib_dict_int, ib_dict_str, ib_dict_tuple, ib_dict_list, ib_dict_dict, true_and, and_true, if_true, if_false, Bool.not_true, Bool.not_false, List.map_cons, List.map_nil, List.length_cons, List.length_nil, List.replicate, List.cons_append, List.nil_append, List.getElem?_cons_succ, List.getElem?_cons_zero, List.set_cons_succ, List.set_cons_zero, ite_true_eq, ite_false_eq, ite_nt_eq, ite_nf_eq, dec_true, dec_not, bxor_f, bxor_t]
      refine ⟨big_of (by simp; omega), ?_⟩
      rw [eall]
      have kt2 : SmR 36 (t.map (· - x)) := fun z hz => by
        obtain ⟨w, hw, rfl⟩ := List.mem_map.mp hz
        exact (kt w hw).sub kx
      have kall : SmR 36 (r ++ s ++ t.map (· - x)) := fun z hz => by
        rcases List.mem_append.mp hz with h | h
        · rcases List.mem_append.mp h with h | h
          · exact (kr z h).mono (by omega)
          · exact (ks z h).mono (by omega)
        · exact kt2 z h
      have lall : (r ++ s ++ t.map (· - x)).length ≤ 12 := by simp; omega
      refine ⟨_, 36, rfl, kall, by omega, fun out ho1 ho2 ho3 => ?_⟩
      simp only [seqF, startD, dSeq, dNext, dBreak, dCont, dSet, dIfE, dIfS, dB, dOp, dVar, dC, dCB, dCons, dNil, dUn, dRet, dRetN, dTup, dLst, dLstM, dCall, dDrop, dAsg, dT, Tg.d, Tgs.d, dNotT, dAndT, dOrT, dAndV, dOrV, dNotV, dPar, dFor, dSeqI, dRng1, dRng2, dZip2, dZip3, dEnum, dLC, dLCr, dLCM, finM, gII0, gII, onII, onI, gGcd, gNeg, gAdd, gIt, gIx, gLen, gTupC, gLstC, gLstCM, gAll, gAny, gBls, gSum, gIsi, gAbs, gInt, gStr, gEqB, gIsN, isNon, gRep, dRepM, dSl, dPart, dNoPart, gSl, dRev, dRevM, dM, dM0, gAppend, gPop, dFld, dSetF, dMeth, dMake, dPut, dDict, dPairs, dJoin, dJoined, dJs, dFmt, gIn, exOf, endD, on1, on2, ev_it0, ev_it1, ev_it2, ev_itn1, ev_itn, ev_len_t, ev_len_l, ev_sq_t, ev_sq_l, ev_lst_l, ev_so_t, ev_so_l, ev_so_k, ev_si_t, ev_si_l, ev_si_k, ev_ty_i, ev_ty_b, ev_ty_n, ev_ty_s, ev_ty_t, ev_ty_l, ev_eq_ii, ev_shp_i, ev_shp_b, ev_shp_n, ev_key_i, ev_key_s, kd_NoneType, kd_bool, kd_int, kd_str, kd_tuple, kd_list, kd_dict, ib_NoneType_NoneType, ib_NoneType_bool, ib_NoneType_int, ib_NoneType_str, ib_NoneType_tuple, ib_NoneType_list, ib_NoneType_dict, ib_bool_NoneType, ib_bool_bool, ib_bool_int, ib_bool_str, ib_bool_tuple, ib_bool_list, ib_bool_dict, ib_int_NoneType, ib_int_bool, ib_int_int, ib_int_str, ib_int_tuple, ib_int_list, ib_int_dict, ib_str_NoneType, ib_str_bool, ib_str_int, ib_str_str, ib_str_tuple, ib_str_list, ib_str_dict, ib_tuple_NoneType, ib_tuple_bool, ib_tuple_int, ib_tuple_str, ib_tuple_tuple, ib_tuple_list, ib_tuple_dict, ib_list_NoneType, ib_list_bool, ib_list_int, ib_list_str, ib_list_tuple, ib_list_list, ib_list_dict, ib_dict_NoneType, ib_dict_bool, ib_dict_int, ib_dict_str, ib_dict_tuple, ib_dict_list, ib_dict_dict, true_and, and_true, if_true, if_false, Bool.not_true, Bool.not_false, List.map_cons, List.map_nil, List.length_cons, List.length_nil, List.replicate, List.cons_append, List.nil_append, List.getElem?_cons_succ, List.getElem?_cons_zero, List.set_cons_succ, List.set_cons_zero, ite_true_eq, ite_false_eq, ite_nt_eq, ite_nf_eq, dec_true, dec_not, bxor_f, bxor_t]
      intro p3 hp3
      have ecut : cutD (out.map enc) (some 1) none = (out.drop 1).map enc := by
        have h1 : HT.sIx out.length 0 (some 1) = min 1 out.length := HT.sIx_nat _ _ 1
        unfold cutD
        rw [List.length_map, h1]
        show List.take (out.length - min 1 out.length) (List.drop (min 1 out.length) (out.map enc)) = _
        cases out with
        | nil => rfl
        | cons z o =>
          have : min 1 (z :: o).length = 1 := by simp
          rw [this]
          show List.take o.length (List.map enc o) = _
          rw [List.take_of_length_le (by rw [List.length_map]; exact Nat.le_refl _)]; rfl
      rw [ecut]
      refine lc_filter (m0 := m6) (fun _ => none) (fun _ => trivial) _ [] (fun d hd acc Q1 Q0 q0 => ?_) ?_ ?_
      · rw [zipE] at hd
        obtain ⟨⟨z, w⟩, h1, rfl⟩ := List.mem_map.mp hd
        refine ⟨_, rfl, ?_⟩
        simp only [wipeD, startD, dSeq, dNext, dBreak, dCont, dSet, dIfE, dIfS, dB, dOp, dVar, dC, dCB, dCons, dNil, dUn, dRet, dRetN, dTup, dLst, dLstM, dCall, dDrop, dAsg, dT, Tg.d, Tgs.d, dNotT, dAndT, dOrT, dAndV, dOrV, dNotV, dPar, dFor, dSeqI, dRng1, dRng2, dZip2, dZip3, dEnum, dLC, dLCr, dLCM, finM, gII0, gII, onII, onI, gGcd, gNeg, gAdd, gIt, gIx, gLen, gTupC, gLstC, gLstCM, gAll, gAny, gBls, gSum, gIsi, gAbs, gInt, gStr, gEqB, gIsN, isNon, gRep, dRepM, dSl, dPart, dNoPart, gSl, dRev, dRevM, dM, dM0, gAppend, gPop, dFld, dSetF, dMeth, dMake, dPut, dDict, dPairs, dJoin, dJoined, dJs, dFmt, gIn, exOf, endD, on1, on2, ev_it0, ev_it1, ev_it2, ev_itn1, ev_itn, ev_len_t, ev_len_l, ev_sq_t, ev_sq_l, ev_lst_l, ev_so_t, ev_so_l, ev_so_k, ev_si_t, ev_si_l, ev_si_k, ev_ty_i, ev_ty_b, ev_ty_n, ev_ty_s, ev_ty_t, ev_ty_l, ev_eq_ii, ev_shp_i, ev_shp_b, ev_shp_n, ev_key_i, ev_key_s, kd_NoneType, kd_bool, kd_int, kd_str, kd_tuple, kd_list, kd_dict, ib_NoneType_NoneType, ib_NoneType_bool, ib_NoneType_int, ib_NoneType_str, ib_NoneType_tuple, ib_NoneType_list, ib_NoneType_dict, ib_bool_NoneType, ib_bool_bool, ib_bool_int, ib_bool_str, ib_bool_tuple, ib_bool_list, ib_bool_dict, ib_int_NoneType, ib_int_bool, ib_int_int, ib_int_str, ib_int_tuple, ib_int_list, ib_int_dict, ib_str_NoneType, ib_str_bool, ib_str_int, ib_str_str, ib_str_tuple, ib_str_list, ib_str_dict, ib_tuple_NoneType, ib_tuple_bool, ib_tuple_int, ib_tuple_str, ib_tuple_tuple, ib_tuple_list, ib_tuple_dict, ib_list_NoneType, ib_list_bool, ib_list_int, ib_list_str, ib_list_tuple, ib_list_list, ib_list_dict, ib_dict_NoneType, ib_dict_bool, ib_dict_int, ib_dict_str, ib_dict_tuple, ib_dict_list, ib_dict_dict, true_and, and_true, if_true, if_false, Bool.not_true, Bool.not_false, List.map_cons, List.map_nil, List.length_cons, List.length_nil, List.replicate, List.cons_append, List.nil_append, List.getElem?_cons_succ, List.getElem?_cons_zero, List.set_cons_succ, List.set_cons_zero, ite_true_eq, ite_false_eq, ite_nt_eq, ite_nf_eq, dec_true, dec_not, bxor_f, bxor_t]
        obtain ⟨g1, g2⟩ := List.of_mem_zip h1
        refine c_less (kall z (ho2 z g1)) (kall w (ho2 w (List.mem_of_mem_drop g2))) (by omega) ?_
        have hlt := pair_up ho1 _ h1
        try simp only [decide_eq_true hlt, startD, dSeq, dNext, dBreak, dCont, dSet, dIfE, dIfS, dB, dOp, dVar, dC, dCB, dCons, dNil, dUn, dRet, dRetN, dTup, dLst, dLstM, dCall, dDrop, dAsg, dT, Tg.d, Tgs.d, dNotT, dAndT, dOrT, dAndV, dOrV, dNotV, dPar, dFor, dSeqI, dRng1, dRng2, dZip2, dZip3, dEnum, dLC, dLCr, dLCM, finM, gII0, gII, onII, onI, gGcd, gNeg, gAdd, gIt, gIx, gLen, gTupC, gLstC, gLstCM, gAll, gAny, gBls, gSum, gIsi, gAbs, gInt, gStr, gEqB, gIsN, isNon, gRep, dRepM, dSl, dPart, dNoPart, gSl, dRev, dRevM, dM, dM0, gAppend, gPop, dFld, dSetF, dMeth, dMake, dPut, dDict, dPairs, dJoin, dJoined, dJs, dFmt, gIn, exOf, endD, on1, on2, ev_it0, ev_it1, ev_it2, ev_itn1, ev_itn, ev_len_t, ev_len_l, ev_sq_t, ev_sq_l, ev_lst_l, ev_so_t, ev_so_l, ev_so_k, ev_si_t, ev_si_l, ev_si_k, ev_ty_i, ev_ty_b, ev_ty_n, ev_ty_s, ev_ty_t, ev_ty_l, ev_eq_ii, ev_shp_i, ev_shp_b, ev_shp_n, ev_key_i, ev_key_s, kd_NoneType, kd_bool, kd_int, kd_str, kd_tuple, kd_list, kd_dict, ib_NoneType_NoneType, ib_NoneType_bool, ib_NoneType_int, ib_NoneType_str, ib_NoneType_tuple, ib_NoneType_list, ib_NoneType_dict, ib_bool_NoneType, ib_bool_bool, ib_bool_int, ib_bool_str, ib_bool_tuple, ib_bool_list, ib_bool_dict, ib_int_NoneType, ib_int_bool, ib_int_int, ib_int_str, ib_int_tuple, ib_int_list, ib_int_dict, ib_str_NoneType, ib_str_bool, ib_str_int, ib_str_str, ib_str_tuple, ib_str_list, ib_str_dict, ib_tuple_NoneType, ib_tuple_bool, ib_tuple_int, ib_tuple_str, ib_tuple_tuple, ib_tuple_list, ib_tuple_dict, ib_list_NoneType, ib_list_bool, ib_list_int, ib_list_str, ib_list_tuple, ib_list_list, ib_list_dict, ib_dict_NoneType, ib_dict_bool, ib_dict_int, ib_dict_str, ib_dict_tuple, ib_dict_list, ib_dict_dict, true_and, and_true, if_true, if_false, Bool.not_true, Bool.not_false, List.map_cons, List.map_nil, List.length_cons, List.length_nil, List.replicate, List.cons_append, List.nil_append, List.getElem?_cons_succ, List.getElem?_cons_zero, List.set_cons_succ, List.set_cons_zero, ite_true_eq, ite_false_eq, ite_nt_eq, ite_nf_eq, dec_true, dec_not, bxor_f, bxor_t]
        exact q0
      · unfold zip2D
        rw [List.length_zipWith, List.length_map, List.length_map]
        exact big_of (by simp; omega)
      · have e0 : ∀ l : List D, l.filterMap (fun _ => (none : Option D)) = [] := fun l => by simp
        rw [e0]
        show finF _ _ _ _
        unfold finF
        rw [mdel_mset hp3]
        refine ⟨Nat.zero_le _, rfl, rfl, ?_⟩
        refine (if_pos rfl).mpr ?_
        exact hN _ _ ⟨s6.le (by omega), _, _, _, _, _, _, _, _, rfl⟩
    · rw [if_neg hx0]
      have hxn : x ≠ 0 := fun e => hx0 (by rw [e]; rfl)
      refine c_scaled kr kx (by omega) (by omega) ?_
      try simp only [startD, dSeq, dNext, dBreak, dCont, dSet, dIfE, dIfS, dB, dOp, dVar, dC, dCB, dCons, dNil, dUn, dRet, dRetN, dTup, dLst, dLstM, dCall, dDrop, dAsg, dT, Tg.d, Tgs.d, dNotT, dAndT, dOrT, dAndV, dOrV, dNotV, dPar, dFor, dSeqI, dRng1, dRng2, dZip2, dZip3, dEnum, dLC, dLCr, dLCM, finM, gII0, gII, onII, onI, gGcd, gNeg, gAdd, gIt, gIx, gLen, gTupC, gLstC, gLstCM, gAll, gAny, gBls, gSum, gIsi, gAbs, gInt, gStr, gEqB, gIsN, isNon, gRep, dRepM, dSl, dPart, dNoPart, gSl, dRev, dRevM, dM, dM0, gAppend, gPop, dFld, dSetF, dMeth, dMake, dPut, dDict, dPairs, dJoin, dJoined, dJs, dFmt, gIn, exOf, endD, on1, on2, ev_it0, ev_it1, ev_it2, ev_itn1, ev_itn, ev_len_t, ev_len_l, ev_sq_t, ev_sq_l, ev_lst_l, ev_so_t, ev_so_l, ev_so_k, ev_si_t, ev_si_l, ev_si_k, ev_ty_i, ev_ty_b, ev_ty_n, ev_ty_s, ev_ty_t, ev_ty_l, ev_eq_ii, ev_shp_i, ev_shp_b, ev_shp_n, ev_key_i, ev_key_s, kd_NoneType, kd_bool, kd_int, kd_str, kd_tuple, kd_list, kd_dict, ib_NoneType_NoneType, ib_NoneType_bool, ib_NoneType_int, ib_NoneType_str, ib_NoneType_tuple, ib_NoneType_list, ib_NoneType_dict, ib_bool_NoneType, ib_bool_bool, ib_bool_int, ib_bool_str, ib_bool_tuple, ib_bool_list, ib_bool_dict, ib_int_NoneType, ib_int_bool, ib_int_int, ib_int_str, ib_int_tuple, ib_int_list, ib_int_dict, ib_str_NoneType, ib_str_bool, ib_str_int, ib_str_str, ib_str_tuple, ib_str_list, ib_str_dict, ib_tuple_NoneType, ib_tuple_bool, ib_tuple_int, ib_tuple_str, ib_tuple_tuple, ib_tuple_list, ib_tuple_dict, ib_list_NoneType, ib_list_bool, ib_list_int, ib_list_str, ib_list_tuple, ib_list_list, ib_list_dict, ib_dict_NoneType, ib_dict_bool, ib_dict_int, ib_dict_str, ib_dict_tuple, ib_dict_list, ib_dict_dict, true_and, and_true, if_true, if_false, Bool.not_true, Bool.not_false, List.map_cons, List.map_nil, List.length_cons, List.length_nil, List.replicate, List.cons_append, List.nil_append, List.getElem?_cons_succ, List.getElem?_cons_zero, List.set_cons_succ, List.set_cons_zero, ite_true_eq, ite_false_eq, ite_nt_eq, ite_nf_eq, dec_true, dec_not, bxor_f, bxor_t]
      refine ⟨two_le, 1, x, 1, 31, rfl, hxn, ⟨by decide, by decide⟩, kx, by omega, ?_⟩
      try simp only [startD, dSeq, dNext, dBreak, dCont, dSet, dIfE, dIfS, dB, dOp, dVar, dC, dCB, dCons, dNil, dUn, dRet, dRetN, dTup, dLst, dLstM, dCall, dDrop, dAsg, dT, Tg.d, Tgs.d, dNotT, dAndT, dOrT, dAndV, dOrV, dNotV, dPar, dFor, dSeqI, dRng1, dRng2, dZip2, dZip3, dEnum, dLC, dLCr, dLCM, finM, gII0, gII, onII, onI, gGcd, gNeg, gAdd, gIt, gIx, gLen, gTupC, gLstC, gLstCM, gAll, gAny, gBls, gSum, gIsi, gAbs, gInt, gStr, gEqB, gIsN, isNon, gRep, dRepM, dSl, dPart, dNoPart, gSl, dRev, dRevM, dM, dM0, gAppend, gPop, dFld, dSetF, dMeth, dMake, dPut, dDict, dPairs, dJoin, dJoined, dJs, dFmt, gIn, exOf, endD, on1, on2, ev_it0, ev_it1, ev_it2, ev_itn1, ev_itn, ev_len_t, ev_len_l, ev_sq_t, ev_sq_l, ev_lst_l, ev_so_t, ev_so_l, ev_so_k, ev_si_t, ev_si_l, ev_si_k, ev_ty_i, ev_ty_b, ev_ty_n, ev_ty_s, ev_ty_t, ev_ty_l, ev_eq_ii, ev_shp_i, ev_shp_b, ev_shp_n, ev_key_i, ev_key_s, kd_NoneType, kd_bool, kd_int, kd_str, kd_tuple, kd_list, kd_dict, ib_NoneType_NoneType, ib_NoneType_bool, ib_NoneType_int, ib_NoneType_str, ib_NoneType_tuple, ib_NoneType_list, ib_NoneType_dict, ib_bool_NoneType, ib_bool_bool, ib_bool_int, ib_bool_str, ib_bool_tuple, ib_bool_list, ib_bool_dict, ib_int_NoneType, ib_int_bool, ib_int_int, ib_int_str, ib_int_tuple, ib_int_list, ib_int_dict, ib_str_NoneType, ib_str_bool, ib_str_int, ib_str_str, ib_str_tuple, ib_str_list, ib_str_dict, ib_tuple_NoneType, ib_tuple_bool, ib_tuple_int, ib_tuple_str, ib_tuple_tuple, ib_tuple_list, ib_tuple_dict, ib_list_NoneType, ib_list_bool, ib_list_int, ib_list_str, ib_list_tuple, ib_list_list, ib_list_dict, ib_dict_NoneType, ib_dict_bool, ib_dict_int, ib_dict_str, ib_dict_tuple, ib_dict_list, ib_dict_dict, true_and, and_true, if_true, if_false, Bool.not_true, Bool.not_false, List.map_cons, List.map_nil, List.length_cons, List.length_nil, List.replicate, List.cons_append, List.nil_append, List.getElem?_cons_succ, List.getElem?_cons_zero, List.set_cons_succ, List.set_cons_zero, ite_true_eq, ite_false_eq, ite_nt_eq, ite_nf_eq, dec_true, dec_not, bxor_f, bxor_t]
      have kiv : Sm 33 (1 / x) := by
        rw [div_divInt]
        refine divInt_sm ?_ ?_ (by decide)
        · show (1 * ((x.den : Nat) : Int)).natAbs < _
          have := hx.2
          omega
        · show (1 * x.num).natAbs < _
          have := hx.1
          omega
      refine c_scaled ksc kiv (by omega) (by rw [List.length_map]; omega) ?_
      have ebk : (r.map (· * x)).map (· * (1 / x)) = r := by
        rw [List.map_map]
        conv => rhs; rw [← List.map_id r]
        apply List.map_congr_left
        intro z _
        show z * x * (1 / x) = z
        rw [Rat.mul_assoc, Rat.div_def, Rat.one_mul, Rat.mul_inv_cancel x hxn, Rat.mul_one]
      rw [ebk]
      try simp only [shpR, eq_encR, decide_true, startD, dSeq, dNext, dBreak, dCont, dSet, dIfE, dIfS, dB, dOp, dVar, dC, dCB, dCons, dNil, dUn, dRet, dRetN, dTup, dLst, dLstM, dCall, dDrop, dAsg, dT, Tg.d, Tgs.d, dNotT, dAndT, dOrT, dAndV, dOrV, dNotV, dPar, dFor, dSeqI, dRng1, dRng2, dZip2, dZip3, dEnum, dLC, dLCr, dLCM, finM, gII0, gII, onII, onI, gGcd, gNeg, gAdd, gIt, gIx, gLen, gTupC, gLstC, gLstCM, gAll, gAny, gBls, gSum, gIsi, gAbs, gInt, gStr, gEqB, gIsN, isNon, gRep, dRepM, dSl, dPart, dNoPart, gSl, dRev, dRevM, dM, dM0, gAppend, gPop, dFld, dSetF, dMeth, dMake, dPut, dDict, dPairs, dJoin, dJoined, dJs, dFmt, gIn, exOf, endD, on1, on2, ev_it0, ev_it1, ev_it2, ev_itn1, ev_itn, ev_len_t, ev_len_l, ev_sq_t, ev_sq_l, ev_lst_l, ev_so_t, ev_so_l, ev_so_k, ev_si_t, ev_si_l, ev_si_k, ev_ty_i, ev_ty_b, ev_ty_n, ev_ty_s, ev_ty_t, ev_ty_l, ev_eq_ii, ev_shp_i, ev_shp_b, ev_shp_n, ev_key_i, ev_key_s, kd_NoneType, kd_bool, kd_int, kd_str, kd_tuple, kd_list, kd_dict, ib_NoneType_NoneType, ib_NoneType_bool, ib_NoneType_int, ib_NoneType_str, ib_NoneType_tuple, ib_NoneType_list, ib_NoneType_dict, ib_bool_NoneType, ib_bool_bool, ib_bool_int, ib_bool_str, ib_bool_tuple, ib_bool_list, ib_bool_dict, ib_int_NoneType, ib_int_bool, ib_int_int, ib_int_str, ib_int_tuple, ib_int_list, ib_int_dict, ib_str_NoneType, ib_str_bool, ib_str_int, ib_str_str, ib_str_tuple, ib_str_list, ib_str_dict, ib_tuple_NoneType, ib_tuple_bool, ib_tuple_int, ib_tuple_str, ib_tuple_tuple, ib_tuple_list, ib_tuple_dict, ib_list_NoneType, ib_list_bool, ib_list_int, ib_list_str, ib_list_tuple, ib_list_list, ib_list_dict, ib_dict_NoneType, ib_dict_bool, ib_dict_int, ib_dict_str, ib_dict_tuple, ib_dict_list, ib_dict_dict, true_and, and_true, if_true, if_false, Bool.not_true, Bool.not_false, List.map_cons, List.map_nil, List.length_cons, List.length_nil, List.replicate, List.cons_append, List.nil_append, List.getElem?_cons_succ, List.getElem?_cons_zero, List.set_cons_succ, List.set_cons_zero, ite_true_eq, ite_false_eq, ite_nt_eq, ite_nf_eq, dec_true, dec_not, bxor_f, bxor_t]
      try simp only [encR, startD, dSeq, dNext, dBreak, dCont, dSet, dIfE, dIfS, dB, dOp, dVar, dC, dCB, dCons, dNil, dUn, dRet, dRetN, dTup, dLst, dLstM, dCall, dDrop, dAsg, dT, Tg.d, Tgs.d, dNotT, dAndT, dOrT, dAndV, dOrV, dNotV, dPar, dFor, dSeqI, dRng1, dRng2, dZip2, dZip3, dEnum, dLC, dLCr, dLCM, finM, gII0, gII, onII, onI, gGcd, gNeg, gAdd, gIt, gIx, gLen, gTupC, gLstC, gLstCM, gAll, gAny, gBls, gSum, gIsi, gAbs, gInt, gStr, gEqB, gIsN, isNon, gRep, dRepM, dSl, dPart, dNoPart, gSl, dRev, dRevM, dM, dM0, gAppend, gPop, dFld, dSetF, dMeth, dMake, dPut, dDict, dPairs, dJoin, dJoined, dJs, dFmt, gIn, exOf, endD, on1, on2, ev_it0, ev_it1, ev_it2, ev_itn1, ev_itn, ev_len_t, ev_len_l, ev_sq_t, ev_sq_l, ev_lst_l, ev_so_t, ev_so_l, ev_so_k, ev_si_t, ev_si_l, ev_si_k, ev_ty_i, ev_ty_b, ev_ty_n, ev_ty_s, ev_ty_t, ev_ty_l, ev_eq_ii, ev_shp_i, ev_shp_b, ev_shp_n, ev_key_i, ev_key_s, kd_NoneType, kd_bool, kd_int, kd_str, kd_tuple, kd_list, kd_dict, ib_NoneType_NoneType, ib_NoneType_bool, ib_NoneType_int, ib_NoneType_str, ib_NoneType_tuple, ib_NoneType_list, ib_NoneType_dict, ib_bool_NoneType, ib_bool_bool, ib_bool_int, ib_bool_str, ib_bool_tuple, ib_bool_list, ib_bool_dict, ib_int_NoneType, ib_int_bool, ib_int_int, ib_int_str, ib_int_tuple, ib_int_list, ib_int_dict, ib_str_NoneType, ib_str_bool, ib_str_int, ib_str_str, ib_str_tuple, ib_str_list, ib_str_dict, ib_tuple_NoneType, ib_tuple_bool, ib_tuple_int, ib_tuple_str, ib_tuple_tuple, ib_tuple_list, ib_tuple_dict, ib_list_NoneType, ib_list_bool, ib_list_int, ib_list_str, ib_list_tuple, ib_list_list, ib_list_dict, ib_dict_NoneType, ib_dict_bool, ib_dict_int, ib_dict_str, ib_dict_tuple, ib_dict_list, ib_dict_dict, true_and, and_true, if_true, if_false, Bool.not_true, Bool.not_false, List.map_cons, List.map_nil, List.length_cons, List.length_nil, List.replicate, List.cons_append, List.nil_append, List.getElem?_cons_succ, List.getElem?_cons_zero, List.set_cons_succ, List.set_cons_zero, ite_true_eq, ite_false_eq, ite_nt_eq, ite_nf_eq, dec_true, dec_not, bxor_f, bxor_t]
      refine ⟨big_of (by rw [List.length_map, List.length_map]; omega), fun p1 hp1 => ?_⟩
      refine lc_pure (fun d => d) _ hp1 (fun _ => trivial) (fun d hd acc Q1 q1 => ⟨_, rfl, by simp only [wipeD, startD, dSeq, dNext, dBreak, dCont, dSet, dIfE, dIfS, dB, dOp, dVar, dC, dCB, dCons, dNil, dUn, dRet, dRetN, dTup, dLst, dLstM, dCall, dDrop, dAsg, dT, Tg.d, Tgs.d, dNotT, dAndT, dOrT, dAndV, dOrV, dNotV, dPar, dFor, dSeqI, dRng1, dRng2, dZip2, dZip3, dEnum, dLC, dLCr, dLCM, finM, gII0, gII, onII, onI, gGcd, gNeg, gAdd, gIt, gIx, gLen, gTupC, gLstC, gLstCM, gAll, gAny, gBls, gSum, gIsi, gAbs, gInt, gStr, gEqB, gIsN, isNon, gRep, dRepM, dSl, dPart, dNoPart, gSl, dRev, dRevM, dM, dM0, gAppend, gPop, dFld, dSetF, dMeth, dMake, dPut, dDict, dPairs, dJoin, dJoined, dJs, dFmt, gIn, exOf, endD, on1, on2, ev_it0, ev_it1, ev_it2, ev_itn1, ev_itn, ev_len_t, ev_len_l, ev_sq_t, ev_sq_l, ev_lst_l, ev_so_t, ev_so_l, ev_so_k, ev_si_t, ev_si_l, ev_si_k, ev_ty_i, ev_ty_b, ev_ty_n, ev_ty_s, ev_ty_t, ev_ty_l, ev_eq_ii, ev_shp_i, ev_shp_b, ev_shp_n, ev_key_i, ev_key_s, kd_NoneType, kd_bool, kd_int, kd_str, kd_tuple, kd_list, kd_dict, ib_NoneType_NoneType, ib_NoneType_bool, ib_NoneType_int, ib_NoneType_str, ib_NoneType_tuple, ib_NoneType_list, ib_NoneType_dict, ib_bool_NoneType, ib_bool_bool, ib_bool_int, ib_bool_str, ib_bool_tuple, ib_bool_list, ib_bool_dict, ib_int_NoneType, ib_int_bool, ib_int_int, ib_int_str, ib_int_tuple, ib_int_list, ib_int_dict, ib_str_NoneType, ib_str_bool, ib_str_int, ib_str_str, ib_str_tuple, ib_str_list, ib_str_dict, ib_tuple_NoneType, ib_tuple_bool, ib_tuple_int, ib_tuple_str, ib_tuple_tuple, ib_tuple_list, ib_tuple_dict, ib_list_NoneType, ib_list_bool, ib_list_int, ib_list_str, ib_list_tuple, ib_list_list, ib_list_dict, ib_dict_NoneType, ib_dict_bool, ib_dict_int, ib_dict_str, ib_dict_tuple, ib_dict_list, ib_dict_dict, true_and, and_true, if_true, if_false, Bool.not_true, Bool.not_false, List.map_cons, List.map_nil, List.length_cons, List.length_nil, List.replicate, List.cons_append, List.nil_append, List.getElem?_cons_succ, List.getElem?_cons_zero, List.set_cons_succ, List.set_cons_zero, ite_true_eq, ite_false_eq, ite_nt_eq, ite_nf_eq, dec_true, dec_not, bxor_f, bxor_t]; exact q1⟩) (big_of (by rw [List.length_append, List.length_map, List.length_map]; omega)) ?_
      intro p2 hp2
      refine rows1 (op := (· - x)) (fun z hz m Q q => ?_) (by omega) hp2 ?_
      · simp only [wipeD, startD, dSeq, dNext, dBreak, dCont, dSet, dIfE, dIfS, dB, dOp, dVar, dC, dCB, dCons, dNil, dUn, dRet, dRetN, dTup, dLst, dLstM, dCall, dDrop, dAsg, dT, Tg.d, Tgs.d, dNotT, dAndT, dOrT, dAndV, dOrV, dNotV, dPar, dFor, dSeqI, dRng1, dRng2, dZip2, dZip3, dEnum, dLC, dLCr, dLCM, finM, gII0, gII, onII, onI, gGcd, gNeg, gAdd, gIt, gIx, gLen, gTupC, gLstC, gLstCM, gAll, gAny, gBls, gSum, gIsi, gAbs, gInt, gStr, gEqB, gIsN, isNon, gRep, dRepM, dSl, dPart, dNoPart, gSl, dRev, dRevM, dM, dM0, gAppend, gPop, dFld, dSetF, dMeth, dMake, dPut, dDict, dPairs, dJoin, dJoined, dJs, dFmt, gIn, exOf, endD, on1, on2, ev_it0, ev_it1, ev_it2, ev_itn1, ev_itn, ev_len_t, ev_len_l, ev_sq_t, ev_sq_l, ev_lst_l, ev_so_t, ev_so_l, ev_so_k, ev_si_t, ev_si_l, ev_si_k, ev_ty_i, ev_ty_b, ev_ty_n, ev_ty_s, ev_ty_t, ev_ty_l, ev_eq_ii, ev_shp_i, ev_shp_b, ev_shp_n, ev_key_i, ev_key_s, kd_NoneType, kd_bool, kd_int, kd_str, kd_tuple, kd_list, kd_dict, ib_NoneType_NoneType, ib_NoneType_bool, ib_NoneType_int, ib_NoneType_str, ib_NoneType_tuple, ib_NoneType_list, ib_NoneType_dict, ib_bool_NoneType, ib_bool_bool, ib_bool_int, ib_bool_str, ib_bool_tuple, ib_bool_list, ib_bool_dict, ib_int_NoneType, ib_int_bool, ib_int_int, ib_int_str, ib_int_tuple, ib_int_list, ib_int_dict, ib_str_NoneType, ib_str_bool, ib_str_int, ib_str_str, ib_str_tuple, ib_str_list, ib_str_dict, ib_tuple_NoneType, ib_tuple_bool, ib_tuple_int, ib_tuple_str, ib_tuple_tuple, ib_tuple_list, ib_tuple_dict, ib_list_NoneType, ib_list_bool, ib_list_int, ib_list_str, ib_list_tuple, ib_list_list, ib_list_dict, ib_dict_NoneType, ib_dict_bool, ib_dict_int, ib_dict_str, ib_dict_tuple, ib_dict_list, ib_dict_dict, true_and, and_true, if_true, if_false, Bool.not_true, Bool.not_false, List.map_cons, List.map_nil, List.length_cons, List.length_nil, List.replicate, List.cons_append, List.nil_append, List.getElem?_cons_succ, List.getElem?_cons_zero, List.set_cons_succ, List.set_cons_zero, ite_true_eq, ite_false_eq, ite_nt_eq, ite_nf_eq, dec_true, dec_not, bxor_f, bxor_t]
        exact c_minus (kt z hz) kx (by omega) q
      have eall : (List.map (fun d => d) (List.map enc r ++ List.map enc s)) ++ List.map enc (t.map (· - x)) = (r ++ s ++ t.map (· - x)).map enc := by
        rw [show (List.map (fun d => d) (List.map enc r ++ List.map enc s) : List D) = List.map enc r ++ List.map enc s from List.map_id' _, List.map_append, List.map_append]
      simp only [startD, dSeq, dNext, dBreak, dCont, dSet, dIfE, dIfS, dB, dOp, dVar, dC, dCB, dCons, dNil, dUn, dRet, dRetN, dTup, dLst, dLstM, dCall, dDrop, dAsg, dT, Tg.d, Tgs.d, dNotT, dAndT, dOrT, dAndV, dOrV, dNotV, dPar, dFor, dSeqI, dRng1, dRng2, dZip2, dZip3, dEnum, dLC, dLCr, dLCM, finM, gII0, gII, onII, onI, gGcd, gNeg, gAdd, gIt, gIx, gLen, gTupC, gLstC, gLstCM, gAll, gAny, gBls, gSum, gIsi, gAbs, gInt, gStr, gEqB, gIsN, isNon, gRep, dRepM, dSl, dPart, dNoPart, gSl, dRev, dRevM, dM, dM0, gAppend, gPop, dFld, dSetF, dMeth, dMake, dPut, dDict, dPairs, dJoin, dJoined, dJs, dFmt, gIn, exOf, endD, on1, on2, ev_it0, ev_it1, ev_it2, ev_itn1, ev_itn, ev_len_t, ev_len_l, ev_sq_t, ev_sq_l, ev_lst_l, ev_so_t, ev_so_l, ev_so_k, ev_si_t, ev_si_l, ev_si_k, ev_ty_i, ev_ty_b, ev_ty_n, ev_ty_s, ev_ty_t, ev_ty_l, ev_eq_ii, ev_shp_i, ev_shp_b, ev_shp_n, ev_key_i, ev_key_s, kd_NoneType, kd_bool, kd_int, kd_str, kd_tuple, kd_list, kd_dict, ib_NoneType_NoneType, ib_NoneType_bool, ib_NoneType_int, ib_NoneType_str, ib_NoneType_tuple, ib_NoneType_list, ib_NoneType_dict, ib_bool_NoneType, ib_bool_bool, ib_bool_int, ib_bool_str, ib_bool_tuple, ib_bool_list, ib_bool_dict, ib_int_NoneType, ib_int_bool, ib_int_int, ib_int_str, ib_int_tuple, ib_int_list, ib_int_dict, ib_str_NoneType, ib_str_bool, ib_str_int, ib_str_str, ib_str_tuple, ib_str_list, ib_str_dict, ib_tuple_NoneType, ib_tuple_bool, ib_tuple_int, ib_tuple_str, ib_tuple_tuple, ib_tuple_list, ib_tuple_dict, ib_list_NoneType, ib_list_bool, ib_list_int, ib_list_str, ib_list_tuple, ib_list_list, ib_list_dict, ib_dict_NoneType, ib_dict_bool, ib_dict_int, ib_dict_str, ib_dict_tuple, ib_dict_list, ib_dict_dict, true_and, and_true, if_true, if_false, Bool.not_true, Bool.not_false, List.map_cons, List.map_nil, List.length_cons, List.length_nil, List.replicate, List.cons_append, List.nil_append, List.getElem?_cons_succ, List.getElem?_cons_zero, List.set_cons_succ, List.set_cons_zero, ite_true_eq, ite_false_eq, ite_nt_eq, ite_nf_eq, dec_true, dec_not, bxor_f, bxor_t]
      refine ⟨big_of (by simp; omega), ?_⟩
      rw [eall]
      have kt2 : SmR 36 (t.map (· - x)) := fun z hz => by
        obtain ⟨w, hw, rfl⟩ := List.mem_map.mp hz
        exact (kt w hw).sub kx
      have kall : SmR 36 (r ++ s ++ t.map (· - x)) := fun z hz => by
        rcases List.mem_append.mp hz with h | h
        · rcases List.mem_append.mp h with h | h
          · exact (kr z h).mono (by omega)
          · exact (ks z h).mono (by omega)
        · exact kt2 z h
      have lall : (r ++ s ++ t.map (· - x)).length ≤ 12 := by simp; omega
      refine ⟨_, 36, rfl, kall, by omega, fun out ho1 ho2 ho3 => ?_⟩
      simp only [seqF, startD, dSeq, dNext, dBreak, dCont, dSet, dIfE, dIfS, dB, dOp, dVar, dC, dCB, dCons, dNil, dUn, dRet, dRetN, dTup, dLst, dLstM, dCall, dDrop, dAsg, dT, Tg.d, Tgs.d, dNotT, dAndT, dOrT, dAndV, dOrV, dNotV, dPar, dFor, dSeqI, dRng1, dRng2, dZip2, dZip3, dEnum, dLC, dLCr, dLCM, finM, gII0, gII, onII, onI, gGcd, gNeg, gAdd, gIt, gIx, gLen, gTupC, gLstC, gLstCM, gAll, gAny, gBls, gSum, gIsi, gAbs, gInt, gStr, gEqB, gIsN, isNon, gRep, dRepM, dSl, dPart, dNoPart, gSl, dRev, dRevM, dM, dM0, gAppend, gPop, dFld, dSetF, dMeth, dMake, dPut, dDict, dPairs, dJoin, dJoined, dJs, dFmt, gIn, exOf, endD, on1, on2, ev_it0, ev_it1, ev_it2, ev_itn1, ev_itn, ev_len_t, ev_len_l, ev_sq_t, ev_sq_l, ev_lst_l, ev_so_t, ev_so_l, ev_so_k, ev_si_t, ev_si_l, ev_si_k, ev_ty_i, ev_ty_b, ev_ty_n, ev_ty_s, ev_ty_t, ev_ty_l, ev_eq_ii, ev_shp_i, ev_shp_b, ev_shp_n, ev_key_i, ev_key_s, kd_NoneType, kd_bool, kd_int, kd_str, kd_tuple, kd_list, kd_dict, ib_NoneType_NoneType, ib_NoneType_bool, ib_NoneType_int, ib_NoneType_str, ib_NoneType_tuple, ib_NoneType_list, ib_NoneType_dict, ib_bool_NoneType, ib_bool_bool, ib_bool_int, ib_bool_str, ib_bool_tuple, ib_bool_list, ib_bool_dict, ib_int_NoneType, ib_int_bool, ib_int_int, ib_int_str, ib_int_tuple, ib_int_list, ib_int_dict, ib_str_NoneType, ib_str_bool, ib_str_int, ib_str_str, ib_str_tuple, ib_str_list, ib_str_dict, ib_tuple_NoneType, ib_tuple_bool, ib_tuple_int, ib_tuple_str, ib_tuple_tuple, ib_tuple_list, ib_tuple_dict, ib_list_NoneType, ib_list_bool, ib_list_int, ib_list_str, ib_list_tuple, ib_list_list, ib_list_dict, ib_dict_NoneType, ib_dict_bool, ib_dict_int, ib_dict_str, ib_dict_tuple, ib_dict_list, ib_dict_dict, true_and, and_true, if_true, if_false, Bool.not_true, Bool.not_false, List.map_cons, List.map_nil, List.length_cons, List.length_nil, List.replicate, List.cons_append, List.nil_append, List.getElem?_cons_succ, List.getElem?_cons_zero, List.set_cons_succ, List.set_cons_zero, ite_true_eq, ite_false_eq, ite_nt_eq, ite_nf_eq, dec_true, dec_not, bxor_f, bxor_t]
      intro p3 hp3
      have ecut : cutD (out.map enc) (some 1) none = (out.drop 1).map enc := by
        have h1 : HT.sIx out.length 0 (some 1) = min 1 out.length := HT.sIx_nat _ _ 1
        unfold cutD
        rw [List.length_map, h1]
        show List.take (out.length - min 1 out.length) (List.drop (min 1 out.length) (out.map enc)) = _
        cases out with
        | nil => rfl
        | cons z o =>
          have : min 1 (z :: o).length = 1 := by simp
          rw [this]
          show List.take o.length (List.map enc o) = _
          rw [List.take_of_length_le (by rw [List.length_map]; exact Nat.le_refl _)]; rfl
      rw [ecut]
      refine lc_filter (m0 := m6) (fun _ => none) (fun _ => trivial) _ [] (fun d hd acc Q1 Q0 q0 => ?_) ?_ ?_
      · rw [zipE] at hd
        obtain ⟨⟨z, w⟩, h1, rfl⟩ := List.mem_map.mp hd
        refine ⟨_, rfl, ?_⟩
        simp only [wipeD, startD, dSeq, dNext, dBreak, dCont, dSet, dIfE, dIfS, dB, dOp, dVar, dC, dCB, dCons, dNil, dUn, dRet, dRetN, dTup, dLst, dLstM, dCall, dDrop, dAsg, dT, Tg.d, Tgs.d, dNotT, dAndT, dOrT, dAndV, dOrV, dNotV, dPar, dFor, dSeqI, dRng1, dRng2, dZip2, dZip3, dEnum, dLC, dLCr, dLCM, finM, gII0, gII, onII, onI, gGcd, gNeg, gAdd, gIt, gIx, gLen, gTupC, gLstC, gLstCM, gAll, gAny, gBls, gSum, gIsi, gAbs, gInt, gStr, gEqB, gIsN, isNon, gRep, dRepM, dSl, dPart, dNoPart, gSl, dRev, dRevM, dM, dM0, gAppend, gPop, dFld, dSetF, dMeth, dMake, dPut, dDict, dPairs, dJoin, dJoined, dJs, dFmt, gIn, exOf, endD, on1, on2, ev_it0, ev_it1, ev_it2, ev_itn1, ev_itn, ev_len_t, ev_len_l, ev_sq_t, ev_sq_l, ev_lst_l, ev_so_t, ev_so_l, ev_so_k, ev_si_t, ev_si_l, ev_si_k, ev_ty_i, ev_ty_b, ev_ty_n, ev_ty_s, ev_ty_t, ev_ty_l, ev_eq_ii, ev_shp_i, ev_shp_b, ev_shp_n, ev_key_i, ev_key_s, kd_NoneType, kd_bool, kd_int, kd_str, kd_tuple, kd_list, kd_dict, ib_NoneType_NoneType, ib_NoneType_bool, ib_NoneType_int, ib_NoneType_str, ib_NoneType_tuple, ib_NoneType_list, ib_NoneType_dict, ib_bool_NoneType, ib_bool_bool, ib_bool_int, ib_bool_str, ib_bool_tuple, ib_bool_list, ib_bool_dict, ib_int_NoneType, ib_int_bool, ib_int_int, ib_int_str, ib_int_tuple, ib_int_list, ib_int_dict, ib_str_NoneType, ib_str_bool, ib_str_int, ib_str_str, ib_str_tuple, ib_str_list, ib_str_dict, ib_tuple_NoneType, ib_tuple_bool, ib_tuple_int, ib_tuple_str, ib_tuple_tuple, ib_tuple_list, ib_tuple_dict, ib_list_NoneType, ib_list_bool, ib_list_int, ib_list_str, ib_list_tuple, ib_list_list, ib_list_dict, ib_dict_NoneType, ib_dict_bool, ib_dict_int, ib_dict_str, ib_dict_tuple, ib_dict_list, ib_dict_dict, true_and, and_true, if_true, if_false, Bool.not_true, Bool.not_false, List.map_cons, List.map_nil, List.length_cons, List.length_nil, List.replicate, List.cons_append, List.nil_append, List.getElem?_cons_succ, List.getElem?_cons_zero, List.set_cons_succ, List.set_cons_zero, ite_true_eq, ite_false_eq, ite_nt_eq, ite_nf_eq, dec_true, dec_not, bxor_f, bxor_t]
        obtain ⟨g1, g2⟩ := List.of_mem_zip h1
        refine c_less (kall z (ho2 z g1)) (kall w (ho2 w (List.mem_of_mem_drop g2))) (by omega) ?_
        have hlt := pair_up ho1 _ h1
        try simp only [decide_eq_true hlt, startD, dSeq, dNext, dBreak, dCont, dSet, dIfE, dIfS, dB, dOp, dVar, dC, dCB, dCons, dNil, dUn, dRet, dRetN, dTup, dLst, dLstM, dCall, dDrop, dAsg, dT, Tg.d, Tgs.d, dNotT, dAndT, dOrT, dAndV, dOrV, dNotV, dPar, dFor, dSeqI, dRng1, dRng2, dZip2, dZip3, dEnum, dLC, dLCr, dLCM, finM, gII0, gII, onII, onI, gGcd, gNeg, gAdd, gIt, gIx, gLen, gTupC, gLstC, gLstCM, gAll, gAny, gBls, gSum, gIsi, gAbs, gInt, gStr, gEqB, gIsN, isNon, gRep, dRepM, dSl, dPart, dNoPart, gSl, dRev, dRevM, dM, dM0, gAppend, gPop, dFld, dSetF, dMeth, dMake, dPut, dDict, dPairs, dJoin, dJoined, dJs, dFmt, gIn, exOf, endD, on1, on2, ev_it0, ev_it1, ev_it2, ev_itn1, ev_itn, ev_len_t, ev_len_l, ev_sq_t, ev_sq_l, ev_lst_l, ev_so_t, ev_so_l, ev_so_k, ev_si_t, ev_si_l, ev_si_k, ev_ty_i, ev_ty_b, ev_ty_n, ev_ty_s, ev_ty_t, ev_ty_l, ev_eq_ii, ev_shp_i, ev_shp_b, ev_shp_n, ev_key_i, ev_key_s, kd_NoneType, kd_bool, kd_int, kd_str, kd_tuple, kd_list, kd_dict, ib_NoneType_NoneType, ib_NoneType_bool, ib_NoneType_int, ib_NoneType_str, ib_NoneType_tuple, ib_NoneType_list, ib_NoneType_dict, ib_bool_NoneType, ib_bool_bool, ib_bool_int, ib_bool_str, ib_bool_tuple, ib_bool_list, ib_bool_dict, ib_int_NoneType, ib_int_bool, ib_int_int, ib_int_str, ib_int_tuple, ib_int_list, ib_int_dict, ib_str_NoneType, ib_str_bool, ib_str_int, ib_str_str, ib_str_tuple, ib_str_list, ib_str_dict, ib_tuple_NoneType, ib_tuple_bool, ib_tuple_int, ib_tuple_str, ib_tuple_tuple, ib_tuple_list, ib_tuple_dict, ib_list_NoneType, ib_list_bool, ib_list_int, ib_list_str, ib_list_tuple, ib_list_list, ib_list_dict, ib_dict_NoneType, ib_dict_bool, ib_dict_int, ib_dict_str, ib_dict_tuple, ib_dict_list, ib_dict_dict, true_and, and_true, if_true, if_false, Bool.not_true, Bool.not_false, List.map_cons, List.map_nil, List.length_cons, List.length_nil, List.replicate, List.cons_append, List.nil_append, List.getElem?_cons_succ, List.getElem?_cons_zero, List.set_cons_succ, List.set_cons_zero, ite_true_eq, ite_false_eq, ite_nt_eq, ite_nf_eq, dec_true, dec_not, bxor_f, bxor_t]
        exact q0
      · unfold zip2D
        rw [List.length_zipWith, List.length_map, List.length_map]
        exact big_of (by simp; omega)
      · have e0 : ∀ l : List D, l.filterMap (fun _ => (none : Option D)) = [] := fun l => by simp
        rw [e0]
        show finF _ _ _ _
        unfold finF
        rw [mdel_mset hp3]
        refine ⟨Nat.zero_le _, rfl, rfl, ?_⟩
        refine (if_pos rfl).mpr ?_
        exact hN _ _ ⟨s6.le (by omega), _, _, _, _, _, _, _, _, rfl⟩
  · rintro ρ m' ⟨s', o2, o3, o4, o5, o6, o7, o8, o9, rfl⟩
    refine ⟨trivial, ?_⟩
    simp only [startD, dSeq, dNext, dBreak, dCont, dSet, dIfE, dIfS, dB, dOp, dVar, dC, dCB, dCons, dNil, dUn, dRet, dRetN, dTup, dLst, dLstM, dCall, dDrop, dAsg, dT, Tg.d, Tgs.d, dNotT, dAndT, dOrT, dAndV, dOrV, dNotV, dPar, dFor, dSeqI, dRng1, dRng2, dZip2, dZip3, dEnum, dLC, dLCr, dLCM, finM, gII0, gII, onII, onI, gGcd, gNeg, gAdd, gIt, gIx, gLen, gTupC, gLstC, gLstCM, gAll, gAny, gBls, gSum, gIsi, gAbs, gInt, gStr, gEqB, gIsN, isNon, gRep, dRepM, dSl, dPart, dNoPart, gSl, dRev, dRevM, dM, dM0, gAppend, gPop, dFld, dSetF, dMeth, dMake, dPut, dDict, dPairs, dJoin, dJoined, dJs, dFmt, gIn, exOf, endD, on1, on2, ev_it0, ev_it1, ev_it2, ev_itn1, ev_itn, ev_len_t, ev_len_l, ev_sq_t, ev_sq_l, ev_lst_l, ev_so_t, ev_so_l, ev_so_k, ev_si_t, ev_si_l, ev_si_k, ev_ty_i, ev_ty_b, ev_ty_n, ev_ty_s, ev_ty_t, ev_ty_l, ev_eq_ii, ev_shp_i, ev_shp_b, ev_shp_n, ev_key_i, ev_key_s, kd_NoneType, kd_bool, kd_int, kd_str, kd_tuple, kd_list, kd_dict, ib_NoneType_NoneType, ib_NoneType_bool, ib_NoneType_int, ib_NoneType_str, ib_NoneType_tuple, ib_NoneType_list, ib_NoneType_dict, ib_bool_NoneType, ib_bool_bool, ib_bool_int, ib_bool_str, ib_bool_tuple, ib_bool_list, ib_bool_dict, ib_int_NoneType, ib_int_bool, ib_int_int, ib_int_str, ib_int_tuple, ib_int_list, ib_int_dict, ib_str_NoneType, ib_str_bool, ib_str_int, ib_str_str, ib_str_tuple, ib_str_list, ib_str_dict, ib_tuple_NoneType, ib_tuple_bool, ib_tuple_int, ib_tuple_str, ib_tuple_tuple, ib_tuple_list, ib_tuple_dict, ib_list_NoneType, ib_list_bool, ib_list_int, ib_list_str, ib_list_tuple, ib_list_list, ib_list_dict, ib_dict_NoneType, ib_dict_bool, ib_dict_int, ib_dict_str, ib_dict_tuple, ib_dict_list, ib_dict_dict, true_and, and_true, if_true, if_false, Bool.not_true, Bool.not_false, List.map_cons, List.map_nil, List.length_cons, List.length_nil, List.replicate, List.cons_append, List.nil_append, List.getElem?_cons_succ, List.getElem?_cons_zero, List.set_cons_succ, List.set_cons_zero, ite_true_eq, ite_false_eq, ite_nt_eq, ite_nf_eq, dec_true, dec_not, bxor_f, bxor_t]
    exact ⟨m', _, .refl, q m'⟩
end Y
/-! M12: put in order. -/
namespace Y
open PySem PySem.Spec PyProof.Rows L2
def T_fail : DSt := dNever
theorem H_fail (c : Cs) (ds : List D) (m : MM) (Q : D → MM → Prop) (Px : XC) (h : S_fail c ds m Q Px) : ds.length = 1 ∧ T_fail (endD Q Px) (startD ["signs"] ds) m := h.elim
/-- a common multiple, by the steps of the code -/
def comN (ns : List Nat) : Nat := ns.foldl (fun f n => f * (n / Nat.gcd f n)) 1
def S_common_of : DS := fun ds m Q X => ∃ (ns : List Nat) (a : Nat), ds = [.lst (ns.map fun (n : Nat) => .int (n : Int))] ∧ (∀ n ∈ ns, 0 < n ∧ n < 2 ^ a) ∧ ns.length * (a + 1) ≤ 8000 ∧ Q (.int (comN ns : Nat)) m
def T_common_of : DSt := (dSeq (dSet 1 (dC (.int 1)))
  (dSeq (dFor (dSeqI (dVar 0)) (dT (.nm 2))
  (dSet 1 (dOp gMul (dVar 1) (dOp gFdv (dVar 2) (dCB gGcd (dCons (dVar 1) (dCons (dVar 2) dNil)))))))
  (dRet (dVar 1))))
theorem H_common_of (ds : List D) (m : MM) (Q : D → MM → Prop) (Px : XC) (h : S_common_of ds m Q Px) : ds.length = 1 ∧ T_common_of (endD Q Px) (startD ["numbers", "found", "n"] ds) m := by
  obtain ⟨ns, a, rfl, hn, hl, q⟩ := h
  refine ⟨rfl, ?_⟩
  simp only [T_common_of, startD, dSeq, dNext, dBreak, dCont, dSet, dIfE, dIfS, dB, dOp, dVar, dC, dCB, dCons, dNil, dUn, dRet, dRetN, dTup, dLst, dLstM, dCall, dDrop, dAsg, dT, Tg.d, Tgs.d, dNotT, dAndT, dOrT, dAndV, dOrV, dNotV, dPar, dFor, dSeqI, dRng1, dRng2, dZip2, dZip3, dEnum, dLC, dLCr, dLCM, finM, gII0, gII, onII, onI, gGcd, gNeg, gAdd, gIt, gIx, gLen, gTupC, gLstC, gLstCM, gAll, gAny, gBls, gSum, gIsi, gAbs, gInt, gStr, gEqB, gIsN, isNon, gRep, dRepM, dSl, dPart, dNoPart, gSl, dRev, dRevM, dM, dM0, gAppend, gPop, dFld, dSetF, dMeth, dMake, dPut, dDict, dPairs, dJoin, dJoined, dJs, dFmt, gIn, exOf, endD, on1, on2, ev_it0, ev_it1, ev_it2, ev_itn1, ev_itn, ev_len_t, ev_len_l, ev_sq_t, ev_sq_l, ev_lst_l, ev_so_t, ev_so_l, ev_so_k, ev_si_t, ev_si_l, ev_si_k, ev_ty_i, ev_ty_b, ev_ty_n, ev_ty_s, ev_ty_t, ev_ty_l, ev_eq_ii, ev_shp_i, ev_shp_b, ev_shp_n, ev_key_i, ev_key_s, kd_NoneType, kd_bool, kd_int, kd_str, kd_tuple, kd_list, kd_dict, ib_NoneType_NoneType, ib_NoneType_bool, ib_NoneType_int, ib_NoneType_str, ib_NoneType_tuple, ib_NoneType_list, ib_NoneType_dict, ib_bool_NoneType, ib_bool_bool, ib_bool_int, ib_bool_str, ib_bool_tuple, ib_bool_list, ib_bool_dict, ib_int_NoneType, ib_int_bool, ib_int_int, ib_int_str, ib_int_tuple, ib_int_list, ib_int_dict, ib_str_NoneType, ib_str_bool, ib_str_int, ib_str_str, ib_str_tuple, ib_str_list, ib_str_dict, ib_tuple_NoneType, ib_tuple_bool, ib_tuple_int, ib_tuple_str, ib_tuple_tuple, ib_tuple_list, ib_tuple_dict, ib_list_NoneType, ib_list_bool, ib_list_int, ib_list_str, ib_list_tuple, ib_list_list, ib_list_dict, ib_dict_NoneType, ib_dict_bool, ib_dict_int, ib_dict_str, ib_dict_tuple, ib_dict_list, ib_dict_dict, true_and, and_true, if_true, if_false, Bool.not_true, Bool.not_false, List.map_cons, List.map_nil, List.length_cons, List.length_nil, List.replicate, List.cons_append, List.nil_append, List.getElem?_cons_succ, List.getElem?_cons_zero, List.set_cons_succ, List.set_cons_zero, ite_true_eq, ite_false_eq, ite_nt_eq, ite_nf_eq, dec_true, dec_not, bxor_f, bxor_t]
  refine for_ind (fun items ρ m' => m' = m ∧ ∃ (td : List Nat) (f e : Nat) (o : Option D), items = (td.map fun (n : Nat) => D.int (n : Int)) ∧ ρ = [some (.lst (ns.map fun (n : Nat) => .int (n : Int))), some (.int (f : Int)), o] ∧ (∀ n ∈ td, n ∈ ns) ∧ 0 < f ∧ f < 2 ^ e ∧ e + td.length * (a + 1) ≤ 8001 ∧ td.foldl (fun f n => f * (n / Nat.gcd f n)) f = comN ns) ?_ ?_ _ _ _ ⟨rfl, ns, 1, 1, none, rfl, rfl, fun n h => h, by decide, by decide, by omega, rfl⟩
  · rintro d r ρ m' N hN ⟨rfl, td, f, e, o, e1, rfl, h1, h2, h3, h4, h5⟩
    cases td with
    | nil => cases e1
    | cons n td =>
      cases e1
      refine ⟨trivial, ?_⟩
      simp only [startD, dSeq, dNext, dBreak, dCont, dSet, dIfE, dIfS, dB, dOp, dVar, dC, dCB, dCons, dNil, dUn, dRet, dRetN, dTup, dLst, dLstM, dCall, dDrop, dAsg, dT, Tg.d, Tgs.d, dNotT, dAndT, dOrT, dAndV, dOrV, dNotV, dPar, dFor, dSeqI, dRng1, dRng2, dZip2, dZip3, dEnum, dLC, dLCr, dLCM, finM, gII0, gII, onII, onI, gGcd, gNeg, gAdd, gIt, gIx, gLen, gTupC, gLstC, gLstCM, gAll, gAny, gBls, gSum, gIsi, gAbs, gInt, gStr, gEqB, gIsN, isNon, gRep, dRepM, dSl, dPart, dNoPart, gSl, dRev, dRevM, dM, dM0, gAppend, gPop, dFld, dSetF, dMeth, dMake, dPut, dDict, dPairs, dJoin, dJoined, dJs, dFmt, gIn, exOf, endD, on1, on2, ev_it0, ev_it1, ev_it2, ev_itn1, ev_itn, ev_len_t, ev_len_l, ev_sq_t, ev_sq_l, ev_lst_l, ev_so_t, ev_so_l, ev_so_k, ev_si_t, ev_si_l, ev_si_k, ev_ty_i, ev_ty_b, ev_ty_n, ev_ty_s, ev_ty_t, ev_ty_l, ev_eq_ii, ev_shp_i, ev_shp_b, ev_shp_n, ev_key_i, ev_key_s, kd_NoneType, kd_bool, kd_int, kd_str, kd_tuple, kd_list, kd_dict, ib_NoneType_NoneType, ib_NoneType_bool, ib_NoneType_int, ib_NoneType_str, ib_NoneType_tuple, ib_NoneType_list, ib_NoneType_dict, ib_bool_NoneType, ib_bool_bool, ib_bool_int, ib_bool_str, ib_bool_tuple, ib_bool_list, ib_bool_dict, ib_int_NoneType, ib_int_bool, ib_int_int, ib_int_str, ib_int_tuple, ib_int_list, ib_int_dict, ib_str_NoneType, ib_str_bool, ib_str_int, ib_str_str, ib_str_tuple, ib_str_list, ib_str_dict, ib_tuple_NoneType, ib_tuple_bool, ib_tuple_int, ib_tuple_str, ib_tuple_tuple, ib_tuple_list, ib_tuple_dict, ib_list_NoneType, ib_list_bool, ib_list_int, ib_list_str, ib_list_tuple, ib_list_list, ib_list_dict, ib_dict_NoneType, ib_dict_bool, ib_dict_int, ib_dict_str, ib_dict_tuple, ib_dict_list, ib_dict_dict, true_and, and_true, if_true, if_false, Bool.not_true, Bool.not_false, List.map_cons, List.map_nil, List.length_cons, List.length_nil, List.replicate, List.cons_append, List.nil_append, List.getElem?_cons_succ, List.getElem?_cons_zero, List.set_cons_succ, List.set_cons_zero, ite_true_eq, ite_false_eq, ite_nt_eq, ite_nf_eq, dec_true, dec_not, bxor_f, bxor_t]
      obtain ⟨g1, g2⟩ := hn n (h1 n List.mem_cons_self)
      have gp : 0 < Nat.gcd f n := Nat.gcd_pos_of_pos_left _ h2
      have gl : Nat.gcd f n ≤ f := Nat.gcd_le_left _ h2
      have ed : ((n : Nat) : Int).fdiv ((Nat.gcd f n : Nat) : Int) = ((n / Nat.gcd f n : Nat) : Int) := by
        rw [Int.fdiv_eq_ediv_of_nonneg _ (by omega)]; omega
      have hq : n / Nat.gcd f n ≤ n := Nat.div_le_self _ _
      have q0 : 0 < n / Nat.gcd f n := Nat.div_pos (Nat.gcd_le_right _ g1) gp
      simp only [List.length_cons, Nat.add_mul, Nat.one_mul] at h4
      rw [Int.natAbs_natCast, Int.natAbs_natCast, ed]
      have b1 : f.log2 ≤ e := lg_le h3
      have b2 : (n / Nat.gcd f n).log2 ≤ a := lg_le (by omega)
      refine ⟨cv_small (by omega) (by rw [Int.natAbs_natCast]; exact Nat.lt_of_le_of_lt gl (pow_le_8999 h3 (by omega))), cm_small (by rw [Int.natAbs_natCast]; exact b1) (by rw [Int.natAbs_natCast]; exact b2) (by omega), hN _ _ ⟨rfl, td, f * (n / Nat.gcd f n), e + a, _, rfl, by rw [Int.natCast_mul], fun n hn => h1 n (List.mem_cons_of_mem _ hn), Nat.mul_pos h2 q0, mul_lt2 h3 (by omega), by omega, h5⟩⟩
  · rintro ρ m' ⟨rfl, td, f, e, o, e1, rfl, h1, h2, h3, h4, h5⟩
    cases td with
    | cons n td => cases e1
    | nil =>
      refine ⟨trivial, ?_⟩
      simp only [startD, dSeq, dNext, dBreak, dCont, dSet, dIfE, dIfS, dB, dOp, dVar, dC, dCB, dCons, dNil, dUn, dRet, dRetN, dTup, dLst, dLstM, dCall, dDrop, dAsg, dT, Tg.d, Tgs.d, dNotT, dAndT, dOrT, dAndV, dOrV, dNotV, dPar, dFor, dSeqI, dRng1, dRng2, dZip2, dZip3, dEnum, dLC, dLCr, dLCM, finM, gII0, gII, onII, onI, gGcd, gNeg, gAdd, gIt, gIx, gLen, gTupC, gLstC, gLstCM, gAll, gAny, gBls, gSum, gIsi, gAbs, gInt, gStr, gEqB, gIsN, isNon, gRep, dRepM, dSl, dPart, dNoPart, gSl, dRev, dRevM, dM, dM0, gAppend, gPop, dFld, dSetF, dMeth, dMake, dPut, dDict, dPairs, dJoin, dJoined, dJs, dFmt, gIn, exOf, endD, on1, on2, ev_it0, ev_it1, ev_it2, ev_itn1, ev_itn, ev_len_t, ev_len_l, ev_sq_t, ev_sq_l, ev_lst_l, ev_so_t, ev_so_l, ev_so_k, ev_si_t, ev_si_l, ev_si_k, ev_ty_i, ev_ty_b, ev_ty_n, ev_ty_s, ev_ty_t, ev_ty_l, ev_eq_ii, ev_shp_i, ev_shp_b, ev_shp_n, ev_key_i, ev_key_s, kd_NoneType, kd_bool, kd_int, kd_str, kd_tuple, kd_list, kd_dict, ib_NoneType_NoneType, ib_NoneType_bool, ib_NoneType_int, ib_NoneType_str, ib_NoneType_tuple, ib_NoneType_list, ib_NoneType_dict, ib_bool_NoneType, ib_bool_bool, ib_bool_int, ib_bool_str, ib_bool_tuple, ib_bool_list, ib_bool_dict, ib_int_NoneType, ib_int_bool, ib_int_int, ib_int_str, ib_int_tuple, ib_int_list, ib_int_dict, ib_str_NoneType, ib_str_bool, ib_str_int, ib_str_str, ib_str_tuple, ib_str_list, ib_str_dict, ib_tuple_NoneType, ib_tuple_bool, ib_tuple_int, ib_tuple_str, ib_tuple_tuple, ib_tuple_list, ib_tuple_dict, ib_list_NoneType, ib_list_bool, ib_list_int, ib_list_str, ib_list_tuple, ib_list_list, ib_list_dict, ib_dict_NoneType, ib_dict_bool, ib_dict_int, ib_dict_str, ib_dict_tuple, ib_dict_list, ib_dict_dict, true_and, and_true, if_true, if_false, Bool.not_true, Bool.not_false, List.map_cons, List.map_nil, List.length_cons, List.length_nil, List.replicate, List.cons_append, List.nil_append, List.getElem?_cons_succ, List.getElem?_cons_zero, List.set_cons_succ, List.set_cons_zero, ite_true_eq, ite_false_eq, ite_nt_eq, ite_nf_eq, dec_true, dec_not, bxor_f, bxor_t]
      refine ⟨m', _, .refl, ?_⟩
      rw [← h5] at q; exact q
/-! facts: a common multiple, keys, order -/
theorem com_fold : ∀ (ns : List Nat) (f a e : Nat), 0 < f → f < 2 ^ e → (∀ n ∈ ns, 0 < n ∧ n < 2 ^ a) →
    0 < ns.foldl (fun f n => f * (n / Nat.gcd f n)) f ∧ f ∣ ns.foldl (fun f n => f * (n / Nat.gcd f n)) f ∧ (∀ n ∈ ns, n ∣ ns.foldl (fun f n => f * (n / Nat.gcd f n)) f) ∧ ns.foldl (fun f n => f * (n / Nat.gcd f n)) f < 2 ^ (e + ns.length * a)
  | [], f, a, e, h0, h1, _ => ⟨h0, Nat.dvd_refl _, fun _ h => (List.not_mem_nil h).elim, by simpa using h1⟩
  | n :: ns, f, a, e, h0, h1, h2 => by
    obtain ⟨g1, g2⟩ := h2 n List.mem_cons_self
    have gp : 0 < Nat.gcd f n := Nat.gcd_pos_of_pos_left _ h0
    have q0 : 0 < n / Nat.gcd f n := Nat.div_pos (Nat.gcd_le_right _ g1) gp
    have q1 : n / Nat.gcd f n < 2 ^ a := Nat.lt_of_le_of_lt (Nat.div_le_self _ _) g2
    obtain ⟨k1, k2, k3, k4⟩ := com_fold ns (f * (n / Nat.gcd f n)) a (e + a) (Nat.mul_pos h0 q0) (mul_lt2 h1 q1) fun x hx => h2 x (List.mem_cons_of_mem _ hx)
    have dn : n ∣ f * (n / Nat.gcd f n) := by
      obtain ⟨c, hc⟩ := Nat.gcd_dvd_left f n
      refine ⟨c, ?_⟩
      have e2 : Nat.gcd f n * (n / Nat.gcd f n) = n := Nat.mul_div_cancel' (Nat.gcd_dvd_right f n)
      calc f * (n / Nat.gcd f n) = Nat.gcd f n * c * (n / Nat.gcd f n) := by rw [← hc]
        _ = Nat.gcd f n * (n / Nat.gcd f n) * c := Nat.mul_right_comm _ _ _
        _ = n * c := by rw [e2]
    refine ⟨k1, Nat.dvd_trans (Nat.dvd_mul_right _ _) k2, fun x hx => ?_, ?_⟩
    · rcases List.mem_cons.mp hx with rfl | hx
      · exact Nat.dvd_trans dn k2
      · exact k3 x hx
    · have : e + a + ns.length * a = e + (ns.length + 1) * a := by rw [Nat.add_mul]; omega
      rw [this] at k4
      exact k4
theorem nodup_map_on {α β : Type} {f : α → β} : ∀ {l : List α}, (∀ x ∈ l, ∀ y ∈ l, f x = f y → x = y) → l.Nodup → (l.map f).Nodup
  | [], _, _ => .nil
  | a :: l, h, n => by
    rw [List.nodup_cons] at n
    rw [List.map_cons, List.nodup_cons]
    refine ⟨fun q => ?_, nodup_map_on (fun x hx y hy => h x (List.mem_cons_of_mem _ hx) y (List.mem_cons_of_mem _ hy)) n.2⟩
    obtain ⟨b, hb, e⟩ := List.mem_map.mp q
    exact n.1 (h b (List.mem_cons_of_mem _ hb) a List.mem_cons_self e ▸ hb)
def keyQ (q : Rat) : List Key := [.inl q.num, .inl (q.den : Int)]
theorem keys_enc (q : Rat) : keysD (enc q) = some (keyQ q) := rfl
theorem keyQ_inj {p q : Rat} (h : keyQ p = keyQ q) : p = q := by
  unfold keyQ at h
  have h1 := (List.cons.inj h).1
  have h2 := (List.cons.inj (List.cons.inj h).2).1
  have e1 : p.num = q.num := Sum.inl.inj h1
  have e2 : (p.den : Int) = (q.den : Int) := Sum.inl.inj h2
  exact Rat.ext e1 (by omega)
theorem once_enc : ∀ (r seen : List Rat), ∃ o : List Rat, onceD (r.map enc) (seen.map keyQ) = o.map enc ∧ o.Nodup ∧ (∀ x ∈ o, x ∈ r ∧ x ∉ seen) ∧ o.length ≤ r.length
  | [], _ => ⟨[], rfl, .nil, fun _ h => (List.not_mem_nil h).elim, Nat.le_refl _⟩
  | q :: r, seen => by
    have hd : ((seen.map keyQ).any fun s => decide (s = keyQ q)) = decide (q ∈ seen) := by
      rw [Bool.eq_iff_iff, List.any_eq_true, decide_eq_true_iff]
      constructor
      · rintro ⟨k, hk, e⟩
        obtain ⟨p, hp, rfl⟩ := List.mem_map.mp hk
        exact keyQ_inj (of_decide_eq_true e) ▸ hp
      · exact fun h => ⟨keyQ q, List.mem_map_of_mem h, decide_eq_true rfl⟩
    rw [List.map_cons, onceD, keys_enc]
    simp only [hd]
    by_cases h : q ∈ seen
    · obtain ⟨o, e, h1, h2, h3⟩ := once_enc r seen
      rw [decide_eq_true h, if_pos rfl]
      exact ⟨o, e, h1, fun x hx => ⟨List.mem_cons_of_mem _ (h2 x hx).1, (h2 x hx).2⟩, Nat.le_succ_of_le h3⟩
    · obtain ⟨o, e, h1, h2, h3⟩ := once_enc r (q :: seen)
      rw [decide_eq_false h, if_neg (by decide)]
      refine ⟨q :: o, by rw [List.map_cons, ← e]; rfl, List.nodup_cons.mpr ⟨fun hq => (h2 q hq).2 List.mem_cons_self, h1⟩, fun x hx => ?_, Nat.succ_le_succ h3⟩
      rcases List.mem_cons.mp hx with rfl | hx
      · exact ⟨List.mem_cons_self, h⟩
      · exact ⟨List.mem_cons_of_mem _ (h2 x hx).1, fun hs => (h2 x hx).2 (List.mem_cons_of_mem _ hs)⟩
/-- a fraction over a common multiple -/
def kq (C : Nat) (q : Rat) : Int := q.num * ((C / q.den : Nat) : Int)
theorem kq_lt {C : Nat} {p q : Rat} (h0 : 0 < C) (hp : p.den ∣ C) (hq : q.den ∣ C) : kq C p < kq C q ↔ p < q := by
  have ep : ((C / p.den : Nat) : Int) * (p.den : Int) = (C : Int) := by rw [← Int.natCast_mul, Nat.div_mul_cancel hp]
  have eq : ((C / q.den : Nat) : Int) * (q.den : Int) = (C : Int) := by rw [← Int.natCast_mul, Nat.div_mul_cancel hq]
  have dp : (0 : Int) < (p.den : Int) := by have := p.den_pos; omega
  have dq : (0 : Int) < (q.den : Int) := by have := q.den_pos; omega
  have hc : (0 : Int) < (C : Int) := by omega
  have dd : (0 : Int) < (p.den : Int) * (q.den : Int) := Int.mul_pos dp dq
  have e1 : kq C p * ((p.den : Int) * (q.den : Int)) = p.num * (q.den : Int) * (C : Int) := by
    unfold kq; rw [← ep]; ac_rfl
  have e2 : kq C q * ((p.den : Int) * (q.den : Int)) = q.num * (p.den : Int) * (C : Int) := by
    unfold kq; rw [← eq]; ac_rfl
  rw [Rat.lt_iff]
  constructor
  · intro h
    have := Int.mul_lt_mul_of_pos_right h dd
    rw [e1, e2] at this
    exact Int.lt_of_mul_lt_mul_right this (Int.le_of_lt hc)
  · intro h
    have := Int.mul_lt_mul_of_pos_right h hc
    rw [← e1, ← e2] at this
    exact Int.lt_of_mul_lt_mul_right this (Int.le_of_lt dd)
theorem kq_inj {C : Nat} {p q : Rat} (h0 : 0 < C) (hp : p.den ∣ C) (hq : q.den ∣ C) (h : kq C p = kq C q) : p = q := by
  have a : ¬ p < q := fun x => by have := (kq_lt h0 hp hq).mpr x; omega
  have b : ¬ q < p := fun x => by have := (kq_lt h0 hq hp).mpr x; omega
  exact Rat.le_antisymm (Rat.not_lt.mp b) (Rat.not_lt.mp a)
def keyedD (C : Nat) (q : Rat) : D := .tup [.int (kq C q), enc q]
def unKey : D → Rat
  | .tup [_, .tup [.int n, .int d]] => mkRat n d.toNat
  | _ => 0
theorem unKey_keyed (C : Nat) (q : Rat) : unKey (keyedD C q) = q := by
  show mkRat q.num ((q.den : Int).toNat) = q
  rw [Int.toNat_natCast]
  exact Rat.mkRat_self q
def sndD : D → D
  | .tup [_, y] => y
  | _ => .non
def keyOverD (C : Nat) : D → D
  | .tup [.int n, .int d] => .tup [.int (n * ((C / d.toNat : Nat) : Int)), .tup [.int n, .int d]]
  | _ => .non
def T_ascending : DSt := (dSeq (dSet 1 (dLSet (dSeqI (dVar 0))))
  (dSeq (dSet 2 (dCall S_common_of (dCons (dLC (dSeqI (dVar 1)) (.tp [(.nm 4), (.nm 5)]) dYes (dVar 5) [4, 5]) dNil)))
  (dRet (dLC (dSeqI (dCB gSortP (dCons (dLC (dSeqI (dVar 1)) (.nm 3) dYes (dTup (dCons (dOp gMul (dOp gIt (dVar 3) (dC (.int 0))) (dOp gFdv (dVar 2) (dOp gIt (dVar 3) (dC (.int 1))))) (dCons (dVar 3) dNil))) [3]) dNil))) (.tp [(.nm 6), (.nm 3)]) dYes (dVar 3) [6, 3]))))
theorem H_ascending (ds : List D) (m : MM) (Q : D → MM → Prop) (Px : XC) (h : S_ascending ds m Q Px) : ds.length = 1 ∧ T_ascending (endD Q Px) (startD ["fractions", "once", "common", "one", "n", "d", "key"] ds) m := by
  obtain ⟨r, a, rfl, hr, hl, q⟩ := h
  refine ⟨rfl, ?_⟩
  simp only [T_ascending, dLSet, startD, dSeq, dNext, dBreak, dCont, dSet, dIfE, dIfS, dB, dOp, dVar, dC, dCB, dCons, dNil, dUn, dRet, dRetN, dTup, dLst, dLstM, dCall, dDrop, dAsg, dT, Tg.d, Tgs.d, dNotT, dAndT, dOrT, dAndV, dOrV, dNotV, dPar, dFor, dSeqI, dRng1, dRng2, dZip2, dZip3, dEnum, dLC, dLCr, dLCM, finM, gII0, gII, onII, onI, gGcd, gNeg, gAdd, gIt, gIx, gLen, gTupC, gLstC, gLstCM, gAll, gAny, gBls, gSum, gIsi, gAbs, gInt, gStr, gEqB, gIsN, isNon, gRep, dRepM, dSl, dPart, dNoPart, gSl, dRev, dRevM, dM, dM0, gAppend, gPop, dFld, dSetF, dMeth, dMake, dPut, dDict, dPairs, dJoin, dJoined, dJs, dFmt, gIn, exOf, endD, on1, on2, ev_it0, ev_it1, ev_it2, ev_itn1, ev_itn, ev_len_t, ev_len_l, ev_sq_t, ev_sq_l, ev_lst_l, ev_so_t, ev_so_l, ev_so_k, ev_si_t, ev_si_l, ev_si_k, ev_ty_i, ev_ty_b, ev_ty_n, ev_ty_s, ev_ty_t, ev_ty_l, ev_eq_ii, ev_shp_i, ev_shp_b, ev_shp_n, ev_key_i, ev_key_s, kd_NoneType, kd_bool, kd_int, kd_str, kd_tuple, kd_list, kd_dict, ib_NoneType_NoneType, ib_NoneType_bool, ib_NoneType_int, ib_NoneType_str, ib_NoneType_tuple, ib_NoneType_list, ib_NoneType_dict, ib_bool_NoneType, ib_bool_bool, ib_bool_int, ib_bool_str, ib_bool_tuple, ib_bool_list, ib_bool_dict, ib_int_NoneType, ib_int_bool, ib_int_int, ib_int_str, ib_int_tuple, ib_int_list, ib_int_dict, ib_str_NoneType, ib_str_bool, ib_str_int, ib_str_str, ib_str_tuple, ib_str_list, ib_str_dict, ib_tuple_NoneType, ib_tuple_bool, ib_tuple_int, ib_tuple_str, ib_tuple_tuple, ib_tuple_list, ib_tuple_dict, ib_list_NoneType, ib_list_bool, ib_list_int, ib_list_str, ib_list_tuple, ib_list_list, ib_list_dict, ib_dict_NoneType, ib_dict_bool, ib_dict_int, ib_dict_str, ib_dict_tuple, ib_dict_list, ib_dict_dict, true_and, and_true, if_true, if_false, Bool.not_true, Bool.not_false, List.map_cons, List.map_nil, List.length_cons, List.length_nil, List.replicate, List.cons_append, List.nil_append, List.getElem?_cons_succ, List.getElem?_cons_zero, List.set_cons_succ, List.set_cons_zero, ite_true_eq, ite_false_eq, ite_nt_eq, ite_nf_eq, dec_true, dec_not, bxor_f, bxor_t]
  have rl : r.length ≤ 4000 := Nat.le_trans (Nat.le_mul_of_pos_right _ (Nat.succ_pos a)) hl
  obtain ⟨o, e, o1, o2, o3⟩ := once_enc r []
  rw [List.map_nil] at e
  refine ⟨fun _ _ _ => trivial, by rw [List.length_map]; omega, fun d hd => ?_, ?_⟩
  · obtain ⟨x, _, rfl⟩ := List.mem_map.mp hd
    exact ⟨_, keys_enc x⟩
  rw [e]
  have dn : ∀ n ∈ o.map (·.den), 0 < n ∧ n < 2 ^ a := fun n hn => by
    obtain ⟨x, hx, rfl⟩ := List.mem_map.mp hn
    exact ⟨x.den_pos, (hr x (o2 x hx).1).2⟩
  obtain ⟨c1, _, c2, c3⟩ := com_fold (o.map (·.den)) 1 a 1 (by decide) (by decide) dn
  change 0 < comN (o.map (·.den)) at c1
  change ∀ n ∈ _, n ∣ comN (o.map (·.den)) at c2
  change comN (o.map (·.den)) < _ at c3
  generalize hC : comN (o.map (·.den)) = C at c1 c2 c3
  have cd : ∀ x ∈ o, x.den ∣ C := fun x hx => c2 _ (List.mem_map_of_mem hx)
  have oa : o.length * (a + 1) ≤ 4000 := Nat.le_trans (Nat.mul_le_mul_right _ o3) hl
  intro p hp
  refine lc_pure sndD _ hp (fun _ => trivial) (fun d hd acc Q1 q1 => ?_) (by rw [List.length_map]; exact big_of (by omega)) ?_
  · obtain ⟨x, _, rfl⟩ := List.mem_map.mp hd
    exact ⟨_, rfl, by simp only [wipeD, startD, dSeq, dNext, dBreak, dCont, dSet, dIfE, dIfS, dB, dOp, dVar, dC, dCB, dCons, dNil, dUn, dRet, dRetN, dTup, dLst, dLstM, dCall, dDrop, dAsg, dT, Tg.d, Tgs.d, dNotT, dAndT, dOrT, dAndV, dOrV, dNotV, dPar, dFor, dSeqI, dRng1, dRng2, dZip2, dZip3, dEnum, dLC, dLCr, dLCM, finM, gII0, gII, onII, onI, gGcd, gNeg, gAdd, gIt, gIx, gLen, gTupC, gLstC, gLstCM, gAll, gAny, gBls, gSum, gIsi, gAbs, gInt, gStr, gEqB, gIsN, isNon, gRep, dRepM, dSl, dPart, dNoPart, gSl, dRev, dRevM, dM, dM0, gAppend, gPop, dFld, dSetF, dMeth, dMake, dPut, dDict, dPairs, dJoin, dJoined, dJs, dFmt, gIn, exOf, endD, on1, on2, ev_it0, ev_it1, ev_it2, ev_itn1, ev_itn, ev_len_t, ev_len_l, ev_sq_t, ev_sq_l, ev_lst_l, ev_so_t, ev_so_l, ev_so_k, ev_si_t, ev_si_l, ev_si_k, ev_ty_i, ev_ty_b, ev_ty_n, ev_ty_s, ev_ty_t, ev_ty_l, ev_eq_ii, ev_shp_i, ev_shp_b, ev_shp_n, ev_key_i, ev_key_s, kd_NoneType, kd_bool, kd_int, kd_str, kd_tuple, kd_list, kd_dict, ib_NoneType_NoneType, ib_NoneType_bool, ib_NoneType_int, ib_NoneType_str, ib_NoneType_tuple, ib_NoneType_list, ib_NoneType_dict, ib_bool_NoneType, ib_bool_bool, ib_bool_int, ib_bool_str, ib_bool_tuple, ib_bool_list, ib_bool_dict, ib_int_NoneType, ib_int_bool, ib_int_int, ib_int_str, ib_int_tuple, ib_int_list, ib_int_dict, ib_str_NoneType, ib_str_bool, ib_str_int, ib_str_str, ib_str_tuple, ib_str_list, ib_str_dict, ib_tuple_NoneType, ib_tuple_bool, ib_tuple_int, ib_tuple_str, ib_tuple_tuple, ib_tuple_list, ib_tuple_dict, ib_list_NoneType, ib_list_bool, ib_list_int, ib_list_str, ib_list_tuple, ib_list_list, ib_list_dict, ib_dict_NoneType, ib_dict_bool, ib_dict_int, ib_dict_str, ib_dict_tuple, ib_dict_list, ib_dict_dict, true_and, and_true, if_true, if_false, Bool.not_true, Bool.not_false, List.map_cons, List.map_nil, List.length_cons, List.length_nil, List.replicate, List.cons_append, List.nil_append, List.getElem?_cons_succ, List.getElem?_cons_zero, List.set_cons_succ, List.set_cons_zero, ite_true_eq, ite_false_eq, ite_nt_eq, ite_nf_eq, dec_true, dec_not, bxor_f, bxor_t]; exact q1⟩
  have es : (o.map enc).map sndD = (o.map (·.den)).map fun (n : Nat) => .int (n : Int) := by
    rw [List.map_map, List.map_map]; rfl
  rw [es]
  refine ⟨_, a, rfl, dn, by rw [List.length_map]; omega, ?_⟩
  rw [hC]
  simp only [startD, dSeq, dNext, dBreak, dCont, dSet, dIfE, dIfS, dB, dOp, dVar, dC, dCB, dCons, dNil, dUn, dRet, dRetN, dTup, dLst, dLstM, dCall, dDrop, dAsg, dT, Tg.d, Tgs.d, dNotT, dAndT, dOrT, dAndV, dOrV, dNotV, dPar, dFor, dSeqI, dRng1, dRng2, dZip2, dZip3, dEnum, dLC, dLCr, dLCM, finM, gII0, gII, onII, onI, gGcd, gNeg, gAdd, gIt, gIx, gLen, gTupC, gLstC, gLstCM, gAll, gAny, gBls, gSum, gIsi, gAbs, gInt, gStr, gEqB, gIsN, isNon, gRep, dRepM, dSl, dPart, dNoPart, gSl, dRev, dRevM, dM, dM0, gAppend, gPop, dFld, dSetF, dMeth, dMake, dPut, dDict, dPairs, dJoin, dJoined, dJs, dFmt, gIn, exOf, endD, on1, on2, ev_it0, ev_it1, ev_it2, ev_itn1, ev_itn, ev_len_t, ev_len_l, ev_sq_t, ev_sq_l, ev_lst_l, ev_so_t, ev_so_l, ev_so_k, ev_si_t, ev_si_l, ev_si_k, ev_ty_i, ev_ty_b, ev_ty_n, ev_ty_s, ev_ty_t, ev_ty_l, ev_eq_ii, ev_shp_i, ev_shp_b, ev_shp_n, ev_key_i, ev_key_s, kd_NoneType, kd_bool, kd_int, kd_str, kd_tuple, kd_list, kd_dict, ib_NoneType_NoneType, ib_NoneType_bool, ib_NoneType_int, ib_NoneType_str, ib_NoneType_tuple, ib_NoneType_list, ib_NoneType_dict, ib_bool_NoneType, ib_bool_bool, ib_bool_int, ib_bool_str, ib_bool_tuple, ib_bool_list, ib_bool_dict, ib_int_NoneType, ib_int_bool, ib_int_int, ib_int_str, ib_int_tuple, ib_int_list, ib_int_dict, ib_str_NoneType, ib_str_bool, ib_str_int, ib_str_str, ib_str_tuple, ib_str_list, ib_str_dict, ib_tuple_NoneType, ib_tuple_bool, ib_tuple_int, ib_tuple_str, ib_tuple_tuple, ib_tuple_list, ib_tuple_dict, ib_list_NoneType, ib_list_bool, ib_list_int, ib_list_str, ib_list_tuple, ib_list_list, ib_list_dict, ib_dict_NoneType, ib_dict_bool, ib_dict_int, ib_dict_str, ib_dict_tuple, ib_dict_list, ib_dict_dict, true_and, and_true, if_true, if_false, Bool.not_true, Bool.not_false, List.map_cons, List.map_nil, List.length_cons, List.length_nil, List.replicate, List.cons_append, List.nil_append, List.getElem?_cons_succ, List.getElem?_cons_zero, List.set_cons_succ, List.set_cons_zero, ite_true_eq, ite_false_eq, ite_nt_eq, ite_nf_eq, dec_true, dec_not, bxor_f, bxor_t]
  intro p2 hp2
  refine lc_pure (keyOverD C) _ hp2 (fun _ => trivial) (fun d hd acc Q1 q1 => ?_) (by rw [List.length_map]; exact big_of (by omega)) ?_
  · obtain ⟨x, hx, rfl⟩ := List.mem_map.mp hd
    refine ⟨_, rfl, ?_⟩
    simp only [wipeD, enc, startD, dSeq, dNext, dBreak, dCont, dSet, dIfE, dIfS, dB, dOp, dVar, dC, dCB, dCons, dNil, dUn, dRet, dRetN, dTup, dLst, dLstM, dCall, dDrop, dAsg, dT, Tg.d, Tgs.d, dNotT, dAndT, dOrT, dAndV, dOrV, dNotV, dPar, dFor, dSeqI, dRng1, dRng2, dZip2, dZip3, dEnum, dLC, dLCr, dLCM, finM, gII0, gII, onII, onI, gGcd, gNeg, gAdd, gIt, gIx, gLen, gTupC, gLstC, gLstCM, gAll, gAny, gBls, gSum, gIsi, gAbs, gInt, gStr, gEqB, gIsN, isNon, gRep, dRepM, dSl, dPart, dNoPart, gSl, dRev, dRevM, dM, dM0, gAppend, gPop, dFld, dSetF, dMeth, dMake, dPut, dDict, dPairs, dJoin, dJoined, dJs, dFmt, gIn, exOf, endD, on1, on2, ev_it0, ev_it1, ev_it2, ev_itn1, ev_itn, ev_len_t, ev_len_l, ev_sq_t, ev_sq_l, ev_lst_l, ev_so_t, ev_so_l, ev_so_k, ev_si_t, ev_si_l, ev_si_k, ev_ty_i, ev_ty_b, ev_ty_n, ev_ty_s, ev_ty_t, ev_ty_l, ev_eq_ii, ev_shp_i, ev_shp_b, ev_shp_n, ev_key_i, ev_key_s, kd_NoneType, kd_bool, kd_int, kd_str, kd_tuple, kd_list, kd_dict, ib_NoneType_NoneType, ib_NoneType_bool, ib_NoneType_int, ib_NoneType_str, ib_NoneType_tuple, ib_NoneType_list, ib_NoneType_dict, ib_bool_NoneType, ib_bool_bool, ib_bool_int, ib_bool_str, ib_bool_tuple, ib_bool_list, ib_bool_dict, ib_int_NoneType, ib_int_bool, ib_int_int, ib_int_str, ib_int_tuple, ib_int_list, ib_int_dict, ib_str_NoneType, ib_str_bool, ib_str_int, ib_str_str, ib_str_tuple, ib_str_list, ib_str_dict, ib_tuple_NoneType, ib_tuple_bool, ib_tuple_int, ib_tuple_str, ib_tuple_tuple, ib_tuple_list, ib_tuple_dict, ib_list_NoneType, ib_list_bool, ib_list_int, ib_list_str, ib_list_tuple, ib_list_list, ib_list_dict, ib_dict_NoneType, ib_dict_bool, ib_dict_int, ib_dict_str, ib_dict_tuple, ib_dict_list, ib_dict_dict, true_and, and_true, if_true, if_false, Bool.not_true, Bool.not_false, List.map_cons, List.map_nil, List.length_cons, List.length_nil, List.replicate, List.cons_append, List.nil_append, List.getElem?_cons_succ, List.getElem?_cons_zero, List.set_cons_succ, List.set_cons_zero, ite_true_eq, ite_false_eq, ite_nt_eq, ite_nf_eq, dec_true, dec_not, bxor_f, bxor_t]
    obtain ⟨s1, s2⟩ := hr x (o2 x hx).1
    have op : 1 ≤ o.length := by
      cases o with
      | nil => exact (List.not_mem_nil hx).elim
      | cons _ _ => rw [List.length_cons]; omega
    have a4 : a + 1 ≤ 4000 := Nat.le_trans (Nat.le_mul_of_pos_left _ op) oa
    have ed : ((C : Nat) : Int).fdiv ((x.den : Nat) : Int) = ((C / x.den : Nat) : Int) := by
      rw [Int.fdiv_eq_ediv_of_nonneg _ (by omega)]; omega
    have dp : 0 < x.den := x.den_pos
    rw [ed]
    have la : o.length * a ≤ 4000 := Nat.le_trans (Nat.mul_le_mul_left _ (Nat.le_succ a)) oa
    rw [List.length_map] at c3
    refine ⟨cv_small (by omega) (by rw [Int.natAbs_natCast]; exact pow_le_8999 s2 (by omega)), cm_small (lg_le s1) (by rw [Int.natAbs_natCast]; exact lg_le (Nat.lt_of_le_of_lt (Nat.div_le_self _ _) c3)) (by omega), big_of (by decide), ?_⟩
    simp only [keyOverD, enc, Int.toNat_natCast] at q1
    exact q1
  have ev : (o.map enc).map (keyOverD C) = o.map (keyedD C) := by
    rw [List.map_map]
    refine List.map_congr_left fun x _ => ?_
    show keyOverD C (enc x) = keyedD C x
    simp only [keyOverD, keyedD, enc, kq, Int.toNat_natCast]
  rw [ev]
  simp only [gSortP, startD, dSeq, dNext, dBreak, dCont, dSet, dIfE, dIfS, dB, dOp, dVar, dC, dCB, dCons, dNil, dUn, dRet, dRetN, dTup, dLst, dLstM, dCall, dDrop, dAsg, dT, Tg.d, Tgs.d, dNotT, dAndT, dOrT, dAndV, dOrV, dNotV, dPar, dFor, dSeqI, dRng1, dRng2, dZip2, dZip3, dEnum, dLC, dLCr, dLCM, finM, gII0, gII, onII, onI, gGcd, gNeg, gAdd, gIt, gIx, gLen, gTupC, gLstC, gLstCM, gAll, gAny, gBls, gSum, gIsi, gAbs, gInt, gStr, gEqB, gIsN, isNon, gRep, dRepM, dSl, dPart, dNoPart, gSl, dRev, dRevM, dM, dM0, gAppend, gPop, dFld, dSetF, dMeth, dMake, dPut, dDict, dPairs, dJoin, dJoined, dJs, dFmt, gIn, exOf, endD, on1, on2, ev_it0, ev_it1, ev_it2, ev_itn1, ev_itn, ev_len_t, ev_len_l, ev_sq_t, ev_sq_l, ev_lst_l, ev_so_t, ev_so_l, ev_so_k, ev_si_t, ev_si_l, ev_si_k, ev_ty_i, ev_ty_b, ev_ty_n, ev_ty_s, ev_ty_t, ev_ty_l, ev_eq_ii, ev_shp_i, ev_shp_b, ev_shp_n, ev_key_i, ev_key_s, kd_NoneType, kd_bool, kd_int, kd_str, kd_tuple, kd_list, kd_dict, ib_NoneType_NoneType, ib_NoneType_bool, ib_NoneType_int, ib_NoneType_str, ib_NoneType_tuple, ib_NoneType_list, ib_NoneType_dict, ib_bool_NoneType, ib_bool_bool, ib_bool_int, ib_bool_str, ib_bool_tuple, ib_bool_list, ib_bool_dict, ib_int_NoneType, ib_int_bool, ib_int_int, ib_int_str, ib_int_tuple, ib_int_list, ib_int_dict, ib_str_NoneType, ib_str_bool, ib_str_int, ib_str_str, ib_str_tuple, ib_str_list, ib_str_dict, ib_tuple_NoneType, ib_tuple_bool, ib_tuple_int, ib_tuple_str, ib_tuple_tuple, ib_tuple_list, ib_tuple_dict, ib_list_NoneType, ib_list_bool, ib_list_int, ib_list_str, ib_list_tuple, ib_list_list, ib_list_dict, ib_dict_NoneType, ib_dict_bool, ib_dict_int, ib_dict_str, ib_dict_tuple, ib_dict_list, ib_dict_dict, true_and, and_true, if_true, if_false, Bool.not_true, Bool.not_false, List.map_cons, List.map_nil, List.length_cons, List.length_nil, List.replicate, List.cons_append, List.nil_append, List.getElem?_cons_succ, List.getElem?_cons_zero, List.set_cons_succ, List.set_cons_zero, ite_true_eq, ite_false_eq, ite_nt_eq, ite_nf_eq, dec_true, dec_not, bxor_f, bxor_t]
  refine ⟨fun y hy => ?_, ?_, fun out u1 u2 p3 hp3 => ?_⟩
  · obtain ⟨x, _, rfl⟩ := List.mem_map.mp hy
    exact ⟨_, rfl⟩
  · rw [List.map_map]
    refine nodup_map_on (fun x hx y hy h => ?_) o1
    have h' : some (kq C x) = some (kq C y) := h
    exact kq_inj c1 (cd x hx) (cd y hy) (Option.some.inj h')
  · have pm : (out.map unKey).Perm o := by
      have := u1.map unKey
      rw [List.map_map] at this
      refine this.trans (List.Perm.of_eq ?_)
      exact (List.map_congr_left fun x _ => unKey_keyed C x).trans (List.map_id _)
    have eo : out = (out.map unKey).map (keyedD C) := by
      rw [List.map_map]
      refine (List.map_id _).symm.trans (List.map_congr_left fun d hd => ?_)
      obtain ⟨x, _, rfl⟩ := List.mem_map.mp (u1.mem_iff.mp hd)
      show keyedD C x = keyedD C (unKey (keyedD C x))
      rw [unKey_keyed]
    generalize out.map unKey = qs at pm eo
    subst eo
    refine lc_pure sndD _ hp3 (fun _ => trivial) (fun d hd acc Q1 q1 => ?_) (by rw [List.length_map, pm.length_eq]; exact big_of (by omega)) ?_
    · obtain ⟨x, _, rfl⟩ := List.mem_map.mp hd
      exact ⟨_, rfl, by simp only [wipeD, startD, dSeq, dNext, dBreak, dCont, dSet, dIfE, dIfS, dB, dOp, dVar, dC, dCB, dCons, dNil, dUn, dRet, dRetN, dTup, dLst, dLstM, dCall, dDrop, dAsg, dT, Tg.d, Tgs.d, dNotT, dAndT, dOrT, dAndV, dOrV, dNotV, dPar, dFor, dSeqI, dRng1, dRng2, dZip2, dZip3, dEnum, dLC, dLCr, dLCM, finM, gII0, gII, onII, onI, gGcd, gNeg, gAdd, gIt, gIx, gLen, gTupC, gLstC, gLstCM, gAll, gAny, gBls, gSum, gIsi, gAbs, gInt, gStr, gEqB, gIsN, isNon, gRep, dRepM, dSl, dPart, dNoPart, gSl, dRev, dRevM, dM, dM0, gAppend, gPop, dFld, dSetF, dMeth, dMake, dPut, dDict, dPairs, dJoin, dJoined, dJs, dFmt, gIn, exOf, endD, on1, on2, ev_it0, ev_it1, ev_it2, ev_itn1, ev_itn, ev_len_t, ev_len_l, ev_sq_t, ev_sq_l, ev_lst_l, ev_so_t, ev_so_l, ev_so_k, ev_si_t, ev_si_l, ev_si_k, ev_ty_i, ev_ty_b, ev_ty_n, ev_ty_s, ev_ty_t, ev_ty_l, ev_eq_ii, ev_shp_i, ev_shp_b, ev_shp_n, ev_key_i, ev_key_s, kd_NoneType, kd_bool, kd_int, kd_str, kd_tuple, kd_list, kd_dict, ib_NoneType_NoneType, ib_NoneType_bool, ib_NoneType_int, ib_NoneType_str, ib_NoneType_tuple, ib_NoneType_list, ib_NoneType_dict, ib_bool_NoneType, ib_bool_bool, ib_bool_int, ib_bool_str, ib_bool_tuple, ib_bool_list, ib_bool_dict, ib_int_NoneType, ib_int_bool, ib_int_int, ib_int_str, ib_int_tuple, ib_int_list, ib_int_dict, ib_str_NoneType, ib_str_bool, ib_str_int, ib_str_str, ib_str_tuple, ib_str_list, ib_str_dict, ib_tuple_NoneType, ib_tuple_bool, ib_tuple_int, ib_tuple_str, ib_tuple_tuple, ib_tuple_list, ib_tuple_dict, ib_list_NoneType, ib_list_bool, ib_list_int, ib_list_str, ib_list_tuple, ib_list_list, ib_list_dict, ib_dict_NoneType, ib_dict_bool, ib_dict_int, ib_dict_str, ib_dict_tuple, ib_dict_list, ib_dict_dict, true_and, and_true, if_true, if_false, Bool.not_true, Bool.not_false, List.map_cons, List.map_nil, List.length_cons, List.length_nil, List.replicate, List.cons_append, List.nil_append, List.getElem?_cons_succ, List.getElem?_cons_zero, List.set_cons_succ, List.set_cons_zero, ite_true_eq, ite_false_eq, ite_nt_eq, ite_nf_eq, dec_true, dec_not, bxor_f, bxor_t]; exact q1⟩
    have e2 : (qs.map (keyedD C)).map sndD = qs.map enc := by rw [List.map_map]; rfl
    rw [e2]
    refine ⟨m, _, .refl, q qs ?_ (fun x hx => (o2 x (pm.mem_iff.mp hx)).1) (by rw [pm.length_eq]; exact o3)⟩
    have nd : qs.Nodup := pm.nodup_iff.mpr o1
    rw [List.pairwise_map] at u2
    refine (u2.and nd).imp_of_mem ?_
    rintro x y hx hy ⟨h1, h2⟩
    have h3 : kq C x ≤ kq C y := h1 _ _ rfl rfl
    have dx := cd x (pm.mem_iff.mp hx)
    have dy := cd y (pm.mem_iff.mp hy)
    refine (kq_lt c1 dx dy).mp ?_
    have : kq C x ≠ kq C y := fun e => h2 (kq_inj c1 dx dy e)
    omega
end Y
set_option maxHeartbeats 0
namespace Y
open PySem PySem.Spec PyProof.Rows L2
namespace Lk08
def top (i : Nat) : Stmt := PySem.Challenge.pw_ledlevels_k08_whole_rows_and_texts.main.body.getD i (.Pass ⟨0, 0, 0, 0⟩)
def inCls : Stmt → Nat → Stmt
  | .ClassDef (body := b) .., i => b.getD i (.Pass ⟨0, 0, 0, 0⟩)
  | s, _ => s
structure Ax (K : PySem.W.Frag) (mg : Str → Option Value) (c : Cs) : Prop where
  free_abs : mg "abs" = none
  free_all : mg "all" = none
  free_bool : mg "bool" = none
  free_int : mg "int" = none
  free_isinstance : mg "isinstance" = none
  free_len : mg "len" = none
  free_list : mg "list" = none
  free_range : mg "range" = none
  free_sorted : mg "sorted" = none
  free_str : mg "str" = none
  free_tuple : mg "tuple" = none
  free_zip : mg "zip" = none
  gcd : mg "gcd" = some (.builtin "math.gcd")
  const_FIGURES : Cst K mg "FIGURES" c_FIGURES
  const_MOST_FIGURES : Cst K mg "MOST_FIGURES" c_MOST_FIGURES
  const_MOST_LEVELS : Cst K mg "MOST_LEVELS" c_MOST_LEVELS
  const_ZERO : Cst K mg "ZERO" c_ZERO
  df_is_number : Df K mg "is_number" (top 8)
  df_in_form : Df K mg "in_form" (top 9)
  df_fraction : Df K mg "fraction" (top 10)
  df_is_fraction : Df K mg "is_fraction" (top 11)
  df_plus : Df K mg "plus" (top 12)
  df_minus : Df K mg "minus" (top 13)
  df_times_of : Df K mg "times_of" (top 14)
  df_divided : Df K mg "divided" (top 15)
  df_is_less : Df K mg "is_less" (top 16)
  df_size_of : Df K mg "size_of" (top 17)
  df_summed : Df K mg "summed" (top 18)
  df_common_of : Df K mg "common_of" (top 19)
  df_is_row : Df K mg "is_row" (top 22)
  df_added : Df K mg "added" (top 23)
  df_taken : Df K mg "taken" (top 24)
  df_scaled : Df K mg "scaled" (top 25)
  df_back : Df K mg "back" (top 26)
  df_nought : Df K mg "nought" (top 27)
  df_product : Df K mg "product" (top 28)
  df_sizes : Df K mg "sizes" (top 29)
  df_fraction_text : Df K mg "fraction_text" (top 34)
  df_row_text : Df K mg "row_text" (top 35)
  di_Signs : Di K c.Signs "Signs.__init__" (inCls (top 36) 0)
  dm_Signs_is_at : Dm K c.Signs "is_at" "Signs.is_at" (inCls (top 36) 1)
  dm_Signs_is_figure : Dm K c.Signs "is_figure" "Signs.is_figure" (inCls (top 36) 2)
  dm_Signs_is_end : Dm K c.Signs "is_end" "Signs.is_end" (inCls (top 36) 3)
  dm_Signs_step : Dm K c.Signs "step" "Signs.step" (inCls (top 36) 4)
  dm_Signs_told : Dm K c.Signs "told" "Signs.told" (inCls (top 36) 5)
  df_fail : Df K mg "fail" (top 37)
  df_take : Df K mg "take" (top 38)
  df_number_at : Df K mg "number_at" (top 39)
  df_integer_at : Df K mg "integer_at" (top 40)
  df_lower_at : Df K mg "lower_at" (top 41)
  df_fraction_at : Df K mg "fraction_at" (top 42)
  df_row_at : Df K mg "row_at" (top 43)
  df_signs_of : Df K mg "signs_of" (top 44)
  df_ended : Df K mg "ended" (top 45)
  df_read_fraction : Df K mg "read_fraction" (top 46)
  df_read_row : Df K mg "read_row" (top 47)
  df__law_open_cells : Df K mg "_law_open_cells" (top 49)
  df__law_pick : Df K mg "_law_pick" (top 50)
  df__law_common : Df K mg "_law_common" (top 51)
  df__law_fraction : Df K mg "_law_fraction" (top 52)
  df__law_draw_fraction : Df K mg "_law_draw_fraction" (top 53)
  df__law_draw_row : Df K mg "_law_draw_row" (top 54)
  df__law_number : Df K mg "_law_number" (top 55)
  df__law_drawn : Df K mg "_law_drawn" (top 56)
  df__law_three_right : Df K mg "_law_three_right" (top 57)
  df_ascending : Df K mg "ascending" (top 20)
  df_law : Df K mg "law" (top 58)
  kl_Signs : Kl K c.Signs ["place", "signs"]
  mg_Signs : mg "Signs" = some (.ref c.Signs)
section
variable {P : Program} {w : World} {K : PySem.W.Frag} {mg : Str → Option Value} {base : Heap}
theorem F_is_number {c : Cs} (A : Ax K mg c) : Fd P w K mg base 1 "is_number" ["value"] S_is_number :=
  fd_of (N := ["value"]) (vis := [0]) (G := ["isinstance", "int", "bool"]) (t := T_is_number) A.df_is_number (scB_ok (by kernel_rfl)) (by kernel_rfl) (fun _ _ _ _ _ _ us hl => match us, hl with | [_], _ => rfl)
    (fun X W B hp => (ds_one (dst_ret (de_and (b_blt1 (g := 0) B (cd_isi) A.free_isinstance (da_cons (b_var B 0) (da_cons (b_bltn (g := 1) (u := .type "int") (v := .ty "int") B (A.free_int) (by decide +kernel) (by rfl) (fun _ _ => .ty')) da_nil))) (de_one (de_not (b_blt1 (g := 0) B (cd_isi) A.free_isinstance (da_cons (b_var B 0) (da_cons (b_bltn (g := 2) (u := .type "bool") (v := .ty "bool") B (A.free_bool) (by decide +kernel) (by rfl) (fun _ _ => .ty')) da_nil)))))))))
    H_is_number
theorem F_in_form {c : Cs} (A : Ax K mg c) : Fd P w K mg base 1 "in_form" ["n", "d"] S_in_form :=
  fd_of (N := ["n", "d", "divisor"]) (vis := [0, 1, 2]) (G := ["gcd"]) (t := T_in_form) A.df_in_form (scB_ok (by kernel_rfl)) (by kernel_rfl) (fun _ _ _ _ _ _ us hl => match us, hl with | [_, _], _ => rfl)
    (fun X W B hp => (ds_cons (b_set B 2 (de_if (dt_cmp od_gt (b_var B 1) de_int) (b_bf (g := 0) B cd_gcd A.gcd (da_cons (b_var B 0) (da_cons (b_var B 1) da_nil))) (de_un ud_neg (b_bf (g := 0) B cd_gcd A.gcd (da_cons (b_var B 0) (da_cons (b_var B 1) da_nil))))))
  (ds_one (dst_ret (de_tup (da_cons (de_op od_fdv (b_var B 0) (b_var B 2)) (da_cons (de_op od_fdv (b_var B 1) (b_var B 2)) da_nil)))))))
    H_in_form
theorem F_fraction {c : Cs} (A : Ax K mg c) (F_in_form : Fd P w K mg base 1 "in_form" ["n", "d"] S_in_form) (F_is_number : Fd P w K mg base 1 "is_number" ["value"] S_is_number) : Fd P w K mg base 2 "fraction" ["n", "d"] S_fraction :=
  fd_of (N := ["n", "d"]) (vis := [0, 1]) (G := ["is_number", "BadFraction", "in_form"]) (t := T_fraction) A.df_fraction (scB_ok (by kernel_rfl)) (by kernel_rfl) (fun _ _ _ _ _ _ us hl => match us, hl with | [_, _], _ => rfl)
    (fun X W B hp => (ds_cons (dst_if (dt_w (dw_or (dt_not (dt_val (b_call (g := 0) B F_is_number (da_cons (b_var B 0) da_nil)))) (dw_or (dt_not (dt_val (b_call (g := 0) B F_is_number (da_cons (b_var B 1) da_nil)))) (dw_or1 (dt_cmp (od_eq B.hr) (b_var B 1) de_int))))) (ds_one dst_never) ds_nil)
  (ds_one (dst_ret (b_call (g := 2) B F_in_form (da_cons (b_var B 0) (da_cons (b_var B 1) da_nil)))))))
    H_fraction
theorem F_is_fraction {c : Cs} (A : Ax K mg c) (F_is_number : Fd P w K mg base 1 "is_number" ["value"] S_is_number) : Fd P w K mg base 2 "is_fraction" ["value"] S_is_fraction :=
  fd_of (N := ["value", "one"]) (vis := [0]) (G := ["isinstance", "tuple", "len", "all", "gcd"]) (t := T_is_fraction) A.df_is_fraction (scB_ok (by kernel_rfl)) (by kernel_rfl) (fun _ _ _ _ _ _ us hl => match us, hl with | [_], _ => rfl)
    (fun X W B hp => (ds_cons (dst_if (dt_w (dw_or (dt_not (dt_val (b_blt1 (g := 0) B (cd_isi) A.free_isinstance (da_cons (b_var B 0) (da_cons (b_bltn (g := 1) (u := .type "tuple") (v := .ty "tuple") B (A.free_tuple) (by decide +kernel) (by rfl) (fun _ _ => .ty')) da_nil))))) (dw_or (dt_cmp (od_ne B.hr) (b_blt1 (g := 2) B (cd_len) A.free_len (da_cons (b_var B 0) da_nil)) de_int) (dw_or1 (dt_not (dt_val (b_blt1 (g := 3) B (cd_all B.calm) A.free_all (da_cons (b_lc B [("one", 1)] [1] [1] ["is_number"] (di_seq (b_var B 0)) (fun X B => (b_name B 1)) (fun X B => dts_nil) (fun X B => (b_call (g := 0) B F_is_number (da_cons (b_var B 1) da_nil)))) da_nil)))))))) (ds_one (dst_ret de_bl)) ds_nil)
  (ds_one (dst_ret (de_and (de_cmp od_gt (de_it B.hr (b_var B 0) de_int) de_int) (de_one (de_cmp (od_eq B.hr) (b_bf (g := 4) B cd_gcd A.gcd (da_cons (de_it B.hr (b_var B 0) de_int) (da_cons (de_it B.hr (b_var B 0) de_int) da_nil))) de_int)))))))
    H_is_fraction
theorem F_plus {c : Cs} (A : Ax K mg c) (F_in_form : Fd P w K mg base 1 "in_form" ["n", "d"] S_in_form) : Fd P w K mg base 2 "plus" ["x", "y"] S_plus :=
  fd_of (N := ["x", "y"]) (vis := [0, 1]) (G := ["in_form"]) (t := T_plus) A.df_plus (scB_ok (by kernel_rfl)) (by kernel_rfl) (fun _ _ _ _ _ _ us hl => match us, hl with | [_, _], _ => rfl)
    (fun X W B hp => (ds_one (dst_ret (b_call (g := 0) B F_in_form (da_cons (de_op od_add (de_op od_mul (de_it B.hr (b_var B 0) de_int) (de_it B.hr (b_var B 1) de_int)) (de_op od_mul (de_it B.hr (b_var B 1) de_int) (de_it B.hr (b_var B 0) de_int))) (da_cons (de_op od_mul (de_it B.hr (b_var B 0) de_int) (de_it B.hr (b_var B 1) de_int)) da_nil))))))
    H_plus
theorem F_minus {c : Cs} (A : Ax K mg c) (F_in_form : Fd P w K mg base 1 "in_form" ["n", "d"] S_in_form) : Fd P w K mg base 2 "minus" ["x", "y"] S_minus :=
  fd_of (N := ["x", "y"]) (vis := [0, 1]) (G := ["in_form"]) (t := T_minus) A.df_minus (scB_ok (by kernel_rfl)) (by kernel_rfl) (fun _ _ _ _ _ _ us hl => match us, hl with | [_, _], _ => rfl)
    (fun X W B hp => (ds_one (dst_ret (b_call (g := 0) B F_in_form (da_cons (de_op od_sub (de_op od_mul (de_it B.hr (b_var B 0) de_int) (de_it B.hr (b_var B 1) de_int)) (de_op od_mul (de_it B.hr (b_var B 1) de_int) (de_it B.hr (b_var B 0) de_int))) (da_cons (de_op od_mul (de_it B.hr (b_var B 0) de_int) (de_it B.hr (b_var B 1) de_int)) da_nil))))))
    H_minus
theorem F_times_of {c : Cs} (A : Ax K mg c) (F_in_form : Fd P w K mg base 1 "in_form" ["n", "d"] S_in_form) : Fd P w K mg base 2 "times_of" ["x", "y"] S_times_of :=
  fd_of (N := ["x", "y"]) (vis := [0, 1]) (G := ["in_form"]) (t := T_times_of) A.df_times_of (scB_ok (by kernel_rfl)) (by kernel_rfl) (fun _ _ _ _ _ _ us hl => match us, hl with | [_, _], _ => rfl)
    (fun X W B hp => (ds_one (dst_ret (b_call (g := 0) B F_in_form (da_cons (de_op od_mul (de_it B.hr (b_var B 0) de_int) (de_it B.hr (b_var B 1) de_int)) (da_cons (de_op od_mul (de_it B.hr (b_var B 0) de_int) (de_it B.hr (b_var B 1) de_int)) da_nil))))))
    H_times_of
theorem F_divided {c : Cs} (A : Ax K mg c) (F_fraction : Fd P w K mg base 2 "fraction" ["n", "d"] S_fraction) : Fd P w K mg base 3 "divided" ["x", "y"] S_divided :=
  fd_of (N := ["x", "y"]) (vis := [0, 1]) (G := ["fraction"]) (t := T_divided) A.df_divided (scB_ok (by kernel_rfl)) (by kernel_rfl) (fun _ _ _ _ _ _ us hl => match us, hl with | [_, _], _ => rfl)
    (fun X W B hp => (ds_one (dst_ret (b_call (g := 0) B F_fraction (da_cons (de_op od_mul (de_it B.hr (b_var B 0) de_int) (de_it B.hr (b_var B 1) de_int)) (da_cons (de_op od_mul (de_it B.hr (b_var B 0) de_int) (de_it B.hr (b_var B 1) de_int)) da_nil))))))
    H_divided
theorem F_is_less {c : Cs} (A : Ax K mg c) : Fd P w K mg base 1 "is_less" ["x", "y"] S_is_less :=
  fd_of (N := ["x", "y"]) (vis := [0, 1]) (G := []) (t := T_is_less) A.df_is_less (scB_ok (by kernel_rfl)) (by kernel_rfl) (fun _ _ _ _ _ _ us hl => match us, hl with | [_, _], _ => rfl)
    (fun X W B hp => (ds_one (dst_ret (de_cmp od_lt (de_op od_mul (de_it B.hr (b_var B 0) de_int) (de_it B.hr (b_var B 1) de_int)) (de_op od_mul (de_it B.hr (b_var B 1) de_int) (de_it B.hr (b_var B 0) de_int))))))
    H_is_less
theorem F_size_of {c : Cs} (A : Ax K mg c) : Fd P w K mg base 1 "size_of" ["x"] S_size_of :=
  fd_of (N := ["x"]) (vis := [0]) (G := ["abs"]) (t := T_size_of) A.df_size_of (scB_ok (by kernel_rfl)) (by kernel_rfl) (fun _ _ _ _ _ _ us hl => match us, hl with | [_], _ => rfl)
    (fun X W B hp => (ds_one (dst_ret (de_tup (da_cons (b_blt1 (g := 0) B (cd_abs) A.free_abs (da_cons (de_it B.hr (b_var B 0) de_int) da_nil)) (da_cons (de_it B.hr (b_var B 0) de_int) da_nil))))))
    H_size_of
theorem F_summed {c : Cs} (A : Ax K mg c) (F_plus : Fd P w K mg base 2 "plus" ["x", "y"] S_plus) : Fd P w K mg base 3 "summed" ["fractions"] S_summed :=
  fd_of (N := ["fractions", "found", "one"]) (vis := [0, 1, 2]) (G := ["ZERO", "plus"]) (t := T_summed) A.df_summed (scB_ok (by kernel_rfl)) (by kernel_rfl) (fun _ _ _ _ _ _ us hl => match us, hl with | [_], _ => rfl)
    (fun X W B hp => (ds_cons (b_set B 1 (b_const (g := 0) B A.const_ZERO))
  (ds_cons (dst_for hp B.calm (di_seq (b_var B 0)) (dg_tg (b_name B 2))
  (ds_one (b_set B 1 (b_call (g := 1) B F_plus (da_cons (b_var B 1) (da_cons (b_var B 2) da_nil))))))
  (ds_one (dst_ret (b_var B 1))))))
    H_summed
theorem F_common_of {c : Cs} (A : Ax K mg c) : Fd P w K mg base 1 "common_of" ["numbers"] S_common_of :=
  fd_of (N := ["numbers", "found", "n"]) (vis := [0, 1, 2]) (G := ["gcd"]) (t := T_common_of) A.df_common_of (scB_ok (by kernel_rfl)) (by kernel_rfl) (fun _ _ _ _ _ _ us hl => match us, hl with | [_], _ => rfl)
    (fun X W B hp => (ds_cons (b_set B 1 de_int)
  (ds_cons (dst_for hp B.calm (di_seq (b_var B 0)) (dg_tg (b_name B 2))
  (ds_one (b_set B 1 (de_op od_mul (b_var B 1) (de_op od_fdv (b_var B 2) (b_bf (g := 0) B cd_gcd A.gcd (da_cons (b_var B 1) (da_cons (b_var B 2) da_nil))))))))
  (ds_one (dst_ret (b_var B 1))))))
    H_common_of
theorem F_is_row {c : Cs} (A : Ax K mg c) (F_is_fraction : Fd P w K mg base 2 "is_fraction" ["value"] S_is_fraction) : Fd P w K mg base 3 "is_row" ["value", "many"] S_is_row :=
  fd_of (N := ["value", "many", "one"]) (vis := [0, 1]) (G := ["isinstance", "tuple", "len", "all"]) (t := T_is_row) A.df_is_row (scB_ok (by kernel_rfl)) (by kernel_rfl) (fun _ _ _ _ _ _ us hl => match us, hl with | [_, _], _ => rfl)
    (fun X W B hp => (ds_one (dst_ret (de_and (b_blt1 (g := 0) B (cd_isi) A.free_isinstance (da_cons (b_var B 0) (da_cons (b_bltn (g := 1) (u := .type "tuple") (v := .ty "tuple") B (A.free_tuple) (by decide +kernel) (by rfl) (fun _ _ => .ty')) da_nil))) (de_and (de_cmp (od_eq B.hr) (b_blt1 (g := 2) B (cd_len) A.free_len (da_cons (b_var B 0) da_nil)) (b_var B 1)) (de_one (b_blt1 (g := 3) B (cd_all B.calm) A.free_all (da_cons (b_lc B [("one", 2)] [2] [2] ["is_fraction"] (di_seq (b_var B 0)) (fun X B => (b_name B 2)) (fun X B => dts_nil) (fun X B => (b_call (g := 0) B F_is_fraction (da_cons (b_var B 2) da_nil)))) da_nil))))))))
    H_is_row
theorem F_added {c : Cs} (A : Ax K mg c) (F_plus : Fd P w K mg base 2 "plus" ["x", "y"] S_plus) : Fd P w K mg base 3 "added" ["one", "other"] S_added :=
  fd_of (N := ["one", "other", "x", "y"]) (vis := [0, 1]) (G := ["tuple", "zip"]) (t := T_added) A.df_added (scB_ok (by kernel_rfl)) (by kernel_rfl) (fun _ _ _ _ _ _ us hl => match us, hl with | [_, _], _ => rfl)
    (fun X W B hp => (ds_one (dst_ret (b_ty1 (g := 0) B cd_tuple A.free_tuple (da_cons (b_lc B [("x", 2), ("y", 3)] [2, 3] [2, 3] ["plus"] (di_zip2 (B.gl (j := 1) rfl).1 (B.mgn A.free_zip) (da_cons (b_var B 0) (da_cons (b_var B 1) da_nil))) (fun X B => (tg_tup B.calm (tgs_cons (b_name B 2) (tgs_cons (b_name B 3) tgs_nil)))) (fun X B => dts_nil) (fun X B => (b_call (g := 0) B F_plus (da_cons (b_var B 2) (da_cons (b_var B 3) da_nil))))) da_nil)))))
    H_added
theorem F_taken {c : Cs} (A : Ax K mg c) (F_minus : Fd P w K mg base 2 "minus" ["x", "y"] S_minus) : Fd P w K mg base 3 "taken" ["one", "other"] S_taken :=
  fd_of (N := ["one", "other", "x", "y"]) (vis := [0, 1]) (G := ["tuple", "zip"]) (t := T_taken) A.df_taken (scB_ok (by kernel_rfl)) (by kernel_rfl) (fun _ _ _ _ _ _ us hl => match us, hl with | [_, _], _ => rfl)
    (fun X W B hp => (ds_one (dst_ret (b_ty1 (g := 0) B cd_tuple A.free_tuple (da_cons (b_lc B [("x", 2), ("y", 3)] [2, 3] [2, 3] ["minus"] (di_zip2 (B.gl (j := 1) rfl).1 (B.mgn A.free_zip) (da_cons (b_var B 0) (da_cons (b_var B 1) da_nil))) (fun X B => (tg_tup B.calm (tgs_cons (b_name B 2) (tgs_cons (b_name B 3) tgs_nil)))) (fun X B => dts_nil) (fun X B => (b_call (g := 0) B F_minus (da_cons (b_var B 2) (da_cons (b_var B 3) da_nil))))) da_nil)))))
    H_taken
theorem F_scaled {c : Cs} (A : Ax K mg c) (F_times_of : Fd P w K mg base 2 "times_of" ["x", "y"] S_times_of) : Fd P w K mg base 3 "scaled" ["row", "x"] S_scaled :=
  fd_of (N := ["row", "x", "one"]) (vis := [0, 1]) (G := ["tuple"]) (t := T_scaled) A.df_scaled (scB_ok (by kernel_rfl)) (by kernel_rfl) (fun _ _ _ _ _ _ us hl => match us, hl with | [_, _], _ => rfl)
    (fun X W B hp => (ds_one (dst_ret (b_ty1 (g := 0) B cd_tuple A.free_tuple (da_cons (b_lc B [("one", 2)] [1, 2] [2] ["times_of"] (di_seq (b_var B 0)) (fun X B => (b_name B 2)) (fun X B => dts_nil) (fun X B => (b_call (g := 0) B F_times_of (da_cons (b_var B 2) (da_cons (b_var B 1) da_nil))))) da_nil)))))
    H_scaled
theorem F_back {c : Cs} (A : Ax K mg c) : Fd P w K mg base 1 "back" ["row"] S_back :=
  fd_of (N := ["row", "n", "d"]) (vis := [0]) (G := ["tuple"]) (t := T_back) A.df_back (scB_ok (by kernel_rfl)) (by kernel_rfl) (fun _ _ _ _ _ _ us hl => match us, hl with | [_], _ => rfl)
    (fun X W B hp => (ds_one (dst_ret (b_ty1 (g := 0) B cd_tuple A.free_tuple (da_cons (b_lc B [("n", 1), ("d", 2)] [1, 2] [1, 2] [] (di_seq (b_var B 0)) (fun X B => (tg_tup B.calm (tgs_cons (b_name B 1) (tgs_cons (b_name B 2) tgs_nil)))) (fun X B => dts_nil) (fun X B => (de_tup (da_cons (de_un ud_neg (b_var B 1)) (da_cons (b_var B 2) da_nil))))) da_nil)))))
    H_back
theorem F_nought {c : Cs} (A : Ax K mg c) : Fd P w K mg base 1 "nought" ["many"] S_nought :=
  fd_of (N := ["many"]) (vis := [0]) (G := ["ZERO"]) (t := T_nought) A.df_nought (scB_ok (by kernel_rfl)) (by kernel_rfl) (fun _ _ _ _ _ _ us hl => match us, hl with | [_], _ => rfl)
    (fun X W B hp => (ds_one (dst_ret (de_op od_rep (de_tup (da_cons (b_const (g := 0) B A.const_ZERO) da_nil)) (b_var B 0)))))
    H_nought
theorem F_product {c : Cs} (A : Ax K mg c) (F_summed : Fd P w K mg base 3 "summed" ["fractions"] S_summed) (F_times_of : Fd P w K mg base 2 "times_of" ["x", "y"] S_times_of) : Fd P w K mg base 4 "product" ["one", "other"] S_product :=
  fd_of (N := ["one", "other", "x", "y"]) (vis := [0, 1]) (G := ["summed", "zip"]) (t := T_product) A.df_product (scB_ok (by kernel_rfl)) (by kernel_rfl) (fun _ _ _ _ _ _ us hl => match us, hl with | [_, _], _ => rfl)
    (fun X W B hp => (ds_one (dst_ret (b_call (g := 0) B F_summed (da_cons (b_lc B [("x", 2), ("y", 3)] [2, 3] [2, 3] ["times_of"] (di_zip2 (B.gl (j := 1) rfl).1 (B.mgn A.free_zip) (da_cons (b_var B 0) (da_cons (b_var B 1) da_nil))) (fun X B => (tg_tup B.calm (tgs_cons (b_name B 2) (tgs_cons (b_name B 3) tgs_nil)))) (fun X B => dts_nil) (fun X B => (b_call (g := 0) B F_times_of (da_cons (b_var B 2) (da_cons (b_var B 3) da_nil))))) da_nil)))))
    H_product
theorem F_sizes {c : Cs} (A : Ax K mg c) (F_size_of : Fd P w K mg base 1 "size_of" ["x"] S_size_of) (F_summed : Fd P w K mg base 3 "summed" ["fractions"] S_summed) : Fd P w K mg base 4 "sizes" ["row"] S_sizes :=
  fd_of (N := ["row", "one"]) (vis := [0]) (G := ["summed"]) (t := T_sizes) A.df_sizes (scB_ok (by kernel_rfl)) (by kernel_rfl) (fun _ _ _ _ _ _ us hl => match us, hl with | [_], _ => rfl)
    (fun X W B hp => (ds_one (dst_ret (b_call (g := 0) B F_summed (da_cons (b_lc B [("one", 1)] [1] [1] ["size_of"] (di_seq (b_var B 0)) (fun X B => (b_name B 1)) (fun X B => dts_nil) (fun X B => (b_call (g := 0) B F_size_of (da_cons (b_var B 1) da_nil)))) da_nil)))))
    H_sizes
theorem F_fraction_text {c : Cs} (A : Ax K mg c) : Fd P w K mg base 1 "fraction_text" ["x"] S_fraction_text :=
  fd_of (N := ["x"]) (vis := [0]) (G := ["str"]) (t := T_fraction_text) A.df_fraction_text (scB_ok (by kernel_rfl)) (by kernel_rfl) (fun _ _ _ _ _ _ us hl => match us, hl with | [_], _ => rfl)
    (fun X W B hp => (ds_one (dst_ret (de_if (dt_cmp (od_eq B.hr) (de_it B.hr (b_var B 0) de_int) de_int) (b_ty1 (g := 0) B cd_str A.free_str (da_cons (de_it B.hr (b_var B 0) de_int) da_nil)) (de_joined (.cons (de_fmt (de_it B.hr (b_var B 0) de_int)) (.cons de_str (.cons (de_fmt (de_it B.hr (b_var B 0) de_int)) .nil))))))))
    H_fraction_text
theorem F_row_text {c : Cs} (A : Ax K mg c) (F_fraction_text : Fd P w K mg base 1 "fraction_text" ["x"] S_fraction_text) : Fd P w K mg base 2 "row_text" ["row"] S_row_text :=
  fd_of (N := ["row", "one"]) (vis := [0]) (G := []) (t := T_row_text) A.df_row_text (scB_ok (by kernel_rfl)) (by kernel_rfl) (fun _ _ _ _ _ _ us hl => match us, hl with | [_], _ => rfl)
    (fun X W B hp => (ds_one (dst_ret (de_op od_add (de_op od_add de_str (de_join de_str (b_lc B [("one", 1)] [1] [1] ["fraction_text"] (di_seq (b_var B 0)) (fun X B => (b_name B 1)) (fun X B => dts_nil) (fun X B => (b_call (g := 0) B F_fraction_text (da_cons (b_var B 1) da_nil)))))) de_str))))
    H_row_text
theorem F_Signs___init__ {c : Cs} (A : Ax K mg c) : Mr P w K mg base 1 c.Signs ["self", "signs"] (S_Signs___init__ c) :=
  mr_of (N := ["self", "signs"]) (vis := [0, 1]) (G := []) (t := (T_Signs___init__ c)) A.di_Signs (scB_ok (by kernel_rfl)) (by kernel_rfl) (fun _ _ _ _ _ _ us hl => match us, hl with | [_, _], _ => rfl)
    (fun X W B hp => (ds_cons (b_setf B A.kl_Signs (b_var B 0) (b_var B 1))
  (ds_one (b_setf B A.kl_Signs (b_var B 0) de_int))))
    (H_Signs___init__ c)
theorem F_Signs_is_at {c : Cs} (A : Ax K mg c) : Md P w K mg base 1 c.Signs "is_at" ["self", "sign"] (S_Signs_is_at c) :=
  md_of (N := ["self", "sign"]) (vis := [0, 1]) (G := []) (t := (T_Signs_is_at c)) A.dm_Signs_is_at (scB_ok (by kernel_rfl)) (by kernel_rfl) (fun _ _ _ _ _ _ us hl => match us, hl with | [_, _], _ => rfl)
    (fun X W B hp => (ds_one (dst_ret (de_cmp (od_eq B.hr) (de_slice (b_fld B A.kl_Signs (b_var B 0)) (dpo_some (b_fld B A.kl_Signs (b_var B 0))) (dpo_some (de_op od_add (b_fld B A.kl_Signs (b_var B 0)) de_int))) (b_var B 1)))))
    (H_Signs_is_at c)
theorem F_Signs_is_figure {c : Cs} (A : Ax K mg c) : Md P w K mg base 1 c.Signs "is_figure" ["self"] (S_Signs_is_figure c) :=
  md_of (N := ["self", "here"]) (vis := [0, 1]) (G := ["FIGURES"]) (t := (T_Signs_is_figure c)) A.dm_Signs_is_figure (scB_ok (by kernel_rfl)) (by kernel_rfl) (fun _ _ _ _ _ _ us hl => match us, hl with | [_], _ => rfl)
    (fun X W B hp => (ds_cons (b_set B 1 (de_slice (b_fld B A.kl_Signs (b_var B 0)) (dpo_some (b_fld B A.kl_Signs (b_var B 0))) (dpo_some (de_op od_add (b_fld B A.kl_Signs (b_var B 0)) de_int))))
  (ds_one (dst_ret (de_and (de_cmp (od_ne B.hr) (b_var B 1) de_str) (de_one (de_cmp (od_in B.hr) (b_var B 1) (b_const (g := 0) B A.const_FIGURES))))))))
    (H_Signs_is_figure c)
theorem F_Signs_is_end {c : Cs} (A : Ax K mg c) : Md P w K mg base 1 c.Signs "is_end" ["self"] (S_Signs_is_end c) :=
  md_of (N := ["self"]) (vis := [0]) (G := ["len"]) (t := (T_Signs_is_end c)) A.dm_Signs_is_end (scB_ok (by kernel_rfl)) (by kernel_rfl) (fun _ _ _ _ _ _ us hl => match us, hl with | [_], _ => rfl)
    (fun X W B hp => (ds_one (dst_ret (de_cmp (od_eq B.hr) (b_fld B A.kl_Signs (b_var B 0)) (b_blt1 (g := 0) B (cd_len) A.free_len (da_cons (b_fld B A.kl_Signs (b_var B 0)) da_nil))))))
    (H_Signs_is_end c)
theorem F_Signs_step {c : Cs} (A : Ax K mg c) : Md P w K mg base 1 c.Signs "step" ["self"] (S_Signs_step c) :=
  md_of (N := ["self"]) (vis := [0]) (G := []) (t := (T_Signs_step c)) A.dm_Signs_step (scB_ok (by kernel_rfl)) (by kernel_rfl) (fun _ _ _ _ _ _ us hl => match us, hl with | [_], _ => rfl)
    (fun X W B hp => (ds_one (b_setf B A.kl_Signs (b_var B 0) (de_op od_add (b_fld B A.kl_Signs (b_var B 0)) de_int))))
    (H_Signs_step c)
theorem F_Signs_told {c : Cs} (A : Ax K mg c) : Md P w K mg base 1 c.Signs "told" ["self", "begin"] (S_Signs_told c) :=
  md_of (N := ["self", "begin"]) (vis := [0, 1]) (G := []) (t := (T_Signs_told c)) A.dm_Signs_told (scB_ok (by kernel_rfl)) (by kernel_rfl) (fun _ _ _ _ _ _ us hl => match us, hl with | [_, _], _ => rfl)
    (fun X W B hp => (ds_one (dst_ret (de_slice (b_fld B A.kl_Signs (b_var B 0)) (dpo_some (b_var B 1)) (dpo_some (b_fld B A.kl_Signs (b_var B 0)))))))
    (H_Signs_told c)
theorem F_fail {c : Cs} (A : Ax K mg c) : Fd P w K mg base 1 "fail" ["signs"] (S_fail c) :=
  fd_of (N := ["signs"]) (vis := [0]) (G := ["BadText"]) (t := T_fail) A.df_fail (scB_ok (by kernel_rfl)) (by kernel_rfl) (fun _ _ _ _ _ _ us hl => match us, hl with | [_], _ => rfl)
    (fun X W B hp => (ds_one dst_never))
    (H_fail c)
theorem F_take {c : Cs} (A : Ax K mg c) (F_fail : Fd P w K mg base 1 "fail" ["signs"] (S_fail c)) (F_Signs_is_at : Md P w K mg base 1 c.Signs "is_at" ["self", "sign"] (S_Signs_is_at c)) (F_Signs_step : Md P w K mg base 1 c.Signs "step" ["self"] (S_Signs_step c)) : Fd P w K mg base 2 "take" ["signs", "sign"] (S_take c) :=
  fd_of (N := ["signs", "sign"]) (vis := [0, 1]) (G := ["fail"]) (t := (T_take c)) A.df_take (scB_ok (by kernel_rfl)) (by kernel_rfl) (fun _ _ _ _ _ _ us hl => match us, hl with | [_, _], _ => rfl)
    (fun X W B hp => (ds_cons (dst_if (dt_not (dt_val (b_meth B A.kl_Signs F_Signs_is_at (b_var B 0) (da_cons (b_var B 1) da_nil)))) (ds_one (dst_expr (b_call (g := 0) B F_fail (da_cons (b_var B 0) da_nil)))) ds_nil)
  (ds_one (dst_expr (b_meth0 B A.kl_Signs F_Signs_step (b_var B 0))))))
    (H_take c)
theorem F_number_at {c : Cs} (A : Ax K mg c) (F_fail : Fd P w K mg base 1 "fail" ["signs"] (S_fail c)) (F_Signs_is_at : Md P w K mg base 1 c.Signs "is_at" ["self", "sign"] (S_Signs_is_at c)) (F_Signs_is_figure : Md P w K mg base 1 c.Signs "is_figure" ["self"] (S_Signs_is_figure c)) (F_Signs_step : Md P w K mg base 1 c.Signs "step" ["self"] (S_Signs_step c)) (F_Signs_told : Md P w K mg base 1 c.Signs "told" ["self", "begin"] (S_Signs_told c)) : Fd P w K mg base 2 "number_at" ["signs"] (S_number_at c) :=
  fd_of (N := ["signs", "begin"]) (vis := [0, 1]) (G := ["fail", "MOST_FIGURES", "int"]) (t := (T_number_at c)) A.df_number_at (scB_ok (by kernel_rfl)) (by kernel_rfl) (fun _ _ _ _ _ _ us hl => match us, hl with | [_], _ => rfl)
    (fun X W B hp => (ds_cons (b_set B 1 (b_fld B A.kl_Signs (b_var B 0)))
  (ds_cons (dst_if (dt_not (dt_val (b_meth0 B A.kl_Signs F_Signs_is_figure (b_var B 0)))) (ds_one (dst_expr (b_call (g := 0) B F_fail (da_cons (b_var B 0) da_nil)))) ds_nil)
  (ds_cons (dst_if (dt_val (b_meth B A.kl_Signs F_Signs_is_at (b_var B 0) (da_cons de_str da_nil))) (ds_cons (dst_expr (b_meth0 B A.kl_Signs F_Signs_step (b_var B 0)))
  (ds_one (dst_ret de_int))) ds_nil)
  (ds_cons (dst_while hp (dt_w (dw_and (dt_val (b_meth0 B A.kl_Signs F_Signs_is_figure (b_var B 0))) (dw_and1 (dt_cmp od_lt (de_op od_sub (b_fld B A.kl_Signs (b_var B 0)) (b_var B 1)) (b_const (g := 1) B A.const_MOST_FIGURES)))))
  (ds_one (dst_expr (b_meth0 B A.kl_Signs F_Signs_step (b_var B 0)))))
  (ds_one (dst_ret (b_ty1 (g := 2) B cd_intT A.free_int (da_cons (b_meth B A.kl_Signs F_Signs_told (b_var B 0) (da_cons (b_var B 1) da_nil)) da_nil)))))))))
    (H_number_at c)
theorem F_integer_at {c : Cs} (A : Ax K mg c) (F_fail : Fd P w K mg base 1 "fail" ["signs"] (S_fail c)) (F_number_at : Fd P w K mg base 2 "number_at" ["signs"] (S_number_at c)) (F_Signs_is_at : Md P w K mg base 1 c.Signs "is_at" ["self", "sign"] (S_Signs_is_at c)) (F_Signs_step : Md P w K mg base 1 c.Signs "step" ["self"] (S_Signs_step c)) : Fd P w K mg base 3 "integer_at" ["signs"] (S_integer_at c) :=
  fd_of (N := ["signs"]) (vis := [0]) (G := ["number_at", "fail"]) (t := (T_integer_at c)) A.df_integer_at (scB_ok (by kernel_rfl)) (by kernel_rfl) (fun _ _ _ _ _ _ us hl => match us, hl with | [_], _ => rfl)
    (fun X W B hp => (ds_cons (dst_if (dt_not (dt_val (b_meth B A.kl_Signs F_Signs_is_at (b_var B 0) (da_cons de_str da_nil)))) (ds_one (dst_ret (b_call (g := 0) B F_number_at (da_cons (b_var B 0) da_nil)))) ds_nil)
  (ds_cons (dst_expr (b_meth0 B A.kl_Signs F_Signs_step (b_var B 0)))
  (ds_cons (dst_if (dt_val (b_meth B A.kl_Signs F_Signs_is_at (b_var B 0) (da_cons de_str da_nil))) (ds_one (dst_expr (b_call (g := 1) B F_fail (da_cons (b_var B 0) da_nil)))) ds_nil)
  (ds_one (dst_ret (de_un ud_neg (b_call (g := 0) B F_number_at (da_cons (b_var B 0) da_nil)))))))))
    (H_integer_at c)
theorem F_lower_at {c : Cs} (A : Ax K mg c) (F_fail : Fd P w K mg base 1 "fail" ["signs"] (S_fail c)) (F_is_fraction : Fd P w K mg base 2 "is_fraction" ["value"] S_is_fraction) (F_number_at : Fd P w K mg base 2 "number_at" ["signs"] (S_number_at c)) (F_Signs_is_at : Md P w K mg base 1 c.Signs "is_at" ["self", "sign"] (S_Signs_is_at c)) (F_Signs_step : Md P w K mg base 1 c.Signs "step" ["self"] (S_Signs_step c)) : Fd P w K mg base 3 "lower_at" ["signs", "upper"] (S_lower_at c) :=
  fd_of (N := ["signs", "upper", "found"]) (vis := [0, 1, 2]) (G := ["number_at", "is_fraction", "fail"]) (t := (T_lower_at c)) A.df_lower_at (scB_ok (by kernel_rfl)) (by kernel_rfl) (fun _ _ _ _ _ _ us hl => match us, hl with | [_, _], _ => rfl)
    (fun X W B hp => (ds_cons (dst_if (dt_not (dt_val (b_meth B A.kl_Signs F_Signs_is_at (b_var B 0) (da_cons de_str da_nil)))) (ds_one (dst_ret (de_tup (da_cons (b_var B 1) (da_cons de_int da_nil))))) ds_nil)
  (ds_cons (dst_expr (b_meth0 B A.kl_Signs F_Signs_step (b_var B 0)))
  (ds_cons (b_set B 2 (de_tup (da_cons (b_var B 1) (da_cons (b_call (g := 0) B F_number_at (da_cons (b_var B 0) da_nil)) da_nil))))
  (ds_cons (dst_if (dt_w (dw_or (dt_cmp (od_eq B.hr) (de_it B.hr (b_var B 2) de_int) de_int) (dw_or1 (dt_not (dt_val (b_call (g := 1) B F_is_fraction (da_cons (b_var B 2) da_nil))))))) (ds_one (dst_expr (b_call (g := 2) B F_fail (da_cons (b_var B 0) da_nil)))) ds_nil)
  (ds_one (dst_ret (b_var B 2))))))))
    (H_lower_at c)
theorem F_fraction_at {c : Cs} (A : Ax K mg c) (F_integer_at : Fd P w K mg base 3 "integer_at" ["signs"] (S_integer_at c)) (F_lower_at : Fd P w K mg base 3 "lower_at" ["signs", "upper"] (S_lower_at c)) : Fd P w K mg base 4 "fraction_at" ["signs"] (S_fraction_at c) :=
  fd_of (N := ["signs"]) (vis := [0]) (G := ["lower_at", "integer_at"]) (t := (T_fraction_at c)) A.df_fraction_at (scB_ok (by kernel_rfl)) (by kernel_rfl) (fun _ _ _ _ _ _ us hl => match us, hl with | [_], _ => rfl)
    (fun X W B hp => (ds_one (dst_ret (b_call (g := 0) B F_lower_at (da_cons (b_var B 0) (da_cons (b_call (g := 1) B F_integer_at (da_cons (b_var B 0) da_nil)) da_nil))))))
    (H_fraction_at c)
theorem F_row_at {c : Cs} (A : Ax K mg c) (F_fraction_at : Fd P w K mg base 4 "fraction_at" ["signs"] (S_fraction_at c)) (F_take : Fd P w K mg base 2 "take" ["signs", "sign"] (S_take c)) (F_Signs_is_at : Md P w K mg base 1 c.Signs "is_at" ["self", "sign"] (S_Signs_is_at c)) (F_Signs_step : Md P w K mg base 1 c.Signs "step" ["self"] (S_Signs_step c)) : Fd P w K mg base 5 "row_at" ["signs"] (S_row_at c) :=
  fd_of (N := ["signs", "found"]) (vis := [0, 1]) (G := ["take", "fraction_at", "len", "MOST_LEVELS", "tuple"]) (t := (T_row_at c)) A.df_row_at (scB_ok (by kernel_rfl)) (by kernel_rfl) (fun _ _ _ _ _ _ us hl => match us, hl with | [_], _ => rfl)
    (fun X W B hp => (ds_cons (dst_expr (b_call (g := 0) B F_take (da_cons (b_var B 0) (da_cons de_str da_nil))))
  (ds_cons (b_set B 1 (de_lstM (da_cons (b_call (g := 1) B F_fraction_at (da_cons (b_var B 0) da_nil)) da_nil)))
  (ds_cons (dst_while hp (dt_w (dw_and (dt_val (b_meth B A.kl_Signs F_Signs_is_at (b_var B 0) (da_cons de_str da_nil))) (dw_and1 (dt_cmp od_lt (b_blt1 (g := 2) B (cd_len) A.free_len (da_cons (b_var B 1) da_nil)) (b_const (g := 3) B A.const_MOST_LEVELS)))))
  (ds_cons (dst_expr (b_meth0 B A.kl_Signs F_Signs_step (b_var B 0)))
  (ds_one (dst_expr (de_append (b_var B 1) (b_call (g := 1) B F_fraction_at (da_cons (b_var B 0) da_nil)))))))
  (ds_cons (dst_expr (b_call (g := 0) B F_take (da_cons (b_var B 0) (da_cons de_str da_nil))))
  (ds_one (dst_ret (b_ty1 (g := 4) B cd_tuple A.free_tuple (da_cons (b_var B 1) da_nil)))))))))
    (H_row_at c)
theorem F_signs_of {c : Cs} (A : Ax K mg c) (F_Signs : Mr P w K mg base 1 c.Signs ["self", "signs"] (S_Signs___init__ c)) : Fd P w K mg base 3 "signs_of" ["text"] (S_signs_of c) :=
  fd_of (N := ["text"]) (vis := [0]) (G := ["isinstance", "str", "BadText", "Signs"]) (t := (T_signs_of c)) A.df_signs_of (scB_ok (by kernel_rfl)) (by kernel_rfl) (fun _ _ _ _ _ _ us hl => match us, hl with | [_], _ => rfl)
    (fun X W B hp => (ds_cons (dst_if (dt_not (dt_val (b_blt1 (g := 0) B (cd_isi) A.free_isinstance (da_cons (b_var B 0) (da_cons (b_bltn (g := 1) (u := .type "str") (v := .ty "str") B (A.free_str) (by decide +kernel) (by rfl) (fun _ _ => .ty')) da_nil))))) (ds_one dst_never) ds_nil)
  (ds_one (dst_ret (b_make (g := 3) B F_Signs A.mg_Signs (da_cons (b_var B 0) da_nil))))))
    (H_signs_of c)
theorem F_ended {c : Cs} (A : Ax K mg c) (F_fail : Fd P w K mg base 1 "fail" ["signs"] (S_fail c)) (F_Signs_is_end : Md P w K mg base 1 c.Signs "is_end" ["self"] (S_Signs_is_end c)) : Fd P w K mg base 2 "ended" ["signs", "found"] (S_ended c) :=
  fd_of (N := ["signs", "found"]) (vis := [0, 1]) (G := ["fail"]) (t := (T_ended c)) A.df_ended (scB_ok (by kernel_rfl)) (by kernel_rfl) (fun _ _ _ _ _ _ us hl => match us, hl with | [_, _], _ => rfl)
    (fun X W B hp => (ds_cons (dst_if (dt_not (dt_val (b_meth0 B A.kl_Signs F_Signs_is_end (b_var B 0)))) (ds_one (dst_expr (b_call (g := 0) B F_fail (da_cons (b_var B 0) da_nil)))) ds_nil)
  (ds_one (dst_ret (b_var B 1)))))
    (H_ended c)
theorem F_read_fraction {c : Cs} (A : Ax K mg c) (F_ended : Fd P w K mg base 2 "ended" ["signs", "found"] (S_ended c)) (F_fraction_at : Fd P w K mg base 4 "fraction_at" ["signs"] (S_fraction_at c)) (F_signs_of : Fd P w K mg base 3 "signs_of" ["text"] (S_signs_of c)) : Fd P w K mg base 5 "read_fraction" ["text"] S_read_fraction :=
  fd_of (N := ["text", "signs"]) (vis := [0, 1]) (G := ["signs_of", "ended", "fraction_at"]) (t := (T_read_fraction c)) A.df_read_fraction (scB_ok (by kernel_rfl)) (by kernel_rfl) (fun _ _ _ _ _ _ us hl => match us, hl with | [_], _ => rfl)
    (fun X W B hp => (ds_cons (b_set B 1 (b_call (g := 0) B F_signs_of (da_cons (b_var B 0) da_nil)))
  (ds_one (dst_ret (b_call (g := 1) B F_ended (da_cons (b_var B 1) (da_cons (b_call (g := 2) B F_fraction_at (da_cons (b_var B 1) da_nil)) da_nil)))))))
    (H_read_fraction c)
theorem F_read_row {c : Cs} (A : Ax K mg c) (F_ended : Fd P w K mg base 2 "ended" ["signs", "found"] (S_ended c)) (F_row_at : Fd P w K mg base 5 "row_at" ["signs"] (S_row_at c)) (F_signs_of : Fd P w K mg base 3 "signs_of" ["text"] (S_signs_of c)) : Fd P w K mg base 6 "read_row" ["text"] S_read_row :=
  fd_of (N := ["text", "signs"]) (vis := [0, 1]) (G := ["signs_of", "ended", "row_at"]) (t := (T_read_row c)) A.df_read_row (scB_ok (by kernel_rfl)) (by kernel_rfl) (fun _ _ _ _ _ _ us hl => match us, hl with | [_], _ => rfl)
    (fun X W B hp => (ds_cons (b_set B 1 (b_call (g := 0) B F_signs_of (da_cons (b_var B 0) da_nil)))
  (ds_one (dst_ret (b_call (g := 1) B F_ended (da_cons (b_var B 1) (da_cons (b_call (g := 2) B F_row_at (da_cons (b_var B 1) da_nil)) da_nil)))))))
    (H_read_row c)
theorem F__law_open_cells {c : Cs} (A : Ax K mg c) : Fd P w K mg base 1 "_law_open_cells" ["_law_script"] S__law_open_cells :=
  fd_of (N := ["_law_script", "_law_stirred", "_law_cell", "_law_cells"]) (vis := [0, 1, 2, 3]) (G := ["int"]) (t := T__law_open_cells) A.df__law_open_cells (scB_ok (by kernel_rfl)) (by kernel_rfl) (fun _ _ _ _ _ _ us hl => match us, hl with | [_], _ => rfl)
    (fun X W B hp => (ds_cons (b_set B 1 de_int)
  (ds_cons (dst_for hp B.calm (di_seq (b_var B 0)) (dg_tg (b_name B 2))
  (ds_one (b_set B 1 (de_op od_mod (b_ty1 (g := 0) B cd_int A.free_int (da_cons (de_op od_add (de_op od_add (de_op od_mul (b_var B 1) de_int) (de_op od_mul (b_var B 2) de_int)) de_int) da_nil)) de_int))))
  (ds_cons (b_setLc B 3 [("_law_cell", 2)] [2] [2] ["abs"] (di_seq (b_var B 0)) (fun X B => (b_name B 2)) (fun X B => dts_nil) (fun X B => (b_blt1 (g := 0) B (cd_abs) A.free_abs (da_cons (b_var B 2) da_nil))))
  (ds_one (dst_ret (de_dict (dpp_cons de_str (de_revM (p4 := ⟨0, 0, 0, 0⟩) (b_var B 3)) (dpp_cons de_str de_int (dpp_cons de_str (b_var B 1) (dpp_cons de_str de_int dpp_nil)))))))))))
    H__law_open_cells
theorem F__law_pick {c : Cs} (A : Ax K mg c) : Fd P w K mg base 1 "_law_pick" ["_law_source", "_law_most"] S__law_pick :=
  fd_of (N := ["_law_source", "_law_most", "_law_cells", "_law_others", "_law_lap", "_law_stirred"]) (vis := [0, 1, 2, 3, 4, 5]) (G := ["len", "int"]) (t := T__law_pick) A.df__law_pick (scB_ok (by kernel_rfl)) (by kernel_rfl) (fun _ _ _ _ _ _ us hl => match us, hl with | [_, _], _ => rfl)
    (fun X W B hp => (ds_cons (dst_if (dt_cmp od_lt (b_var B 1) de_int) (ds_one (dst_ret de_int)) ds_nil)
  (ds_cons (b_set B 2 (de_it B.hr (b_var B 0) de_str))
  (ds_cons (dst_while hp (dt_w (dw_and (dt_cmp od_lt (de_it B.hr (b_var B 0) de_str) de_int) (dw_and1 (dt_cmp od_gt (b_blt1 (g := 0) B (cd_len) A.free_len (da_cons (b_var B 2) da_nil)) de_int))))
  (ds_one (dst_put B.hr (b_var B 0) de_str (de_pop (b_var B 2)))))
  (ds_cons (b_set B 3 (de_it B.hr (b_var B 0) de_str))
  (ds_cons (dst_if (dt_cmp od_gt (b_var B 3) de_int) (ds_cons (dst_put B.hr (b_var B 0) de_str (de_op od_fdv (b_var B 3) (b_var B 1)))
  (ds_one (dst_ret (de_op od_mod (b_ty1 (g := 1) B cd_int A.free_int (da_cons (b_var B 3) da_nil)) (b_var B 1))))) ds_nil)
  (ds_cons (dst_put B.hr (b_var B 0) de_str (de_op od_add (de_it B.hr (b_var B 0) de_str) de_int))
  (ds_cons (b_set B 4 (de_it B.hr (b_var B 0) de_str))
  (ds_cons (b_set B 5 (de_op od_mod (b_ty1 (g := 1) B cd_int A.free_int (da_cons (de_op od_add (de_it B.hr (b_var B 0) de_str) (de_op od_mul (b_var B 4) de_int)) da_nil)) de_int))
  (ds_cons (b_set B 5 (de_op od_mod (b_ty1 (g := 1) B cd_int A.free_int (da_cons (de_op od_add (de_op od_mul (b_var B 5) (b_var B 5)) (de_op od_mul (b_var B 4) de_int)) da_nil)) de_int))
  (ds_one (dst_ret (de_op od_mod (b_ty1 (g := 1) B cd_int A.free_int (da_cons (de_op od_fdv (b_var B 5) de_int) da_nil)) (b_var B 1))))))))))))))
    H__law_pick
theorem F__law_common {c : Cs} (A : Ax K mg c) : Fd P w K mg base 1 "_law_common" ["_law_a", "_law_b"] S__law_common :=
  fd_of (N := ["_law_a", "_law_b"]) (vis := [0, 1]) (G := ["abs"]) (t := T__law_common) A.df__law_common (scB_ok (by kernel_rfl)) (by kernel_rfl) (fun _ _ _ _ _ _ us hl => match us, hl with | [_, _], _ => rfl)
    (fun X W B hp => (ds_cons (b_par B 0 1 (da_cons (b_blt1 (g := 0) B (cd_abs) A.free_abs (da_cons (b_var B 0) da_nil)) (da_cons (b_blt1 (g := 0) B (cd_abs) A.free_abs (da_cons (b_var B 1) da_nil)) da_nil)))
  (ds_cons (dst_while hp (dt_cmp (od_ne B.hr) (b_var B 1) de_int)
  (ds_one (b_par B 0 1 (da_cons (b_var B 1) (da_cons (de_op od_mod (b_var B 0) (b_var B 1)) da_nil)))))
  (ds_one (dst_ret (b_var B 0))))))
    H__law_common
theorem F__law_fraction {c : Cs} (A : Ax K mg c) (F__law_common : Fd P w K mg base 1 "_law_common" ["_law_a", "_law_b"] S__law_common) : Fd P w K mg base 2 "_law_fraction" ["_law_n", "_law_d"] S__law_fraction :=
  fd_of (N := ["_law_n", "_law_d", "_law_unit"]) (vis := [0, 1, 2]) (G := ["_law_common"]) (t := T__law_fraction) A.df__law_fraction (scB_ok (by kernel_rfl)) (by kernel_rfl) (fun _ _ _ _ _ _ us hl => match us, hl with | [_, _], _ => rfl)
    (fun X W B hp => (ds_cons (b_set B 2 (de_op od_mul (b_call (g := 0) B F__law_common (da_cons (b_var B 0) (da_cons (b_var B 1) da_nil))) (de_if (dt_cmp od_gt (b_var B 1) de_int) de_int (de_op od_sub de_int de_int))))
  (ds_one (dst_ret (de_tup (da_cons (de_op od_fdv (b_var B 0) (b_var B 2)) (da_cons (de_op od_fdv (b_var B 1) (b_var B 2)) da_nil)))))))
    H__law_fraction
theorem F__law_draw_fraction {c : Cs} (A : Ax K mg c) (F__law_fraction : Fd P w K mg base 2 "_law_fraction" ["_law_n", "_law_d"] S__law_fraction) (F__law_pick : Fd P w K mg base 1 "_law_pick" ["_law_source", "_law_most"] S__law_pick) : Fd P w K mg base 3 "_law_draw_fraction" ["_law_source", "_law_wide"] S__law_draw_fraction :=
  fd_of (N := ["_law_source", "_law_wide", "_law_d"]) (vis := [0, 1, 2]) (G := ["_law_pick", "_law_fraction"]) (t := T__law_draw_fraction) A.df__law_draw_fraction (scB_ok (by kernel_rfl)) (by kernel_rfl) (fun _ _ _ _ _ _ us hl => match us, hl with | [_, _], _ => rfl)
    (fun X W B hp => (ds_cons (b_set B 2 (de_it B.hr (de_lst (da_cons de_int (da_cons de_int (da_cons de_int (da_cons de_int (da_cons de_int da_nil)))))) (b_call (g := 0) B F__law_pick (da_cons (b_var B 0) (da_cons de_int da_nil)))))
  (ds_one (dst_ret (b_call (g := 1) B F__law_fraction (da_cons (de_op od_sub (b_call (g := 0) B F__law_pick (da_cons (b_var B 0) (da_cons (de_op od_add (de_op od_mul (de_op od_mul de_int (b_var B 1)) (b_var B 2)) de_int) da_nil))) (de_op od_mul (b_var B 1) (b_var B 2))) (da_cons (b_var B 2) da_nil)))))))
    H__law_draw_fraction
theorem F__law_draw_row {c : Cs} (A : Ax K mg c) (F__law_draw_fraction : Fd P w K mg base 3 "_law_draw_fraction" ["_law_source", "_law_wide"] S__law_draw_fraction) : Fd P w K mg base 4 "_law_draw_row" ["_law_source", "_law_many", "_law_wide"] S__law_draw_row :=
  fd_of (N := ["_law_source", "_law_many", "_law_wide", "_law_k"]) (vis := [0, 1, 2]) (G := ["tuple", "range"]) (t := T__law_draw_row) A.df__law_draw_row (scB_ok (by kernel_rfl)) (by kernel_rfl) (fun _ _ _ _ _ _ us hl => match us, hl with | [_, _, _], _ => rfl)
    (fun X W B hp => (ds_one (dst_ret (b_ty1 (g := 0) B cd_tuple A.free_tuple (da_cons (b_lc B [("_law_k", 3)] [0, 2, 3] [3] ["_law_draw_fraction"] (di_rng1 (B.gl (j := 1) rfl).1 (B.mgn A.free_range) (da_cons (b_var B 1) da_nil)) (fun X B => (b_name B 3)) (fun X B => dts_nil) (fun X B => (b_call (g := 0) B F__law_draw_fraction (da_cons (b_var B 0) (da_cons (b_var B 2) da_nil))))) da_nil)))))
    H__law_draw_row
theorem F__law_number {c : Cs} (A : Ax K mg c) (F__law_pick : Fd P w K mg base 1 "_law_pick" ["_law_source", "_law_most"] S__law_pick) : Fd P w K mg base 2 "_law_number" ["_law_source"] S__law_number :=
  fd_of (N := ["_law_source", "_law_kind"]) (vis := [0, 1]) (G := ["_law_pick"]) (t := T__law_number) A.df__law_number (scB_ok (by kernel_rfl)) (by kernel_rfl) (fun _ _ _ _ _ _ us hl => match us, hl with | [_], _ => rfl)
    (fun X W B hp => (ds_cons (b_set B 1 (b_call (g := 0) B F__law_pick (da_cons (b_var B 0) (da_cons de_int da_nil))))
  (ds_cons (dst_if (dt_cmp (od_eq B.hr) (b_var B 1) de_int) (ds_one (dst_ret (de_it B.hr (de_lst (da_cons (de_op od_sub (de_op od_pow de_int de_int) de_int) (da_cons (de_op od_sub de_int (de_op od_pow de_int de_int)) (da_cons (de_op od_pow de_int de_int) (da_cons (de_op od_pow de_int de_int) (da_cons de_int da_nil)))))) (b_call (g := 0) B F__law_pick (da_cons (b_var B 0) (da_cons de_int da_nil)))))) ds_nil)
  (ds_one (dst_ret (de_if (dt_cmp od_gt (b_var B 1) de_int) (de_op od_sub (b_call (g := 0) B F__law_pick (da_cons (b_var B 0) (da_cons de_int da_nil))) de_int) (de_op od_sub (de_op od_add (de_op od_mul (b_call (g := 0) B F__law_pick (da_cons (b_var B 0) (da_cons de_int da_nil))) de_int) (b_call (g := 0) B F__law_pick (da_cons (b_var B 0) (da_cons de_int da_nil)))) de_int)))))))
    H__law_number
theorem F__law_drawn {c : Cs} (A : Ax K mg c) (F__law_fraction : Fd P w K mg base 2 "_law_fraction" ["_law_n", "_law_d"] S__law_fraction) (F__law_number : Fd P w K mg base 2 "_law_number" ["_law_source"] S__law_number) : Fd P w K mg base 3 "_law_drawn" ["_law_source"] S__law_drawn :=
  fd_of (N := ["_law_source", "_law_lower"]) (vis := [0, 1]) (G := ["_law_number", "_law_fraction"]) (t := T__law_drawn) A.df__law_drawn (scB_ok (by kernel_rfl)) (by kernel_rfl) (fun _ _ _ _ _ _ us hl => match us, hl with | [_], _ => rfl)
    (fun X W B hp => (ds_cons (b_set B 1 (b_call (g := 0) B F__law_number (da_cons (b_var B 0) da_nil)))
  (ds_one (dst_ret (b_call (g := 1) B F__law_fraction (da_cons (b_call (g := 0) B F__law_number (da_cons (b_var B 0) da_nil)) (da_cons (de_if (dt_cmp (od_ne B.hr) (b_var B 1) de_int) (b_var B 1) de_int) da_nil)))))))
    H__law_drawn
theorem F__law_three_right {c : Cs} (A : Ax K mg c) (F_added : Fd P w K mg base 3 "added" ["one", "other"] S_added) (F_back : Fd P w K mg base 1 "back" ["row"] S_back) (F_is_less : Fd P w K mg base 1 "is_less" ["x", "y"] S_is_less) (F_nought : Fd P w K mg base 1 "nought" ["many"] S_nought) (F_plus : Fd P w K mg base 2 "plus" ["x", "y"] S_plus) (F_product : Fd P w K mg base 4 "product" ["one", "other"] S_product) (F_scaled : Fd P w K mg base 3 "scaled" ["row", "x"] S_scaled) (F_size_of : Fd P w K mg base 1 "size_of" ["x"] S_size_of) (F_sizes : Fd P w K mg base 4 "sizes" ["row"] S_sizes) (F_taken : Fd P w K mg base 3 "taken" ["one", "other"] S_taken) (F_times_of : Fd P w K mg base 2 "times_of" ["x", "y"] S_times_of) : Fd P w K mg base 5 "_law_three_right" ["_law_one", "_law_other", "_law_third", "_law_x"] S__law_three_right :=
  fd_of (N := ["_law_one", "_law_other", "_law_third", "_law_x", "_law_many"]) (vis := [0, 1, 2, 3, 4]) (G := ["len", "added", "back", "nought", "taken", "product", "plus", "scaled", "times_of", "is_less", "sizes", "size_of"]) (t := T__law_three_right) A.df__law_three_right (scB_ok (by kernel_rfl)) (by kernel_rfl) (fun _ _ _ _ _ _ us hl => match us, hl with | [_, _, _, _], _ => rfl)
    (fun X W B hp => (ds_cons (b_set B 4 (b_blt1 (g := 0) B (cd_len) A.free_len (da_cons (b_var B 0) da_nil)))
  (ds_cons (dst_if (dt_w (dw_or (dt_cmp (od_ne B.hr) (b_call (g := 1) B F_added (da_cons (b_call (g := 1) B F_added (da_cons (b_var B 0) (da_cons (b_var B 1) da_nil))) (da_cons (b_var B 2) da_nil))) (b_call (g := 1) B F_added (da_cons (b_var B 0) (da_cons (b_call (g := 1) B F_added (da_cons (b_var B 1) (da_cons (b_var B 2) da_nil))) da_nil)))) (dw_or1 (dt_cmp (od_ne B.hr) (b_call (g := 1) B F_added (da_cons (b_var B 0) (da_cons (b_var B 1) da_nil))) (b_call (g := 1) B F_added (da_cons (b_var B 1) (da_cons (b_var B 0) da_nil))))))) (ds_one (dst_ret de_bl)) ds_nil)
  (ds_cons (dst_if (dt_w (dw_or (dt_cmp (od_ne B.hr) (b_call (g := 1) B F_added (da_cons (b_var B 0) (da_cons (b_call (g := 2) B F_back (da_cons (b_var B 0) da_nil)) da_nil))) (b_call (g := 3) B F_nought (da_cons (b_var B 4) da_nil))) (dw_or (dt_cmp (od_ne B.hr) (b_call (g := 4) B F_taken (da_cons (b_var B 0) (da_cons (b_var B 1) da_nil))) (b_call (g := 1) B F_added (da_cons (b_var B 0) (da_cons (b_call (g := 2) B F_back (da_cons (b_var B 1) da_nil)) da_nil)))) (dw_or1 (dt_cmp (od_ne B.hr) (b_call (g := 2) B F_back (da_cons (b_call (g := 2) B F_back (da_cons (b_var B 0) da_nil)) da_nil)) (b_var B 0)))))) (ds_one (dst_ret de_bl)) ds_nil)
  (ds_cons (dst_if (dt_cmp (od_ne B.hr) (b_call (g := 5) B F_product (da_cons (b_call (g := 1) B F_added (da_cons (b_var B 0) (da_cons (b_var B 1) da_nil))) (da_cons (b_var B 2) da_nil))) (b_call (g := 6) B F_plus (da_cons (b_call (g := 5) B F_product (da_cons (b_var B 0) (da_cons (b_var B 2) da_nil))) (da_cons (b_call (g := 5) B F_product (da_cons (b_var B 1) (da_cons (b_var B 2) da_nil))) da_nil)))) (ds_one (dst_ret de_bl)) ds_nil)
  (ds_cons (dst_if (dt_cmp (od_ne B.hr) (b_call (g := 7) B F_scaled (da_cons (b_call (g := 1) B F_added (da_cons (b_var B 0) (da_cons (b_var B 1) da_nil))) (da_cons (b_var B 3) da_nil))) (b_call (g := 1) B F_added (da_cons (b_call (g := 7) B F_scaled (da_cons (b_var B 0) (da_cons (b_var B 3) da_nil))) (da_cons (b_call (g := 7) B F_scaled (da_cons (b_var B 1) (da_cons (b_var B 3) da_nil))) da_nil)))) (ds_one (dst_ret de_bl)) ds_nil)
  (ds_cons (dst_if (dt_w (dw_or (dt_cmp (od_ne B.hr) (b_call (g := 5) B F_product (da_cons (b_call (g := 7) B F_scaled (da_cons (b_var B 0) (da_cons (b_var B 3) da_nil))) (da_cons (b_var B 1) da_nil))) (b_call (g := 8) B F_times_of (da_cons (b_var B 3) (da_cons (b_call (g := 5) B F_product (da_cons (b_var B 0) (da_cons (b_var B 1) da_nil))) da_nil)))) (dw_or1 (dt_cmp (od_ne B.hr) (b_call (g := 5) B F_product (da_cons (b_var B 0) (da_cons (b_call (g := 3) B F_nought (da_cons (b_var B 4) da_nil)) da_nil))) (de_tup (da_cons de_int (da_cons de_int da_nil))))))) (ds_one (dst_ret de_bl)) ds_nil)
  (ds_cons (dst_if (dt_w (dw_or (dt_val (b_call (g := 9) B F_is_less (da_cons (b_call (g := 6) B F_plus (da_cons (b_call (g := 10) B F_sizes (da_cons (b_var B 0) da_nil)) (da_cons (b_call (g := 10) B F_sizes (da_cons (b_var B 1) da_nil)) da_nil))) (da_cons (b_call (g := 10) B F_sizes (da_cons (b_call (g := 1) B F_added (da_cons (b_var B 0) (da_cons (b_var B 1) da_nil))) da_nil)) da_nil)))) (dw_or1 (dt_cmp (od_ne B.hr) (b_call (g := 10) B F_sizes (da_cons (b_call (g := 2) B F_back (da_cons (b_var B 0) da_nil)) da_nil)) (b_call (g := 10) B F_sizes (da_cons (b_var B 0) da_nil)))))) (ds_one (dst_ret de_bl)) ds_nil)
  (ds_one (dst_ret (de_not (b_call (g := 9) B F_is_less (da_cons (b_call (g := 8) B F_times_of (da_cons (b_call (g := 10) B F_sizes (da_cons (b_var B 0) da_nil)) (da_cons (b_call (g := 10) B F_sizes (da_cons (b_var B 1) da_nil)) da_nil))) (da_cons (b_call (g := 11) B F_size_of (da_cons (b_call (g := 5) B F_product (da_cons (b_var B 0) (da_cons (b_var B 1) da_nil))) da_nil)) da_nil))))))))))))))
    H__law_three_right
theorem F_ascending {c : Cs} (A : Ax K mg c) (F_common_of : Fd P w K mg base 1 "common_of" ["numbers"] S_common_of) : Fd P w K mg base 2 "ascending" ["fractions"] S_ascending :=
  fd_of (N := ["fractions", "once", "common", "one", "n", "d", "key"]) (vis := [0, 1, 2]) (G := ["list", "common_of", "sorted"]) (t := T_ascending) A.df_ascending (scB_ok (by kernel_rfl)) (by kernel_rfl) (fun _ _ _ _ _ _ us hl => match us, hl with | [_], _ => rfl)
    (fun X W B hp => (ds_cons (b_set B 1 (b_lset (g := 0) (j := 3) B [("one", 3)] [3] [3] [] (di_seq (b_var B 0)) A.free_list (fun X B => (b_name B 3)) (fun X B => (b_var B 3))))
  (ds_cons (b_set B 2 (b_call (g := 1) B F_common_of (da_cons (b_lc B [("n", 4), ("d", 5)] [4, 5] [4, 5] [] (di_seq (b_var B 1)) (fun X B => (tg_tup B.calm (tgs_cons (b_name B 4) (tgs_cons (b_name B 5) tgs_nil)))) (fun X B => dts_nil) (fun X B => (b_var B 5))) da_nil)))
  (ds_one (dst_ret (b_lc B [("key", 6), ("one", 3)] [3, 6] [3, 6] [] (di_seq (b_blt1 (g := 2) B (cd_sortP) A.free_sorted (da_cons (b_lc B [("one", 3)] [2, 3] [3] [] (di_seq (b_var B 1)) (fun X B => (b_name B 3)) (fun X B => dts_nil) (fun X B => (de_tup (da_cons (de_op od_mul (de_it B.hr (b_var B 3) de_int) (de_op od_fdv (b_var B 2) (de_it B.hr (b_var B 3) de_int))) (da_cons (b_var B 3) da_nil))))) da_nil))) (fun X B => (tg_tup B.calm (tgs_cons (b_name B 6) (tgs_cons (b_name B 3) tgs_nil)))) (fun X B => dts_nil) (fun X B => (b_var B 3))))))))
    H_ascending
end
def loose0 : List PySem.Str := [("__name__" : PySem.Str), ("copied" : PySem.Str), ("LevelError" : PySem.Str), ("BadFraction" : PySem.Str), ("BadText" : PySem.Str), ("ZERO" : PySem.Str), ("is_number" : PySem.Str), ("in_form" : PySem.Str), ("fraction" : PySem.Str), ("is_fraction" : PySem.Str), ("plus" : PySem.Str), ("minus" : PySem.Str), ("times_of" : PySem.Str), ("divided" : PySem.Str), ("is_less" : PySem.Str), ("size_of" : PySem.Str), ("summed" : PySem.Str), ("common_of" : PySem.Str), ("ascending" : PySem.Str), ("is_row" : PySem.Str)]
def loose1 : List PySem.Str := [("added" : PySem.Str), ("taken" : PySem.Str), ("scaled" : PySem.Str), ("back" : PySem.Str), ("nought" : PySem.Str), ("product" : PySem.Str), ("sizes" : PySem.Str), ("FIGURES" : PySem.Str), ("MOST_FIGURES" : PySem.Str), ("MOST_LEVELS" : PySem.Str), ("fraction_text" : PySem.Str), ("row_text" : PySem.Str), ("Signs" : PySem.Str), ("fail" : PySem.Str), ("take" : PySem.Str), ("number_at" : PySem.Str), ("integer_at" : PySem.Str), ("lower_at" : PySem.Str), ("fraction_at" : PySem.Str), ("row_at" : PySem.Str)]
def loose2 : List PySem.Str := [("signs_of" : PySem.Str), ("ended" : PySem.Str), ("read_fraction" : PySem.Str), ("read_row" : PySem.Str), ("_law_open_cells" : PySem.Str), ("_law_pick" : PySem.Str), ("_law_common" : PySem.Str), ("_law_fraction" : PySem.Str), ("_law_draw_fraction" : PySem.Str), ("_law_draw_row" : PySem.Str), ("_law_number" : PySem.Str), ("_law_drawn" : PySem.Str), ("_law_three_right" : PySem.Str)]
def loose : List PySem.Str := loose0 ++ loose1 ++ loose2
def dd_is_number : He.DefD := ⟨("is_number", none), "is_number", "is_number", defArgs (top 8), defBody (top 8), defScope (top 8), [], []⟩
def dd_in_form : He.DefD := ⟨("in_form", none), "in_form", "in_form", defArgs (top 9), defBody (top 9), defScope (top 9), [], []⟩
def dd_fraction : He.DefD := ⟨("fraction", none), "fraction", "fraction", defArgs (top 10), defBody (top 10), defScope (top 10), [], []⟩
def dd_is_fraction : He.DefD := ⟨("is_fraction", none), "is_fraction", "is_fraction", defArgs (top 11), defBody (top 11), defScope (top 11), [], []⟩
def dd_plus : He.DefD := ⟨("plus", none), "plus", "plus", defArgs (top 12), defBody (top 12), defScope (top 12), [], []⟩
def dd_minus : He.DefD := ⟨("minus", none), "minus", "minus", defArgs (top 13), defBody (top 13), defScope (top 13), [], []⟩
def dd_times_of : He.DefD := ⟨("times_of", none), "times_of", "times_of", defArgs (top 14), defBody (top 14), defScope (top 14), [], []⟩
def dd_divided : He.DefD := ⟨("divided", none), "divided", "divided", defArgs (top 15), defBody (top 15), defScope (top 15), [], []⟩
def dd_is_less : He.DefD := ⟨("is_less", none), "is_less", "is_less", defArgs (top 16), defBody (top 16), defScope (top 16), [], []⟩
def dd_size_of : He.DefD := ⟨("size_of", none), "size_of", "size_of", defArgs (top 17), defBody (top 17), defScope (top 17), [], []⟩
def dd_summed : He.DefD := ⟨("summed", none), "summed", "summed", defArgs (top 18), defBody (top 18), defScope (top 18), [], []⟩
def dd_common_of : He.DefD := ⟨("common_of", none), "common_of", "common_of", defArgs (top 19), defBody (top 19), defScope (top 19), [], []⟩
def dd_is_row : He.DefD := ⟨("is_row", none), "is_row", "is_row", defArgs (top 22), defBody (top 22), defScope (top 22), [], []⟩
def dd_added : He.DefD := ⟨("added", none), "added", "added", defArgs (top 23), defBody (top 23), defScope (top 23), [], []⟩
def dd_taken : He.DefD := ⟨("taken", none), "taken", "taken", defArgs (top 24), defBody (top 24), defScope (top 24), [], []⟩
def dd_scaled : He.DefD := ⟨("scaled", none), "scaled", "scaled", defArgs (top 25), defBody (top 25), defScope (top 25), [], []⟩
def dd_back : He.DefD := ⟨("back", none), "back", "back", defArgs (top 26), defBody (top 26), defScope (top 26), [], []⟩
def dd_nought : He.DefD := ⟨("nought", none), "nought", "nought", defArgs (top 27), defBody (top 27), defScope (top 27), [], []⟩
def dd_product : He.DefD := ⟨("product", none), "product", "product", defArgs (top 28), defBody (top 28), defScope (top 28), [], []⟩
def dd_sizes : He.DefD := ⟨("sizes", none), "sizes", "sizes", defArgs (top 29), defBody (top 29), defScope (top 29), [], []⟩
def dd_fraction_text : He.DefD := ⟨("fraction_text", none), "fraction_text", "fraction_text", defArgs (top 34), defBody (top 34), defScope (top 34), [], []⟩
def dd_row_text : He.DefD := ⟨("row_text", none), "row_text", "row_text", defArgs (top 35), defBody (top 35), defScope (top 35), [], []⟩
def dd_Signs___init__ : He.DefD := ⟨("Signs", some "__init__"), "__init__", "Signs.__init__", defArgs (inCls (top 36) 0), defBody (inCls (top 36) 0), defScope (inCls (top 36) 0), [], []⟩
def dd_Signs_is_at : He.DefD := ⟨("Signs", some "is_at"), "is_at", "Signs.is_at", defArgs (inCls (top 36) 1), defBody (inCls (top 36) 1), defScope (inCls (top 36) 1), [], []⟩
def dd_Signs_is_figure : He.DefD := ⟨("Signs", some "is_figure"), "is_figure", "Signs.is_figure", defArgs (inCls (top 36) 2), defBody (inCls (top 36) 2), defScope (inCls (top 36) 2), [], []⟩
def dd_Signs_is_end : He.DefD := ⟨("Signs", some "is_end"), "is_end", "Signs.is_end", defArgs (inCls (top 36) 3), defBody (inCls (top 36) 3), defScope (inCls (top 36) 3), [], []⟩
def dd_Signs_step : He.DefD := ⟨("Signs", some "step"), "step", "Signs.step", defArgs (inCls (top 36) 4), defBody (inCls (top 36) 4), defScope (inCls (top 36) 4), [], []⟩
def dd_Signs_told : He.DefD := ⟨("Signs", some "told"), "told", "Signs.told", defArgs (inCls (top 36) 5), defBody (inCls (top 36) 5), defScope (inCls (top 36) 5), [], []⟩
def dd_fail : He.DefD := ⟨("fail", none), "fail", "fail", defArgs (top 37), defBody (top 37), defScope (top 37), [], []⟩
def dd_take : He.DefD := ⟨("take", none), "take", "take", defArgs (top 38), defBody (top 38), defScope (top 38), [], []⟩
def dd_number_at : He.DefD := ⟨("number_at", none), "number_at", "number_at", defArgs (top 39), defBody (top 39), defScope (top 39), [], []⟩
def dd_integer_at : He.DefD := ⟨("integer_at", none), "integer_at", "integer_at", defArgs (top 40), defBody (top 40), defScope (top 40), [], []⟩
def dd_lower_at : He.DefD := ⟨("lower_at", none), "lower_at", "lower_at", defArgs (top 41), defBody (top 41), defScope (top 41), [], []⟩
def dd_fraction_at : He.DefD := ⟨("fraction_at", none), "fraction_at", "fraction_at", defArgs (top 42), defBody (top 42), defScope (top 42), [], []⟩
def dd_row_at : He.DefD := ⟨("row_at", none), "row_at", "row_at", defArgs (top 43), defBody (top 43), defScope (top 43), [], []⟩
def dd_signs_of : He.DefD := ⟨("signs_of", none), "signs_of", "signs_of", defArgs (top 44), defBody (top 44), defScope (top 44), [], []⟩
def dd_ended : He.DefD := ⟨("ended", none), "ended", "ended", defArgs (top 45), defBody (top 45), defScope (top 45), [], []⟩
def dd_read_fraction : He.DefD := ⟨("read_fraction", none), "read_fraction", "read_fraction", defArgs (top 46), defBody (top 46), defScope (top 46), [], []⟩
def dd_read_row : He.DefD := ⟨("read_row", none), "read_row", "read_row", defArgs (top 47), defBody (top 47), defScope (top 47), [], []⟩
def dd__law_open_cells : He.DefD := ⟨("_law_open_cells", none), "_law_open_cells", "_law_open_cells", defArgs (top 49), defBody (top 49), defScope (top 49), [], []⟩
def dd__law_pick : He.DefD := ⟨("_law_pick", none), "_law_pick", "_law_pick", defArgs (top 50), defBody (top 50), defScope (top 50), [], []⟩
def dd__law_common : He.DefD := ⟨("_law_common", none), "_law_common", "_law_common", defArgs (top 51), defBody (top 51), defScope (top 51), [], []⟩
def dd__law_fraction : He.DefD := ⟨("_law_fraction", none), "_law_fraction", "_law_fraction", defArgs (top 52), defBody (top 52), defScope (top 52), [], []⟩
def dd__law_draw_fraction : He.DefD := ⟨("_law_draw_fraction", none), "_law_draw_fraction", "_law_draw_fraction", defArgs (top 53), defBody (top 53), defScope (top 53), [], []⟩
def dd__law_draw_row : He.DefD := ⟨("_law_draw_row", none), "_law_draw_row", "_law_draw_row", defArgs (top 54), defBody (top 54), defScope (top 54), [], []⟩
def dd__law_number : He.DefD := ⟨("_law_number", none), "_law_number", "_law_number", defArgs (top 55), defBody (top 55), defScope (top 55), [], []⟩
def dd__law_drawn : He.DefD := ⟨("_law_drawn", none), "_law_drawn", "_law_drawn", defArgs (top 56), defBody (top 56), defScope (top 56), [], []⟩
def dd__law_three_right : He.DefD := ⟨("_law_three_right", none), "_law_three_right", "_law_three_right", defArgs (top 57), defBody (top 57), defScope (top 57), [], []⟩
def dd_ascending : He.DefD := ⟨("ascending", none), "ascending", "ascending", defArgs (top 20), defBody (top 20), defScope (top 20), [], []⟩
def dd_law : He.DefD := ⟨("law", none), "law", "law", defArgs (top 58), defBody (top 58), defScope (top 58), [], []⟩
def fn0 : List He.DefD := [dd_is_number, dd_in_form, dd_fraction, dd_is_fraction, dd_plus, dd_minus, dd_times_of, dd_divided, dd_is_less, dd_size_of, dd_summed, dd_common_of]
def fn1 : List He.DefD := [dd_is_row, dd_added, dd_taken, dd_scaled, dd_back, dd_nought, dd_product, dd_sizes, dd_fraction_text, dd_row_text, dd_Signs___init__, dd_Signs_is_at]
def fn2 : List He.DefD := [dd_Signs_is_figure, dd_Signs_is_end, dd_Signs_step, dd_Signs_told, dd_fail, dd_take, dd_number_at, dd_integer_at, dd_lower_at, dd_fraction_at, dd_row_at, dd_signs_of]
def fn3 : List He.DefD := [dd_ended, dd_read_fraction, dd_read_row, dd__law_open_cells, dd__law_pick, dd__law_common, dd__law_fraction, dd__law_draw_fraction, dd__law_draw_row, dd__law_number, dd__law_drawn, dd__law_three_right]
def fn4 : List He.DefD := [dd_ascending, dd_law]
def fn : List He.DefD := fn0 ++ fn1 ++ fn2 ++ fn3 ++ fn4
def fa0 : List He.Fa := [.free "abs", .free "all", .free "bool", .free "int", .free "isinstance", .free "len", .free "list", .free "range", .free "sorted", .free "str", .free "tuple", .free "zip", .glo "is_number", .glo "in_form", .glo "fraction", .glo "is_fraction", .glo "plus", .glo "minus", .glo "times_of", .glo "divided"]
def fa1 : List He.Fa := [.glo "is_less", .glo "size_of", .glo "summed", .glo "common_of", .glo "is_row", .glo "added", .glo "taken", .glo "scaled", .glo "back", .glo "nought", .glo "product", .glo "sizes", .glo "fraction_text", .glo "row_text", .mkr "Signs", .meth "Signs" "is_at", .meth "Signs" "is_figure", .meth "Signs" "is_end", .meth "Signs" "step", .meth "Signs" "told"]
def fa2 : List He.Fa := [.glo "fail", .glo "take", .glo "number_at", .glo "integer_at", .glo "lower_at", .glo "fraction_at", .glo "row_at", .glo "signs_of", .glo "ended", .glo "read_fraction", .glo "read_row", .glo "_law_open_cells", .glo "_law_pick", .glo "_law_common", .glo "_law_fraction", .glo "_law_draw_fraction", .glo "_law_draw_row", .glo "_law_number", .glo "_law_drawn", .glo "_law_three_right"]
def fa3 : List He.Fa := [.glo "ascending", .glo "law", .cls "Signs", .glo "Signs", .noat "Signs" "place", .noat "Signs" "signs"]
def fa : List He.Fa := fa0 ++ fa1 ++ fa2 ++ fa3
def ck : List Ck := [.blt "gcd" "math.gcd", .cst "FIGURES" c_FIGURES, .cst "MOST_FIGURES" c_MOST_FIGURES, .cst "MOST_LEVELS" c_MOST_LEVELS, .cst "ZERO" c_ZERO]
abbrev hk : PySem.W.Hook := He.hookX 4 fa fn [] [] (cks ck)
def ob (s : PySem.W.SharedT) : He.AlX := He.obsX 4 fa fn [] [] (cks ck) (HandSHeadRun.getT s)
theorem ob_eq (s : PySem.W.SharedT) : ob s = hk.obs s.abs := He.obsX_eq (HandSHeadRun.getT_eq s)
abbrev RO : PySem.W.OpenRow := PySem.W.OpenLaw.row PySem.Challenge.rw_ledlevels_k08_whole_rows_and_texts
theorem run (w : World) : HandSHeadRun.RunEqI RO (PySem.W.view RO.prog [0, 58]) hk ob 4000 loose w := by
  unfold HandSHeadRun.RunEqI; kernel_rfl
theorem ax {K : PySem.W.Frag} {h : Heap} {mg : Str → Option Value} {w : World} (X : K.In h) (G : h.Ns mainGlobals mg) (S : He.SaysX fa fn [] [] (cks ck) w h K) : Ax K mg ⟨He.ga K "Signs"⟩ where
  free_abs := He.free_ok X G (S.t.d.fact 0)
  free_all := He.free_ok X G (S.t.d.fact 1)
  free_bool := He.free_ok X G (S.t.d.fact 2)
  free_int := He.free_ok X G (S.t.d.fact 3)
  free_isinstance := He.free_ok X G (S.t.d.fact 4)
  free_len := He.free_ok X G (S.t.d.fact 5)
  free_list := He.free_ok X G (S.t.d.fact 6)
  free_range := He.free_ok X G (S.t.d.fact 7)
  free_sorted := He.free_ok X G (S.t.d.fact 8)
  free_str := He.free_ok X G (S.t.d.fact 9)
  free_tuple := He.free_ok X G (S.t.d.fact 10)
  free_zip := He.free_ok X G (S.t.d.fact 11)
  gcd := ck_blt X G (cks_at S.more 0)
  const_FIGURES := ck_cst X G (cks_at S.more 1)
  const_MOST_FIGURES := ck_cst X G (cks_at S.more 2)
  const_MOST_LEVELS := ck_cst X G (cks_at S.more 3)
  const_ZERO := ck_cst X G (cks_at S.more 4)
  df_is_number := let ⟨fd, F⟩ := S.t.d.def_ (d := dd_is_number) 0; ⟨_, fd, F, He.glo_ok X G (S.t.d.fact 12)⟩
  df_in_form := let ⟨fd, F⟩ := S.t.d.def_ (d := dd_in_form) 1; ⟨_, fd, F, He.glo_ok X G (S.t.d.fact 13)⟩
  df_fraction := let ⟨fd, F⟩ := S.t.d.def_ (d := dd_fraction) 2; ⟨_, fd, F, He.glo_ok X G (S.t.d.fact 14)⟩
  df_is_fraction := let ⟨fd, F⟩ := S.t.d.def_ (d := dd_is_fraction) 3; ⟨_, fd, F, He.glo_ok X G (S.t.d.fact 15)⟩
  df_plus := let ⟨fd, F⟩ := S.t.d.def_ (d := dd_plus) 4; ⟨_, fd, F, He.glo_ok X G (S.t.d.fact 16)⟩
  df_minus := let ⟨fd, F⟩ := S.t.d.def_ (d := dd_minus) 5; ⟨_, fd, F, He.glo_ok X G (S.t.d.fact 17)⟩
  df_times_of := let ⟨fd, F⟩ := S.t.d.def_ (d := dd_times_of) 6; ⟨_, fd, F, He.glo_ok X G (S.t.d.fact 18)⟩
  df_divided := let ⟨fd, F⟩ := S.t.d.def_ (d := dd_divided) 7; ⟨_, fd, F, He.glo_ok X G (S.t.d.fact 19)⟩
  df_is_less := let ⟨fd, F⟩ := S.t.d.def_ (d := dd_is_less) 8; ⟨_, fd, F, He.glo_ok X G (S.t.d.fact 20)⟩
  df_size_of := let ⟨fd, F⟩ := S.t.d.def_ (d := dd_size_of) 9; ⟨_, fd, F, He.glo_ok X G (S.t.d.fact 21)⟩
  df_summed := let ⟨fd, F⟩ := S.t.d.def_ (d := dd_summed) 10; ⟨_, fd, F, He.glo_ok X G (S.t.d.fact 22)⟩
  df_common_of := let ⟨fd, F⟩ := S.t.d.def_ (d := dd_common_of) 11; ⟨_, fd, F, He.glo_ok X G (S.t.d.fact 23)⟩
  df_is_row := let ⟨fd, F⟩ := S.t.d.def_ (d := dd_is_row) 12; ⟨_, fd, F, He.glo_ok X G (S.t.d.fact 24)⟩
  df_added := let ⟨fd, F⟩ := S.t.d.def_ (d := dd_added) 13; ⟨_, fd, F, He.glo_ok X G (S.t.d.fact 25)⟩
  df_taken := let ⟨fd, F⟩ := S.t.d.def_ (d := dd_taken) 14; ⟨_, fd, F, He.glo_ok X G (S.t.d.fact 26)⟩
  df_scaled := let ⟨fd, F⟩ := S.t.d.def_ (d := dd_scaled) 15; ⟨_, fd, F, He.glo_ok X G (S.t.d.fact 27)⟩
  df_back := let ⟨fd, F⟩ := S.t.d.def_ (d := dd_back) 16; ⟨_, fd, F, He.glo_ok X G (S.t.d.fact 28)⟩
  df_nought := let ⟨fd, F⟩ := S.t.d.def_ (d := dd_nought) 17; ⟨_, fd, F, He.glo_ok X G (S.t.d.fact 29)⟩
  df_product := let ⟨fd, F⟩ := S.t.d.def_ (d := dd_product) 18; ⟨_, fd, F, He.glo_ok X G (S.t.d.fact 30)⟩
  df_sizes := let ⟨fd, F⟩ := S.t.d.def_ (d := dd_sizes) 19; ⟨_, fd, F, He.glo_ok X G (S.t.d.fact 31)⟩
  df_fraction_text := let ⟨fd, F⟩ := S.t.d.def_ (d := dd_fraction_text) 20; ⟨_, fd, F, He.glo_ok X G (S.t.d.fact 32)⟩
  df_row_text := let ⟨fd, F⟩ := S.t.d.def_ (d := dd_row_text) 21; ⟨_, fd, F, He.glo_ok X G (S.t.d.fact 33)⟩
  di_Signs := let ⟨fd, F⟩ := S.t.d.def_ (d := dd_Signs___init__) 22; ⟨_, fd, F, He.mkr_ok (S.t.d.fact 34)⟩
  dm_Signs_is_at := let ⟨fd, F⟩ := S.t.d.def_ (d := dd_Signs_is_at) 23; ⟨_, fd, F, He.meth_ok (S.t.d.fact 35)⟩
  dm_Signs_is_figure := let ⟨fd, F⟩ := S.t.d.def_ (d := dd_Signs_is_figure) 24; ⟨_, fd, F, He.meth_ok (S.t.d.fact 36)⟩
  dm_Signs_is_end := let ⟨fd, F⟩ := S.t.d.def_ (d := dd_Signs_is_end) 25; ⟨_, fd, F, He.meth_ok (S.t.d.fact 37)⟩
  dm_Signs_step := let ⟨fd, F⟩ := S.t.d.def_ (d := dd_Signs_step) 26; ⟨_, fd, F, He.meth_ok (S.t.d.fact 38)⟩
  dm_Signs_told := let ⟨fd, F⟩ := S.t.d.def_ (d := dd_Signs_told) 27; ⟨_, fd, F, He.meth_ok (S.t.d.fact 39)⟩
  df_fail := let ⟨fd, F⟩ := S.t.d.def_ (d := dd_fail) 28; ⟨_, fd, F, He.glo_ok X G (S.t.d.fact 40)⟩
  df_take := let ⟨fd, F⟩ := S.t.d.def_ (d := dd_take) 29; ⟨_, fd, F, He.glo_ok X G (S.t.d.fact 41)⟩
  df_number_at := let ⟨fd, F⟩ := S.t.d.def_ (d := dd_number_at) 30; ⟨_, fd, F, He.glo_ok X G (S.t.d.fact 42)⟩
  df_integer_at := let ⟨fd, F⟩ := S.t.d.def_ (d := dd_integer_at) 31; ⟨_, fd, F, He.glo_ok X G (S.t.d.fact 43)⟩
  df_lower_at := let ⟨fd, F⟩ := S.t.d.def_ (d := dd_lower_at) 32; ⟨_, fd, F, He.glo_ok X G (S.t.d.fact 44)⟩
  df_fraction_at := let ⟨fd, F⟩ := S.t.d.def_ (d := dd_fraction_at) 33; ⟨_, fd, F, He.glo_ok X G (S.t.d.fact 45)⟩
  df_row_at := let ⟨fd, F⟩ := S.t.d.def_ (d := dd_row_at) 34; ⟨_, fd, F, He.glo_ok X G (S.t.d.fact 46)⟩
  df_signs_of := let ⟨fd, F⟩ := S.t.d.def_ (d := dd_signs_of) 35; ⟨_, fd, F, He.glo_ok X G (S.t.d.fact 47)⟩
  df_ended := let ⟨fd, F⟩ := S.t.d.def_ (d := dd_ended) 36; ⟨_, fd, F, He.glo_ok X G (S.t.d.fact 48)⟩
  df_read_fraction := let ⟨fd, F⟩ := S.t.d.def_ (d := dd_read_fraction) 37; ⟨_, fd, F, He.glo_ok X G (S.t.d.fact 49)⟩
  df_read_row := let ⟨fd, F⟩ := S.t.d.def_ (d := dd_read_row) 38; ⟨_, fd, F, He.glo_ok X G (S.t.d.fact 50)⟩
  df__law_open_cells := let ⟨fd, F⟩ := S.t.d.def_ (d := dd__law_open_cells) 39; ⟨_, fd, F, He.glo_ok X G (S.t.d.fact 51)⟩
  df__law_pick := let ⟨fd, F⟩ := S.t.d.def_ (d := dd__law_pick) 40; ⟨_, fd, F, He.glo_ok X G (S.t.d.fact 52)⟩
  df__law_common := let ⟨fd, F⟩ := S.t.d.def_ (d := dd__law_common) 41; ⟨_, fd, F, He.glo_ok X G (S.t.d.fact 53)⟩
  df__law_fraction := let ⟨fd, F⟩ := S.t.d.def_ (d := dd__law_fraction) 42; ⟨_, fd, F, He.glo_ok X G (S.t.d.fact 54)⟩
  df__law_draw_fraction := let ⟨fd, F⟩ := S.t.d.def_ (d := dd__law_draw_fraction) 43; ⟨_, fd, F, He.glo_ok X G (S.t.d.fact 55)⟩
  df__law_draw_row := let ⟨fd, F⟩ := S.t.d.def_ (d := dd__law_draw_row) 44; ⟨_, fd, F, He.glo_ok X G (S.t.d.fact 56)⟩
  df__law_number := let ⟨fd, F⟩ := S.t.d.def_ (d := dd__law_number) 45; ⟨_, fd, F, He.glo_ok X G (S.t.d.fact 57)⟩
  df__law_drawn := let ⟨fd, F⟩ := S.t.d.def_ (d := dd__law_drawn) 46; ⟨_, fd, F, He.glo_ok X G (S.t.d.fact 58)⟩
  df__law_three_right := let ⟨fd, F⟩ := S.t.d.def_ (d := dd__law_three_right) 47; ⟨_, fd, F, He.glo_ok X G (S.t.d.fact 59)⟩
  df_ascending := let ⟨fd, F⟩ := S.t.d.def_ (d := dd_ascending) 48; ⟨_, fd, F, He.glo_ok X G (S.t.d.fact 60)⟩
  df_law := let ⟨fd, F⟩ := S.t.d.def_ (d := dd_law) 49; ⟨_, fd, F, He.glo_ok X G (S.t.d.fact 61)⟩
  kl_Signs := ⟨He.cls_ok (S.t.d.fact 62), fun f hf => by
    simp only [List.mem_cons, List.not_mem_nil, or_false] at hf
    rcases hf with rfl | rfl
    · exact He.noat_ok (S.t.d.fact 64)
    · exact He.noat_ok (S.t.d.fact 65)⟩
  mg_Signs := He.glo_ok X G (S.t.d.fact 63)
theorem fin (w : World) (mg : Str → Option Value) (h : Heap) (Yh : hk.says w h) (G : h.Ns mainGlobals mg) : ∃ (K : PySem.W.Frag) (fd : FuncData) (fa : Addr), K.In h ∧ mg (HandSHeadRun.topDef RO.prog 58).name = some (.ref fa) ∧ (∀ (s : Shared) (u : Value), BindsTo s fd ⟨[u], []⟩ [("_law_script", u)]) ∧
    ∀ base : Heap, K.In base → base.Ns mainGlobals mg → FnOk PySem.Challenge.rw_ledlevels_k08_whole_rows_and_texts.prog w K mg base (L2.CX PySem.Challenge.rw_ledlevels_k08_whole_rows_and_texts.prog w) 7 fa fd ["_law_script"] (spD K S_law) := by
  obtain ⟨K, X, S⟩ := Yh
  have A := ax X G S
  obtain ⟨f, fd, F, hm⟩ := A.df_law
  refine ⟨K, fd, f, X, hm, fun s u => F.bindsA (ps := ["_law_script"]) (fun _ _ _ _ _ _ us hl => match us, hl with | [_], _ => rfl) s [u] rfl, fun base _ _ => ?_⟩
  exact okD_of (N := ["_law_script", "_law_source", "_law_lap", "_law_many", "_law_one", "_law_other", "_law_third", "_law_x", "_law_made", "_law_told", "_law_k", "_law_y", "_law_z"]) (vis := [0, 1, 2, 3, 4, 5, 6, 7, 8, 9]) (G := ["_law_open_cells", "range", "_law_pick", "tuple", "_law_draw_row", "_law_drawn", "_law_three_right", "added", "scaled", "is_row", "read_row", "row_text", "read_fraction", "fraction_text", "sizes", "divided", "ascending", "zip"]) (t := T_law) F (scB_ok (by kernel_rfl)) (by kernel_rfl) (fun X W B hp => by
    have F_is_number := F_is_number (P := PySem.Challenge.rw_ledlevels_k08_whole_rows_and_texts.prog) (w := w) (base := base) A
    have F_in_form := F_in_form (P := PySem.Challenge.rw_ledlevels_k08_whole_rows_and_texts.prog) (w := w) (base := base) A
    have F_fraction := F_fraction (P := PySem.Challenge.rw_ledlevels_k08_whole_rows_and_texts.prog) (w := w) (base := base) A F_in_form F_is_number
    have F_is_fraction := F_is_fraction (P := PySem.Challenge.rw_ledlevels_k08_whole_rows_and_texts.prog) (w := w) (base := base) A F_is_number
    have F_plus := F_plus (P := PySem.Challenge.rw_ledlevels_k08_whole_rows_and_texts.prog) (w := w) (base := base) A F_in_form
    have F_minus := F_minus (P := PySem.Challenge.rw_ledlevels_k08_whole_rows_and_texts.prog) (w := w) (base := base) A F_in_form
    have F_times_of := F_times_of (P := PySem.Challenge.rw_ledlevels_k08_whole_rows_and_texts.prog) (w := w) (base := base) A F_in_form
    have F_divided := F_divided (P := PySem.Challenge.rw_ledlevels_k08_whole_rows_and_texts.prog) (w := w) (base := base) A F_fraction
    have F_is_less := F_is_less (P := PySem.Challenge.rw_ledlevels_k08_whole_rows_and_texts.prog) (w := w) (base := base) A
    have F_size_of := F_size_of (P := PySem.Challenge.rw_ledlevels_k08_whole_rows_and_texts.prog) (w := w) (base := base) A
    have F_summed := F_summed (P := PySem.Challenge.rw_ledlevels_k08_whole_rows_and_texts.prog) (w := w) (base := base) A F_plus
    have F_common_of := F_common_of (P := PySem.Challenge.rw_ledlevels_k08_whole_rows_and_texts.prog) (w := w) (base := base) A
    have F_is_row := F_is_row (P := PySem.Challenge.rw_ledlevels_k08_whole_rows_and_texts.prog) (w := w) (base := base) A F_is_fraction
    have F_added := F_added (P := PySem.Challenge.rw_ledlevels_k08_whole_rows_and_texts.prog) (w := w) (base := base) A F_plus
    have F_taken := F_taken (P := PySem.Challenge.rw_ledlevels_k08_whole_rows_and_texts.prog) (w := w) (base := base) A F_minus
    have F_scaled := F_scaled (P := PySem.Challenge.rw_ledlevels_k08_whole_rows_and_texts.prog) (w := w) (base := base) A F_times_of
    have F_back := F_back (P := PySem.Challenge.rw_ledlevels_k08_whole_rows_and_texts.prog) (w := w) (base := base) A
    have F_nought := F_nought (P := PySem.Challenge.rw_ledlevels_k08_whole_rows_and_texts.prog) (w := w) (base := base) A
    have F_product := F_product (P := PySem.Challenge.rw_ledlevels_k08_whole_rows_and_texts.prog) (w := w) (base := base) A F_summed F_times_of
    have F_sizes := F_sizes (P := PySem.Challenge.rw_ledlevels_k08_whole_rows_and_texts.prog) (w := w) (base := base) A F_size_of F_summed
    have F_fraction_text := F_fraction_text (P := PySem.Challenge.rw_ledlevels_k08_whole_rows_and_texts.prog) (w := w) (base := base) A
    have F_row_text := F_row_text (P := PySem.Challenge.rw_ledlevels_k08_whole_rows_and_texts.prog) (w := w) (base := base) A F_fraction_text
    have F_Signs := F_Signs___init__ (P := PySem.Challenge.rw_ledlevels_k08_whole_rows_and_texts.prog) (w := w) (base := base) A
    have F_Signs_is_at := F_Signs_is_at (P := PySem.Challenge.rw_ledlevels_k08_whole_rows_and_texts.prog) (w := w) (base := base) A
    have F_Signs_is_figure := F_Signs_is_figure (P := PySem.Challenge.rw_ledlevels_k08_whole_rows_and_texts.prog) (w := w) (base := base) A
    have F_Signs_is_end := F_Signs_is_end (P := PySem.Challenge.rw_ledlevels_k08_whole_rows_and_texts.prog) (w := w) (base := base) A
    have F_Signs_step := F_Signs_step (P := PySem.Challenge.rw_ledlevels_k08_whole_rows_and_texts.prog) (w := w) (base := base) A
    have F_Signs_told := F_Signs_told (P := PySem.Challenge.rw_ledlevels_k08_whole_rows_and_texts.prog) (w := w) (base := base) A
    have F_fail := F_fail (P := PySem.Challenge.rw_ledlevels_k08_whole_rows_and_texts.prog) (w := w) (base := base) A
    have F_take := F_take (P := PySem.Challenge.rw_ledlevels_k08_whole_rows_and_texts.prog) (w := w) (base := base) A F_fail F_Signs_is_at F_Signs_step
    have F_number_at := F_number_at (P := PySem.Challenge.rw_ledlevels_k08_whole_rows_and_texts.prog) (w := w) (base := base) A F_fail F_Signs_is_at F_Signs_is_figure F_Signs_step F_Signs_told
    have F_integer_at := F_integer_at (P := PySem.Challenge.rw_ledlevels_k08_whole_rows_and_texts.prog) (w := w) (base := base) A F_fail F_number_at F_Signs_is_at F_Signs_step
    have F_lower_at := F_lower_at (P := PySem.Challenge.rw_ledlevels_k08_whole_rows_and_texts.prog) (w := w) (base := base) A F_fail F_is_fraction F_number_at F_Signs_is_at F_Signs_step
    have F_fraction_at := F_fraction_at (P := PySem.Challenge.rw_ledlevels_k08_whole_rows_and_texts.prog) (w := w) (base := base) A F_integer_at F_lower_at
    have F_row_at := F_row_at (P := PySem.Challenge.rw_ledlevels_k08_whole_rows_and_texts.prog) (w := w) (base := base) A F_fraction_at F_take F_Signs_is_at F_Signs_step
    have F_signs_of := F_signs_of (P := PySem.Challenge.rw_ledlevels_k08_whole_rows_and_texts.prog) (w := w) (base := base) A F_Signs
    have F_ended := F_ended (P := PySem.Challenge.rw_ledlevels_k08_whole_rows_and_texts.prog) (w := w) (base := base) A F_fail F_Signs_is_end
    have F_read_fraction := F_read_fraction (P := PySem.Challenge.rw_ledlevels_k08_whole_rows_and_texts.prog) (w := w) (base := base) A F_ended F_fraction_at F_signs_of
    have F_read_row := F_read_row (P := PySem.Challenge.rw_ledlevels_k08_whole_rows_and_texts.prog) (w := w) (base := base) A F_ended F_row_at F_signs_of
    have F__law_open_cells := F__law_open_cells (P := PySem.Challenge.rw_ledlevels_k08_whole_rows_and_texts.prog) (w := w) (base := base) A
    have F__law_pick := F__law_pick (P := PySem.Challenge.rw_ledlevels_k08_whole_rows_and_texts.prog) (w := w) (base := base) A
    have F__law_common := F__law_common (P := PySem.Challenge.rw_ledlevels_k08_whole_rows_and_texts.prog) (w := w) (base := base) A
    have F__law_fraction := F__law_fraction (P := PySem.Challenge.rw_ledlevels_k08_whole_rows_and_texts.prog) (w := w) (base := base) A F__law_common
    have F__law_draw_fraction := F__law_draw_fraction (P := PySem.Challenge.rw_ledlevels_k08_whole_rows_and_texts.prog) (w := w) (base := base) A F__law_fraction F__law_pick
    have F__law_draw_row := F__law_draw_row (P := PySem.Challenge.rw_ledlevels_k08_whole_rows_and_texts.prog) (w := w) (base := base) A F__law_draw_fraction
    have F__law_number := F__law_number (P := PySem.Challenge.rw_ledlevels_k08_whole_rows_and_texts.prog) (w := w) (base := base) A F__law_pick
    have F__law_drawn := F__law_drawn (P := PySem.Challenge.rw_ledlevels_k08_whole_rows_and_texts.prog) (w := w) (base := base) A F__law_fraction F__law_number
    have F__law_three_right := F__law_three_right (P := PySem.Challenge.rw_ledlevels_k08_whole_rows_and_texts.prog) (w := w) (base := base) A F_added F_back F_is_less F_nought F_plus F_product F_scaled F_size_of F_sizes F_taken F_times_of
    have F_ascending := F_ascending (P := PySem.Challenge.rw_ledlevels_k08_whole_rows_and_texts.prog) (w := w) (base := base) A F_common_of
    exact (ds_cons (b_set B 1 (b_call (g := 0) B F__law_open_cells (da_cons (b_var B 0) da_nil)))
  (ds_cons (dst_for hp B.calm (di_rng1 (B.gl (j := 1) rfl).1 (B.mgn A.free_range) (da_cons de_int da_nil)) (dg_tg (b_name B 2))
  (ds_cons (b_set B 3 (de_op od_add de_int (b_call (g := 2) B F__law_pick (da_cons (b_var B 1) (da_cons de_int da_nil)))))
  (ds_cons (b_par B 4 5 (da_cons (b_ty1 (g := 3) B cd_tuple A.free_tuple (da_cons (b_lc B [("_law_k", 10)] [1, 10] [10] ["_law_drawn"] (di_rng1 (B.gl (j := 1) rfl).1 (B.mgn A.free_range) (da_cons (b_var B 3) da_nil)) (fun X B => (b_name B 10)) (fun X B => dts_nil) (fun X B => (b_call (g := 0) B F__law_drawn (da_cons (b_var B 1) da_nil)))) da_nil)) (da_cons (b_call (g := 4) B F__law_draw_row (da_cons (b_var B 1) (da_cons (b_var B 3) (da_cons de_int da_nil)))) da_nil)))
  (ds_cons (b_asgN B (de_tup (da_cons (b_call (g := 4) B F__law_draw_row (da_cons (b_var B 1) (da_cons (b_var B 3) (da_cons de_int da_nil)))) (da_cons (b_call (g := 5) B F__law_drawn (da_cons (b_var B 1) da_nil)) da_nil))) (dg_tg (tg_tup B.calm (tgs_cons (b_name B 6) (tgs_cons (b_name B 7) tgs_nil)))))
  (ds_cons (dst_if (dt_w (dw_or (dt_not (dt_val (b_call (g := 6) B F__law_three_right (da_cons (b_var B 4) (da_cons (b_var B 5) (da_cons (b_var B 6) (da_cons (b_var B 7) da_nil))))))) (dw_or1 (dt_not (dt_val (b_call (g := 6) B F__law_three_right (da_cons (b_var B 5) (da_cons (b_var B 6) (da_cons (b_var B 4) (da_cons (de_tup (da_cons (de_un ud_neg de_int) (da_cons de_int da_nil))) da_nil)))))))))) (ds_one (dst_ret de_bl)) ds_nil)
  (ds_cons (b_set B 8 (b_call (g := 7) B F_added (da_cons (b_call (g := 8) B F_scaled (da_cons (b_var B 4) (da_cons (b_var B 7) da_nil))) (da_cons (b_var B 5) da_nil))))
  (ds_cons (dst_if (dt_w (dw_or (dt_not (dt_val (b_call (g := 9) B F_is_row (da_cons (b_var B 8) (da_cons (b_var B 3) da_nil))))) (dw_or (dt_cmp (od_ne B.hr) (b_call (g := 10) B F_read_row (da_cons (b_call (g := 11) B F_row_text (da_cons (b_var B 8) da_nil)) da_nil)) (b_var B 8)) (dw_or1 (dt_cmp (od_ne B.hr) (b_call (g := 12) B F_read_fraction (da_cons (b_call (g := 13) B F_fraction_text (da_cons (b_call (g := 14) B F_sizes (da_cons (b_var B 8) da_nil)) da_nil)) da_nil)) (b_call (g := 14) B F_sizes (da_cons (b_var B 8) da_nil))))))) (ds_one (dst_ret de_bl)) ds_nil)
  (ds_cons (dst_if (dt_w (dw_and (dt_cmp (od_ne B.hr) (de_it B.hr (b_var B 7) de_int) de_int) (dw_and1 (dt_cmp (od_ne B.hr) (b_call (g := 8) B F_scaled (da_cons (b_call (g := 8) B F_scaled (da_cons (b_var B 4) (da_cons (b_var B 7) da_nil))) (da_cons (b_call (g := 15) B F_divided (da_cons (de_tup (da_cons de_int (da_cons de_int da_nil))) (da_cons (b_var B 7) da_nil))) da_nil))) (b_var B 4))))) (ds_one (dst_ret de_bl)) ds_nil)
  (ds_cons (b_set B 9 (b_call (g := 16) B F_ascending (da_cons (de_op od_add (b_lc B [("_law_y", 11)] [11] [11] [] (di_seq (de_op od_add (b_var B 4) (b_var B 5))) (fun X B => (b_name B 11)) (fun X B => dts_nil) (fun X B => (b_var B 11))) (b_lc B [("_law_y", 11)] [7, 11] [11] ["minus"] (di_seq (b_var B 6)) (fun X B => (b_name B 11)) (fun X B => dts_nil) (fun X B => (b_call (g := 0) B F_minus (da_cons (b_var B 11) (da_cons (b_var B 7) da_nil)))))) da_nil)))
  (ds_one (dst_if (dt_cmp (od_ne B.hr) (b_lc B [("_law_y", 11), ("_law_z", 12)] [11, 12] [11, 12] ["is_less"] (di_zip2 (B.gl (j := 17) rfl).1 (B.mgn A.free_zip) (da_cons (b_var B 9) (da_cons (de_slice (b_var B 9) (dpo_some de_int) dpo_none) da_nil))) (fun X B => (tg_tup B.calm (tgs_cons (b_name B 11) (tgs_cons (b_name B 12) tgs_nil)))) (fun X B => (dts_one (dt_not (dt_val (b_call (g := 0) B F_is_less (da_cons (b_var B 11) (da_cons (b_var B 12) da_nil))))))) (fun X B => de_int)) (de_lst da_nil)) (ds_one (dst_ret de_bl)) ds_nil)))))))))))
  (ds_one (dst_ret de_bl))))) H_law
end Lk08
end Y
open PySem PySem.W PySem.Calls PyProof.Rows in
set_option maxRecDepth 100000 in
set_option maxHeartbeats 0 in
theorem PySem.Challenge.cw_ledlevels_k08_whole_rows_and_texts_holds : PySem.Challenge.rw_ledlevels_k08_whole_rows_and_texts.Holds := by
  w_on; o_law
  refine HandSHeadRun.head_imp (r := OpenLaw.row PySem.Challenge.rw_ledlevels_k08_whole_rows_and_texts) (q := view (OpenLaw.row PySem.Challenge.rw_ledlevels_k08_whole_rows_and_texts).prog [0, 58]) (H := Y.Lk08.hk) (ob := Y.Lk08.ob) (M := 4000) (loose := Y.Lk08.loose) (d := HandSHeadRun.topDef (OpenLaw.row PySem.Challenge.rw_ledlevels_k08_whole_rows_and_texts).prog 58) (kwd := []) Y.Lk08.ob_eq
    Y.Lk08.run (by kernel_rfl) (by kernel_rfl) (by kernel_rfl) (by rfl) (by first | assumption | decide +kernel) (by decide +kernel) ⟨rfl, rfl, rfl, rfl, rfl, by decide +kernel⟩ ?hw ?hc
  case hw => w_witness2
  case hc => exact Y.walk_end rfl rfl ⟨rfl, by decide, by decide⟩ Y.Lk08.fin
